import PyProof.Rows.All
import KE.KTupTabMore
import HandS.SortKw
import Wide.All
import OpenK.AllK
import Wide.FinOn
import HandS.ForMost
import HandS.IsInst
import HandS.Zip
import HandS.FStr
import HandS.Flow
import HandS.Style
import HandS.Defaults
import HandS.HeadHook2
import HandS.Strs
import HandS.SetFor
import KE.KStateDown
import HandS.Head0
import HandS.Head1
import HandS.Head2
import HandS.TupAny
import HandS.Sort
import HandS.SortInts
import HandS.TryOnly
import KE.KDictItemsList
import KE.KDictZip
import HandS.ExcValue
import HandS.ExcInit
import HandS.TryElse
import KE.KExcIs
import KE.KTryMore
import HandS.HeadEnd
import HandS.HeadHook1
import HandS.ExcField
import HandS.Walk
import HandS.Conv
import HandS.Deep
import KE.KEqDict
import KE.KIntText
import PyProof.FactsAll.dict
import PySem.Challenge.RW_baycart_k18_plans_read
set_option Elab.async false
set_option linter.all false
set_option maxRecDepth 100000
set_option maxHeartbeats 8000000
set_option synthInstance.maxHeartbeats 400000
set_option synthInstance.maxSize 4096

namespace Bw
open PySem L2

/-! the state: F what stands for good, cs the objects that may change -/
abbrev Cs := List (Addr × HO)
def Gr (F F' : Hp) : Prop := ∀ a o, F a = some o → F' a = some o
theorem Gr.rfl {F : Hp} : Gr F F := fun _ _ h => h
theorem Gr.tr {F F1 F2 : Hp} (a : Gr F F1) (b : Gr F1 F2) : Gr F F2 := fun x o h => b x o (a x o h)
theorem Gr.new {F : Hp} {p : Addr} {o : HO} (h : F p = none) : Gr F (upd F p o) := fun a u e => by
  rw [upd_ne (ne_of_none e h)]; exact e
structure Sta (F : Hp) (cs : Cs) (H : Hp) : Prop where
  fr : Gr F H
  sep : ∀ p ∈ cs, F p.1 = none
  has : ∀ p ∈ cs, H p.1 = some p.2
  nd : (cs.map (·.1)).Nodup
theorem Gr.back {F F' : Hp} {p : Addr} (e : Gr F F') (h : F' p = none) : F p = none := by
  cases h1 : F p with
  | none => rfl
  | some o => rw [e p o h1] at h; cases h
/-- a new thing that stays -/
theorem Sta.lay {F : Hp} {cs : Cs} {H : Hp} {p : Addr} {o : HO} (s : Sta F cs H) (h : H p = none) : Sta (upd F p o) cs (upd H p o) where
  fr := fun a u e => by
    by_cases q : a = p
    · subst q; rw [upd_same] at e ⊢; exact e
    · rw [upd_ne q] at e ⊢; exact s.fr a u e
  sep := fun c hc => by
    have q : c.1 ≠ p := fun z => by have := s.has c hc; rw [z, h] at this; cases this
    rw [upd_ne q]; exact s.sep c hc
  has := fun c hc => by
    have q : c.1 ≠ p := fun z => by have := s.has c hc; rw [z, h] at this; cases this
    rw [upd_ne q]; exact s.has c hc
  nd := s.nd
/-- a new thing that may change -/
theorem Sta.cell {F : Hp} {cs : Cs} {H : Hp} {p : Addr} {o : HO} (s : Sta F cs H) (h : H p = none) : Sta F ((p, o) :: cs) (upd H p o) where
  fr := fun a u e => by
    have q : a ≠ p := ne_of_none (s.fr a u e) h
    rw [upd_ne q]; exact s.fr a u e
  sep := fun c hc => by
    rcases List.mem_cons.mp hc with rfl | hc
    · exact s.fr.back h
    · exact s.sep c hc
  has := fun c hc => by
    rcases List.mem_cons.mp hc with rfl | hc
    · exact upd_same
    · have q : c.1 ≠ p := fun z => by have := s.has c hc; rw [z, h] at this; cases this
      rw [upd_ne q]; exact s.has c hc
  nd := by
    rw [List.map_cons, List.nodup_cons]
    refine ⟨fun hm => ?_, s.nd⟩
    obtain ⟨c, hc, e⟩ := List.mem_map.mp hm
    have := s.has c hc
    rw [e, h] at this; cases this
/-- the first changing thing is changed -/
theorem Sta.put {F : Hp} {cs : Cs} {H : Hp} {p : Addr} {o o' : HO} (s : Sta F ((p, o) :: cs) H) : Sta F ((p, o') :: cs) (upd H p o') where
  fr := fun a u e => by
    have q : a ≠ p := fun z => by have := s.sep (p, o) List.mem_cons_self; subst z; rw [e] at this; cases this
    rw [upd_ne q]; exact s.fr a u e
  sep := fun c hc => by
    rcases List.mem_cons.mp hc with rfl | hc
    · exact s.sep (p, o) List.mem_cons_self
    · exact s.sep c (List.mem_cons_of_mem _ hc)
  has := fun c hc => by
    rcases List.mem_cons.mp hc with rfl | hc
    · exact upd_same
    · have nd := s.nd
      rw [List.map_cons, List.nodup_cons] at nd
      have q : c.1 ≠ p := fun z => nd.1 (List.mem_map.mpr ⟨c, hc, z⟩)
      rw [upd_ne q]; exact s.has c (List.mem_cons_of_mem _ hc)
  nd := s.nd
/-- the order of the changing things is free -/
theorem Sta.perm {F : Hp} {cs cs' : Cs} {H : Hp} (s : Sta F cs H) (p : cs.Perm cs') : Sta F cs' H where
  fr := s.fr
  sep := fun c hc => s.sep c (p.mem_iff.mpr hc)
  has := fun c hc => s.has c (p.mem_iff.mpr hc)
  nd := (p.map (·.1)).nodup_iff.mp s.nd
theorem Sta.at {F : Hp} {cs : Cs} {H : Hp} {p : Addr} {o : HO} (s : Sta F cs H) (m : (p, o) ∈ cs) : H p = some o := s.has _ m
/-- the first changing thing changes no more -/
theorem Sta.froze {F : Hp} {cs : Cs} {H : Hp} {p : Addr} {o : HO} (s : Sta F ((p, o) :: cs) H) : Sta (upd F p o) cs H where
  fr := fun a u e => by
    by_cases q : a = p
    · subst q; rw [upd_same] at e; rw [← e]; exact s.has (a, o) List.mem_cons_self
    · rw [upd_ne q] at e; exact s.fr a u e
  sep := fun c hc => by
    have nd := s.nd
    rw [List.map_cons, List.nodup_cons] at nd
    have q : c.1 ≠ p := fun z => nd.1 (List.mem_map.mpr ⟨c, hc, z⟩)
    rw [upd_ne q]; exact s.sep c (List.mem_cons_of_mem _ hc)
  has := fun c hc => s.has c (List.mem_cons_of_mem _ hc)
  nd := by
    have nd := s.nd
    rw [List.map_cons, List.nodup_cons] at nd
    exact nd.2
theorem Sta.free {F : Hp} {cs : Cs} {H : Hp} {p : Addr} {o : HO} (s : Sta F ((p, o) :: cs) H) : F p = none := s.sep (p, o) List.mem_cons_self
theorem Sta.gfr {F : Hp} {cs : Cs} {H : Hp} {p : Addr} {o : HO} (s : Sta F ((p, o) :: cs) H) : Gr F (upd F p o) := Gr.new s.free


theorem mem_mid {α : Type} {l1 l2 : List α} {a : α} : a ∈ l1 ++ a :: l2 := by simp
/-- a changing thing is changed -/
theorem Sta.putAt {F : Hp} {l1 l2 : Cs} {H : Hp} {p : Addr} {o o' : HO} (s : Sta F (l1 ++ (p, o) :: l2) H) : Sta F (l1 ++ (p, o') :: l2) (upd H p o') :=
  ((s.perm List.perm_middle).put (o' := o')).perm List.perm_middle.symm
theorem Sta.frozeAt {F : Hp} {l1 l2 : Cs} {H : Hp} {p : Addr} {o : HO} (s : Sta F (l1 ++ (p, o) :: l2) H) : Sta (upd F p o) (l1 ++ l2) H := (s.perm List.perm_middle).froze
theorem Sta.freeAt {F : Hp} {l1 l2 : Cs} {H : Hp} {p : Addr} {o : HO} (s : Sta F (l1 ++ (p, o) :: l2) H) : F p = none := s.sep (p, o) mem_mid
theorem Sta.getAt {F : Hp} {l1 l2 : Cs} {H : Hp} {p : Addr} {o : HO} (s : Sta F (l1 ++ (p, o) :: l2) H) : H p = some o := s.has (p, o) mem_mid
theorem Gr.upd2 {F F' : Hp} {p : Addr} {o : HO} (g : Gr F F') : Gr (upd F p o) (upd F' p o) := fun a u e => by
  by_cases q : a = p
  · subst q; rw [upd_same] at e ⊢; exact e
  · rw [upd_ne q] at e ⊢; exact g a u e
def cut (F : Hp) (p : Addr) : Hp := fun a => if a = p then none else F a
theorem cut_same {F : Hp} {p : Addr} : cut F p p = none := by unfold cut; rw [if_pos rfl]
theorem cut_ne {F : Hp} {p a : Addr} (h : a ≠ p) : cut F p a = F a := by unfold cut; rw [if_neg h]
/-- what was lent comes back -/
theorem Sta.lent {F F2 : Hp} {l1 l2 : Cs} {H2 : Hp} {p : Addr} {o : HO} (g : Gr (upd F p o) F2) (s : Sta F2 (l1 ++ l2) H2) : Sta (cut F2 p) (l1 ++ (p, o) :: l2) H2 := by
  have hp : F2 p = some o := g p o upd_same
  have hn : ∀ c ∈ l1 ++ l2, c.1 ≠ p := fun c hc z => by
    have := s.sep c hc
    rw [z, hp] at this; cases this
  refine Sta.perm (cs := (p, o) :: (l1 ++ l2)) ⟨fun a u e => ?_, fun c hc => ?_, fun c hc => ?_, ?_⟩ List.perm_middle.symm
  · have q : a ≠ p := fun z => by rw [z, cut_same] at e; cases e
    rw [cut_ne q] at e; exact s.fr a u e
  · rcases List.mem_cons.mp hc with rfl | hc
    · exact cut_same
    · rw [cut_ne (hn c hc)]; exact s.sep c hc
  · rcases List.mem_cons.mp hc with rfl | hc
    · exact s.fr p o hp
    · exact s.has c hc
  · rw [List.map_cons, List.nodup_cons]
    refine ⟨fun hm => ?_, s.nd⟩
    obtain ⟨c, hc, e⟩ := List.mem_map.mp hm
    exact hn c hc e
theorem gr_cut {F F2 : Hp} {p : Addr} {o : HO} (h : F p = none) (g : Gr (upd F p o) F2) : Gr F (cut F2 p) := fun a u e => by
  have q : a ≠ p := ne_of_none e h
  rw [cut_ne q]
  exact g a u (by rw [upd_ne q]; exact e)

/-! data -/
mutual
inductive Dt (K : PySem.W.Frag) (F : Hp) : V → PyData → Prop
  | non : Dt K F .non .none
  | bl (b : Bool) : Dt K F (.bl b) (.bool b)
  | int (i : Int) : Dt K F (.int i) (.int i)
  | str (x : Str) : Dt K F (.str x) (.str x)
  | lst {a : Addr} {xs : List V} {ds : List PyData} : SqL K F a xs → Dts K F xs ds → Dt K F (.ref a) (.list ds)
  | tup {a : Addr} {xs : List V} {ds : List PyData} : SqT K F a xs → Dts K F xs ds → Dt K F (.ref a) (.tuple ds)
  | dct {a : Addr} {kvs : List (Key × V)} : F a = some (.dK kvs) → Dt K F (.ref a) (.dict [])
inductive Dts (K : PySem.W.Frag) (F : Hp) : List V → List PyData → Prop
  | nil : Dts K F [] []
  | cons {v : V} {vs : List V} {d : PyData} {ds : List PyData} : Dt K F v d → Dts K F vs ds → Dts K F (v :: vs) (d :: ds)
end
section
variable {K : PySem.W.Frag} {F F' H : Hp}
theorem gr_R {a : Addr} {u : HO} (e : Gr F F') (h : Rd F a u) : Rd F' a u := by
  rcases h with h | ⟨o, h⟩
  · exact .inl (e a _ h)
  · exact .inr ⟨o, e a _ h⟩
theorem gr_T {a : Addr} {xs : List V} (e : Gr F F') (h : SqT K F a xs) : SqT K F' a xs := by
  rcases h with h | h
  · exact .inl (gr_R e h)
  · exact .inr h
theorem gr_L {a : Addr} {xs : List V} (e : Gr F F') (h : SqL K F a xs) : SqL K F' a xs := by
  rcases h with h | h
  · exact .inl (gr_R e h)
  · exact .inr h
theorem rd_L {a : Addr} {xs : List V} (h : Rd F a (.lst xs)) : SqL K F a xs := .inl h
mutual
theorem Dt.gr (e : Gr F F') : ∀ {v : V} {d : PyData}, Dt K F v d → Dt K F' v d
  | _, _, .non => .non
  | _, _, .bl b => .bl b
  | _, _, .int i => .int i
  | _, _, .str x => .str x
  | _, _, .lst h a => .lst (gr_L e h) (Dts.gr e a)
  | _, _, .tup h a => .tup (gr_T e h) (Dts.gr e a)
  | _, _, .dct h => .dct (e _ _ h)
theorem Dts.gr (e : Gr F F') : ∀ {vs : List V} {ds : List PyData}, Dts K F vs ds → Dts K F' vs ds
  | _, _, .nil => .nil
  | _, _, .cons h t => .cons (Dt.gr e h) (Dts.gr e t)
end
theorem Dt.toInt {v : V} {i : Int} (h : Dt K F v (.int i)) : v = .int i := by cases h; rfl
theorem Dt.toStr {v : V} {x : Str} (h : Dt K F v (.str x)) : v = .str x := by cases h; rfl
theorem Dt.toBl {v : V} {b : Bool} (h : Dt K F v (.bool b)) : v = .bl b := by cases h; rfl
theorem Dt.toNon {v : V} (h : Dt K F v .none) : v = .non := by cases h; rfl
theorem Dt.toLst {v : V} {ds : List PyData} (h : Dt K F v (.list ds)) : ∃ a vs, v = .ref a ∧ SqL K F a vs ∧ Dts K F vs ds := by
  cases h with | lst h a => exact ⟨_, _, rfl, h, a⟩
theorem Dt.toTup {v : V} {ds : List PyData} (h : Dt K F v (.tuple ds)) : ∃ a vs, v = .ref a ∧ SqT K F a vs ∧ Dts K F vs ds := by
  cases h with | tup h a => exact ⟨_, _, rfl, h, a⟩
theorem Dts.len : ∀ {vs : List V} {ds : List PyData}, Dts K F vs ds → vs.length = ds.length
  | _, _, .nil => rfl
  | _, _, .cons _ t => by simp [Dts.len t]
theorem Dts.get : ∀ {vs : List V} {ds : List PyData} {i : Nat} {v : V}, Dts K F vs ds → vs[i]? = some v → ∃ d, ds[i]? = some d ∧ Dt K F v d
  | _, _, _, _, .nil, e => by simp at e
  | _, _, 0, _, .cons h _, e => by simp at e; subst e; exact ⟨_, rfl, h⟩
  | _, _, i + 1, v, .cons _ t, e => by
    obtain ⟨d, h1, h2⟩ := Dts.get (i := i) (v := v) t (by simpa using e)
    exact ⟨d, by simpa using h1, h2⟩
theorem Dts.get2 : ∀ {vs : List V} {ds : List PyData} {i : Nat} {d : PyData}, Dts K F vs ds → ds[i]? = some d → ∃ v, vs[i]? = some v ∧ Dt K F v d
  | _, _, _, _, .nil, e => by simp at e
  | _, _, 0, _, .cons h _, e => by simp at e; subst e; exact ⟨_, rfl, h⟩
  | _, _, i + 1, d, .cons _ t, e => by
    obtain ⟨v, h1, h2⟩ := Dts.get2 (i := i) (d := d) t (by simpa using e)
    exact ⟨v, by simpa using h1, h2⟩
theorem Dts.app : ∀ {vs ws : List V} {ds es : List PyData}, Dts K F vs ds → Dts K F ws es → Dts K F (vs ++ ws) (ds ++ es)
  | _, _, _, _, .nil, s => s
  | _, _, _, _, .cons h t, s => .cons h (Dts.app t s)
theorem Dts.drop : ∀ {vs : List V} {ds : List PyData} (n : Nat), Dts K F vs ds → Dts K F (vs.drop n) (ds.drop n)
  | _, _, 0, h => h
  | _, _, _ + 1, .nil => .nil
  | _, _, n + 1, .cons _ t => Dts.drop n t
theorem Dts.take : ∀ {vs : List V} {ds : List PyData} (n : Nat), Dts K F vs ds → Dts K F (vs.take n) (ds.take n)
  | _, _, 0, _ => .nil
  | _, _, _ + 1, .nil => .nil
  | _, _, n + 1, .cons h t => .cons h (Dts.take n t)
theorem Dts.setAt : ∀ {vs : List V} {ds : List PyData} {v : V} {d : PyData} (n : Nat), Dts K F vs ds → Dt K F v d → Dts K F (vs.set n v) (ds.set n d)
  | _, _, _, _, _, .nil, _ => .nil
  | _, _, _, _, 0, .cons _ t, k => .cons k t
  | _, _, _, _, n + 1, .cons h t, k => .cons h (Dts.setAt n t k)
theorem Dts.rep {vs : List V} {ds : List PyData} (h : Dts K F vs ds) : ∀ n : Nat, Dts K F (List.replicate n vs).flatten (List.replicate n ds).flatten
  | 0 => .nil
  | n + 1 => by rw [List.replicate_succ, List.replicate_succ, List.flatten_cons, List.flatten_cons]; exact h.app (Dts.rep h n)
theorem Dts.hd {vs : List V} {d : PyData} {ds : List PyData} (h : Dts K F vs (d :: ds)) : ∃ v ws, vs = v :: ws ∧ Dt K F v d ∧ Dts K F ws ds := by
  cases h with | cons h t => exact ⟨_, _, rfl, h, t⟩
theorem Dts.no {vs : List V} (h : Dts K F vs []) : vs = [] := by cases h; rfl
theorem Dts.one {vs : List V} {d : PyData} (h : Dts K F vs [d]) : ∃ v, vs = [v] ∧ Dt K F v d := by
  cases h with | cons h t => cases t; exact ⟨_, rfl, h⟩
theorem Dts.two {vs : List V} {d e : PyData} (h : Dts K F vs [d, e]) : ∃ v w, vs = [v, w] ∧ Dt K F v d ∧ Dt K F w e := by
  cases h with | cons h t => obtain ⟨w, rfl, k⟩ := t.one; exact ⟨_, _, rfl, h, k⟩
theorem Dts.three {vs : List V} {d e f : PyData} (h : Dts K F vs [d, e, f]) : ∃ v w z, vs = [v, w, z] ∧ Dt K F v d ∧ Dt K F w e ∧ Dt K F z f := by
  cases h with | cons h t => obtain ⟨w, z, rfl, k, l⟩ := t.two; exact ⟨_, _, _, rfl, h, k, l⟩
theorem Dts.four {vs : List V} {d e f g : PyData} (h : Dts K F vs [d, e, f, g]) : ∃ v w z y, vs = [v, w, z, y] ∧ Dt K F v d ∧ Dt K F w e ∧ Dt K F z f ∧ Dt K F y g := by
  cases h with | cons h t => obtain ⟨w, z, y, rfl, k, l, m⟩ := t.three; exact ⟨_, _, _, _, rfl, h, k, l, m⟩
theorem Dts.ints : ∀ {xs : List Int} {vs : List V}, Dts K F vs (xs.map .int) → vs = xs.map V.int
  | [], _, h => by cases h; rfl
  | x :: xs, _, h => by
    cases h with | cons h t => rw [h.toInt, Dts.ints t]; rfl
theorem Dts.bls : ∀ {xs : List Bool} {vs : List V}, Dts K F vs (xs.map .bool) → vs = xs.map V.bl
  | [], _, h => by cases h; rfl
  | x :: xs, _, h => by
    cases h with | cons h t => rw [h.toBl, Dts.bls t]; rfl
theorem Dts.strs : ∀ {xs : List Str} {vs : List V}, Dts K F vs (xs.map .str) → vs = xs.map V.str
  | [], _, h => by cases h; rfl
  | x :: xs, _, h => by
    cases h with | cons h t => rw [h.toStr, Dts.strs t]; rfl
theorem Dts.of_ints : ∀ xs : List Int, Dts K F (xs.map V.int) (xs.map .int)
  | [] => .nil
  | x :: xs => .cons (.int x) (Dts.of_ints xs)
theorem Dts.of_strs : ∀ xs : List Str, Dts K F (xs.map V.str) (xs.map .str)
  | [] => .nil
  | x :: xs => .cons (.str x) (Dts.of_strs xs)
theorem Dts.of_bls : ∀ xs : List Bool, Dts K F (xs.map V.bl) (xs.map .bool)
  | [] => .nil
  | x :: xs => .cons (.bl x) (Dts.of_bls xs)
mutual
theorem Dt.dp : ∀ {v : V} {d : PyData}, Dt K F v d → d.canLay0 = true → Dp K F v d
  | _, _, .non, _ => .non
  | _, _, .bl b, _ => .bl b
  | _, _, .int i, _ => .int i
  | _, _, .str x, _ => .str x
  | _, _, .lst h a, z => .lst h (Dts.dp a (by simpa [PyData.canLay0] using z))
  | _, _, .tup h a, z => .tup h (Dts.dp a (by simpa [PyData.canLay0] using z))
  | _, _, .dct h, z => by simp [PyData.canLay0] at z
theorem Dts.dp : ∀ {vs : List V} {ds : List PyData}, Dts K F vs ds → PyData.canLayAll0 ds = true → DpAll K F vs ds
  | _, _, .nil, _ => .nil
  | _, _, .cons h t, z => by
    rw [PyData.canLayAll0, Bool.and_eq_true] at z
    exact .cons (Dt.dp h z.1) (Dts.dp t z.2)
end
end
end Bw

namespace Bw
open PySem L2
/-! codes -/
abbrev eI : Int → PyData := PyData.int
abbrev eB : Bool → PyData := PyData.bool
abbrev eS : Str → PyData := PyData.str
abbrev eN : Unit → PyData := fun _ => PyData.none
abbrev eD : PyData → PyData := fun d => d
abbrev eL {α : Type} (e : α → PyData) (xs : List α) : PyData := .list (xs.map e)
abbrev eT1 {α : Type} (e : α → PyData) (x : α) : PyData := .tuple [e x]
abbrev eT2 {α β : Type} (e : α → PyData) (f : β → PyData) (x : α × β) : PyData := .tuple [e x.1, f x.2]
abbrev eT3 {α β γ : Type} (e : α → PyData) (f : β → PyData) (g : γ → PyData) (x : α × β × γ) : PyData := .tuple [e x.1, f x.2.1, g x.2.2]
abbrev eT4 {α β γ δ : Type} (e : α → PyData) (f : β → PyData) (g : γ → PyData) (h : δ → PyData) (x : α × β × γ × δ) : PyData := .tuple [e x.1, f x.2.1, g x.2.2.1, h x.2.2.2]
def eO {α : Type} (e : α → PyData) : Option α → PyData
  | none => .none
  | some x => e x
def oV {α : Type} (f : α → V) : Option α → V
  | none => .non
  | some x => f x
/-! what may fail -/
def mulM (a b : Int) : Option Int := if (-(2 ^ 64) < a ∧ a < 2 ^ 64) ∨ (-(2 ^ 64) < b ∧ b < 2 ^ 64) then some (a * b) else none
def modM (a b : Int) : Option Int := if 0 < b then some (a % b) else none
def fdivM (a b : Int) : Option Int := if 0 < b ∧ b < 1073741824 then some (a / b) else none
def powM (a b : Int) : Option Int := if 0 ≤ b ∧ b ≤ 1000000 ∧ a.natAbs < 2 ^ 64 then some (a ^ b.toNat) else none
def appM {α : Type} (xs : List α) (x : α) : Option (List α) := if xs.length < 100000 then some (xs ++ [x]) else none
def catM {α : Type} (xs ys : List α) : Option (List α) := if xs.length + ys.length ≤ 100000 then some (xs ++ ys) else none
def repM {α : Type} (xs : List α) (k : Int) : Option (List α) := if -(2 ^ 63) ≤ k ∧ k < 2 ^ 63 ∧ xs.length * k.toNat ≤ 100000 then some (List.replicate k.toNat xs).flatten else none
def scatM (x y : Str) : Option Str := if x.length + y.length ≤ 100000 then some (x ++ y) else none
def lenS (x : Str) : Option Int := if x.length ≤ 100000 then some (x.length : Int) else none
def ixS (x : Str) (i : Int) : Option Str := if x.length ≤ 100000 then (atI x.cps.toList i).map (fun c => ⟨#[c]⟩) else none
def cutL {α : Type} (xs : List α) (lo hi : Option Int) : List α := (xs.drop (HT.sIx xs.length 0 lo)).take (HT.sIx xs.length xs.length hi - HT.sIx xs.length 0 lo)
def rngL (a b : Int) : List Int := (List.range (b - a).toNat).map fun (i : Nat) => a + ((i : Nat) : Int)
def rngM (a b : Int) : Option (List Int) := if -(2 ^ 62) ≤ a ∧ a < 2 ^ 62 ∧ -(2 ^ 62) ≤ b ∧ b < 2 ^ 62 then some (rngL a b) else none
def setM {α : Type} (xs : List α) (i : Int) (x : α) : Option (List α) := (ixN xs.length i).map fun j => xs.set j x
def strM (n : Int) : Option Str := if n.natAbs.log2 < 1920 then some (toString n) else none
def b2I (b : Bool) : Int := if b then 1 else 0
def absI (i : Int) : Int := if i < 0 then -i else i
def maxI (i j : Int) : Int := if j > i then j else i
def minI (i j : Int) : Int := if j < i then j else i
def signs (x : Str) : List Str := x.cps.toList.map fun c => ⟨#[c]⟩
def enumM {α : Type} (xs : List α) : List (Int × α) := xs.mapIdx fun i x => ((i : Int), x)
def inS (x y : Str) : Bool := !(Builtin.Str.occurrences y x 0 y.length 1).isEmpty
def letM {α β : Type} (x : α) (f : α → β) : β := f x
theorem sz {n : Nat} (h : n ≤ 100000) : n ≤ sizeLine := Nat.le_trans h (by decide)
theorem szl {n : Nat} (h : n < 100000) : n < sizeLine := Nat.lt_of_lt_of_le h (by decide)
theorem mulM_some {a b c : Int} (h : mulM a b = some c) : CMul a b ∧ a * b = c := by
  unfold mulM at h; split at h
  · rename_i q; exact ⟨q, Option.some.inj h⟩
  · cases h
theorem modM_some {a b c : Int} (h : modM a b = some c) : 0 < b ∧ a % b = c := by
  unfold modM at h; split at h
  · rename_i q; exact ⟨q, Option.some.inj h⟩
  · cases h
theorem fdivM_some {a b c : Int} (h : fdivM a b = some c) : CDiv a b ∧ a / b = c := by
  unfold fdivM at h; split at h
  · rename_i q; exact ⟨q, Option.some.inj h⟩
  · cases h
theorem powM_some {a b c : Int} (h : powM a b = some c) : CPow a b ∧ a ^ b.toNat = c := by
  unfold powM at h; split at h
  · rename_i q; exact ⟨q, Option.some.inj h⟩
  · cases h
theorem appM_some {α : Type} {xs ys : List α} {x : α} (h : appM xs x = some ys) : xs.length < 100000 ∧ xs ++ [x] = ys := by
  unfold appM at h; split at h
  · rename_i q; exact ⟨q, Option.some.inj h⟩
  · cases h
theorem catM_some {α : Type} {xs ys zs : List α} (h : catM xs ys = some zs) : xs.length + ys.length ≤ 100000 ∧ xs ++ ys = zs := by
  unfold catM at h; split at h
  · rename_i q; exact ⟨q, Option.some.inj h⟩
  · cases h
theorem repM_some {α : Type} {xs zs : List α} {k : Int} (h : repM xs k = some zs) : (-(2 ^ 63) ≤ k ∧ k < 2 ^ 63 ∧ xs.length * k.toNat ≤ 100000) ∧ (List.replicate k.toNat xs).flatten = zs := by
  unfold repM at h; split at h
  · rename_i q; exact ⟨q, Option.some.inj h⟩
  · cases h
theorem scatM_some {x y z : Str} (h : scatM x y = some z) : x.length + y.length ≤ 100000 ∧ x ++ y = z := by
  unfold scatM at h; split at h
  · rename_i q; exact ⟨q, Option.some.inj h⟩
  · cases h
theorem lenS_some {x : Str} {n : Int} (h : lenS x = some n) : x.length ≤ 100000 ∧ (x.length : Int) = n := by
  unfold lenS at h; split at h
  · rename_i q; exact ⟨q, Option.some.inj h⟩
  · cases h
theorem strM_some {x : Int} {n : Str} (h : strM x = some n) : x.natAbs.log2 < 1920 ∧ toString x = n := by
  unfold strM at h; split at h
  · rename_i q; exact ⟨q, Option.some.inj h⟩
  · cases h
theorem ixS_some {x z : Str} {i : Int} (h : ixS x i = some z) : x.length ≤ 100000 ∧ ∃ c, atI x.cps.toList i = some c ∧ z = ⟨#[c]⟩ := by
  unfold ixS at h; split at h
  · rename_i q
    refine ⟨q, ?_⟩
    cases e : atI x.cps.toList i with
    | none => rw [e] at h; cases h
    | some c => rw [e] at h; exact ⟨c, rfl, (Option.some.inj h).symm⟩
  · cases h
theorem rngM_some {a b : Int} {xs : List Int} (h : rngM a b = some xs) : (-(2 ^ 62) ≤ a ∧ a < 2 ^ 62 ∧ -(2 ^ 62) ≤ b ∧ b < 2 ^ 62) ∧ rngL a b = xs := by
  unfold rngM at h; split at h
  · rename_i q; exact ⟨q, Option.some.inj h⟩
  · cases h
theorem setM_some {α : Type} {xs ys : List α} {i : Int} {x : α} (h : setM xs i x = some ys) : ∃ j, ixN xs.length i = some j ∧ ys = xs.set j x := by
  unfold setM at h
  cases e : ixN xs.length i with
  | none => rw [e] at h; cases h
  | some j => rw [e] at h; exact ⟨j, rfl, (Option.some.inj h).symm⟩
theorem atI_map {α β : Type} (f : α → β) (xs : List α) (i : Int) : atI (xs.map f) i = (atI xs i).map f := by
  unfold atI
  rw [List.length_map]
  cases ixN xs.length i with
  | none => rfl
  | some j => simp
theorem cutL_map {α β : Type} (f : α → β) (xs : List α) (lo hi : Option Int) : cutL (xs.map f) lo hi = (cutL xs lo hi).map f := by
  unfold cutL
  simp [List.map_take, List.map_drop]
theorem bnd {α β : Type} {a : Option α} {f : α → Option β} {r : β} (h : a.bind f = some r) : ∃ x, a = some x ∧ f x = some r := by
  cases a with
  | none => cases h
  | some x => exact ⟨x, rfl, h⟩
theorem lt {α β : Type} {a : α} {f : α → Option β} {r : β} (h : letM a f = some r) : ∃ x, a = x ∧ f x = some r := ⟨a, rfl, h⟩
theorem sm {α : Type} {x y : α} (h : some x = some y) : x = y := Option.some.inj h

/-! triples -/
def Ev (te : TE) (σ : St) (F : Hp) (cs : Cs) (Φ : V → Hp → Prop) (cs' : Cs) : Prop :=
  ∀ F1 H1, Gr F F1 → Sta F1 cs H1 → ∀ Q : VK, (∀ v F2 H2, Gr F1 F2 → Sta F2 cs' H2 → Φ v F2 → Q v H2) → te σ H1 Q
def EvT (tt : TT) (σ : St) (F : Hp) (cs : Cs) (b : Bool) (cs' : Cs) : Prop :=
  ∀ F1 H1, Gr F F1 → Sta F1 cs H1 → ∀ Q : Bool → Hp → Prop, (∀ F2 H2, Gr F1 F2 → Sta F2 cs' H2 → Q b H2) → tt σ H1 Q
def EvA (ta : TA) (σ : St) (F : Hp) (cs : Cs) (Φ : List V → Hp → Prop) (cs' : Cs) : Prop :=
  ∀ F1 H1, Gr F F1 → Sta F1 cs H1 → ∀ Q : List V → Hp → Prop, (∀ vs F2 H2, Gr F1 F2 → Sta F2 cs' H2 → Φ vs F2 → Q vs H2) → ta σ H1 Q
def EvO (to : TO) (σ : St) (F : Hp) (cs : Cs) (o : Option Int) (cs' : Cs) : Prop :=
  ∀ F1 H1, Gr F F1 → Sta F1 cs H1 → ∀ Q : Option Int → Hp → Prop, (∀ F2 H2, Gr F1 F2 → Sta F2 cs' H2 → Q o H2) → to σ H1 Q
abbrev EvD (K : PySem.W.Frag) (te : TE) (σ : St) (F : Hp) (cs : Cs) (d : PyData) (cs' : Cs) : Prop := Ev te σ F cs (fun v F' => Dt K F' v d) cs'
abbrev EvDs (K : PySem.W.Frag) (ta : TA) (σ : St) (F : Hp) (cs : Cs) (ds : List PyData) (cs' : Cs) : Prop := EvA ta σ F cs (fun vs F' => Dts K F' vs ds) cs'
def Src (K : PySem.W.Frag) (J : It) (F : Hp) (ds : List PyData) : Prop := ∀ F1 c1 H1, Gr F F1 → Sta F1 c1 H1 →
  (∀ i, i < ds.length → J.go i H1) ∧ J.stop ds.length H1 ∧ ∀ i v H2 d, ds[i]? = some d → J.yld i H1 v H2 → ∃ F2, Gr F1 F2 ∧ Sta F2 c1 H2 ∧ Dt K F2 v d
def EvI (K : PySem.W.Frag) (wi : TI) (σ : St) (F : Hp) (cs : Cs) (ds : List PyData) (cs' : Cs) : Prop :=
  ∀ F1 H1, Gr F F1 → Sta F1 cs H1 → ∀ R : It → Hp → Prop, (∀ J F2 H2, Gr F1 F2 → Sta F2 cs' H2 → Src K J F2 ds → R J H2) → wi σ H1 R
section
variable {K : PySem.W.Frag} {σ : St} {F F' : Hp} {cs cs1 cs2 cs3 : Cs} {ta tb tc te : TE} {d e : PyData} {as : TA}
theorem Ev.gr {Φ : V → Hp → Prop} (g : Gr F F') (h : Ev te σ F cs Φ cs1) : Ev te σ F' cs Φ cs1 := fun F1 H1 g1 s Q q => h F1 H1 (g.tr g1) s Q q
theorem d_is (h : EvD K te σ F cs d cs1) (q : d = e) : EvD K te σ F cs e cs1 := q ▸ h
theorem d_var {i : Nat} {v : V} (h : σ[i]? = some (some v)) (hd : Dt K F v d) : EvD K (tVar i) σ F cs d cs := fun F1 H1 g s Q q => ⟨v, h, q v F1 H1 .rfl s (Dt.gr g hd)⟩
theorem d_int {i : Int} : EvD K (tC (.int i)) σ F cs (.int i) cs := fun F1 H1 g s Q q => q _ F1 H1 .rfl s (.int i)
theorem d_bl {b : Bool} : EvD K (tC (.bl b)) σ F cs (.bool b) cs := fun F1 H1 g s Q q => q _ F1 H1 .rfl s (.bl b)
theorem d_str {x : Str} : EvD K (tC (.str x)) σ F cs (.str x) cs := fun F1 H1 g s Q q => q _ F1 H1 .rfl s (.str x)
theorem d_non : EvD K (tC .non) σ F cs .none cs := fun F1 H1 g s Q q => q _ F1 H1 .rfl s .non
/-- two operands -/
theorem d_op {r : R2} {z : PyData} (ha : EvD K ta σ F cs d cs1) (hb : EvD K tb σ F cs1 e cs2) (hr : ∀ x y F2 H2, Dt K F2 x d → Dt K F2 y e → Sta F2 cs2 H2 → Gr F F2 → ∀ Q : VK, (∀ v F3 H3, Gr F2 F3 → Sta F3 cs3 H3 → Dt K F3 v z → Q v H3) → r x y H2 Q) : EvD K (tOp r ta tb) σ F cs z cs3 := fun F1 H1 g1 s Q q =>
  ha F1 H1 g1 s _ fun v F2 H2 g2 s2 h2 => hb F2 H2 (g1.tr g2) s2 _ fun w F3 H3 g3 s3 h3 => hr v w F3 H3 (Dt.gr g3 h2) h3 s3 ((g1.tr g2).tr g3) Q fun v F4 H4 g4 s4 h4 => q v F4 H4 ((g2.tr g3).tr g4) s4 h4
theorem d_I0 {g : Int → Int → V} {a b : Int} {z : PyData} (ha : EvD K ta σ F cs (.int a) cs1) (hb : EvD K tb σ F cs1 (.int b) cs2) (hz : ∀ F, Dt K F (g a b) z) : EvD K (tOp (rI0 g) ta tb) σ F cs z cs2 :=
  d_op ha hb fun x y F2 H2 hx hy s _ Q q => by
    cases hx.toInt; cases hy.toInt
    exact ⟨a, b, rfl, rfl, q _ F2 H2 .rfl s (hz _)⟩
theorem d_I {C : Int → Int → Prop} {g : Int → Int → V} {a b : Int} {z : PyData} (ha : EvD K ta σ F cs (.int a) cs1) (hb : EvD K tb σ F cs1 (.int b) cs2) (hc : C a b) (hz : ∀ F, Dt K F (g a b) z) : EvD K (tOp (rI C g) ta tb) σ F cs z cs2 :=
  d_op ha hb fun x y F2 H2 hx hy s _ Q q => by
    cases hx.toInt; cases hy.toInt
    exact ⟨a, b, rfl, rfl, hc, q _ F2 H2 .rfl s (hz _)⟩
variable {a b c : Int}
theorem d_add (ha : EvD K ta σ F cs (.int a) cs1) (hb : EvD K tb σ F cs1 (.int b) cs2) : EvD K (tOp (rI0 fun i j => .int (i + j)) ta tb) σ F cs (.int (a + b)) cs2 := d_I0 ha hb fun _ => .int _
theorem d_sub (ha : EvD K ta σ F cs (.int a) cs1) (hb : EvD K tb σ F cs1 (.int b) cs2) : EvD K (tOp (rI0 fun i j => .int (i - j)) ta tb) σ F cs (.int (a - b)) cs2 := d_I0 ha hb fun _ => .int _
theorem d_lt (ha : EvD K ta σ F cs (.int a) cs1) (hb : EvD K tb σ F cs1 (.int b) cs2) : EvD K (tOp (rI0 fun i j => .bl (decide (i < j))) ta tb) σ F cs (.bool (decide (a < b))) cs2 := d_I0 ha hb fun _ => .bl _
theorem d_le (ha : EvD K ta σ F cs (.int a) cs1) (hb : EvD K tb σ F cs1 (.int b) cs2) : EvD K (tOp (rI0 fun i j => .bl (decide (i ≤ j))) ta tb) σ F cs (.bool (decide (a ≤ b))) cs2 := d_I0 ha hb fun _ => .bl _
theorem d_gt (ha : EvD K ta σ F cs (.int a) cs1) (hb : EvD K tb σ F cs1 (.int b) cs2) : EvD K (tOp (rI0 fun i j => .bl (decide (j < i))) ta tb) σ F cs (.bool (decide (b < a))) cs2 := d_I0 ha hb fun _ => .bl _
theorem d_ge (ha : EvD K ta σ F cs (.int a) cs1) (hb : EvD K tb σ F cs1 (.int b) cs2) : EvD K (tOp (rI0 fun i j => .bl (decide (j ≤ i))) ta tb) σ F cs (.bool (decide (b ≤ a))) cs2 := d_I0 ha hb fun _ => .bl _
theorem d_mul (ha : EvD K ta σ F cs (.int a) cs1) (hb : EvD K tb σ F cs1 (.int b) cs2) (hc : mulM a b = some c) : EvD K (tOp (rI CMul fun i j => .int (i * j)) ta tb) σ F cs (.int c) cs2 := (mulM_some hc).2 ▸ d_I ha hb (mulM_some hc).1 fun _ => .int _
theorem d_mod (ha : EvD K ta σ F cs (.int a) cs1) (hb : EvD K tb σ F cs1 (.int b) cs2) (hc : modM a b = some c) : EvD K (tOp (rI (fun _ j => 0 < j) fun i j => .int (i % j)) ta tb) σ F cs (.int c) cs2 := (modM_some hc).2 ▸ d_I (C := fun _ j => 0 < j) ha hb (modM_some hc).1 fun _ => .int _
theorem d_fdiv (ha : EvD K ta σ F cs (.int a) cs1) (hb : EvD K tb σ F cs1 (.int b) cs2) (hc : fdivM a b = some c) : EvD K (tOp (rI CDiv fun i j => .int (i / j)) ta tb) σ F cs (.int c) cs2 := (fdivM_some hc).2 ▸ d_I ha hb (fdivM_some hc).1 fun _ => .int _
theorem d_pow (ha : EvD K ta σ F cs (.int a) cs1) (hb : EvD K tb σ F cs1 (.int b) cs2) (hc : powM a b = some c) : EvD K (tOp (rI CPow fun i j => .int (i ^ j.toNat)) ta tb) σ F cs (.int c) cs2 := (powM_some hc).2 ▸ d_I ha hb (powM_some hc).1 fun _ => .int _
theorem d_neg (ha : EvD K ta σ F cs (.int a) cs1) : EvD K (tUn (rU fun i => .int (-i)) ta) σ F cs (.int (-a)) cs1 := fun F1 H1 g1 s Q q =>
  ha F1 H1 g1 s _ fun v F2 H2 g2 s2 h2 => ⟨a, h2.toInt, q _ F2 H2 g2 s2 (.int _)⟩
/-- arguments -/
theorem a_nil : EvDs K tNil σ F cs [] cs := fun F1 H1 g s Q q => q [] F1 H1 .rfl s .nil
theorem a_cons {tr : TA} {ds : List PyData} (h : EvD K ta σ F cs d cs1) (hr : EvDs K tr σ F cs1 ds cs2) : EvDs K (tCons ta tr) σ F cs (d :: ds) cs2 := fun F1 H1 g1 s Q q =>
  h F1 H1 g1 s _ fun v F2 H2 g2 s2 h2 => hr F2 H2 (g1.tr g2) s2 _ fun vs F3 H3 g3 s3 h3 => q (v :: vs) F3 H3 (g2.tr g3) s3 (.cons (Dt.gr g3 h2) h3)
/-- a built-in's call -/
theorem d_cb {r : List V → Hp → VK → Prop} {ds : List PyData} {z : PyData} (ha : EvDs K as σ F cs ds cs1) (hr : ∀ vs F2 H2, Dts K F2 vs ds → Sta F2 cs1 H2 → ∀ Q : VK, (∀ v F3 H3, Gr F2 F3 → Sta F3 cs1 H3 → Dt K F3 v z → Q v H3) → r vs H2 Q) : EvD K (tCB r as) σ F cs z cs1 := fun F1 H1 g1 s Q q =>
  ha F1 H1 g1 s _ fun vs F2 H2 g2 s2 h2 => hr vs F2 H2 h2 s2 Q fun v F3 H3 g3 s3 h3 => q v F3 H3 (g2.tr g3) s3 h3
theorem d_abs (ha : EvDs K as σ F cs [.int a] cs1) : EvD K (tCB (fun xs H Q => ∃ i, xs = [.int i] ∧ Q (.int (if i < 0 then -i else i)) H) as) σ F cs (.int (absI a)) cs1 := d_cb ha fun vs F2 H2 h s Q q => by
  obtain ⟨v, rfl, k1⟩ := h.one; cases k1.toInt
  exact ⟨a, rfl, q _ F2 H2 .rfl s (.int _)⟩
theorem d_max2 (ha : EvDs K as σ F cs [.int a, .int b] cs1) : EvD K (tCB (fun xs H Q => ∃ i j, xs = [.int i, .int j] ∧ Q (.int (if j > i then j else i)) H) as) σ F cs (.int (maxI a b)) cs1 := d_cb ha fun vs F2 H2 h s Q q => by
  obtain ⟨v, w, rfl, k1, k2⟩ := h.two; cases k1.toInt; cases k2.toInt
  exact ⟨a, b, rfl, q _ F2 H2 .rfl s (.int _)⟩
theorem d_min2 (ha : EvDs K as σ F cs [.int a, .int b] cs1) : EvD K (tCB (fun xs H Q => ∃ i j, xs = [.int i, .int j] ∧ Q (.int (if j < i then j else i)) H) as) σ F cs (.int (minI a b)) cs1 := d_cb ha fun vs F2 H2 h s Q q => by
  obtain ⟨v, w, rfl, k1, k2⟩ := h.two; cases k1.toInt; cases k2.toInt
  exact ⟨a, b, rfl, q _ F2 H2 .rfl s (.int _)⟩
theorem d_lenL {ds : List PyData} (ha : EvDs K as σ F cs [.list ds] cs1) : EvD K (tCB (fun xs H Q => ∃ p ys, xs = [.ref p] ∧ (SqL K H p ys ∨ SqT K H p ys) ∧ Q (.int ys.length) H) as) σ F cs (.int ds.length) cs1 := d_cb ha fun vs F2 H2 h s Q q => by
  obtain ⟨v, rfl, k1⟩ := h.one
  obtain ⟨p, ys, rfl, hl, hd⟩ := k1.toLst
  exact ⟨p, ys, rfl, .inl (gr_L s.fr hl), q _ F2 H2 .rfl s (by rw [hd.len]; exact .int _)⟩
theorem d_len {α : Type} {e : α → PyData} {xs : List α} (ha : EvDs K as σ F cs [eL e xs] cs1) : EvD K (tCB (fun xs H Q => ∃ p ys, xs = [.ref p] ∧ (SqL K H p ys ∨ SqT K H p ys) ∧ Q (.int ys.length) H) as) σ F cs (.int xs.length) cs1 := by
  have := d_lenL ha
  rw [List.length_map] at this
  exact this
theorem d_lenT {ds : List PyData} (ha : EvDs K as σ F cs [.tuple ds] cs1) : EvD K (tCB (fun xs H Q => ∃ p ys, xs = [.ref p] ∧ (SqL K H p ys ∨ SqT K H p ys) ∧ Q (.int ys.length) H) as) σ F cs (.int ds.length) cs1 := d_cb ha fun vs F2 H2 h s Q q => by
  obtain ⟨v, rfl, k1⟩ := h.one
  obtain ⟨p, ys, rfl, hl, hd⟩ := k1.toTup
  exact ⟨p, ys, rfl, .inr (gr_T s.fr hl), q _ F2 H2 .rfl s (by rw [hd.len]; exact .int _)⟩
theorem d_lenS {x : Str} {n : Int} (ha : EvDs K as σ F cs [.str x] cs1) (hn : lenS x = some n) : EvD K (tCB (fun xs H Q => ∃ z, xs = [.str z] ∧ z.length ≤ sizeLine ∧ Q (.int z.length) H) as) σ F cs (.int n) cs1 := d_cb ha fun vs F2 H2 h s Q q => by
  obtain ⟨v, rfl, k1⟩ := h.one; cases k1.toStr
  obtain ⟨h1, rfl⟩ := lenS_some hn
  exact ⟨x, rfl, sz h1, q _ F2 H2 .rfl s (.int _)⟩
theorem d_intB {b : Bool} (ha : EvDs K as σ F cs [.bool b] cs1) : EvD K (tCB (fun xs H Q => (∃ i, xs = [.int i] ∧ Q (.int i) H) ∨ ∃ k, xs = [.bl k] ∧ Q (.int (if k then 1 else 0)) H) as) σ F cs (.int (b2I b)) cs1 := d_cb ha fun vs F2 H2 h s Q q => by
  obtain ⟨v, rfl, k1⟩ := h.one; cases k1.toBl
  exact .inr ⟨b, rfl, q _ F2 H2 .rfl s (.int _)⟩
theorem d_strI {x : Str} (ha : EvDs K as σ F cs [.int a] cs1) (hn : strM a = some x) : EvD K (tCB (fun xs H Q => ∃ i, xs = [.int i] ∧ i.natAbs.log2 < 1920 ∧ Q (.str (toString i)) H) as) σ F cs (.str x) cs1 := d_cb ha fun vs F2 H2 h s Q q => by
  obtain ⟨v, rfl, k1⟩ := h.one; cases k1.toInt
  obtain ⟨h1, rfl⟩ := strM_some hn
  exact ⟨a, rfl, h1, q _ F2 H2 .rfl s (.str _)⟩
theorem d_sum {xs : List Int} (ha : EvDs K as σ F cs [eL eI xs] cs1) : EvD K (tCB (rSum K) as) σ F cs (.int xs.sum) cs1 := d_cb ha fun vs F2 H2 h s Q q => by
  obtain ⟨v, rfl, k1⟩ := h.one
  obtain ⟨p, ys, rfl, hl, hd⟩ := k1.toLst
  cases hd.ints
  exact ⟨p, xs, rfl, gr_L s.fr hl, q _ F2 H2 .rfl s (.int _)⟩
theorem d_all {xs : List Bool} (ha : EvDs K as σ F cs [eL eB xs] cs1) : EvD K (tCB (rAll K) as) σ F cs (.bool (xs.all id)) cs1 := d_cb ha fun vs F2 H2 h s Q q => by
  obtain ⟨v, rfl, k1⟩ := h.one
  obtain ⟨p, ys, rfl, hl, hd⟩ := k1.toLst
  cases hd.bls
  exact ⟨p, xs, rfl, gr_L s.fr hl, q _ F2 H2 .rfl s (.bl _)⟩
theorem d_any {xs : List Bool} (ha : EvDs K as σ F cs [eL eB xs] cs1) : EvD K (tCB (rAny K) as) σ F cs (.bool (xs.any id)) cs1 := d_cb ha fun vs F2 H2 h s Q q => by
  obtain ⟨v, rfl, k1⟩ := h.one
  obtain ⟨p, ys, rfl, hl, hd⟩ := k1.toLst
  cases hd.bls
  exact ⟨p, xs, rfl, gr_L s.fr hl, q _ F2 H2 .rfl s (.bl _)⟩
theorem d_listL {ds : List PyData} (ha : EvDs K as σ F cs [.list ds] cs1) : EvD K (tCB (fun xs H Q => ∃ p ys, xs = [.ref p] ∧ (SqL K H p ys ∨ SqT K H p ys) ∧ ∀ l, H l = none → Q (.ref l) (upd H l (.lst ys))) as) σ F cs (.list ds) cs1 := d_cb ha fun vs F2 H2 h s Q q => by
  obtain ⟨v, rfl, k1⟩ := h.one
  obtain ⟨p, ys, rfl, hl, hd⟩ := k1.toLst
  exact ⟨p, ys, rfl, .inl (gr_L s.fr hl), fun l nl => q _ _ _ (Gr.new (s.fr.back nl)) (s.lay nl) (.lst (.inl (.inl upd_same)) (hd.gr (Gr.new (s.fr.back nl))))⟩
/-- a new list, a new tuple -/
theorem d_lst {ds : List PyData} (h : EvDs K as σ F cs ds cs1) (hl : ds.length ≤ 100000) : EvD K (tLst as) σ F cs (.list ds) cs1 := fun F1 H1 g1 s Q q =>
  h F1 H1 g1 s _ fun vs F2 H2 g2 s2 h2 => ⟨h2.len.symm ▸ sz hl, fun p hp => q _ _ _ (g2.tr (Gr.new (s2.fr.back hp))) (s2.lay hp) (.lst (.inl (.inl upd_same)) (h2.gr (Gr.new (s2.fr.back hp))))⟩
theorem d_tup {ds : List PyData} (h : EvDs K as σ F cs ds cs1) (hl : ds.length ≤ 100000) : EvD K (tTup as) σ F cs (.tuple ds) cs1 := fun F1 H1 g1 s Q q =>
  h F1 H1 g1 s _ fun vs F2 H2 g2 s2 h2 => ⟨h2.len.symm ▸ sz hl, fun p hp => q _ _ _ (g2.tr (Gr.new (s2.fr.back hp))) (s2.lay hp) (.tup (.inl (.inl upd_same)) (h2.gr (Gr.new (s2.fr.back hp))))⟩
/-- items -/
theorem d_ixLs {ds : List PyData} {z : PyData} (ha : EvD K ta σ F cs (.list ds) cs1) (hb : EvD K tb σ F cs1 (.int b) cs2) (hz : atI ds b = some z) : EvD K (tOp (rIxL K) ta tb) σ F cs z cs2 :=
  d_op ha hb fun x y F2 H2 hx hy s _ Q q => by
    obtain ⟨p, vs, rfl, hl, hd⟩ := hx.toLst; cases hy.toInt
    unfold atI at hz
    rw [← hd.len] at hz
    cases e : ixN vs.length b with
    | none => rw [e] at hz; cases hz
    | some j =>
      rw [e] at hz
      obtain ⟨v, h1, h2⟩ := hd.get2 (show ds[j]? = some z from hz)
      exact ⟨p, vs, b, v, rfl, rfl, gr_L s.fr hl, by unfold atI; rw [e]; exact h1, q v F2 H2 .rfl s h2⟩
theorem d_ix {α : Type} {e : α → PyData} {xs : List α} {x : α} (ha : EvD K ta σ F cs (eL e xs) cs1) (hb : EvD K tb σ F cs1 (.int b) cs2) (hz : atI xs b = some x) : EvD K (tOp (rIxL K) ta tb) σ F cs (e x) cs2 :=
  d_ixLs ha hb (by rw [atI_map, hz]; rfl)
theorem d_ixT {ds : List PyData} {z : PyData} (ha : EvD K ta σ F cs (.tuple ds) cs1) (hb : EvD K tb σ F cs1 (.int b) cs2) (hz : atI ds b = some z) : EvD K (tOp (rIxT K) ta tb) σ F cs z cs2 :=
  d_op ha hb fun x y F2 H2 hx hy s _ Q q => by
    obtain ⟨p, vs, rfl, hl, hd⟩ := hx.toTup; cases hy.toInt
    unfold atI at hz
    rw [← hd.len] at hz
    cases e : ixN vs.length b with
    | none => rw [e] at hz; cases hz
    | some j =>
      rw [e] at hz
      obtain ⟨v, h1, h2⟩ := hd.get2 (show ds[j]? = some z from hz)
      exact ⟨p, vs, b, v, rfl, rfl, gr_T s.fr hl, by unfold atI; rw [e]; exact h1, q v F2 H2 .rfl s h2⟩
theorem d_ixS {x z : Str} (ha : EvD K ta σ F cs (.str x) cs1) (hb : EvD K tb σ F cs1 (.int b) cs2) (hz : ixS x b = some z) : EvD K (tOp rIxS ta tb) σ F cs (.str z) cs2 :=
  d_op ha hb fun v y F2 H2 hx hy s _ Q q => by
    cases hx.toStr; cases hy.toInt
    obtain ⟨h1, c, h2, rfl⟩ := ixS_some hz
    exact ⟨x, b, c, rfl, rfl, sz h1, h2, q _ F2 H2 .rfl s (.str _)⟩
/-- slices -/
theorem o_none : EvO tNoPart σ F cs none cs := fun F1 H1 g s Q q => q F1 H1 .rfl s
theorem o_some (h : EvD K te σ F cs (.int a) cs1) : EvO (tPart te) σ F cs (some a) cs1 := fun F1 H1 g1 s Q q => h F1 H1 g1 s _ fun v F2 H2 g2 s2 h2 => ⟨a, h2.toInt, q F2 H2 g2 s2⟩
theorem d_sl {α : Type} {e : α → PyData} {xs : List α} {tl th : TO} {lo hi : Option Int} (h : EvD K te σ F cs (eL e xs) cs1) (h1 : EvO tl σ F cs1 lo cs2) (h2 : EvO th σ F cs2 hi cs3) : EvD K (tSl (rSlL K) te tl th) σ F cs (eL e (cutL xs lo hi)) cs3 := fun F1 H1 g1 s Q q =>
  h F1 H1 g1 s _ fun v F2 H2 g2 s2 hv => h1 F2 H2 (g1.tr g2) s2 _ fun F3 H3 g3 s3 => h2 F3 H3 ((g1.tr g2).tr g3) s3 _ fun F4 H4 g4 s4 => by
    obtain ⟨p, vs, rfl, hl, hd⟩ := hv.toLst
    have hd' := hd.gr (g3.tr g4)
    refine ⟨p, vs, rfl, gr_L s4.fr (gr_L (g3.tr g4) hl), fun l nl => q _ _ _ ((g2.tr (g3.tr g4)).tr (Gr.new (s4.fr.back nl))) (s4.lay nl) (.lst (.inl (.inl upd_same)) ?_)⟩
    rw [← cutL_map]
    unfold cutV cutL
    rw [hd.len]
    exact ((hd'.gr (Gr.new (s4.fr.back nl))).drop _).take _
/-- == of flat things -/
theorem dec_V {α : Type} [DecidableEq α] {f : α → V} (hf : ∀ x y, f x = f y → x = y) (x y : α) : decide (f x = f y) = decide (x = y) := by
  by_cases h : x = y
  · subst h; simp
  · rw [decide_eq_false h, decide_eq_false (fun q => h (hf x y q))]
theorem d_eqI (ha : EvD K ta σ F cs (.int a) cs1) (hb : EvD K tb σ F cs1 (.int b) cs2) : EvD K (tOp rEq ta tb) σ F cs (.bool (decide (a = b))) cs2 :=
  d_op ha hb fun x y F2 H2 hx hy s _ Q q => by
    cases hx.toInt; cases hy.toInt
    exact ⟨rfl, q _ F2 H2 .rfl s (by rw [dec_V (f := V.int) (fun _ _ h => V.int.inj h)]; exact .bl _)⟩
theorem d_neI (ha : EvD K ta σ F cs (.int a) cs1) (hb : EvD K tb σ F cs1 (.int b) cs2) : EvD K (tOp rNe ta tb) σ F cs (.bool (!decide (a = b))) cs2 :=
  d_op ha hb fun x y F2 H2 hx hy s _ Q q => by
    cases hx.toInt; cases hy.toInt
    exact ⟨rfl, q _ F2 H2 .rfl s (by rw [dec_V (f := V.int) (fun _ _ h => V.int.inj h)]; exact .bl _)⟩
theorem d_eqS {x y : Str} (ha : EvD K ta σ F cs (.str x) cs1) (hb : EvD K tb σ F cs1 (.str y) cs2) : EvD K (tOp rEq ta tb) σ F cs (.bool (decide (x = y))) cs2 :=
  d_op ha hb fun _ _ F2 H2 hx hy s _ Q q => by
    cases hx.toStr; cases hy.toStr
    exact ⟨rfl, q _ F2 H2 .rfl s (by rw [dec_V (f := V.str) (fun _ _ h => V.str.inj h)]; exact .bl _)⟩
theorem d_neS {x y : Str} (ha : EvD K ta σ F cs (.str x) cs1) (hb : EvD K tb σ F cs1 (.str y) cs2) : EvD K (tOp rNe ta tb) σ F cs (.bool (!decide (x = y))) cs2 :=
  d_op ha hb fun _ _ F2 H2 hx hy s _ Q q => by
    cases hx.toStr; cases hy.toStr
    exact ⟨rfl, q _ F2 H2 .rfl s (by rw [dec_V (f := V.str) (fun _ _ h => V.str.inj h)]; exact .bl _)⟩
theorem d_eqB {x y : Bool} (ha : EvD K ta σ F cs (.bool x) cs1) (hb : EvD K tb σ F cs1 (.bool y) cs2) : EvD K (tOp rEq ta tb) σ F cs (.bool (decide (x = y))) cs2 :=
  d_op ha hb fun _ _ F2 H2 hx hy s _ Q q => by
    cases hx.toBl; cases hy.toBl
    exact ⟨rfl, q _ F2 H2 .rfl s (by rw [dec_V (f := V.bl) (fun _ _ h => V.bl.inj h)]; exact .bl _)⟩
theorem d_neB {x y : Bool} (ha : EvD K ta σ F cs (.bool x) cs1) (hb : EvD K tb σ F cs1 (.bool y) cs2) : EvD K (tOp rNe ta tb) σ F cs (.bool (!decide (x = y))) cs2 :=
  d_op ha hb fun _ _ F2 H2 hx hy s _ Q q => by
    cases hx.toBl; cases hy.toBl
    exact ⟨rfl, q _ F2 H2 .rfl s (by rw [dec_V (f := V.bl) (fun _ _ h => V.bl.inj h)]; exact .bl _)⟩
/-- == of data -/
theorem d_eqD (ha : EvD K ta σ F cs d cs1) (hb : EvD K tb σ F cs1 e cs2) (h1 : SeqAt.shaped d = true) (h2 : SeqAt.shaped e = true) : EvD K (tOp (rEqD K) ta tb) σ F cs (.bool (PyData.eqv d e)) cs2 :=
  d_op ha hb fun x y F2 H2 hx hy s _ Q q => ⟨d, e, (hx.gr s.fr).dp (SeqAt.canLay_of_shaped h1), (hy.gr s.fr).dp (SeqAt.canLay_of_shaped h2), h1, h2, q _ F2 H2 .rfl s (.bl _)⟩
theorem d_neD (ha : EvD K ta σ F cs d cs1) (hb : EvD K tb σ F cs1 e cs2) (h1 : SeqAt.shaped d = true) (h2 : SeqAt.shaped e = true) : EvD K (tOp (rNeD K) ta tb) σ F cs (.bool (!PyData.eqv d e)) cs2 :=
  d_op ha hb fun x y F2 H2 hx hy s _ Q q => ⟨d, e, (hx.gr s.fr).dp (SeqAt.canLay_of_shaped h1), (hy.gr s.fr).dp (SeqAt.canLay_of_shaped h2), h1, h2, q _ F2 H2 .rfl s (.bl _)⟩
/-- texts -/
theorem d_scat {x y z : Str} (ha : EvD K ta σ F cs (.str x) cs1) (hb : EvD K tb σ F cs1 (.str y) cs2) (hz : scatM x y = some z) : EvD K (tOp (fun x y H Q => ∃ i j, x = .str i ∧ y = .str j ∧ i.length + j.length ≤ sizeLine ∧ Q (.str (i ++ j)) H) ta tb) σ F cs (.str z) cs2 :=
  d_op ha hb fun _ _ F2 H2 hx hy s _ Q q => by
    cases hx.toStr; cases hy.toStr
    obtain ⟨h1, rfl⟩ := scatM_some hz
    exact ⟨x, y, rfl, rfl, sz h1, q _ F2 H2 .rfl s (.str _)⟩
theorem d_inS {x y : Str} (ha : EvD K ta σ F cs (.str x) cs1) (hb : EvD K tb σ F cs1 (.str y) cs2) : EvD K (tOp (fun x y H Q => ∃ i j, x = .str i ∧ y = .str j ∧ Q (.bl (!(Builtin.Str.occurrences j i 0 j.length 1).isEmpty)) H) ta tb) σ F cs (.bool (inS x y)) cs2 :=
  d_op ha hb fun _ _ F2 H2 hx hy s _ Q q => by
    cases hx.toStr; cases hy.toStr
    exact ⟨x, y, rfl, rfl, q _ F2 H2 .rfl s (.bl _)⟩
theorem d_notinS {x y : Str} (ha : EvD K ta σ F cs (.str x) cs1) (hb : EvD K tb σ F cs1 (.str y) cs2) : EvD K (tOp (fun x y H Q => ∃ i j, x = .str i ∧ y = .str j ∧ Q (.bl (!(!(Builtin.Str.occurrences j i 0 j.length 1).isEmpty))) H) ta tb) σ F cs (.bool (!inS x y)) cs2 :=
  d_op ha hb fun _ _ F2 H2 hx hy s _ Q q => by
    cases hx.toStr; cases hy.toStr
    exact ⟨x, y, rfl, rfl, q _ F2 H2 .rfl s (.bl _)⟩
/-- tests -/
theorem t_test {b : Bool} (h : EvD K te σ F cs (.bool b) cs1) : EvT (tTest te) σ F cs b cs1 := fun F1 H1 g1 s Q q =>
  h F1 H1 g1 s _ fun v F2 H2 g2 s2 h2 => ⟨b, h2.toBl, q F2 H2 g2 s2⟩
theorem t_B {b : Bool} (h : EvD K te σ F cs (.bool b) cs1) : EvT (tB te) σ F cs b cs1 := fun F1 H1 g1 s Q q =>
  h F1 H1 g1 s _ fun v F2 H2 g2 s2 h2 => ⟨b, h2.toBl, q F2 H2 g2 s2⟩
theorem t_not {t : TT} {b : Bool} (h : EvT t σ F cs b cs1) : EvT (tNot t) σ F cs (!b) cs1 := fun F1 H1 g1 s Q q => h F1 H1 g1 s _ fun F2 H2 g2 s2 => q F2 H2 g2 s2
theorem t_and {t u : TT} {a b r : Bool} (h1 : EvT t σ F cs a cs1) (h2 : a = true → EvT u σ F cs1 b cs1) (h3 : a = true → r = b) (h4 : a = false → r = false) : EvT (tAnd t u) σ F cs r cs1 := fun F1 H1 g1 s Q q => h1 F1 H1 g1 s _ fun F2 H2 g2 s2 => by
  cases a with
  | true => rw [h3 rfl] at q; exact h2 rfl F2 H2 (g1.tr g2) s2 Q fun F3 H3 g3 s3 => q F3 H3 (g2.tr g3) s3
  | false => rw [h4 rfl] at q; exact q F2 H2 g2 s2
theorem t_or {t u : TT} {a b r : Bool} (h1 : EvT t σ F cs a cs1) (h2 : a = false → EvT u σ F cs1 b cs1) (h3 : a = false → r = b) (h4 : a = true → r = true) : EvT (tOr t u) σ F cs r cs1 := fun F1 H1 g1 s Q q => h1 F1 H1 g1 s _ fun F2 H2 g2 s2 => by
  cases a with
  | false => rw [h3 rfl] at q; exact h2 rfl F2 H2 (g1.tr g2) s2 Q fun F3 H3 g3 s3 => q F3 H3 (g2.tr g3) s3
  | true => rw [h4 rfl] at q; exact q F2 H2 g2 s2
theorem d_andV {a b r : Bool} (h1 : EvD K ta σ F cs (.bool a) cs1) (h2 : a = true → EvD K tb σ F cs1 (.bool b) cs1) (h3 : a = true → r = b) (h4 : a = false → r = false) : EvD K (tAndV ta tb) σ F cs (.bool r) cs1 := fun F1 H1 g1 s Q q => h1 F1 H1 g1 s _ fun v F2 H2 g2 s2 hv => ⟨a, hv.toBl, by
  cases a with
  | true => rw [h3 rfl] at q; exact h2 rfl F2 H2 (g1.tr g2) s2 Q fun v F3 H3 g3 s3 k => q v F3 H3 (g2.tr g3) s3 k
  | false => rw [h4 rfl] at q; exact q _ F2 H2 g2 s2 (.bl _)⟩
theorem d_orV {a b r : Bool} (h1 : EvD K ta σ F cs (.bool a) cs1) (h2 : a = false → EvD K tb σ F cs1 (.bool b) cs1) (h3 : a = false → r = b) (h4 : a = true → r = true) : EvD K (tOrV ta tb) σ F cs (.bool r) cs1 := fun F1 H1 g1 s Q q => h1 F1 H1 g1 s _ fun v F2 H2 g2 s2 hv => ⟨a, hv.toBl, by
  cases a with
  | false => rw [h3 rfl] at q; exact h2 rfl F2 H2 (g1.tr g2) s2 Q fun v F3 H3 g3 s3 k => q v F3 H3 (g2.tr g3) s3 k
  | true => rw [h4 rfl] at q; exact q _ F2 H2 g2 s2 (.bl _)⟩
theorem d_notV {a : Bool} (h : EvD K ta σ F cs (.bool a) cs1) : EvD K (tNotV ta) σ F cs (.bool (!a)) cs1 := fun F1 H1 g1 s Q q => h F1 H1 g1 s _ fun v F2 H2 g2 s2 hv => ⟨a, hv.toBl, q _ F2 H2 g2 s2 (.bl _)⟩
theorem d_ifE {t : TT} {a : Bool} (h : EvT t σ F cs a cs1) (h1 : a = true → EvD K ta σ F cs1 d cs2) (h2 : a = false → EvD K tb σ F cs1 d cs2) : EvD K (tIf t ta tb) σ F cs d cs2 := fun F1 H1 g1 s Q q => h F1 H1 g1 s _ fun F2 H2 g2 s2 => by
  cases a with
  | true => exact h1 rfl F2 H2 (g1.tr g2) s2 Q fun v F3 H3 g3 s3 k => q v F3 H3 (g2.tr g3) s3 k
  | false => exact h2 rfl F2 H2 (g1.tr g2) s2 Q fun v F3 H3 g3 s3 k => q v F3 H3 (g2.tr g3) s3 k
end
end Bw

namespace Bw
open PySem L2
/-- a new list, which may change -/
def EvC (K : PySem.W.Frag) (te : TE) (σ : St) (F : Hp) (cs : Cs) (ds : List PyData) (cs' : Cs) : Prop :=
  ∀ F1 H1, Gr F F1 → Sta F1 cs H1 → ∀ Q : VK, (∀ p vs F2 H2, Gr F1 F2 → Sta F2 ((p, .lst vs) :: cs') H2 → Dts K F2 vs ds → Q (.ref p) H2) → te σ H1 Q
section
variable {K : PySem.W.Frag} {σ : St} {F F' : Hp} {cs cs1 cs2 cs3 : Cs} {ta tb tc te : TE} {d e : PyData} {as : TA} {a b c : Int}
theorem EvC.dd {ds : List PyData} (h : EvC K te σ F cs ds cs1) : EvD K te σ F cs (.list ds) cs1 := fun F1 H1 g1 s Q q => h F1 H1 g1 s Q fun p vs F2 H2 g2 s2 h2 => q _ _ H2 (g2.tr s2.gfr) s2.froze (.lst (.inl (.inl upd_same)) (h2.gr s2.gfr))
theorem c_is {ds es : List PyData} (h : EvC K te σ F cs ds cs1) (q : ds = es) : EvC K te σ F cs es cs1 := q ▸ h
theorem c_lst {ds : List PyData} (h : EvDs K as σ F cs ds cs1) (hl : ds.length ≤ 100000) : EvC K (tLst as) σ F cs ds cs1 := fun F1 H1 g1 s Q q =>
  h F1 H1 g1 s _ fun vs F2 H2 g2 s2 h2 => ⟨h2.len.symm ▸ sz hl, fun p hp => q p vs F2 _ g2 (s2.cell hp) h2⟩
theorem c_list {ds : List PyData} (ha : EvDs K as σ F cs [.list ds] cs1) : EvC K (tCB (fun xs H Q => ∃ p ys, xs = [.ref p] ∧ (SqL K H p ys ∨ SqT K H p ys) ∧ ∀ l, H l = none → Q (.ref l) (upd H l (.lst ys))) as) σ F cs ds cs1 := fun F1 H1 g1 s Q q => ha F1 H1 g1 s _ fun vs F2 H2 g2 s2 h2 => by
  obtain ⟨v, rfl, k⟩ := h2.one
  obtain ⟨p, ys, rfl, hl, hd⟩ := k.toLst
  exact ⟨p, ys, rfl, .inl (gr_L s2.fr hl), fun l nl => q _ _ _ _ g2 (s2.cell nl) hd⟩
theorem c_sl {α : Type} {e : α → PyData} {xs : List α} {tl th : TO} {lo hi : Option Int} (h : EvD K te σ F cs (eL e xs) cs1) (h1 : EvO tl σ F cs1 lo cs2) (h2 : EvO th σ F cs2 hi cs3) : EvC K (tSl (rSlL K) te tl th) σ F cs ((cutL xs lo hi).map e) cs3 := fun F1 H1 g1 s Q q =>
  h F1 H1 g1 s _ fun v F2 H2 g2 s2 hv => h1 F2 H2 (g1.tr g2) s2 _ fun F3 H3 g3 s3 => h2 F3 H3 ((g1.tr g2).tr g3) s3 _ fun F4 H4 g4 s4 => by
    obtain ⟨p, vs, rfl, hl, hd⟩ := hv.toLst
    have hd' := hd.gr (g3.tr g4)
    refine ⟨p, vs, rfl, gr_L s4.fr (gr_L (g3.tr g4) hl), fun l nl => q _ _ _ _ (g2.tr (g3.tr g4)) (s4.cell nl) ?_⟩
    rw [← cutL_map]
    unfold cutV cutL
    rw [hd.len]
    exact (hd'.drop _).take _
/-- list + list, list * int -/
def rCatS (K : PySem.W.Frag) : R2 := fun x y H Q => ∃ l b xs zs, x = .ref l ∧ y = .ref b ∧ SqL K H l xs ∧ SqL K H b zs ∧ xs.length + zs.length ≤ sizeLine ∧ ∀ p, H p = none → Q (.ref p) (upd H p (.lst (xs ++ zs)))
theorem op_catS {X : Cx} : OpR X (binaryOp .Add) (rCatS X.K) := by
  intro pins s σ H x y v u Q I rx ry h
  obtain ⟨l, b, xs, zs, rfl, rfl, hH, hB, hz, q⟩ := h
  cases rx
  cases ry
  obtain ⟨its, r, pl, _⟩ := I.list hH
  obtain ⟨its2, r2, pl2, _⟩ := I.list hB
  have e1 := r.length
  have e2 := r2.length
  obtain ⟨⟨cls, dd, data, sl⟩, ho, hc, n, hd⟩ := pl.isList
  obtain ⟨⟨cls2, dd2, data2, sl2⟩, ho2, hc2, n2, hd2⟩ := pl2.isList
  simp only at hc hd hc2 hd2
  subst hc hd hc2 hd2
  refine PySem.concat_meets ⟨_, ho, rfl⟩ ⟨_, ho2, rfl⟩ PySem.noFill_list_add PySem.seq_list_add PySem.F.slot_list_add PySem.F.entry_list_add (PySem.F.args_list_add_2 _ _)
    (PyProof.Rows.list_addW l b its.toArray its2.toArray n n2 dd dd2 sl sl2 (by simp only [List.size_toArray]; omega)) ⟨ho, ho2, ?_⟩
  rw [show its.toArray ++ its2.toArray = (its ++ its2).toArray by simp]
  exact ⟨.ref _, _, I.lnew (t' := s.toks) (r.append r2) (by rw [List.length_append]; omega), rfl, q _ I.fresh⟩
theorem c_cat {α : Type} {en : α → PyData} {xs ys zs : List α} (ha : EvD K ta σ F cs (eL en xs) cs1) (hb : EvD K tb σ F cs1 (eL en ys) cs2) (hz : catM xs ys = some zs) : EvC K (tOp (rCatS K) ta tb) σ F cs (zs.map en) cs2 := fun F1 H1 g1 s Q q =>
  ha F1 H1 g1 s _ fun v F2 H2 g2 s2 h2 => hb F2 H2 (g1.tr g2) s2 _ fun w F3 H3 g3 s3 h3 => by
    obtain ⟨p, vs, rfl, hl, hd⟩ := (h2.gr g3).toLst
    obtain ⟨p', ws, rfl, hl', hd'⟩ := h3.toLst
    obtain ⟨h4, rfl⟩ := catM_some hz
    refine ⟨p, p', vs, ws, rfl, rfl, gr_L s3.fr hl, gr_L s3.fr hl', ?_, fun l nl => q _ _ _ _ (g2.tr g3) (s3.cell nl) ?_⟩
    · rw [hd.len, hd'.len, List.length_map, List.length_map]; exact sz h4
    · rw [List.map_append]; exact hd.app hd'
theorem c_rep {α : Type} {en : α → PyData} {xs zs : List α} (ha : EvC K ta σ F cs (xs.map en) cs1) (hb : ∀ cs, EvD K tb σ F cs (.int b) cs) (hz : repM xs b = some zs) : EvC K (tOp rRep ta tb) σ F cs (zs.map en) cs1 := fun F1 H1 g1 s Q q =>
  ha F1 H1 g1 s _ fun p vs F2 H2 g2 s2 h2 => hb _ F2 H2 (g1.tr g2) s2 _ fun w F3 H3 g3 s3 h3 => by
    cases h3.toInt
    obtain ⟨⟨h4, h5, h6⟩, rfl⟩ := repM_some hz
    have s4 := s3.froze
    refine ⟨p, b, vs, rfl, rfl, s3.at List.mem_cons_self, h4, h5, ?_, fun l nl => q _ _ _ _ ((g2.tr g3).tr s3.gfr) (s4.cell nl) ?_⟩
    · rw [h2.len, List.length_map]; exact sz h6
    · have := ((h2.gr g3).gr s3.gfr).rep b.toNat
      rw [List.map_flatten, List.map_replicate]
      exact this
/-- x in a list of ints, of texts -/
theorem inV_int (x : Int) (xs : List Int) : inV (.int x) (xs.map V.int) = xs.any (fun y => y == x) := by
  unfold inV
  rw [List.any_map]
  congr 1
theorem inV_str (x : Str) (xs : List Str) : inV (.str x) (xs.map V.str) = xs.any (fun y => y == x) := by
  unfold inV
  rw [List.any_map]
  congr 1
def inL {α : Type} [BEq α] (x : α) (xs : List α) : Bool := xs.any fun y => y == x
theorem flatI (xs : List Int) : (xs.map V.int).all flatV = true := by rw [List.all_map]; exact List.all_eq_true.mpr fun _ _ => rfl
theorem flatS (xs : List Str) : (xs.map V.str).all flatV = true := by rw [List.all_map]; exact List.all_eq_true.mpr fun _ _ => rfl
theorem d_inI {xs : List Int} (ha : EvD K ta σ F cs (.int a) cs1) (hb : EvD K tb σ F cs1 (eL eI xs) cs2) : EvD K (tOp (rIn K false) ta tb) σ F cs (.bool (inL a xs)) cs2 :=
  d_op ha hb fun x y F2 H2 hx hy s _ Q q => by
    cases hx.toInt
    obtain ⟨p, vs, rfl, hl, hd⟩ := hy.toLst
    cases hd.ints
    refine ⟨p, _, rfl, .inl (gr_L s.fr hl), rfl, flatI xs, q _ F2 H2 .rfl s ?_⟩
    rw [inV_int]; exact .bl _
theorem d_ninI {xs : List Int} (ha : EvD K ta σ F cs (.int a) cs1) (hb : EvD K tb σ F cs1 (eL eI xs) cs2) : EvD K (tOp (rIn K true) ta tb) σ F cs (.bool (!inL a xs)) cs2 :=
  d_op ha hb fun x y F2 H2 hx hy s _ Q q => by
    cases hx.toInt
    obtain ⟨p, vs, rfl, hl, hd⟩ := hy.toLst
    cases hd.ints
    refine ⟨p, _, rfl, .inl (gr_L s.fr hl), rfl, flatI xs, q _ F2 H2 .rfl s ?_⟩
    rw [inV_int]; exact .bl _
theorem d_inSs {x : Str} {xs : List Str} (ha : EvD K ta σ F cs (.str x) cs1) (hb : EvD K tb σ F cs1 (eL eS xs) cs2) : EvD K (tOp (rIn K false) ta tb) σ F cs (.bool (inL x xs)) cs2 :=
  d_op ha hb fun _ y F2 H2 hx hy s _ Q q => by
    cases hx.toStr
    obtain ⟨p, vs, rfl, hl, hd⟩ := hy.toLst
    cases hd.strs
    refine ⟨p, _, rfl, .inl (gr_L s.fr hl), rfl, flatS xs, q _ F2 H2 .rfl s ?_⟩
    rw [inV_str]; exact .bl _
theorem d_ninSs {x : Str} {xs : List Str} (ha : EvD K ta σ F cs (.str x) cs1) (hb : EvD K tb σ F cs1 (eL eS xs) cs2) : EvD K (tOp (rIn K true) ta tb) σ F cs (.bool (!inL x xs)) cs2 :=
  d_op ha hb fun _ y F2 H2 hx hy s _ Q q => by
    cases hx.toStr
    obtain ⟨p, vs, rfl, hl, hd⟩ := hy.toLst
    cases hd.strs
    refine ⟨p, _, rfl, .inl (gr_L s.fr hl), rfl, flatS xs, q _ F2 H2 .rfl s ?_⟩
    rw [inV_str]; exact .bl _
/-- sep.join(xs) -/
def joinM (x : Str) (xs : List Str) : Option Str := if ((xs.map (·.length)).sum + x.length * xs.length) ≤ 100000 then some (Txt.join x xs) else none

/-! walks -/
theorem src_list {p : Addr} {vs : List V} {ds : List PyData} (h : SqL K F p vs) (hd : Dts K F vs ds) : Src K (Itl K p) F ds := fun F1 c1 H1 g s => by
  have q : SqL K H1 p vs := gr_L s.fr (gr_L g h)
  refine ⟨fun i hi => ?_, ⟨vs, q, by rw [hd.len]; exact Nat.le_refl _⟩, fun i v H2 d e y => ?_⟩
  · have hi' : i < vs.length := by rw [hd.len]; exact hi
    exact ⟨vs, vs[i], q, List.getElem?_eq_getElem hi'⟩
  · obtain ⟨rfl, y⟩ := y
    obtain ⟨d', e', h'⟩ := hd.get (y vs q)
    rw [e] at e'; cases e'
    exact ⟨F1, .rfl, s, h'.gr g⟩
theorem src_enum {p : Addr} {vs : List V} {ds : List PyData} (h : SqL K F p vs) (hd : Dts K F vs ds) : Src K (Ite K p) F (ds.mapIdx fun i d => .tuple [.int i, d]) := fun F1 c1 H1 g s => by
  have q : SqL K H1 p vs := gr_L s.fr (gr_L g h)
  refine ⟨fun i hi => ?_, ⟨vs, q, by rw [hd.len]; simp⟩, fun i v H2 d e y => ?_⟩
  · have hi' : i < vs.length := by rw [hd.len]; simpa using hi
    exact ⟨vs, vs[i], q, List.getElem?_eq_getElem hi'⟩
  · obtain ⟨T, x, rfl, nT, rfl, y⟩ := y
    obtain ⟨d', e', h'⟩ := hd.get (y vs q)
    rw [List.getElem?_mapIdx, e'] at e
    cases e
    exact ⟨_, Gr.new (s.fr.back nT), s.lay nT, .tup (.inl (.inl upd_same)) (.cons (.int _) (.cons (h'.gr (g.tr (Gr.new (s.fr.back nT)))) .nil))⟩
theorem src_zip {p p' : Addr} {vs ws : List V} {ds es : List PyData} (h : SqL K F p vs) (hd : Dts K F vs ds) (h' : SqL K F p' ws) (hd' : Dts K F ws es) : Src K (Itz K p p') F (List.zipWith (fun d e => .tuple [d, e]) ds es) := fun F1 c1 H1 g s => by
  have q : SqL K H1 p vs := gr_L s.fr (gr_L g h)
  have q' : SqL K H1 p' ws := gr_L s.fr (gr_L g h')
  refine ⟨fun i hi => ?_, ⟨vs, ws, q, q', by rw [hd.len, hd'.len, List.length_zipWith]; omega⟩, fun i v H2 d e y => ?_⟩
  · rw [List.length_zipWith] at hi
    have h1 : i < vs.length := by rw [hd.len]; omega
    have h2 : i < ws.length := by rw [hd'.len]; omega
    exact ⟨vs, ws, vs[i], ws[i], q, q', List.getElem?_eq_getElem h1, List.getElem?_eq_getElem h2⟩
  · obtain ⟨T, x, z, rfl, nT, rfl, y, y'⟩ := y
    obtain ⟨d1, e1, h1⟩ := hd.get (y vs q)
    obtain ⟨d2, e2, h2⟩ := hd'.get (y' ws q')
    rw [List.getElem?_zipWith, e1, e2] at e
    cases e
    have gg := g.tr (Gr.new (o := .tup [x, z]) (s.fr.back nT))
    exact ⟨_, Gr.new (s.fr.back nT), s.lay nT, .tup (.inl (.inl upd_same)) (.cons (h1.gr gg) (.cons (h2.gr gg) .nil))⟩
theorem i_list {α : Type} {en : α → PyData} {xs : List α} (h : EvD K te σ F cs (eL en xs) cs1) : EvI K (iList K te) σ F cs (xs.map en) cs1 := fun F1 H1 g1 s R q =>
  h F1 H1 g1 s _ fun v F2 H2 g2 s2 h2 => by
    obtain ⟨p, vs, rfl, hs, hd⟩ := h2.toLst
    exact ⟨p, rfl, ⟨vs, gr_L s2.fr hs⟩, q _ F2 H2 g2 s2 (src_list hs hd)⟩
theorem enum_map {α : Type} (en : α → PyData) (xs : List α) : (xs.map en).mapIdx (fun i d => PyData.tuple [.int i, d]) = (enumM xs).map (eT2 eI en) := by
  unfold enumM
  apply List.ext_getElem? 
  intro i
  simp only [List.getElem?_mapIdx, List.getElem?_map]
  cases xs[i]? <;> rfl
theorem i_enum {α : Type} {en : α → PyData} {xs : List α} (h : EvDs K as σ F cs [eL en xs] cs1) : EvI K (iEnum K as) σ F cs ((enumM xs).map (eT2 eI en)) cs1 := fun F1 H1 g1 s R q =>
  h F1 H1 g1 s _ fun v F2 H2 g2 s2 h2 => by
    obtain ⟨v, rfl, k⟩ := h2.one
    obtain ⟨p, vs, rfl, hs, hd⟩ := k.toLst
    refine ⟨p, vs, rfl, gr_L s2.fr hs, q _ F2 H2 g2 s2 ?_⟩
    rw [← enum_map]
    exact src_enum hs hd
theorem zip_map {α β : Type} (en : α → PyData) (em : β → PyData) : ∀ (xs : List α) (ys : List β), List.zipWith (fun d e => PyData.tuple [d, e]) (xs.map en) (ys.map em) = (xs.zip ys).map (eT2 en em)
  | [], _ => rfl
  | _ :: _, [] => rfl
  | x :: xs, y :: ys => by
    simp only [List.map_cons, List.zipWith_cons_cons, List.zip_cons_cons]
    rw [zip_map en em xs ys]
theorem i_zip {α β : Type} {en : α → PyData} {em : β → PyData} {xs : List α} {ys : List β} (h : EvDs K as σ F cs [eL en xs, eL em ys] cs1) : EvI K (iZip K as) σ F cs ((xs.zip ys).map (eT2 en em)) cs1 := fun F1 H1 g1 s R q =>
  h F1 H1 g1 s _ fun v F2 H2 g2 s2 h2 => by
    obtain ⟨v, w, rfl, k1, k2⟩ := h2.two
    obtain ⟨p, vs, rfl, hs, hd⟩ := k1.toLst
    obtain ⟨p', ws, rfl, hs', hd'⟩ := k2.toLst
    refine ⟨p, p', vs, ws, rfl, gr_L s2.fr hs, gr_L s2.fr hs', q _ F2 H2 g2 s2 ?_⟩
    rw [← zip_map]
    exact src_zip hs hd hs' hd'
theorem src_rng {lo : Int} {n : Nat} : Src K (Itr lo n) F ((List.range n).map fun (i : Nat) => PyData.int (lo + (i : Int))) := fun F1 c1 H1 g s => by
  refine ⟨fun i hi => (by simpa using hi : i < n), by show n ≤ _; simp, fun i v H2 d e y => ?_⟩
  obtain ⟨rfl, rfl⟩ := y
  rw [List.getElem?_map] at e
  cases q : (List.range n)[i]? with
  | none => rw [q] at e; cases e
  | some j =>
    rw [q] at e
    have : i = j := by
      obtain ⟨h1, h2⟩ := List.getElem?_eq_some_iff.mp q
      simpa using h2
    subst this
    cases e
    exact ⟨F1, .rfl, s, .int _⟩
theorem i_rng1 {xs : List Int} (h : EvDs K as σ F cs [.int b] cs1) (hx : rngM 0 b = some xs) : EvI K (iRng1 as) σ F cs (xs.map eI) cs1 := fun F1 H1 g1 s R q =>
  h F1 H1 g1 s _ fun v F2 H2 g2 s2 h2 => by
    obtain ⟨v, rfl, k⟩ := h2.one; cases k.toInt
    obtain ⟨⟨_, _, h3, h4⟩, rfl⟩ := rngM_some hx
    refine ⟨b, rfl, h3, h4, q _ F2 H2 g2 s2 ?_⟩
    have := src_rng (K := K) (F := F2) (lo := 0) (n := b.toNat)
    unfold rngL
    rw [List.map_map, Int.sub_zero]
    exact this
theorem i_rng2 {xs : List Int} (h : EvDs K as σ F cs [.int a, .int b] cs1) (hx : rngM a b = some xs) : EvI K (iRng2 as) σ F cs (xs.map eI) cs1 := fun F1 H1 g1 s R q =>
  h F1 H1 g1 s _ fun v F2 H2 g2 s2 h2 => by
    obtain ⟨v, w, rfl, k1, k2⟩ := h2.two; cases k1.toInt; cases k2.toInt
    obtain ⟨h3, rfl⟩ := rngM_some hx
    refine ⟨a, b, rfl, h3, q _ F2 H2 g2 s2 ?_⟩
    have := src_rng (K := K) (F := F2) (lo := a) (n := (b - a).toNat)
    unfold rngL
    rw [List.map_map]
    exact this
theorem i_str {x : Str} (h : EvD K te σ F cs (.str x) cs1) : EvI K (iStr te) σ F cs ((signs x).map eS) cs1 := fun F1 H1 g1 s R q =>
  h F1 H1 g1 s _ fun v F2 H2 g2 s2 h2 => by
    refine ⟨x, h2.toStr, q _ F2 H2 g2 s2 fun F3 c3 H3 g3 s3 => ⟨fun i hi => by simpa [signs, Its] using hi, by simp [signs, Its], fun i v H4 d e y => ?_⟩⟩
    obtain ⟨rfl, c, hc, rfl⟩ := y
    unfold signs at e
    rw [List.map_map, List.getElem?_map, Array.getElem?_toList, hc] at e
    cases e
    exact ⟨F3, .rfl, s3, .str _⟩
end
end Bw

namespace Bw
open PySem L2
/-! what a loop's turn leaves -/
inductive Fl (S R : Type) where
  | nx (s : S) | br (s : S) | rt (r : R)
def forF {α S R : Type} (body : S → α → Option (Fl S R)) : List α → S → Option (Fl S R)
  | [], s => some (.nx s)
  | x :: xs, s => (body s x).bind fun f => match f with
    | .nx s' => forF body xs s'
    | .br s' => some (.br s')
    | .rt r => some (.rt r)
def whileF {S R : Type} (c : S → Option Bool) (body : S → Option (Fl S R)) : Nat → S → Option (Fl S R)
  | 0, _ => none
  | n + 1, s => (c s).bind fun b => if b = true then (body s).bind fun f => match f with
      | .nx s' => whileF c body n s'
      | .br s' => some (.br s')
      | .rt r => some (.rt r)
    else some (.nx s)
def lcM {α β : Type} (f : α → Option (Option β)) : List α → Option (List β)
  | [] => some []
  | x :: xs => (f x).bind fun o => (lcM f xs).bind fun ys => some (match o with
    | some y => y :: ys
    | none => ys)
theorem lcM_len {α β : Type} {f : α → Option (Option β)} : ∀ {xs : List α} {ys : List β}, lcM f xs = some ys → ys.length ≤ xs.length
  | [], ys, h => by cases h; exact Nat.le_refl _
  | x :: xs, ys, h => by
    obtain ⟨o, h1, h⟩ := bnd h
    obtain ⟨zs, h2, h⟩ := bnd h
    have := lcM_len h2
    cases o with
    | none => cases h; exact Nat.le_succ_of_le this
    | some y => cases h; exact Nat.succ_le_succ this
theorem lcM_map {α β : Type} (f : α → β) : ∀ xs : List α, lcM (fun x => some (some (f x))) xs = some (xs.map f)
  | [] => rfl
  | x :: xs => by show (lcM _ xs).bind _ = _; rw [lcM_map f xs]; rfl
theorem lcM_filter {α β : Type} (p : α → Bool) (f : α → β) : ∀ xs : List α, lcM (fun x => some (if p x = true then some (f x) else none)) xs = some ((xs.filter p).map f)
  | [] => rfl
  | x :: xs => by
    show (lcM _ xs).bind _ = _
    rw [lcM_filter p f xs, List.filter_cons]
    by_cases h : p x = true
    · simp [h]
    · simp [h]
section
variable {K : PySem.W.Frag} {σ : St} {F F' : Hp} {cs cs1 cs2 cs3 : Cs} {ta tb tc te : TE} {d e : PyData} {as : TA} {a b c : Int} {nx bk ct : St → Hp → Prop} {rt : VK} {H : Hp} {t u : TS}
/-! statements -/
theorem go {D : Ends} {σ' : St} (e : σ = σ') (h : t D σ' H) : t D σ H := e ▸ h
theorem s_set {i : Nat} {σ' : V → St} (s : Sta F cs H) (h : EvD K te σ F cs d cs1) (hσ : ∀ v, σ.set i (some v) = σ' v) (q : ∀ v F2 H2, Gr F F2 → Sta F2 cs1 H2 → Dt K F2 v d → nx (σ' v) H2) : tAsg te (gName i) ⟨nx, rt, bk, ct⟩ σ H := h F H .rfl s _ fun v F2 H2 g2 s2 h2 => by
  show nx (σ.set i (some v)) H2
  rw [hσ v]; exact q v F2 H2 g2 s2 h2
/-- a flat value -/
theorem s_setV {i : Nat} {σ' : St} {w : V} (hw : ∀ F v, Dt K F v d → v = w) (s : Sta F cs H) (h : EvD K te σ F cs d cs1) (hσ : σ.set i (some w) = σ') (q : ∀ F2 H2, Gr F F2 → Sta F2 cs1 H2 → nx σ' H2) : tAsg te (gName i) ⟨nx, rt, bk, ct⟩ σ H := h F H .rfl s _ fun v F2 H2 g2 s2 h2 => by
  cases hw F2 v h2
  show nx (σ.set i (some w)) H2
  rw [hσ]; exact q F2 H2 g2 s2
theorem s_setC {ds : List PyData} {i : Nat} {σ' : Addr → St} (s : Sta F cs H) (h : EvC K te σ F cs ds cs1) (hσ : ∀ p, σ.set i (some (.ref p)) = σ' p) (q : ∀ p vs F2 H2, Gr F F2 → Sta F2 ((p, .lst vs) :: cs1) H2 → Dts K F2 vs ds → nx (σ' p) H2) : tAsg te (gName i) ⟨nx, rt, bk, ct⟩ σ H := h F H .rfl s _ fun p vs F2 H2 g2 s2 h2 => by
  show nx (σ.set i (some (.ref p))) H2
  rw [hσ p]; exact q p vs F2 H2 g2 s2 h2
theorem s_ret (s : Sta F cs H) (h : EvD K te σ F cs d cs1) (q : ∀ v F2 H2, Gr F F2 → Sta F2 cs1 H2 → Dt K F2 v d → rt v H2) : tRet te ⟨nx, rt, bk, ct⟩ σ H := h F H .rfl s _ q
theorem s_drop (s : Sta F cs H) (h : EvD K te σ F cs d cs1) (q : ∀ F2 H2, Gr F F2 → Sta F2 cs1 H2 → nx σ H2) : tDrop te ⟨nx, rt, bk, ct⟩ σ H := h F H .rfl s _ fun v F2 H2 g2 s2 _ => q F2 H2 g2 s2
theorem s_if {c : TT} {b : Bool} (s : Sta F cs H) (h : EvT c σ F cs b cs1) (qt : b = true → ∀ F2 H2, Gr F F2 → Sta F2 cs1 H2 → t ⟨nx, rt, bk, ct⟩ σ H2) (qf : b = false → ∀ F2 H2, Gr F F2 → Sta F2 cs1 H2 → u ⟨nx, rt, bk, ct⟩ σ H2) : tIfS c t u ⟨nx, rt, bk, ct⟩ σ H :=
  h F H .rfl s _ fun F2 H2 g2 s2 => by
    cases b with
    | true => exact qt rfl F2 H2 g2 s2
    | false => exact qf rfl F2 H2 g2 s2
/-- cells: append, item, pop -/
theorem s_app {l1 l2 : Cs} {i : Nat} {p : Addr} {vs : List V} (s : Sta F (l1 ++ (p, .lst vs) :: l2) H) (hi : σ[i]? = some (some (.ref p))) (h : EvD K te σ F (l1 ++ (p, .lst vs) :: l2) d (l1 ++ (p, .lst vs) :: l2)) (hl : vs.length < 100000)
    (q : ∀ v F2 H2, Gr F F2 → Sta F2 (l1 ++ (p, .lst (vs ++ [v])) :: l2) H2 → Dt K F2 v d → nx σ H2) : tDrop (tBM K "list" rAppend (tVar i) (tCons te tNil)) ⟨nx, rt, bk, ct⟩ σ H :=
  ⟨.ref p, hi, .inl ⟨rfl, _, .inl (.inl s.getAt)⟩, h F H .rfl s _ fun v F2 H2 g2 s2 h2 => ⟨p, vs, v, rfl, rfl, s2.getAt, szl hl, q v F2 _ g2 s2.putAt h2⟩⟩
theorem s_item {l1 l2 : Cs} {i : Nat} {p : Addr} {vs : List V} {ti : TE} {k : Int} {j : Nat} (s : Sta F (l1 ++ (p, .lst vs) :: l2) H) (hi : σ[i]? = some (some (.ref p))) (h : EvD K te σ F (l1 ++ (p, .lst vs) :: l2) d (l1 ++ (p, .lst vs) :: l2))
    (h2 : EvD K ti σ F (l1 ++ (p, .lst vs) :: l2) (.int k) (l1 ++ (p, .lst vs) :: l2)) (hj : ixN vs.length k = some j) (q : ∀ v F2 H2, Gr F F2 → Sta F2 (l1 ++ (p, .lst (vs.set j v)) :: l2) H2 → Dt K F2 v d → nx σ H2) : tAsg te (gSub (tVar i) ti rSetL) ⟨nx, rt, bk, ct⟩ σ H :=
  h F H .rfl s _ fun v F2 H2 g2 s2 hv => ⟨.ref p, hi, h2 F2 H2 g2 s2 _ fun w F3 H3 g3 s3 hw => ⟨p, vs, k, j, rfl, hw.toInt, s3.getAt, hj, q v F3 _ (g2.tr g3) s3.putAt (hv.gr g3)⟩⟩
/-- a cell lent for a flat answer -/
theorem d_lend {l1 l2 : Cs} {p : Addr} {o : HO} {w : V} (hw : ∀ F v, Dt K F v d → v = w) (hd : ∀ F, Dt K F w d) (h : ∀ F1, Gr F F1 → F1 p = none → EvD K te σ (upd F1 p o) (l1 ++ l2) d (l1 ++ l2)) : EvD K te σ F (l1 ++ (p, o) :: l2) d (l1 ++ (p, o) :: l2) := fun F1 H1 g1 s Q q => by
  refine h F1 g1 s.freeAt (upd F1 p o) H1 .rfl s.frozeAt Q fun v F2 H2 g2 s2 h2 => ?_
  cases hw F2 v h2
  exact q w (cut F2 p) H2 (gr_cut s.freeAt g2) (Sta.lent g2 s2) (hd _)
theorem t_lend {l1 l2 : Cs} {p : Addr} {o : HO} {t : TT} {b : Bool} (h : ∀ F1, Gr F F1 → F1 p = none → EvT t σ (upd F1 p o) (l1 ++ l2) b (l1 ++ l2)) : EvT t σ F (l1 ++ (p, o) :: l2) b (l1 ++ (p, o) :: l2) := fun F1 H1 g1 s Q q => by
  refine h F1 g1 s.freeAt (upd F1 p o) H1 .rfl s.frozeAt Q fun F2 H2 g2 s2 => ?_
  exact q (cut F2 p) H2 (gr_cut s.freeAt g2) (Sta.lent g2 s2)
theorem lent_l {p : Addr} {vs : List V} {ds : List PyData} (hn : F p = none) (h : Dts K F vs ds) : Dt K (upd F p (.lst vs)) (.ref p) (.list ds) := .lst (.inl (.inl upd_same)) (h.gr (Gr.new hn))
/-- unpacking -/
theorem u2 {v : V} {d1 d2 : PyData} (h : Dt K F v (.tuple [d1, d2])) : ∃ p v1 v2, v = .ref p ∧ SqT K F p [v1, v2] ∧ Dt K F v1 d1 ∧ Dt K F v2 d2 := by
  obtain ⟨p, vs, rfl, h1, h2⟩ := h.toTup
  obtain ⟨v1, v2, rfl, k1, k2⟩ := h2.two
  exact ⟨p, v1, v2, rfl, h1, k1, k2⟩
theorem u3 {v : V} {d1 d2 d3 : PyData} (h : Dt K F v (.tuple [d1, d2, d3])) : ∃ p v1 v2 v3, v = .ref p ∧ SqT K F p [v1, v2, v3] ∧ Dt K F v1 d1 ∧ Dt K F v2 d2 ∧ Dt K F v3 d3 := by
  obtain ⟨p, vs, rfl, h1, h2⟩ := h.toTup
  obtain ⟨v1, v2, v3, rfl, k1, k2, k3⟩ := h2.three
  exact ⟨p, v1, v2, v3, rfl, h1, k1, k2, k3⟩
theorem u4 {v : V} {d1 d2 d3 d4 : PyData} (h : Dt K F v (.tuple [d1, d2, d3, d4])) : ∃ p v1 v2 v3 v4, v = .ref p ∧ SqT K F p [v1, v2, v3, v4] ∧ Dt K F v1 d1 ∧ Dt K F v2 d2 ∧ Dt K F v3 d3 ∧ Dt K F v4 d4 := by
  obtain ⟨p, vs, rfl, h1, h2⟩ := h.toTup
  obtain ⟨v1, v2, v3, v4, rfl, k1, k2, k3, k4⟩ := h2.four
  exact ⟨p, v1, v2, v3, v4, rfl, h1, k1, k2, k3, k4⟩
/-! loops -/
theorem s_for {α S : Type} {wi : TI} {g : TG} {tb : TS} {xs : List α} {en : α → PyData} (st : S → Hp → St → Cs → Prop) {body : S → α → Option S} {s0 r : S}
    (s : Sta F cs H) (hi : EvI K wi σ F cs (xs.map en) cs1) (h0 : ∀ F', Gr F F' → st s0 F' σ cs1) (hm : xs.foldlM body s0 = some r)
    (turn : ∀ x a b F1 F3 σ1 c1 H3 v (N : St → Hp → Prop), Gr F F1 → st a F1 σ1 c1 → Gr F1 F3 → Sta F3 c1 H3 → Dt K F3 v (en x) → body a x = some b → (∀ F4 σ4 c4 H4, Gr F3 F4 → Sta F4 c4 H4 → st b F4 σ4 c4 → N σ4 H4) →
      g v σ1 H3 fun σ2 H2 => tb ⟨N, rt, nx, N⟩ σ2 H2)
    (done : ∀ F1 σ1 c1 H1, Gr F F1 → Sta F1 c1 H1 → st r F1 σ1 c1 → nx σ1 H1) : tFor wi g tb ⟨nx, rt, bk, ct⟩ σ H :=
  hi F H .rfl s _ fun J F2 H2 g2 s2 hs => by
    refine ⟨fun i m σ1 H1 => m = xs.length - i ∧ i ≤ xs.length ∧ ∃ a F1 c1, Gr F2 F1 ∧ Sta F1 c1 H1 ∧ st a F1 σ1 c1 ∧ (xs.drop i).foldlM body a = some r, ⟨xs.length, by simp, Nat.zero_le _, s0, F2, cs1, .rfl, s2, h0 F2 g2, by simpa using hm⟩, ?_⟩
    rintro i m σ1 H1 ⟨rfl, hi, a, F1, c1, g1, s1, ha, hr⟩
    obtain ⟨hgo, hstop, hy⟩ := hs F1 c1 H1 g1 s1
    by_cases hlt : i < xs.length
    · rw [List.drop_eq_getElem_cons hlt, List.foldlM_cons] at hr
      cases hb : body a xs[i] with
      | none => rw [hb] at hr; cases hr
      | some b =>
        rw [hb] at hr
        refine .inr ⟨hgo i (by simpa using hlt), fun σ2 H2 => ∃ F3 c3, Gr F2 F3 ∧ Sta F3 c3 H2 ∧ st b F3 σ2 c3, fun σ' H' ⟨F3, c3, g3, s3, h3⟩ => ⟨xs.length - (i + 1), by omega, rfl, hlt, b, F3, c3, g3, s3, h3, hr⟩, fun x H' y => ?_⟩
        obtain ⟨F3, g3, s3, d3⟩ := hy i x H' (en xs[i]) (by rw [List.getElem?_map, List.getElem?_eq_getElem hlt]; rfl) y
        exact turn xs[i] a b F1 F3 σ1 c1 H' x _ (g2.tr g1) ha g3 s3 d3 hb fun F4 σ4 c4 H4 g4 s4 h4 => ⟨F4, c4, (g1.tr g3).tr g4, s4, h4⟩
    · have e : i = xs.length := by omega
      subst e
      rw [List.drop_length] at hr
      cases hr
      exact .inl ⟨by simpa using hstop, done F1 σ1 c1 H1 (g2.tr g1) s1 ha⟩
/-- .. that may be left -/
theorem s_forF {α S R : Type} {wi : TI} {g : TG} {tb : TS} {xs : List α} {en : α → PyData} (st : S → Hp → St → Cs → Prop) {body : S → α → Option (Fl S R)} {s0 : S} {r : Fl S R}
    (s : Sta F cs H) (hi : EvI K wi σ F cs (xs.map en) cs1) (h0 : ∀ F', Gr F F' → st s0 F' σ cs1) (hm : forF body xs s0 = some r)
    (done : ∀ z F1 σ1 c1 H1, r = .nx z ∨ r = .br z → Gr F F1 → Sta F1 c1 H1 → st z F1 σ1 c1 → nx σ1 H1)
    (turn : ∀ x a b F1 F3 σ1 c1 H3 v (N B : St → Hp → Prop), Gr F F1 → st a F1 σ1 c1 → Gr F1 F3 → Sta F3 c1 H3 → Dt K F3 v (en x) → body a x = some b → (∀ z F4 σ4 c4 H4, b = .nx z → Gr F3 F4 → Sta F4 c4 H4 → st z F4 σ4 c4 → N σ4 H4) →
      (∀ z F4 σ4 c4 H4, b = .br z → Gr F3 F4 → Sta F4 c4 H4 → st z F4 σ4 c4 → B σ4 H4) → (∀ z, b = .rt z → r = .rt z) →
      g v σ1 H3 fun σ2 H2 => tb ⟨N, rt, B, N⟩ σ2 H2) : tFor wi g tb ⟨nx, rt, bk, ct⟩ σ H :=
  hi F H .rfl s _ fun J F2 H2 g2 s2 hs => by
    refine ⟨fun i m σ1 H1 => m = xs.length - i ∧ i ≤ xs.length ∧ ∃ a F1 c1, Gr F2 F1 ∧ Sta F1 c1 H1 ∧ st a F1 σ1 c1 ∧ forF body (xs.drop i) a = some r, ⟨xs.length, by simp, Nat.zero_le _, s0, F2, cs1, .rfl, s2, h0 F2 g2, by simpa using hm⟩, ?_⟩
    rintro i m σ1 H1 ⟨rfl, hi, a, F1, c1, g1, s1, ha, hr⟩
    obtain ⟨hgo, hstop, hy⟩ := hs F1 c1 H1 g1 s1
    by_cases hlt : i < xs.length
    · rw [List.drop_eq_getElem_cons hlt] at hr
      obtain ⟨b, hb, hr⟩ := bnd (show (body a xs[i]).bind _ = some r from hr)
      refine .inr ⟨hgo i (by simpa using hlt), fun σ2 H2 => ∃ z F3 c3, b = .nx z ∧ Gr F2 F3 ∧ Sta F3 c3 H2 ∧ st z F3 σ2 c3, fun σ' H' ⟨z, F3, c3, e3, g3, s3, h3⟩ => ⟨xs.length - (i + 1), by omega, rfl, hlt, z, F3, c3, g3, s3, h3, by subst e3; exact hr⟩, fun x H' y => ?_⟩
      obtain ⟨F3, g3, s3, d3⟩ := hy i x H' (en xs[i]) (by rw [List.getElem?_map, List.getElem?_eq_getElem hlt]; rfl) y
      refine turn xs[i] a b F1 F3 σ1 c1 H' x _ _ (g2.tr g1) ha g3 s3 d3 hb (fun z F4 σ4 c4 H4 e4 g4 s4 h4 => ⟨z, F4, c4, e4, (g1.tr g3).tr g4, s4, h4⟩) (fun z F4 σ4 c4 H4 e4 g4 s4 h4 => ?_) (fun z e => ?_)
      · subst e4
        exact done z F4 σ4 c4 H4 (.inr (Option.some.inj hr).symm) (((g2.tr g1).tr g3).tr g4) s4 h4
      · subst e
        exact (Option.some.inj hr).symm
    · have e : i = xs.length := by omega
      subst e
      rw [List.drop_length] at hr
      cases hr
      exact .inl ⟨by simpa using hstop, done a F1 σ1 c1 H1 (.inl rfl) (g2.tr g1) s1 ha⟩
/-- a while -/
theorem s_while {S R : Type} {tc : TT} {tb : TS} (st : S → Hp → St → Cs → Prop) {c : S → Option Bool} {body : S → Option (Fl S R)} {s0 : S} {r : Fl S R} {n : Nat}
    (s : Sta F cs H) (h0 : st s0 F σ cs) (hm : whileF c body n s0 = some r)
    (done : ∀ z F1 σ1 c1 H1, r = .nx z ∨ r = .br z → Gr F F1 → Sta F1 c1 H1 → st z F1 σ1 c1 → nx σ1 H1)
    (test : ∀ z k F1 σ1 c1, Gr F F1 → st z F1 σ1 c1 → c z = some k → EvT tc σ1 F1 c1 k c1) (mono : ∀ z F1 F2 σ1 c1, st z F1 σ1 c1 → Gr F1 F2 → st z F2 σ1 c1)
    (turn : ∀ a b F1 σ1 c1 H1 (N B : St → Hp → Prop), Gr F F1 → st a F1 σ1 c1 → Sta F1 c1 H1 → body a = some b → (∀ z F4 σ4 c4 H4, b = .nx z → Gr F1 F4 → Sta F4 c4 H4 → st z F4 σ4 c4 → N σ4 H4) →
      (∀ z F4 σ4 c4 H4, b = .br z → Gr F1 F4 → Sta F4 c4 H4 → st z F4 σ4 c4 → B σ4 H4) → (∀ z, b = .rt z → r = .rt z) →
      tb ⟨N, rt, B, N⟩ σ1 H1) : tWhile tc tb ⟨nx, rt, bk, ct⟩ σ H := by
  refine ⟨fun m σ1 H1 => ∃ a F1 c1, Gr F F1 ∧ Sta F1 c1 H1 ∧ st a F1 σ1 c1 ∧ whileF c body m a = some r, ⟨n, s0, F, cs, .rfl, s, h0, hm⟩, ?_⟩
  rintro m σ1 H1 ⟨a, F1, c1, g1, s1, ha, hr⟩
  cases m with
  | zero => cases hr
  | succ m =>
    obtain ⟨k, hk, hr⟩ := bnd (show (c a).bind _ = some r from hr)
    refine test a k F1 σ1 c1 g1 ha hk F1 H1 .rfl s1 _ fun F2 H2 g2 s2 => ?_
    cases k with
    | false =>
      cases hr
      exact done a F2 σ1 c1 H2 (.inl rfl) (g1.tr g2) s2 (mono a F1 F2 σ1 c1 ha g2)
    | true =>
      obtain ⟨b, hb, hr⟩ := bnd (show (body a).bind _ = some r from hr)
      refine ⟨fun σ2 H2 => ∃ z F3 c3, b = .nx z ∧ Gr F F3 ∧ Sta F3 c3 H2 ∧ st z F3 σ2 c3, fun σ' H' ⟨z, F3, c3, e3, g3, s3, h3⟩ => ⟨m, Nat.lt_succ_self m, z, F3, c3, g3, s3, h3, by subst e3; exact hr⟩, ?_⟩
      refine turn a b F2 σ1 c1 H2 _ _ (g1.tr g2) (mono a F1 F2 σ1 c1 ha g2) s2 hb (fun z F4 σ4 c4 H4 e4 g4 s4 h4 => ⟨z, F4, c4, e4, (g1.tr g2).tr g4, s4, h4⟩) (fun z F4 σ4 c4 H4 e4 g4 s4 h4 => ?_) (fun z e => ?_)
      · subst e4
        exact done z F4 σ4 c4 H4 (.inr (Option.some.inj hr).symm) ((g1.tr g2).tr g4) s4 h4
      · subst e
        exact (Option.some.inj hr).symm
/-! list comprehensions, whose elements change nothing -/
theorem c_lc {α β : Type} {wi : TI} {g : TG} {tt : TT} {vs : List Nat} {xs : List α} {en : α → PyData} {em : β → PyData} {f : α → Option (Option β)} {ys : List β}
    (hi : EvI K wi σ F cs (xs.map en) cs1) (hm : lcM f xs = some ys) (hl : xs.length ≤ 100000)
    (turn : ∀ x o v F1 p us, Gr F F1 → Dt K F1 v (en x) → f x = some o → ∃ σ2 : St, (∀ H (Q : St → Hp → Prop), Sta F1 ((p, .lst us) :: cs1) H → Q σ2 H → g v (wipe σ vs) H Q) ∧ wipe σ2 vs = wipe σ vs ∧
      EvT tt σ2 F1 ((p, .lst us) :: cs1) o.isSome ((p, .lst us) :: cs1) ∧ ∀ y, o = some y → EvD K te σ2 F1 ((p, .lst us) :: cs1) (em y) ((p, .lst us) :: cs1)) :
    EvC K (tLc wi g tt te vs) σ F cs (ys.map em) cs1 := fun F1 H1 g1 s Q q =>
  hi F1 H1 g1 s _ fun J F2 H2 g2 s2 hs => by
    intro p hp
    have s3 : Sta F2 ((p, .lst []) :: cs1) (upd H2 p (.lst [])) := s2.cell hp
    refine ⟨fun i m H4 => m = xs.length - i ∧ i ≤ xs.length ∧ ∃ us done rest F4, us.length ≤ i ∧ Gr F2 F4 ∧ Sta F4 ((p, .lst us) :: cs1) H4 ∧ Dts K F4 us (done.map em) ∧ lcM f (xs.drop i) = some rest ∧ done ++ rest = ys,
      ⟨xs.length, by simp, Nat.zero_le _, [], [], ys, F2, Nat.le_refl _, .rfl, s3, .nil, by simpa using hm, rfl⟩, ?_⟩
    rintro i m H4 ⟨rfl, hi, us, done, rest, F4, hu, g4, s4, hd, hr, he⟩
    obtain ⟨hgo, hstop, hy⟩ := hs F4 _ H4 g4 s4
    by_cases hlt : i < xs.length
    · rw [List.drop_eq_getElem_cons hlt] at hr
      obtain ⟨o, ho, hr⟩ := bnd (show (f xs[i]).bind _ = some rest from hr)
      obtain ⟨zs, hz, hr⟩ := bnd hr
      refine .inr ⟨hgo i (by simpa using hlt), fun H' => i + 1 ≤ xs.length ∧ ∃ us done rest F4, us.length ≤ i + 1 ∧ Gr F2 F4 ∧ Sta F4 ((p, .lst us) :: cs1) H' ∧ Dts K F4 us (done.map em) ∧ lcM f (xs.drop (i + 1)) = some rest ∧ done ++ rest = ys, fun H' h' => ⟨xs.length - (i + 1), by omega, rfl, h'⟩, fun x H' y => ?_⟩
      obtain ⟨F5, g5, s5, d5⟩ := hy i x H' (en xs[i]) (by rw [List.getElem?_map, List.getElem?_eq_getElem hlt]; rfl) y
      obtain ⟨σ2, h1, h2, h3, h4⟩ := turn xs[i] o x F5 p us (g1.tr (g2.tr (g4.tr g5))) d5 ho
      refine h1 H' _ s5 ⟨h2, h3 F5 H' .rfl s5 _ fun F6 H6 g6 s6 => ?_⟩
      cases o with
      | none =>
        cases hr
        exact ⟨hlt, us, done, zs, F6, Nat.le_succ_of_le hu, g4.tr (g5.tr g6), s6, hd.gr (g5.tr g6), hz, he⟩
      | some z =>
        cases hr
        refine (h4 z rfl) F6 H6 g6 s6 _ fun v F7 H7 g7 s7 hv => ⟨us, s7.at List.mem_cons_self, szl (by omega), hlt, us ++ [v], done ++ [z], zs, F7, by rw [List.length_append]; exact Nat.succ_le_succ hu, g4.tr (g5.tr (g6.tr g7)), s7.put, ?_, hz, ?_⟩
        · rw [List.map_append]
          exact (hd.gr (g5.tr (g6.tr g7))).app (.cons hv .nil)
        · rw [List.append_assoc]; exact he
    · have e : i = xs.length := by omega
      subst e
      rw [List.drop_length] at hr
      cases hr
      rw [List.append_nil] at he
      subst he
      exact .inl ⟨by simpa using hstop, q p us F4 H4 (g2.tr g4) s4 hd⟩
theorem t_yes : EvT tYes σ F cs true cs := fun F1 H1 g s Q q => q F1 H1 .rfl s
/-! functions -/
def spP (K : PySem.W.Frag) {α β : Type} (A : α → List PyData) (B : β → PyData) (f : α → Option β) : Sp := fun vs H Q _ => ∃ F cs x y, Dts K F vs (A x) ∧ Sta F cs H ∧ f x = some y ∧ ∀ v F2 H2, Gr F F2 → Sta F2 cs H2 → Dt K F2 v (B y) → Q v H2
theorem d_call {α β : Type} {A : α → List PyData} {B : β → PyData} {f : α → Option β} {x : α} {y : β} {E : XK} (h : EvDs K as σ F cs (A x) cs1) (hf : f x = some y) : EvD K (tCall (spP K A B f) [] E as) σ F cs (B y) cs1 := fun F1 H1 g1 s Q q =>
  h F1 H1 g1 s _ fun vs F2 H2 g2 s2 h2 => ⟨F2, cs1, x, y, by rw [List.append_nil]; exact h2, s2, hf, fun v F3 H3 g3 s3 h3 => q v F3 H3 (g2.tr g3) s3 h3⟩
end
/-! == of typed data -/
def EqE {α : Type} [DecidableEq α] (e : α → PyData) : Prop := ∀ x y, PyData.eqv (e x) (e y) = decide (x = y)
def ShE {α : Type} (n : Nat) (e : α → PyData) : Prop := ∀ x, (e x).canLay0 = true ∧ (e x).depth ≤ n
theorem shp {α : Type} {n : Nat} {e : α → PyData} (h : ShE n e) (hn : n ≤ 64) (x : α) : SeqAt.shaped (e x) = true := by
  unfold SeqAt.shaped
  rw [(h x).1, decide_eq_true (Nat.le_trans (h x).2 hn)]
  rfl
theorem beq_dec {α : Type} [BEq α] [LawfulBEq α] [DecidableEq α] (x y : α) : (x == y) = decide (x = y) := by
  rw [Bool.eq_iff_iff]; simp
theorem eqE_I : EqE eI := fun x y => by simp only [PyData.eqv]; exact beq_dec x y
theorem eqE_B : EqE eB := fun x y => by simp only [PyData.eqv]; exact beq_dec x y
theorem eqE_S : EqE eS := fun x y => by simp only [PyData.eqv]; exact beq_dec x y
theorem eqE_N : EqE eN := fun x y => by simp [PyData.eqv]
theorem eqAll_map {α : Type} [DecidableEq α] {e : α → PyData} (h : EqE e) : ∀ xs ys : List α, PyData.eqvAll (xs.map e) (ys.map e) = decide (xs = ys)
  | [], [] => by simp [PyData.eqvAll]
  | [], _ :: _ => by simp [PyData.eqvAll]
  | _ :: _, [] => by simp [PyData.eqvAll]
  | x :: xs, y :: ys => by
    simp only [List.map_cons, PyData.eqvAll]
    rw [h x y, eqAll_map h xs ys, Bool.eq_iff_iff]
    simp
theorem EqE.l {α : Type} [DecidableEq α] {e : α → PyData} (h : EqE e) : EqE (eL e) := fun xs ys => by
  show PyData.eqv (.list _) (.list _) = _
  simp only [PyData.eqv]
  exact eqAll_map h xs ys
theorem EqE.t2 {α β : Type} [DecidableEq α] [DecidableEq β] {e : α → PyData} {f : β → PyData} (h : EqE e) (k : EqE f) : EqE (eT2 e f) := fun x y => by
  show PyData.eqv (.tuple _) (.tuple _) = _
  simp only [PyData.eqv, PyData.eqvAll]
  rw [h, k, Bool.eq_iff_iff]
  obtain ⟨x1, x2⟩ := x; obtain ⟨y1, y2⟩ := y
  simp
theorem EqE.t3 {α β γ : Type} [DecidableEq α] [DecidableEq β] [DecidableEq γ] {e : α → PyData} {f : β → PyData} {g : γ → PyData} (h : EqE e) (k : EqE f) (l : EqE g) : EqE (eT3 e f g) := fun x y => by
  show PyData.eqv (.tuple _) (.tuple _) = _
  simp only [PyData.eqv, PyData.eqvAll]
  rw [h, k, l, Bool.eq_iff_iff]
  obtain ⟨x1, x2, x3⟩ := x; obtain ⟨y1, y2, y3⟩ := y
  simp
theorem EqE.t4 {α β γ δ : Type} [DecidableEq α] [DecidableEq β] [DecidableEq γ] [DecidableEq δ] {e : α → PyData} {f : β → PyData} {g : γ → PyData} {m : δ → PyData} (h : EqE e) (k : EqE f) (l : EqE g) (n : EqE m) : EqE (eT4 e f g m) := fun x y => by
  show PyData.eqv (.tuple _) (.tuple _) = _
  simp only [PyData.eqv, PyData.eqvAll]
  rw [h, k, l, n, Bool.eq_iff_iff]
  obtain ⟨x1, x2, x3, x4⟩ := x; obtain ⟨y1, y2, y3, y4⟩ := y
  simp
theorem sh_I : ShE 0 eI := fun x => ⟨by simp [PyData.canLay0], by simp [PyData.depth]⟩
theorem sh_B : ShE 0 eB := fun x => ⟨by simp [PyData.canLay0], by simp [PyData.depth]⟩
theorem sh_N : ShE 0 eN := fun x => ⟨by simp [PyData.canLay0], by simp [PyData.depth]⟩
theorem sh_all {α : Type} {n : Nat} {e : α → PyData} (h : ShE n e) : ∀ xs : List α, PyData.canLayAll0 (xs.map e) = true ∧ PyData.depthAll (xs.map e) ≤ n
  | [] => ⟨by simp [PyData.canLayAll0], by simp [PyData.depthAll]⟩
  | x :: xs => by
    obtain ⟨h1, h2⟩ := sh_all h xs
    simp only [List.map_cons, PyData.canLayAll0, PyData.depthAll]
    exact ⟨by rw [(h x).1, h1]; rfl, Nat.max_le.mpr ⟨(h x).2, h2⟩⟩
theorem ShE.l {α : Type} {n : Nat} {e : α → PyData} (h : ShE n e) : ShE (n + 1) (eL e) := fun xs => by
  show (PyData.list _).canLay0 = true ∧ (PyData.list _).depth ≤ _
  simp only [PyData.canLay0, PyData.depth]
  exact ⟨(sh_all h xs).1, Nat.succ_le_succ (sh_all h xs).2⟩
theorem ShE.t2 {α β : Type} {n m : Nat} {e : α → PyData} {f : β → PyData} (h : ShE n e) (k : ShE m f) : ShE (max n m + 1) (eT2 e f) := fun x => by
  show (PyData.tuple _).canLay0 = true ∧ (PyData.tuple _).depth ≤ _
  simp only [PyData.canLay0, PyData.depth, PyData.canLayAll0, PyData.depthAll]
  have := (h x.1).2; have := (k x.2).2
  exact ⟨by rw [(h _).1, (k _).1]; rfl, by omega⟩
theorem ShE.t3 {α β γ : Type} {n m l : Nat} {e : α → PyData} {f : β → PyData} {g : γ → PyData} (h : ShE n e) (k : ShE m f) (j : ShE l g) : ShE (max n (max m l) + 1) (eT3 e f g) := fun x => by
  show (PyData.tuple _).canLay0 = true ∧ (PyData.tuple _).depth ≤ _
  simp only [PyData.canLay0, PyData.depth, PyData.canLayAll0, PyData.depthAll]
  have := (h x.1).2; have := (k x.2.1).2; have := (j x.2.2).2
  exact ⟨by rw [(h _).1, (k _).1, (j _).1]; rfl, by omega⟩
theorem ShE.t4 {α β γ δ : Type} {n m l i : Nat} {e : α → PyData} {f : β → PyData} {g : γ → PyData} {z : δ → PyData} (h : ShE n e) (k : ShE m f) (j : ShE l g) (p : ShE i z) : ShE (max n (max m (max l i)) + 1) (eT4 e f g z) := fun x => by
  show (PyData.tuple _).canLay0 = true ∧ (PyData.tuple _).depth ≤ _
  simp only [PyData.canLay0, PyData.depth, PyData.canLayAll0, PyData.depthAll]
  have := (h x.1).2; have := (k x.2.1).2; have := (j x.2.2.1).2; have := (p x.2.2.2).2
  exact ⟨by rw [(h _).1, (k _).1, (j _).1, (p _).1]; rfl, by omega⟩
section
variable {K : PySem.W.Frag} {σ : St} {F F' : Hp} {cs cs1 cs2 cs3 : Cs} {ta tb tc te : TE}
theorem d_eqT {α : Type} [DecidableEq α] {n : Nat} {e : α → PyData} {x y : α} (he : EqE e) (hs : ShE n e) (hn : n ≤ 64) (ha : EvD K ta σ F cs (e x) cs1) (hb : EvD K tb σ F cs1 (e y) cs2) : EvD K (tOp (rEqD K) ta tb) σ F cs (.bool (decide (x = y))) cs2 :=
  he x y ▸ d_eqD ha hb (shp hs hn x) (shp hs hn y)
theorem d_neT {α : Type} [DecidableEq α] {n : Nat} {e : α → PyData} {x y : α} (he : EqE e) (hs : ShE n e) (hn : n ≤ 64) (ha : EvD K ta σ F cs (e x) cs1) (hb : EvD K tb σ F cs1 (e y) cs2) : EvD K (tOp (rNeD K) ta tb) σ F cs (.bool (!decide (x = y))) cs2 :=
  he x y ▸ d_neD ha hb (shp hs hn x) (shp hs hn y)
def eqTM {α : Type} [DecidableEq α] (e : α → PyData) (x y : α) : Option Bool := if SeqAt.shaped (e x) = true ∧ SeqAt.shaped (e y) = true then some (decide (x = y)) else none
def eqDM (x y : PyData) : Option Bool := if SeqAt.shaped x = true ∧ SeqAt.shaped y = true then some (PyData.eqv x y) else none
theorem d_eqTM {α : Type} [DecidableEq α] {e : α → PyData} {x y : α} {b : Bool} (he : EqE e) (ha : EvD K ta σ F cs (e x) cs1) (hb : EvD K tb σ F cs1 (e y) cs2) (hm : eqTM e x y = some b) : EvD K (tOp (rEqD K) ta tb) σ F cs (.bool b) cs2 := by
  unfold eqTM at hm; split at hm
  · rename_i h; cases hm; exact he x y ▸ d_eqD ha hb h.1 h.2
  · cases hm
theorem d_neTM {α : Type} [DecidableEq α] {e : α → PyData} {x y : α} {b : Bool} (he : EqE e) (ha : EvD K ta σ F cs (e x) cs1) (hb : EvD K tb σ F cs1 (e y) cs2) (hm : eqTM e x y = some b) : EvD K (tOp (rNeD K) ta tb) σ F cs (.bool (!b)) cs2 := by
  unfold eqTM at hm; split at hm
  · rename_i h; cases hm; exact he x y ▸ d_neD ha hb h.1 h.2
  · cases hm
theorem d_eqDM {x y : PyData} {b : Bool} (ha : EvD K ta σ F cs x cs1) (hb : EvD K tb σ F cs1 y cs2) (hm : eqDM x y = some b) : EvD K (tOp (rEqD K) ta tb) σ F cs (.bool b) cs2 := by
  unfold eqDM at hm; split at hm
  · rename_i h; cases hm; exact d_eqD ha hb h.1 h.2
  · cases hm
theorem d_neDM {x y : PyData} {b : Bool} (ha : EvD K ta σ F cs x cs1) (hb : EvD K tb σ F cs1 y cs2) (hm : eqDM x y = some b) : EvD K (tOp (rNeD K) ta tb) σ F cs (.bool (!b)) cs2 := by
  unfold eqDM at hm; split at hm
  · rename_i h; cases hm; exact d_neD ha hb h.1 h.2
  · cases hm
end
end Bw

namespace Bw
open PySem L2
/-! names for readings -/
abbrev rAbs : List V → Hp → VK → Prop := fun xs H Q => ∃ i, xs = [.int i] ∧ Q (.int (if i < 0 then -i else i)) H
abbrev rMax2 : List V → Hp → VK → Prop := fun xs H Q => ∃ i j, xs = [.int i, .int j] ∧ Q (.int (if j > i then j else i)) H
abbrev rMin2 : List V → Hp → VK → Prop := fun xs H Q => ∃ i j, xs = [.int i, .int j] ∧ Q (.int (if j < i then j else i)) H
abbrev rLenL (K : PySem.W.Frag) : List V → Hp → VK → Prop := fun xs H Q => ∃ p ys, xs = [.ref p] ∧ (SqL K H p ys ∨ SqT K H p ys) ∧ Q (.int ys.length) H
abbrev rLenS : List V → Hp → VK → Prop := fun xs H Q => ∃ z, xs = [.str z] ∧ z.length ≤ sizeLine ∧ Q (.int z.length) H
abbrev rInt : List V → Hp → VK → Prop := fun xs H Q => (∃ i, xs = [.int i] ∧ Q (.int i) H) ∨ ∃ k, xs = [.bl k] ∧ Q (.int (if k then 1 else 0)) H
abbrev rStrI : List V → Hp → VK → Prop := fun xs H Q => ∃ i, xs = [.int i] ∧ i.natAbs.log2 < 1920 ∧ Q (.str (toString i)) H
abbrev rListS (K : PySem.W.Frag) : List V → Hp → VK → Prop := fun xs H Q => ∃ p ys, xs = [.ref p] ∧ (SqL K H p ys ∨ SqT K H p ys) ∧ ∀ l, H l = none → Q (.ref l) (upd H l (.lst ys))
abbrev rScat : R2 := fun x y H Q => ∃ i j, x = .str i ∧ y = .str j ∧ i.length + j.length ≤ sizeLine ∧ Q (.str (i ++ j)) H
abbrev rInS : R2 := fun x y H Q => ∃ i j, x = .str i ∧ y = .str j ∧ Q (.bl (!(Builtin.Str.occurrences j i 0 j.length 1).isEmpty)) H
abbrev rNinS : R2 := fun x y H Q => ∃ i j, x = .str i ∧ y = .str j ∧ Q (.bl (!(!(Builtin.Str.occurrences j i 0 j.length 1).isEmpty))) H
abbrev rIsN : R2 := fun x y H Q => y = .non ∧ Q (.bl (decide (x = .non))) H
abbrev rNotN : R2 := fun x y H Q => y = .non ∧ Q (.bl (!decide (x = .non))) H
abbrev rJoin (K : PySem.W.Frag) : V → List V → Hp → VK → Prop := fun x xs H Q => ∃ a p, ∃ ys : List Str, x = .str a ∧ xs = [.ref p] ∧ (SqL K H p (ys.map V.str) ∨ SqT K H p (ys.map V.str)) ∧ (ys.map (·.length)).sum + ys.length * a.length ≤ 16777216 ∧ Q (.str (Txt.join a ys)) H
section
variable {X : Cx}
theorem cr_abs : CallR X (.builtin "abs") rAbs := call_abs
theorem cr_max2 (hc : X.calm = true) : CallR X (.builtin "max") rMax2 := call_max2 hc
theorem cr_min2 (hc : X.calm = true) : CallR X (.builtin "min") rMin2 := call_min2 hc
theorem cr_lenL : CallR X (.builtin "len") (rLenL X.K) := call_len_seq
theorem cr_lenS : CallR X (.builtin "len") rLenS := call_len_str
theorem cr_int : CallR X (.type "int") rInt := call_int1
theorem cr_str : CallR X (.type "str") rStrI := call_str_int
theorem cr_list : CallR X (.type "list") (rListS X.K) := call_list_of
theorem op_scatR : OpR X (binaryOp .Add) rScat := op_add_str
theorem op_inR : OpR X (compareOp .In) rInS := op_in_str
theorem op_ninR : OpR X (compareOp .NotIn) rNinS := op_notin_str
theorem op_isNR : OpR X (compareOp .Is) rIsN := op_isN
theorem op_notNR : OpR X (compareOp .IsNot) rNotN := op_notN
end
theorem bf {b : Bool} (h : b = false) : ¬ b = true := by rw [h]; decide
theorem bt {b : Bool} (h : ¬ b = true) : b = false := by cases b <;> simp_all
theorem isS {α : Type} {c : Bool} {a : α} : (if c = true then some a else none : Option α).isSome = c := by cases c <;> rfl
theorem isSm {α : Type} {c : Bool} {a y : α} (h : (if c = true then some a else none : Option α) = some y) : a = y := by
  cases c with
  | true => exact Option.some.inj h
  | false => cases h
theorem pr2 {α β : Type} {a a' : α} {b b' : β} (h : (a, b) = (a', b')) : a = a' ∧ b = b' := by cases h; exact ⟨rfl, rfl⟩
theorem pr3 {α β γ : Type} {a a' : α} {b b' : β} {c c' : γ} (h : (a, b, c) = (a', b', c')) : a = a' ∧ b = b' ∧ c = c' := by cases h; exact ⟨rfl, rfl, rfl⟩
theorem pr4 {α β γ δ : Type} {a a' : α} {b b' : β} {c c' : γ} {d d' : δ} (h : (a, b, c, d) = (a', b', c', d')) : a = a' ∧ b = b' ∧ c = c' ∧ d = d' := by cases h; exact ⟨rfl, rfl, rfl, rfl⟩
theorem pr5 {α β γ δ ε : Type} {a a' : α} {b b' : β} {c c' : γ} {d d' : δ} {e e' : ε} (h : (a, b, c, d, e) = (a', b', c', d', e')) : a = a' ∧ b = b' ∧ c = c' ∧ d = d' ∧ e = e' := by cases h; exact ⟨rfl, rfl, rfl, rfl, rfl⟩
theorem dt_oI {K : PySem.W.Frag} {F : Hp} (o : Option Int) : Dt K F (oV V.int o) (eO eI o) := by cases o with
  | none => exact .non
  | some x => exact .int x
theorem dt_oS {K : PySem.W.Frag} {F : Hp} (o : Option Str) : Dt K F (oV V.str o) (eO eS o) := by cases o with
  | none => exact .non
  | some x => exact .str x
theorem dt_toI {K : PySem.W.Frag} {F : Hp} {v : V} {o : Option Int} (h : Dt K F v (eO eI o)) : v = oV V.int o := by cases o with
  | none => exact h.toNon
  | some x => exact h.toInt
theorem dt_toS {K : PySem.W.Frag} {F : Hp} {v : V} {o : Option Str} (h : Dt K F v (eO eS o)) : v = oV V.str o := by cases o with
  | none => exact h.toNon
  | some x => exact h.toStr
def mapC {α β : Type} (f : α → β) (xs : List α) : Option (List β) := if xs.length ≤ 100000 then some (xs.map f) else none
def filC {α β : Type} (p : α → Bool) (f : α → β) (xs : List α) : Option (List β) := if xs.length ≤ 100000 then some ((xs.filter p).map f) else none
def lcC {α β : Type} (f : α → Option (Option β)) (xs : List α) : Option (List β) := if xs.length ≤ 100000 then lcM f xs else none
section
variable {K : PySem.W.Frag} {σ : St} {F F' : Hp} {cs cs1 cs2 cs3 : Cs} {ta tb tc te : TE} {d e : PyData} {as : TA} {a b c : Int} {nx bk ct : St → Hp → Prop} {rt : VK} {H : Hp} {t u : TS}
theorem d_mulC (ha : EvD K ta σ F cs (.int a) cs1) (hb : EvD K tb σ F cs1 (.int b) cs2) (hc : CMul a b) : EvD K (tOp (rI CMul fun i j => .int (i * j)) ta tb) σ F cs (.int (a * b)) cs2 := d_I ha hb hc fun _ => .int _
theorem d_modC (ha : EvD K ta σ F cs (.int a) cs1) (hb : EvD K tb σ F cs1 (.int b) cs2) (hc : 0 < b) : EvD K (tOp (rI (fun _ j => 0 < j) fun i j => .int (i % j)) ta tb) σ F cs (.int (a % b)) cs2 := d_I (C := fun _ j => 0 < j) ha hb hc fun _ => .int _
theorem d_fdivC (ha : EvD K ta σ F cs (.int a) cs1) (hb : EvD K tb σ F cs1 (.int b) cs2) (hc : CDiv a b) : EvD K (tOp (rI CDiv fun i j => .int (i / j)) ta tb) σ F cs (.int (a / b)) cs2 := d_I ha hb hc fun _ => .int _
theorem d_powC (ha : EvD K ta σ F cs (.int a) cs1) (hb : EvD K tb σ F cs1 (.int b) cs2) (hc : CPow a b) : EvD K (tOp (rI CPow fun i j => .int (i ^ j.toNat)) ta tb) σ F cs (.int (a ^ b.toNat)) cs2 := d_I ha hb hc fun _ => .int _
theorem d_chain {g g' : Int → Int → Bool} (ha : EvD K ta σ F cs (.int a) cs1) (hb : EvD K tb σ F cs1 (.int b) cs2) (hc : EvD K tc σ F cs2 (.int c) cs2) : EvD K (tChain (rI0 fun i j => .bl (g i j)) (rI0 fun i j => .bl (g' i j)) ta tb tc) σ F cs (.bool (g a b && g' b c)) cs2 := fun F1 H1 g1 s Q q =>
  ha F1 H1 g1 s _ fun v F2 H2 g2 s2 h2 => hb F2 H2 (g1.tr g2) s2 _ fun w F3 H3 g3 s3 h3 => by
    cases h2.toInt; cases h3.toInt
    refine ⟨a, b, rfl, rfl, g a b, rfl, ?_⟩
    cases e : g a b with
    | true => exact hc F3 H3 ((g1.tr g2).tr g3) s3 _ fun z F4 H4 g4 s4 h4 => ⟨b, c, rfl, h4.toInt, q _ F4 H4 ((g2.tr g3).tr g4) s4 (by rw [e, Bool.true_and]; exact .bl _)⟩
    | false => exact q _ F3 H3 (g2.tr g3) s3 (by rw [e, Bool.false_and]; exact .bl _)
theorem t_andP {t u : TT} {a b : Bool} (h1 : EvT t σ F cs a cs1) (h2 : a = true → EvT u σ F cs1 b cs1) : EvT (tAnd t u) σ F cs (a && b) cs1 := t_and h1 h2 (fun h => by rw [h, Bool.true_and]) (fun h => by rw [h, Bool.false_and])
theorem t_orP {t u : TT} {a b : Bool} (h1 : EvT t σ F cs a cs1) (h2 : a = false → EvT u σ F cs1 b cs1) : EvT (tOr t u) σ F cs (a || b) cs1 := t_or h1 h2 (fun h => by rw [h, Bool.false_or]) (fun h => by rw [h, Bool.true_or])
theorem t_andM {t u : TT} {a r : Bool} (h1 : EvT t σ F cs a cs1) (h2 : a = true → EvT u σ F cs1 r cs1) (h4 : a = false → r = false) : EvT (tAnd t u) σ F cs r cs1 := t_and h1 h2 (fun _ => rfl) h4
theorem t_orM {t u : TT} {a r : Bool} (h1 : EvT t σ F cs a cs1) (h2 : a = false → EvT u σ F cs1 r cs1) (h4 : a = true → r = true) : EvT (tOr t u) σ F cs r cs1 := t_or h1 h2 (fun _ => rfl) h4
theorem d_andP {a b : Bool} (h1 : EvD K ta σ F cs (.bool a) cs1) (h2 : a = true → EvD K tb σ F cs1 (.bool b) cs1) : EvD K (tAndV ta tb) σ F cs (.bool (a && b)) cs1 := d_andV h1 h2 (fun h => by rw [h, Bool.true_and]) (fun h => by rw [h, Bool.false_and])
theorem d_orP {a b : Bool} (h1 : EvD K ta σ F cs (.bool a) cs1) (h2 : a = false → EvD K tb σ F cs1 (.bool b) cs1) : EvD K (tOrV ta tb) σ F cs (.bool (a || b)) cs1 := d_orV h1 h2 (fun h => by rw [h, Bool.false_or]) (fun h => by rw [h, Bool.true_or])
theorem d_andM {a r : Bool} (h1 : EvD K ta σ F cs (.bool a) cs1) (h2 : a = true → EvD K tb σ F cs1 (.bool r) cs1) (h4 : a = false → r = false) : EvD K (tAndV ta tb) σ F cs (.bool r) cs1 := d_andV h1 h2 (fun _ => rfl) h4
theorem d_orM {a r : Bool} (h1 : EvD K ta σ F cs (.bool a) cs1) (h2 : a = false → EvD K tb σ F cs1 (.bool r) cs1) (h4 : a = true → r = true) : EvD K (tOrV ta tb) σ F cs (.bool r) cs1 := d_orV h1 h2 (fun _ => rfl) h4
theorem d_join {x z : Str} {xs : List Str} (ha : EvD K ta σ F cs (.str x) cs1) (hb : EvD K tb σ F cs1 (eL eS xs) cs2) (hz : joinM x xs = some z) : EvD K (tM1 (rJoin K) ta tb) σ F cs (.str z) cs2 := fun F1 H1 g1 s Q q =>
  ha F1 H1 g1 s _ fun v F2 H2 g2 s2 h2 => ⟨⟨x, h2.toStr⟩, hb F2 H2 (g1.tr g2) s2 _ fun w F3 H3 g3 s3 h3 => by
    obtain ⟨p, vs, rfl, hl, hd⟩ := h3.toLst
    cases hd.strs
    unfold joinM at hz; split at hz
    · rename_i h; cases hz
      refine ⟨x, p, xs, h2.toStr, rfl, .inl (gr_L s3.fr hl), ?_, q _ F3 H3 (g2.tr g3) s3 (.str _)⟩
      rw [Nat.mul_comm xs.length]
      exact Nat.le_trans h (by decide)
    · cases hz⟩
theorem c_lcC {α β : Type} {wi : TI} {g : TG} {tt : TT} {vs : List Nat} {xs : List α} {en : α → PyData} {em : β → PyData} {f : α → Option (Option β)} {ys : List β}
    (hi : EvI K wi σ F cs (xs.map en) cs1) (hm : lcC f xs = some ys)
    (turn : ∀ x o v F1 p us, Gr F F1 → Dt K F1 v (en x) → f x = some o → ∃ σ2 : St, (∀ H (Q : St → Hp → Prop), Sta F1 ((p, .lst us) :: cs1) H → Q σ2 H → g v (wipe σ vs) H Q) ∧ wipe σ2 vs = wipe σ vs ∧
      EvT tt σ2 F1 ((p, .lst us) :: cs1) o.isSome ((p, .lst us) :: cs1) ∧ ∀ y, o = some y → EvD K te σ2 F1 ((p, .lst us) :: cs1) (em y) ((p, .lst us) :: cs1)) :
    EvC K (tLc wi g tt te vs) σ F cs (ys.map em) cs1 := by
  unfold lcC at hm; split at hm
  · rename_i h; exact c_lc hi hm h turn
  · cases hm
theorem c_mapC {α β : Type} {wi : TI} {g : TG} {tt : TT} {vs : List Nat} {xs : List α} {en : α → PyData} {em : β → PyData} {f : α → β} {ys : List β}
    (hi : EvI K wi σ F cs (xs.map en) cs1) (hm : mapC f xs = some ys)
    (turn : ∀ x o v F1 p us, Gr F F1 → Dt K F1 v (en x) → some (some (f x)) = some o → ∃ σ2 : St, (∀ H (Q : St → Hp → Prop), Sta F1 ((p, .lst us) :: cs1) H → Q σ2 H → g v (wipe σ vs) H Q) ∧ wipe σ2 vs = wipe σ vs ∧
      EvT tt σ2 F1 ((p, .lst us) :: cs1) o.isSome ((p, .lst us) :: cs1) ∧ ∀ y, o = some y → EvD K te σ2 F1 ((p, .lst us) :: cs1) (em y) ((p, .lst us) :: cs1)) :
    EvC K (tLc wi g tt te vs) σ F cs (ys.map em) cs1 := by
  unfold mapC at hm; split at hm
  · rename_i h; cases hm; exact c_lc (f := fun x => some (some (f x))) hi (lcM_map f xs) h turn
  · cases hm
theorem c_filC {α β : Type} {wi : TI} {g : TG} {tt : TT} {vs : List Nat} {xs : List α} {en : α → PyData} {em : β → PyData} {p : α → Bool} {f : α → β} {ys : List β}
    (hi : EvI K wi σ F cs (xs.map en) cs1) (hm : filC p f xs = some ys)
    (turn : ∀ x o v F1 p' us, Gr F F1 → Dt K F1 v (en x) → some (if p x = true then some (f x) else none) = some o → ∃ σ2 : St, (∀ H (Q : St → Hp → Prop), Sta F1 ((p', .lst us) :: cs1) H → Q σ2 H → g v (wipe σ vs) H Q) ∧ wipe σ2 vs = wipe σ vs ∧
      EvT tt σ2 F1 ((p', .lst us) :: cs1) o.isSome ((p', .lst us) :: cs1) ∧ ∀ y, o = some y → EvD K te σ2 F1 ((p', .lst us) :: cs1) (em y) ((p', .lst us) :: cs1)) :
    EvC K (tLc wi g tt te vs) σ F cs (ys.map em) cs1 := by
  unfold filC at hm; split at hm
  · rename_i h; cases hm; exact c_lc (f := fun x => some (if p x = true then some (f x) else none)) hi (lcM_filter p f xs) h turn
  · cases hm
theorem nxt (h : nx σ H) : tNext ⟨nx, rt, bk, ct⟩ σ H := h
theorem tg {g : TG} {v : V} {σ' : St} {Q : St → Hp → Prop} (h1 : ∀ Q : St → Hp → Prop, Q σ' H → g v σ H Q) (h2 : Q σ' H) : g v σ H Q := h1 Q h2
theorem s_asg {g : TG} (s : Sta F cs H) (h : EvD K te σ F cs d cs1) (q : ∀ v F2 H2, Gr F F2 → Sta F2 cs1 H2 → Dt K F2 v d → g v σ H2 nx) : tAsg te g ⟨nx, rt, bk, ct⟩ σ H := h F H .rfl s _ q
theorem s_ifJ {c : TT} {b : Bool} (J : St → Hp → Prop) (s : Sta F cs H) (h : EvT c σ F cs b cs1) (rest : ∀ σ' H', J σ' H' → nx σ' H') (qt : (∀ σ' H', J σ' H' → nx σ' H') → b = true → ∀ F2 H2, Gr F F2 → Sta F2 cs1 H2 → t ⟨nx, rt, bk, ct⟩ σ H2)
    (qf : (∀ σ' H', J σ' H' → nx σ' H') → b = false → ∀ F2 H2, Gr F F2 → Sta F2 cs1 H2 → u ⟨nx, rt, bk, ct⟩ σ H2) : tIfS c t u ⟨nx, rt, bk, ct⟩ σ H := s_if s h (qt rest) (qf rest)
theorem s_appF {α : Type} {vf : α → V} {en : α → PyData} {l1 l2 : Cs} {i : Nat} {p : Addr} {xs ys : List α} {x : α} (hw : ∀ F v x, Dt K F v (en x) → v = vf x) (s : Sta F (l1 ++ (p, .lst (xs.map vf)) :: l2) H) (hi : σ[i]? = some (some (.ref p))) (h : EvD K te σ F (l1 ++ (p, .lst (xs.map vf)) :: l2) (en x) (l1 ++ (p, .lst (xs.map vf)) :: l2)) (hm : appM xs x = some ys)
    (q : ∀ F2 H2, Gr F F2 → Sta F2 (l1 ++ (p, .lst (ys.map vf)) :: l2) H2 → nx σ H2) : tDrop (tBM K "list" rAppend (tVar i) (tCons te tNil)) ⟨nx, rt, bk, ct⟩ σ H := by
  obtain ⟨hl, rfl⟩ := appM_some hm
  refine s_app s hi h (by rw [List.length_map]; exact hl) fun v F2 H2 g2 s2 h2 => q F2 H2 g2 ?_
  cases hw F2 v x h2
  rw [List.map_append]; exact s2
theorem s_appG {α : Type} {en : α → PyData} {l1 l2 : Cs} {i : Nat} {p : Addr} {vs : List V} {xs ys : List α} {x : α} (s : Sta F (l1 ++ (p, .lst vs) :: l2) H) (hf : Dts K F vs (xs.map en)) (hi : σ[i]? = some (some (.ref p))) (h : EvD K te σ F (l1 ++ (p, .lst vs) :: l2) (en x) (l1 ++ (p, .lst vs) :: l2)) (hm : appM xs x = some ys)
    (q : ∀ us F2 H2, Gr F F2 → Sta F2 (l1 ++ (p, .lst us) :: l2) H2 → Dts K F2 us (ys.map en) → nx σ H2) : tDrop (tBM K "list" rAppend (tVar i) (tCons te tNil)) ⟨nx, rt, bk, ct⟩ σ H := by
  obtain ⟨hl, rfl⟩ := appM_some hm
  refine s_app s hi h (by rw [hf.len, List.length_map]; exact hl) fun v F2 H2 g2 s2 h2 => q _ F2 H2 g2 s2 ?_
  rw [List.map_append]; exact (hf.gr g2).app (.cons h2 .nil)
theorem s_itemF {α : Type} {vf : α → V} {en : α → PyData} {l1 l2 : Cs} {i : Nat} {p : Addr} {xs ys : List α} {x : α} {ti : TE} {k : Int} (hw : ∀ F v x, Dt K F v (en x) → v = vf x) (s : Sta F (l1 ++ (p, .lst (xs.map vf)) :: l2) H) (hi : σ[i]? = some (some (.ref p))) (h : EvD K te σ F (l1 ++ (p, .lst (xs.map vf)) :: l2) (en x) (l1 ++ (p, .lst (xs.map vf)) :: l2))
    (h2 : EvD K ti σ F (l1 ++ (p, .lst (xs.map vf)) :: l2) (.int k) (l1 ++ (p, .lst (xs.map vf)) :: l2)) (hm : setM xs k x = some ys) (q : ∀ F2 H2, Gr F F2 → Sta F2 (l1 ++ (p, .lst (ys.map vf)) :: l2) H2 → nx σ H2) : tAsg te (gSub (tVar i) ti rSetL) ⟨nx, rt, bk, ct⟩ σ H := by
  obtain ⟨j, hj, rfl⟩ := setM_some hm
  refine s_item (j := j) s hi h h2 (by rw [List.length_map]; exact hj) fun v F2 H2 g2 s2 hv => q F2 H2 g2 ?_
  cases hw F2 v x hv
  rw [List.map_set]; exact s2
theorem s_itemG {α : Type} {en : α → PyData} {l1 l2 : Cs} {i : Nat} {p : Addr} {vs : List V} {xs ys : List α} {x : α} {ti : TE} {k : Int} (s : Sta F (l1 ++ (p, .lst vs) :: l2) H) (hf : Dts K F vs (xs.map en)) (hi : σ[i]? = some (some (.ref p))) (h : EvD K te σ F (l1 ++ (p, .lst vs) :: l2) (en x) (l1 ++ (p, .lst vs) :: l2))
    (h2 : EvD K ti σ F (l1 ++ (p, .lst vs) :: l2) (.int k) (l1 ++ (p, .lst vs) :: l2)) (hm : setM xs k x = some ys) (q : ∀ us F2 H2, Gr F F2 → Sta F2 (l1 ++ (p, .lst us) :: l2) H2 → Dts K F2 us (ys.map en) → nx σ H2) : tAsg te (gSub (tVar i) ti rSetL) ⟨nx, rt, bk, ct⟩ σ H := by
  obtain ⟨j, hj, rfl⟩ := setM_some hm
  refine s_item (j := j) s hi h h2 (by rw [hf.len, List.length_map]; exact hj) fun v F2 H2 g2 s2 hv => q _ F2 H2 g2 s2 ?_
  rw [List.map_set]; exact (hf.gr g2).setAt j hv
end
/-! isinstance -/
def kindD : PyData → String
  | .none => "NoneType"
  | .bool _ => "bool"
  | .int _ => "int"
  | .str _ => "str"
  | .list _ => "list"
  | .tuple _ => "tuple"
  | .dict _ => "dict"
def isiD (c : String) (d : PyData) : Bool := kindD d == c || (kindD d == "bool" && c == "int")
def isiK : List String := ["int", "str", "bool", "list", "tuple", "dict"]
theorem kit_isi {K : PySem.W.Frag} {c : String} (hc : c ∈ isiK) (d : PyData) : PySem.W.kitOne K (.type (kindD d)) (.type c) = some (isiD c d) := by
  have h : ∀ k ∈ ["NoneType", "bool", "int", "str", "list", "tuple", "dict"], ∀ c ∈ isiK, kitB k c = some (k == c || (k == "bool" && c == "int")) := by decide +kernel
  exact kit_ty (h (kindD d) (by cases d <;> simp [kindD]) c hc)
theorem ty_of {K : PySem.W.Frag} {F H : Hp} {v : V} {d : PyData} (g : Gr F H) (h : Dt K F v d) : TyX K H v (.type (kindD d)) := by
  cases h with
  | non => exact .base .non
  | bl b => exact .base (.bl b)
  | int i => exact .base (.int i)
  | str x => exact .base (.str x)
  | lst hl _ =>
    rcases hl with (h | ⟨o, h⟩) | ⟨o, its, n, h1, h2, h3⟩
    · exact .base (.lst (g _ _ h))
    · exact .base (.frz (g _ _ h))
    · exact .kList h1 h2
  | tup ht _ =>
    rcases ht with (h | ⟨o, h⟩) | ⟨o, its, n, h1, h2, h3⟩
    · exact .base (.tup (g _ _ h))
    · exact .fTuple (g _ _ h)
    · exact .kTuple h1 h2
  | dct h => exact .base (.dK (g _ _ h))
theorem d_isiD {K : PySem.W.Frag} {σ : St} {F : Hp} {cs cs1 : Cs} {ta : TE} {d : PyData} {c : String} (hc : c ∈ isiK) (ha : EvD K ta σ F cs d cs1) : EvD K (tCB (rIsi K) (tCons ta (tCons (tC (.ty c)) tNil))) σ F cs (.bool (isiD c d)) cs1 := fun F1 H1 g1 s Q q =>
  ha F1 H1 g1 s _ fun v F2 H2 g2 s2 h2 => ⟨v, .ty c, .type (kindD d), .type c, isiD c d, rfl, .ty c, ty_of s2.fr h2, kit_isi hc d, q _ F2 H2 g2 s2 (.bl _)⟩
/-! a def that keeps its promise -/
def Lk (K : PySem.W.Frag) (f : Addr) (fd : FuncData) : Prop := ∃ oc od sl, K.lookup f = some ⟨oc, od, .func fd, sl⟩
theorem lk_of {K : PySem.W.Frag} {x qual : Str} {params : Arguments} {body : List Stmt} {scope : Scope} {dvs : List V} {kws : List (Str × V)} {f : Addr} {fd : FuncData} (F : FunD K x qual params body scope dvs kws f fd) : Lk K f fd := by
  obtain ⟨oc, od, dV, kV, doc, pm, an, cdv, ct, osl, _, lk, _⟩ := F.ex
  exact ⟨oc, od, osl, lk⟩
theorem Lk.one {K : PySem.W.Frag} {f : Addr} {fd fd2 : FuncData} (a : Lk K f fd) (b : Lk K f fd2) : fd = fd2 := by
  obtain ⟨_, _, _, e1⟩ := a
  obtain ⟨_, _, _, e2⟩ := b
  rw [e1] at e2
  cases e2
  rfl
structure Ok (P : Program) (w : World) (K : PySem.W.Frag) (mg : Str → Option Value) (base : Heap) (k : Nat) (x : Str) (ps : List Str) (sp : Sp) : Prop where
  ex : ∃ fd, FnOk P w K mg base CX0 k (He.ga K x) fd ps sp ∧ Binds K fd ps [] ∧ Lk K (He.ga K x) fd
  kp : PySem.W.keepIn K (.ref (He.ga K x)) = true
  gm : mg x = some (.ref (He.ga K x))
structure Df (K : PySem.W.Frag) (mg : Str → Option Value) (x : Str) (st : Stmt) : Prop where
  ex : ∃ fd, FunD K x x (defArgs st) (defBody st) (defScope st) [] [] (He.ga K x) fd
  gm : mg x = some (.ref (He.ga K x))
end Bw

/-! set(list) for any kind of key: as many members as unlike keys -/
namespace Bw
open PySem PyProof.Rows
def dups {κ : Type} [BEq κ] : List κ → List κ → List κ
  | acc, [] => acc
  | acc, x :: xs => dups (if acc.any (· == x) then acc else acc ++ [x]) xs
section
variable {κ : Type} [DecidableEq κ] [BEq κ] [LawfulBEq κ]
def met (ks : List κ) (i : Nat) : List κ := dups [] (ks.take i)
theorem dups_app (l : List κ) (x : κ) : ∀ acc, dups acc (l ++ [x]) = (if (dups acc l).any (· == x) then dups acc l else dups acc l ++ [x]) := by
  induction l with
  | nil => intro acc; rfl
  | cons y l ih => intro acc; exact ih _
theorem met_succ (ks : List κ) (i : Nat) (x : κ) (h : ks[i]? = some x) : met ks (i + 1) = (if (met ks i).any (· == x) then met ks i else met ks i ++ [x]) := by
  unfold met
  rw [List.take_add_one, h]
  exact dups_app _ _ _
theorem dups_len (l : List κ) : ∀ acc : List κ, (dups acc l).length ≤ acc.length + l.length := by
  induction l with
  | nil => intro acc; exact Nat.le_refl _
  | cons y l ih =>
    intro acc
    have := ih (if acc.any (· == y) then acc else acc ++ [y])
    have h2 : (if acc.any (· == y) then acc else acc ++ [y]).length ≤ acc.length + 1 := by
      split
      · exact Nat.le_succ _
      · rw [List.length_append]; exact Nat.le_refl _
    show (dups (if acc.any (· == y) then acc else acc ++ [y]) l).length ≤ acc.length + (l.length + 1)
    omega
theorem met_len (ks : List κ) (i : Nat) : (met ks i).length ≤ i := by
  have h := dups_len (ks.take i) ([] : List κ)
  have h2 : (ks.take i).length ≤ i := by rw [List.length_take]; exact Nat.min_le_left _ _
  unfold met
  simp only [List.length_nil, Nat.zero_add] at h
  omega
end
section
variable {prog : Program} {w : World} {A : Around} {R : Result → Shared → Prop} {I : Addr} {fp wr : List Addr} {G : Array GenState → Array GenState → Prop} {n : Nat} {P : Nat → Value → Prop} {St : Nat → Shared → Prop}
variable {κ : Type} [DecidableEq κ] [BEq κ] [LawfulBEq κ] (knd : KeyKind prog w κ)
theorem loopK (W : WalksS prog w A.in1 I fp wr G n P St) (S : Addr) (hSf : S ∉ fp) (ks : List κ) (hval : ∀ i v, P i v → ∃ k, ks[i]? = some k ∧ knd.is k v = true ∧ v.scannable = true) (hb : n + 1 < scanBound) :
    ∀ (k i : Nat) (s : Shared), n - i = k → i ≤ n → St i s → s.heap.SetOf knd S (fun z => (met ks i).any (· == z)) (met ks i).length →
      (∀ s', Moved (S :: wr) G s s' → s'.heap.SetOf knd S (fun z => (met ks n).any (· == z)) (met ks n).length → R (.ok (.ret .none)) s') →
      codeAny (model prog w) A (.builtin "set.update.loop" ⟨[.ref S, .ref I], []⟩) R s := by
  have nw : S ∉ wr := fun h => hSf (W.sub _ h)
  have sb : ∀ b ∈ wr, b ∈ S :: wr := fun b hb => List.mem_cons_of_mem _ hb
  intro k
  induction k with
  | zero =>
    intro i s hk hi hst hS hR
    obtain rfl : i = n := by omega
    refine codeAny_builtin F.entry_set_update_loop ?_
    rw [Around.under_plainId F.plain_set_update_loop _]
    show wpAny _ A.in1 (pyNext (.ref I) >>= _) _ _ s
    refine wpAny_bind (W.done s _ _ hst fun s' hm => ?_)
    show wpAny _ A.in1 (ret Value.none) _ _ s'
    refine wpAny_pure (hR s' (hm.mono sb) ?_)
    obtain ⟨o, es, ep, t, ho, rest⟩ := hS
    exact ⟨o, es, ep, t, hm.heap S _ nw ho, rest⟩
  | succ k ih =>
    intro i s hk hi hst hS hR
    have hlt : i < n := by omega
    refine codeAny_builtin F.entry_set_update_loop ?_
    rw [Around.under_plainId F.plain_set_update_loop _]
    show wpAny _ A.in1 (pyNext (.ref I) >>= _) _ _ s
    refine wpAny_bind (W.item i s _ _ hlt hst fun v s' hP hst' hm => ?_)
    obtain ⟨x, hx, his, hsc⟩ := hval i v hP
    have hS' : s'.heap.SetOf knd S (fun z => (met ks i).any (· == z)) (met ks i).length := by
      obtain ⟨o, es, ep, tb, ho, rest⟩ := hS
      exact ⟨o, es, ep, tb, hm.heap S _ nw ho, rest⟩
    show wpAny _ A.in1 (holding [v] (setAdd S v) >>= _) _ _ s'
    refine wpAny_bind (wpAny_holding ?_)
    unfold setAdd
    refine wpAny_holding ?_
    refine wpAny_bind (knd.pyHash (k := x) his ?_)
    refine wpAny_setAddHashed_of (knd := knd) (s := { s' with toks := s'.toks + 1 }) his hsc hS' (by have := met_len ks i; omega) fun h' hsb hS2 => ?_
    have hSi : h'.SetOf knd S (fun z => (met ks (i + 1)).any (· == z)) (met ks (i + 1)).length := by
      refine SetOf_congr hS2 (fun z => ?_) ?_
      · rw [met_succ ks i x hx]
        by_cases q : (met ks i).any (· == x) = true
        · rw [if_pos q]
          by_cases e : z = x
          · subst e; rw [q]; rfl
          · rw [decide_eq_false e, Bool.or_false]
        · rw [if_neg q, List.any_append]
          by_cases e : z = x
          · subst e; simp
          · have hb2 : (x == z) = false := beq_eq_false_iff_ne.mpr fun h' => e h'.symm
            simp [hb2, e]
      · rw [met_succ ks i x hx]
        by_cases q : (met ks i).any (· == x) = true
        · rw [if_pos q, if_pos q]
        · rw [if_neg q, if_neg q, List.length_append]; rfl
    refine wpAny_pure ⟨plainId_quiet F.plain_set_update_loop _, ih (i + 1) _ (by omega) hlt (W.frame _ s' _ _ hst' (Nat.le_succ _) fun b hb o e => ?_) hSi fun s'' hm'' hS'' => ?_⟩
    · rw [hsb.2 b (fun h : b = S => hSf (by rw [← h]; exact hb))]; exact e
    · refine hR s'' (Moved.trans W.gtrans ((hm.mono sb).then_heap (Nat.le_succ _) fun b o hb e => ?_) hm'') hS''
      rw [hsb.2 b (fun h : b = S => hb (by rw [h]; exact List.mem_cons_self))]; exact e
end
end Bw
namespace Bw
open PySem
section
variable {prog : Program} {w : World} {A : Around} {E : Value → Shared → Prop} {s : Shared}
variable {κ : Type} [DecidableEq κ] [BEq κ] [LawfulBEq κ] (knd : KeyKind prog w κ)
abbrev sO (led : Bool) : Obj := { cls := .type "set", dict := none, data := .set #[] 0 (.fresh 0 0 led) }
theorem call_setK {l : Addr} {items : Array Value} {ks : List κ} {Q : Value → Shared → Prop} (hh : A.handled = none) (hl : s.heap.IsList l items)
    (hi : ∀ (i : Nat) (v : Value), items[i]? = some v → ∃ k, ks[i]? = some k ∧ knd.is k v = true ∧ v.scannable = true) (hb : items.size + 1 < scanBound)
    (h : ∀ (h' : Heap) (tk : Nat), h'.SetOf knd s.heap.objs.size (fun z => (met ks items.size).any (· == z)) (met ks items.size).length → (∀ b o, b < s.heap.objs.size → s.heap.get? b = some o → h'.get? b = some o) → Q (.ref s.heap.objs.size) { s with heap := h', toks := tk }) :
    wpAny (model prog w) A (call (.type "set") [.ref l]) Q E s := by
  obtain ⟨c, tl, hmro⟩ := F.called_set.mro
  have hmade := F.called_set.made
  have hsub := F.called_set.sub
  refine wpAny_call (codeAny_of_tree ?_)
  show wpAny _ _ (callAny (.type "set") _) _ _ _
  refine wpAny_pure ⟨Code.quiet_builtin _ (by decide +kernel), codeAny_builtin F.entry_type_call ?_⟩
  rw [Around.under_plain (weight_type_call_type "set" [.ref l] []) rfl]
  have h1 := F.called_set.notType
  have h2 := F.called_set.canCreate
  have hct := F.typeCall_set_1 (.ref l)
  repeat (any_goals (first | assumption | wp_step))
  refine codeAny_mono (code_set_new_1 (.ref l) (E := E) (Q₁ := fun obj s₁ => ∃ led : Bool, obj = .ref s.heap.objs.size ∧ s₁ = { s with heap := s.heap.push (sO led) }) fun led => ⟨led, rfl, rfl⟩) fun r s₁ hr => ?_
  cases r with
  | error e => exact hr
  | ok fl =>
    cases fl with
    | ret obj =>
      obtain ⟨led, rfl, rfl⟩ := hr
      have hS : (s.heap.push (sO led)).get? s.heap.objs.size = some (sO led) := Heap.get?_push_size _ rfl
      have hT : Shared.TypeIs { s with heap := s.heap.push (sO led) } (.ref s.heap.objs.size) "set" := ⟨_, hS, rfl⟩
      have hli := F.called_set.init.lookup
      have hbi := F.called_set.init.bind (.ref s.heap.objs.size)
      repeat (any_goals (first | assumption | wp_step))
      refine codeAny_mono (codeAny_call_builtin (R := wants (fun r s₂ => r = .none ∧ ∃ h' tk, s₂ = { s with heap := h', toks := tk } ∧ h'.SetOf knd s.heap.objs.size (fun z => (met ks items.size).any (· == z)) (met ks items.size).length ∧
          (∀ b o, b < s.heap.objs.size → s.heap.get? b = some o → h'.get? b = some o)) E) F.called_set.init.plain F.entry_set_init (check_set_init_1 hT ?_)) fun r₂ s₂ hr₂ => ?_
      · obtain ⟨ol, hol, hcl, nl, hdl⟩ := hl
        obtain ⟨ocls, odict, odata, oslots⟩ := ol
        simp only at hcl hdl
        subst hcl; subst hdl
        have hol' : (s.heap.push (sO led)).get? l = some { cls := .type "list", dict := odict, data := .seq items nl, slots := oslots } := Heap.get?_push_of_some _ hol
        have hsls := F.sub_list_set
        have hslf := F.sub_list_frozenset
        have hne : (Value.type "list" == Value.type "dict") = false := by decide
        have hl1 : (s.heap.push (sO led)).IsList l items := ⟨_, hol', rfl, nl, rfl⟩
        unfold Builtin.«set.__init__» noKeywords Builtin.Frozenset.updateFrom
        generalize hPI : pyIter = PI
        wp_walk
        subst hPI
        refine wpAny_pyIter_list hl1 ?_
        refine wpAny_bind (wpAny_runValue ?_)
        have hlS : l < s.heap.objs.size := Heap.lt_size hol
        have hneI : l ≠ (s.heap.push (sO led)).objs.size := by
          rw [Heap.size_push]; exact Nat.ne_of_lt (Nat.lt_succ_of_lt hlS)
        have hSf : s.heap.objs.size ∉ [(s.heap.push (sO led)).objs.size, l] := by
          rw [Heap.size_push]; simp only [List.mem_cons, List.not_mem_nil, or_false, not_or]
          exact ⟨Nat.ne_of_lt (Nat.lt_succ_self _), Nat.ne_of_gt hlS⟩
        refine loopK knd ((Walks.list (by simp [hh]) _ l hneI items).toS) s.heap.objs.size hSf ks hi hb (items.size - 0) 0 _ (by omega) (Nat.zero_le _) ⟨⟨_, Heap.get?_push_size _ rfl, rfl, rfl⟩, (hl1.push _)⟩ ?hS0 ?hR
        case hS0 =>
          exact PyProof.Rows.SetOf_congr ((PyProof.Rows.setObjOf_fresh (knd := knd) led).setOf (Heap.get?_push_of_some _ hS) (by unfold scanBound; omega)) (fun _ => rfl) rfl
        case hR =>
          intro s' hm hS'
          obtain ⟨h', g', d', tk', os'⟩ := s'
          have eg : g' = s.gens := hm.gens
          have ed : d' = s.drawn := hm.drawn
          have eo : os' = s.os := hm.os
          subst eg; subst ed; subst eo
          show wpAny _ _ _ _ _ _
          refine wpAny_pure ?_
          show wpAny _ _ (ret Value.none) _ _ _
          refine wpAny_pure ⟨rfl, h', tk', rfl, hS', fun b o hb e => ?_⟩
          refine hm.heap b o ?_ (Heap.get?_push_of_some _ (Heap.get?_push_of_some _ e))
          simp only [List.mem_cons, List.not_mem_nil, or_false, not_or]
          exact ⟨Nat.ne_of_lt hb, by rw [Heap.size_push]; exact Nat.ne_of_lt (Nat.lt_succ_of_lt hb)⟩
      · cases r₂ with
        | error e => exact hr₂
        | ok fl₂ =>
          cases fl₂ with
          | ret r =>
            obtain ⟨rfl, h', tk, rfl, hS', hk'⟩ := hr₂
            repeat (any_goals (first | assumption | wp_step))
            exact h _ _ hS' hk'
          | _ => exact hr₂.elim
    | _ => exact hr.elim
end
end Bw


namespace Bw
open PySem L2
def tLenSetS (K : PySem.W.Frag) (ta : TE) : TE := fun σ H Q => ta σ H fun x H1 => ∃ (l : Addr) (xs : List Str), x = .ref l ∧ SqL K H1 l (xs.map V.str) ∧ xs.length ≤ 4000 ∧ Q (.int (dups [] xs).length) H1
theorem strs_get : ∀ {xs : List Str} {us : List Value} {i : Nat} {v : Value}, Vals (xs.map V.str) us → us[i]? = some v → ∃ k, xs[i]? = some k ∧ ∃ t, v = .str k t
  | [], _, _, _, .nil, e => by simp at e
  | x :: xs, _, 0, v, .cons r t, e => by
    simp at e; subst e
    exact ⟨x, rfl, r⟩
  | x :: xs, _, i + 1, v, .cons r t, e => by
    obtain ⟨k, h1, h2⟩ := strs_get (i := i) (v := v) t (by simpa using e)
    exact ⟨k, by simpa using h1, h2⟩
theorem met_all {κ : Type} [DecidableEq κ] [BEq κ] (ks : List κ) : met ks ks.length = dups [] ks := by unfold met; rw [List.take_length]
theorem pe_lenSetS {X : Cx} {a : Expr} {ta : TE} {p p2 q pos : Pos} (hc : X.calm = true) (hg : Gl X "len") (hm : X.mg "len" = none) (hg2 : Gl X "set") (hm2 : X.mg "set" = none) (ha : PE X a ta)
    (na : starEach [a] X.env = (false, eval a X.env) :: starEach [] X.env := by rfl) : PE X (.Call (.Name "len" p) [.Call (.Name "set" p2) [a] [] q] [] pos) (tLenSetS X.K ta) := by
  refine ⟨fun pins s σ H Q I h => ?_⟩
  refine PyProof.Rows.Call_ (ld_blt I hg hm boot_len ?_)
  refine PyProof.Rows.callWith_builtin1 (PyProof.Rows.args_cons ?_ rfl) rfl rfl
  refine PyProof.Rows.Call_ (ld_blt I hg2 hm2 PyProof.Rows.boot_set ?_)
  refine PyProof.Rows.callWith_type1 (PyProof.Rows.args_cons (thn (ha.run pins s σ H _ I h) fun v s1 ⟨x, H1, I1, r1, q1⟩ => PyProof.Rows.args_nil ?_) na) na rfl
  obtain ⟨l, xs, rfl, hq, h1, q1⟩ := q1
  cases r1
  obtain ⟨its, r, pl, hz⟩ := I1.list hq
  have hl : its.toArray.size = xs.length := by rw [List.size_toArray, ← r.length, List.length_map]
  refine call_setK (PySem.strKind X.prog X.w) (ks := xs) (I1.ok.hd hc) pl.isList (fun i v hv => ?_) (by rw [hl]; unfold scanBound; omega) fun h' tk hS hk => ?_
  · obtain ⟨k, e1, t, e2⟩ := strs_get (i := i) (v := v) r (by simpa using hv)
    subst e2
    exact ⟨k, e1, strKind_is _ _ _ _, rfl⟩
  · refine PyProof.Rows.args_nil ?_
    rw [hl, met_all] at hS
    obtain ⟨o, es, ep, t, ho, hex, hd, _, _, _, hf, hn⟩ := hS
    have I2 : Inv X pins σ H1 { s1 with heap := h', toks := tk } := I1.kept fun b o e => hk b o (Heap.lt_size e) e
    have hlen := dups_len xs ([] : List Str)
    simp only [List.length_nil, Nat.zero_add] at hlen
    exact call_len_set ho hex hd hf (by rw [hn] <;> omega) ⟨.int (dups [] xs).length, H1, I2.tok _, ⟨_, by rw [hn]⟩, q1⟩
def setLenM (xs : List Str) : Option Int := if xs.length ≤ 4000 then some ((dups [] xs).length : Int) else none
abbrev rSrep : R2 := fun x y H Q => ∃ z n, x = .str z ∧ y = .int n ∧ MulOk z n ∧ Q (.str (Txt.mul z n)) H
theorem op_srep {X : Cx} : OpR X (binaryOp .Mult) rSrep := by
  intro pins s σ H x y v u Q I rx ry h
  obtain ⟨i, j, rfl, rfl, hz, q⟩ := h
  obtain ⟨t, rfl⟩ := rx
  obtain ⟨t', rfl⟩ := ry
  exact SB.mul hz fun t' tk => ⟨.str (Txt.mul i j), H, I.tok _, ⟨_, rfl⟩, q⟩
def srepM (x : Str) (n : Int) : Option Str := if -(2 ^ 63) ≤ n ∧ n < 2 ^ 63 ∧ x.length * n.toNat ≤ 100000 then some (Txt.mul x n) else none
theorem mulOk {x : Str} {n : Int} (h : -(2 ^ 63) ≤ n ∧ n < 2 ^ 63 ∧ x.length * n.toNat ≤ 100000) : MulOk x n := by
  obtain ⟨h1, h2, h3⟩ := h
  refine ⟨?_, fun hn hc => ?_, fun hn hc => ?_⟩
  · rw [Bool.or_eq_false_iff]
    exact ⟨decide_eq_false (by omega), decide_eq_false (by omega)⟩
  · intro hgt
    have hx : (x.length : Int) * n ≤ 100000 := by
      have e : ((x.length * n.toNat : Nat) : Int) = (x.length : Int) * n := by
        rw [Int.natCast_mul, Int.toNat_of_nonneg (by omega)]
      omega
    have h5 : (2 ^ 63 - 1 : Int) / n + 1 ≤ x.length := by omega
    have h6 : (2 ^ 63 - 1 : Int) < ((2 ^ 63 - 1 : Int) / n + 1) * n := Int.lt_ediv_add_one_mul_self _ (by omega)
    have h7 : ((2 ^ 63 - 1 : Int) / n + 1) * n ≤ (x.length : Int) * n := Int.mul_le_mul_of_nonneg_right h5 (by omega)
    omega
  · unfold Builtin.Str.tooLong
    simp only [decide_eq_false_iff_not]
    have : (100000 : Nat) ≤ sizeLine := by decide
    omega
section
variable {K : PySem.W.Frag} {σ : St} {F F' : Hp} {cs cs1 cs2 cs3 : Cs} {ta tb tc te : TE} {d e : PyData} {as : TA} {a b c : Int} {nx bk ct : St → Hp → Prop} {rt : VK} {H : Hp} {t u : TS}
theorem d_srep {x z : Str} (ha : EvD K ta σ F cs (.str x) cs1) (hb : EvD K tb σ F cs1 (.int b) cs2) (hz : srepM x b = some z) : EvD K (tOp rSrep ta tb) σ F cs (.str z) cs2 :=
  d_op ha hb fun _ _ F2 H2 hx hy s _ Q q => by
    cases hx.toStr; cases hy.toInt
    unfold srepM at hz; split at hz
    · rename_i h; cases hz; exact ⟨x, b, rfl, rfl, mulOk h, q _ F2 H2 .rfl s (.str _)⟩
    · cases hz
theorem d_setLen {xs : List Str} {n : Int} (ha : EvD K ta σ F cs (eL eS xs) cs1) (hn : setLenM xs = some n) : EvD K (tLenSetS K ta) σ F cs (.int n) cs1 := fun F1 H1 g1 s Q q =>
  ha F1 H1 g1 s _ fun v F2 H2 g2 s2 h2 => by
    obtain ⟨p, vs, rfl, hl, hd⟩ := h2.toLst
    cases hd.strs
    unfold setLenM at hn; split at hn
    · rename_i h; cases hn; exact ⟨p, xs, rfl, gr_L s2.fr hl, h, q _ F2 H2 g2 s2 (.int _)⟩
    · cases hn
/-- list(x), x a cell -/
theorem c_listC {l1 l2 : Cs} {i : Nat} {p : Addr} {us : List V} {ds : List PyData} (hi : σ[i]? = some (some (.ref p))) (hd : Dts K F us ds) : EvC K (tCB (rListS K) (tCons (tVar i) tNil)) σ F (l1 ++ (p, .lst us) :: l2) ds (l1 ++ (p, .lst us) :: l2) := fun F1 H1 g1 s Q q =>
  ⟨.ref p, hi, p, us, rfl, .inl (.inl (.inl s.getAt)), fun l nl => q _ _ _ _ .rfl (s.cell nl) (hd.gr g1)⟩
/-- x = y.pop(k), y a cell -/
def popM {α : Type} (xs : List α) (k : Int) : Option (α × List α) := if -(2 ^ 63) ≤ k ∧ k < 2 ^ 63 then (seqIndex? k xs.length).bind fun j => (xs[j]?).map fun x => (x, xs.eraseIdx j) else none
theorem popM_some {α : Type} {xs ys : List α} {k : Int} {x : α} (h : popM xs k = some (x, ys)) : (-(2 ^ 63) ≤ k ∧ k < 2 ^ 63) ∧ ∃ j, seqIndex? k xs.length = some j ∧ xs[j]? = some x ∧ ys = xs.eraseIdx j := by
  unfold popM at h; split at h
  · rename_i q
    refine ⟨q, ?_⟩
    obtain ⟨j, h1, h⟩ := bnd h
    cases e : xs[j]? with
    | none => rw [e] at h; cases h
    | some z => rw [e] at h; cases h; exact ⟨j, h1, e, rfl⟩
  · cases h
theorem er_map {α β : Type} (f : α → β) : ∀ (xs : List α) (j : Nat), (xs.eraseIdx j).map f = (xs.map f).eraseIdx j
  | [], _ => rfl
  | _ :: _, 0 => rfl
  | x :: xs, j + 1 => by simp only [List.eraseIdx_cons_succ, List.map_cons, er_map f xs j]
theorem s_popF {α : Type} {vf : α → V} {en : α → PyData} {l1 l2 : Cs} {i j : Nat} {p : Addr} {xs ys : List α} {x : α} {ti : TE} {k : Int} {σ' : St} (hd : ∀ F x, Dt K F (vf x) (en x)) (s : Sta F (l1 ++ (p, .lst (xs.map vf)) :: l2) H) (hi : σ[i]? = some (some (.ref p)))
    (h2 : EvD K ti σ F (l1 ++ (p, .lst (xs.map vf)) :: l2) (.int k) (l1 ++ (p, .lst (xs.map vf)) :: l2)) (hm : popM xs k = some (x, ys)) (hσ : σ.set j (some (vf x)) = σ') (q : ∀ F2 H2, Gr F F2 → Sta F2 (l1 ++ (p, .lst (ys.map vf)) :: l2) H2 → nx σ' H2) : tAsg (tBM K "list" rPopAt (tVar i) (tCons ti tNil)) (gName j) ⟨nx, rt, bk, ct⟩ σ H := by
  obtain ⟨⟨a1, a2⟩, m, b1, b2, rfl⟩ := popM_some hm
  refine ⟨.ref p, hi, .inl ⟨rfl, _, .inl (.inl s.getAt)⟩, h2 F H .rfl s _ fun w F3 H3 g3 s3 hw => ⟨p, xs.map vf, k, m, vf x, rfl, by cases hw.toInt; rfl, s3.getAt, a1, a2, by rw [List.length_map]; exact b1, by rw [List.getElem?_map, b2]; rfl, ?_⟩⟩
  show nx (σ.set j (some (vf x))) _
  rw [hσ]
  refine q F3 _ g3 ?_
  have s4 := s3.putAt (o' := .lst ((xs.map vf).eraseIdx m))
  rw [er_map]
  exact s4
/-- y.remove(k), y a cell of ints -/
def remM (xs : List Int) (k : Int) : Option (List Int) := if inL k xs = true then some (xs.erase k) else none
theorem rem_at {xs : List Int} {k : Int} (h : inL k xs = true) : ∃ j, xs[j]? = some k ∧ (∀ m : Nat, m < j → xs[m]? ≠ some k) ∧ xs.eraseIdx j = xs.erase k := by
  induction xs with
  | nil => cases h
  | cons y xs ih =>
    by_cases e : y = k
    · subst e
      exact ⟨0, rfl, fun m hm => absurd hm (Nat.not_lt_zero m), by simp⟩
    · have h' : inL k xs = true := by
        unfold inL at h ⊢
        rw [List.any_cons] at h
        have q : (y == k) = false := by simpa using e
        rw [q, Bool.false_or] at h
        exact h
      obtain ⟨j, h1, h2, h3⟩ := ih h'
      refine ⟨j + 1, by simpa using h1, fun m hm => ?_, ?_⟩
      · cases m with
        | zero => simpa using e
        | succ m => simpa using h2 m (by omega)
      · rw [List.eraseIdx_cons_succ, h3, List.erase_cons_tail]
        simpa using e
theorem s_remF {l1 l2 : Cs} {i : Nat} {p : Addr} {xs ys : List Int} {ti : TE} {k : Int} (s : Sta F (l1 ++ (p, .lst (xs.map V.int)) :: l2) H) (hi : σ[i]? = some (some (.ref p)))
    (h2 : EvD K ti σ F (l1 ++ (p, .lst (xs.map V.int)) :: l2) (.int k) (l1 ++ (p, .lst (xs.map V.int)) :: l2)) (hm : remM xs k = some ys) (q : ∀ F2 H2, Gr F F2 → Sta F2 (l1 ++ (p, .lst (ys.map V.int)) :: l2) H2 → nx σ H2) : tDrop (tBM K "list" rRemI (tVar i) (tCons ti tNil)) ⟨nx, rt, bk, ct⟩ σ H := by
  unfold remM at hm; split at hm
  · rename_i hin
    cases hm
    obtain ⟨j, e1, e2, e3⟩ := rem_at hin
    refine ⟨.ref p, hi, .inl ⟨rfl, _, .inl (.inl s.getAt)⟩, h2 F H .rfl s _ fun w F3 H3 g3 s3 hw => ⟨p, xs, k, j, rfl, by cases hw.toInt; rfl, s3.getAt, e1, e2, q F3 _ g3 ?_⟩⟩
    rw [e3]
    exact s3.putAt
  · cases hm
theorem d_isV {w : V} (hw : ∀ F v, Dt K F v d → v = w) (ha : EvD K ta σ F cs d cs1) : EvD K (tOp rIsN ta (tC .non)) σ F cs (.bool (decide (w = V.non))) cs1 := fun F1 H1 g1 s Q q =>
  ha F1 H1 g1 s _ fun v F2 H2 g2 s2 h2 => ⟨rfl, by cases hw F2 v h2; exact q _ F2 H2 g2 s2 (.bl _)⟩
theorem d_nisV {w : V} (hw : ∀ F v, Dt K F v d → v = w) (ha : EvD K ta σ F cs d cs1) : EvD K (tOp rNotN ta (tC .non)) σ F cs (.bool (!decide (w = V.non))) cs1 := fun F1 H1 g1 s Q q =>
  ha F1 H1 g1 s _ fun v F2 H2 g2 s2 h2 => ⟨rfl, by cases hw F2 v h2; exact q _ F2 H2 g2 s2 (.bl _)⟩
theorem d_isN (ha : EvD K ta σ F cs PyData.none cs1) : EvD K (tOp rIsN ta (tC .non)) σ F cs (.bool true) cs1 := d_isV (fun _ _ h => Dt.toNon h) ha
theorem d_nisN (ha : EvD K ta σ F cs PyData.none cs1) : EvD K (tOp rNotN ta (tC .non)) σ F cs (.bool false) cs1 := d_nisV (fun _ _ h => Dt.toNon h) ha
theorem d_isOI {o : Option Int} (ha : EvD K ta σ F cs (eO eI o) cs1) : EvD K (tOp rIsN ta (tC .non)) σ F cs (.bool o.isNone) cs1 := d_is (d_isV (fun _ _ h => dt_toI h) ha) (by cases o <;> rfl)
theorem d_nisOI {o : Option Int} (ha : EvD K ta σ F cs (eO eI o) cs1) : EvD K (tOp rNotN ta (tC .non)) σ F cs (.bool (!o.isNone)) cs1 := d_is (d_nisV (fun _ _ h => dt_toI h) ha) (by cases o <;> rfl)
end
end Bw
theorem Bw.sta0 {H : L2.Hp} : Bw.Sta H [] H := ⟨fun _ _ e => e, by simp, by simp, by simp⟩

namespace Bw
open PySem L2
/-! expressions that change cells -/
section
variable {K : PySem.W.Frag} {σ : St} {F F' : Hp} {cs cs1 cs2 cs3 : Cs} {ta tb tc te : TE} {d e : PyData} {as : TA} {a b c : Int} {nx bk ct : St → Hp → Prop} {rt : VK} {H : Hp} {t u : TS}
theorem d_lendX {l1 l2 m1 m2 : Cs} {p : Addr} {o : HO} {w : V} (hw : ∀ F v, Dt K F v d → v = w) (hd : ∀ F, Dt K F w d) (h : ∀ F1, Gr F F1 → F1 p = none → EvD K te σ (upd F1 p o) (l1 ++ l2) d (m1 ++ m2)) : EvD K te σ F (l1 ++ (p, o) :: l2) d (m1 ++ (p, o) :: m2) := fun F1 H1 g1 s Q q => by
  refine h F1 g1 s.freeAt (upd F1 p o) H1 .rfl s.frozeAt Q fun v F2 H2 g2 s2 h2 => ?_
  cases hw F2 v h2
  exact q w (cut F2 p) H2 (gr_cut s.freeAt g2) (Sta.lent g2 s2) (hd _)
theorem t_lendX {l1 l2 m1 m2 : Cs} {p : Addr} {o : HO} {t : TT} {b : Bool} (h : ∀ F1, Gr F F1 → F1 p = none → EvT t σ (upd F1 p o) (l1 ++ l2) b (m1 ++ m2)) : EvT t σ F (l1 ++ (p, o) :: l2) b (m1 ++ (p, o) :: m2) := fun F1 H1 g1 s Q q => by
  refine h F1 g1 s.freeAt (upd F1 p o) H1 .rfl s.frozeAt Q fun F2 H2 g2 s2 => ?_
  exact q (cut F2 p) H2 (gr_cut s.freeAt g2) (Sta.lent g2 s2)
/-! functions that change cells -/
inductive Ar where
  | d (x : PyData)
  | c (us : List V)
inductive ArgR (K : PySem.W.Frag) (F : Hp) : List V → List Ar → Cs → Prop
  | nil : ArgR K F [] [] []
  | d {v : V} {x : PyData} {vs : List V} {as : List Ar} {cs : Cs} : Dt K F v x → ArgR K F vs as cs → ArgR K F (v :: vs) (.d x :: as) cs
  | c {p : Addr} {us : List V} {vs : List V} {as : List Ar} {cs : Cs} : ArgR K F vs as cs → ArgR K F (.ref p :: vs) (.c us :: as) ((p, .lst us) :: cs)
theorem ArgR.no {vs : List V} {cs : Cs} (h : ArgR K F vs [] cs) : vs = [] ∧ cs = [] := by cases h; exact ⟨rfl, rfl⟩
theorem ArgR.hd {vs : List V} {x : PyData} {as : List Ar} {cs : Cs} (h : ArgR K F vs (.d x :: as) cs) : ∃ v ws, vs = v :: ws ∧ Dt K F v x ∧ ArgR K F ws as cs := by
  cases h with | d h t => exact ⟨_, _, rfl, h, t⟩
theorem ArgR.hc {vs : List V} {us : List V} {as : List Ar} {cs : Cs} (h : ArgR K F vs (.c us :: as) cs) : ∃ p ws cs', vs = .ref p :: ws ∧ cs = (p, .lst us) :: cs' ∧ ArgR K F ws as cs' := by
  cases h with | c t => exact ⟨_, _, _, rfl, rfl, t⟩
theorem ArgR.len : ∀ {vs : List V} {as : List Ar} {cs : Cs}, ArgR K F vs as cs → vs.length = as.length
  | _, _, _, .nil => rfl
  | _, _, _, .d _ t => by rw [List.length_cons, List.length_cons, t.len]
  | _, _, _, .c t => by rw [List.length_cons, List.length_cons, t.len]
def upC : Cs → List (List V) → Cs
  | c :: cs, us :: uss => (c.1, .lst us) :: upC cs uss
  | _, _ => []
def spC (K : PySem.W.Frag) {α β : Type} (A : α → List Ar) (B : β → PyData) (C : β → List (List V)) (f : α → Option β) : Sp := fun vs H Q _ => ∃ F cc cs x y, ArgR K F vs (A x) cc ∧ Sta F (cc ++ cs) H ∧ f x = some y ∧ ∀ v F2 H2, Gr F F2 → Sta F2 (upC cc (C y) ++ cs) H2 → Dt K F2 v (B y) → Q v H2
def EvR (K : PySem.W.Frag) (ta : TA) (σ : St) (F : Hp) (cs : Cs) (as : List Ar) (cc : Cs) (cs' : Cs) : Prop := EvA ta σ F cs (fun vs F' => ArgR K F' vs as cc) cs'
theorem ArgR.gr (g : Gr F F') : ∀ {vs : List V} {as : List Ar} {cs : Cs}, ArgR K F vs as cs → ArgR K F' vs as cs
  | _, _, _, .nil => .nil
  | _, _, _, .d h t => .d (h.gr g) (t.gr g)
  | _, _, _, .c t => .c (t.gr g)
theorem r_nil : EvR K tNil σ F cs [] [] cs := fun F1 H1 g s Q q => q _ F1 H1 .rfl s .nil
theorem r_d {xs : List Ar} {cc : Cs} (h : EvD K te σ F cs d cs1) (h2 : EvR K as σ F cs1 xs cc cs2) : EvR K (tCons te as) σ F cs (.d d :: xs) cc cs2 := fun F1 H1 g1 s Q q =>
  h F1 H1 g1 s _ fun v F2 H2 g2 s2 hv => h2 F2 H2 (g1.tr g2) s2 _ fun vs F3 H3 g3 s3 hvs => q _ F3 H3 (g2.tr g3) s3 (.d (hv.gr g3) hvs)
theorem r_c {xs : List Ar} {cc : Cs} {i : Nat} {p : Addr} {us : List V} (hi : σ[i]? = some (some (.ref p))) (h2 : EvR K as σ F cs xs cc cs2) : EvR K (tCons (tVar i) as) σ F cs (.c us :: xs) ((p, .lst us) :: cc) cs2 := fun F1 H1 g1 s Q q =>
  ⟨.ref p, hi, h2 F1 H1 g1 s _ fun vs F3 H3 g3 s3 hvs => q _ F3 H3 g3 s3 (.c hvs)⟩
theorem d_callC {α β : Type} {A : α → List Ar} {B : β → PyData} {C : β → List (List V)} {f : α → Option β} {x : α} {y : β} {E : XK} {cc cs' : Cs} (h : EvR K as σ F cs (A x) cc cs1) (hp : cs1.Perm (cc ++ cs')) (hf : f x = some y) (hq : (upC cc (C y) ++ cs').Perm cs2) : EvD K (tCall (spC K A B C f) [] E as) σ F cs (B y) cs2 := fun F1 H1 g1 s Q q =>
  h F1 H1 g1 s _ fun vs F2 H2 g2 s2 h2 => ⟨F2, cc, cs', x, y, by rw [List.append_nil]; exact h2, s2.perm hp, hf, fun v F3 H3 g3 s3 h3 => q v F3 H3 (g2.tr g3) (s3.perm hq) h3⟩
/-! comprehensions whose elements change cells -/
def lcS {S α β : Type} (f : S → α → Option (S × Option β)) : S → List α → Option (S × List β)
  | s, [] => some (s, [])
  | s, x :: xs => (f s x).bind fun p => (lcS f p.1 xs).bind fun q => some (q.1, match p.2 with
    | some y => y :: q.2
    | none => q.2)
def lcSC {S α β : Type} (f : S → α → Option (S × Option β)) (s : S) (xs : List α) : Option (S × List β) := if xs.length ≤ 100000 then lcS f s xs else none
theorem c_lcS {S α β : Type} {wi : TI} {g : TG} {tt : TT} {vs : List Nat} {xs : List α} {en : α → PyData} {em : β → PyData} {f : S → α → Option (S × Option β)} {ys : List β} {s0 s1 : S} (cc : S → Cs)
    (hi : EvI K wi σ F cs (xs.map en) (cc s0)) (hm : lcSC f s0 xs = some (s1, ys))
    (turn : ∀ x z z' o v F1 p us, Gr F F1 → Dt K F1 v (en x) → f z x = some (z', o) → ∃ σ2 : St, (∀ H (Q : St → Hp → Prop), Sta F1 ((p, .lst us) :: cc z) H → Q σ2 H → g v (wipe σ vs) H Q) ∧ wipe σ2 vs = wipe σ vs ∧
      EvT tt σ2 F1 ((p, .lst us) :: cc z) o.isSome ((p, .lst us) :: cc z) ∧ (o = none → z' = z) ∧ ∀ y, o = some y → EvD K te σ2 F1 ((p, .lst us) :: cc z) (em y) ((p, .lst us) :: cc z')) :
    EvC K (tLc wi g tt te vs) σ F cs (ys.map em) (cc s1) := fun F1 H1 g1 s Q q => by
  unfold lcSC at hm
  split at hm
  case isFalse => cases hm
  rename_i hl
  refine hi F1 H1 g1 s _ fun J F2 H2 g2 s2 hs => ?_
  intro p hp
  have s3 : Sta F2 ((p, .lst []) :: cc s0) (upd H2 p (.lst [])) := s2.cell hp
  refine ⟨fun i m H4 => m = xs.length - i ∧ i ≤ xs.length ∧ ∃ us done rest z F4, us.length ≤ i ∧ Gr F2 F4 ∧ Sta F4 ((p, .lst us) :: cc z) H4 ∧ Dts K F4 us (done.map em) ∧ lcS f z (xs.drop i) = some (s1, rest) ∧ done ++ rest = ys,
    ⟨xs.length, by simp, Nat.zero_le _, [], [], ys, s0, F2, Nat.le_refl _, .rfl, s3, .nil, by simpa using hm, rfl⟩, ?_⟩
  rintro i m H4 ⟨rfl, hi, us, done, rest, z, F4, hu, g4, s4, hd, hr, he⟩
  obtain ⟨hgo, hstop, hy⟩ := hs F4 _ H4 g4 s4
  by_cases hlt : i < xs.length
  · rw [List.drop_eq_getElem_cons hlt] at hr
    obtain ⟨⟨z', o⟩, ho, hr⟩ := bnd (show (f z xs[i]).bind _ = some (s1, rest) from hr)
    obtain ⟨⟨s1', zs⟩, hz, hr⟩ := bnd hr
    dsimp only at hz hr
    refine .inr ⟨hgo i (by simpa using hlt), fun H' => i + 1 ≤ xs.length ∧ ∃ us done rest z F4, us.length ≤ i + 1 ∧ Gr F2 F4 ∧ Sta F4 ((p, .lst us) :: cc z) H' ∧ Dts K F4 us (done.map em) ∧ lcS f z (xs.drop (i + 1)) = some (s1, rest) ∧ done ++ rest = ys, fun H' h' => ⟨xs.length - (i + 1), by omega, rfl, h'⟩, fun x H' y => ?_⟩
    obtain ⟨F5, g5, s5, d5⟩ := hy i x H' (en xs[i]) (by rw [List.getElem?_map, List.getElem?_eq_getElem hlt]; rfl) y
    obtain ⟨σ2, h1, h2, h3, hn, h4⟩ := turn xs[i] z z' o x F5 p us (g1.tr (g2.tr (g4.tr g5))) d5 ho
    refine h1 H' _ s5 ⟨h2, h3 F5 H' .rfl s5 _ fun F6 H6 g6 s6 => ?_⟩
    cases o with
    | none =>
      cases hr
      cases hn rfl
      exact ⟨hlt, us, done, zs, z, F6, Nat.le_succ_of_le hu, g4.tr (g5.tr g6), s6, hd.gr (g5.tr g6), hz, he⟩
    | some y1 =>
      cases hr
      refine (h4 y1 rfl) F6 H6 g6 s6 _ fun v F7 H7 g7 s7 hv => ⟨us, s7.at List.mem_cons_self, szl (by omega), hlt, us ++ [v], done ++ [y1], zs, z', F7, by rw [List.length_append]; exact Nat.succ_le_succ hu, g4.tr (g5.tr (g6.tr g7)), s7.put, ?_, hz, ?_⟩
      · rw [List.map_append]
        exact (hd.gr (g5.tr (g6.tr g7))).app (.cons hv .nil)
      · rw [List.append_assoc]; exact he
  · have e : i = xs.length := by omega
    subst e
    rw [List.drop_length] at hr
    cases hr
    rw [List.append_nil] at he
    subst he
    exact .inl ⟨by simpa using hstop, q p us F4 H4 (g2.tr g4) s4 hd⟩
/-! changes of a cell, where the values change other cells -/
theorem s_appX {k1 k2 l1 l2 : Cs} {i : Nat} {p : Addr} {vs : List V} (s : Sta F (k1 ++ (p, .lst vs) :: k2) H) (hi : σ[i]? = some (some (.ref p))) (h : EvD K te σ F (k1 ++ (p, .lst vs) :: k2) d (l1 ++ (p, .lst vs) :: l2)) (hl : vs.length < 100000)
    (q : ∀ v F2 H2, Gr F F2 → Sta F2 (l1 ++ (p, .lst (vs ++ [v])) :: l2) H2 → Dt K F2 v d → nx σ H2) : tDrop (tBM K "list" rAppend (tVar i) (tCons te tNil)) ⟨nx, rt, bk, ct⟩ σ H :=
  ⟨.ref p, hi, .inl ⟨rfl, _, .inl (.inl s.getAt)⟩, h F H .rfl s _ fun v F2 H2 g2 s2 h2 => ⟨p, vs, v, rfl, rfl, s2.getAt, szl hl, q v F2 _ g2 s2.putAt h2⟩⟩
theorem s_appFX {α : Type} {vf : α → V} {en : α → PyData} {k1 k2 l1 l2 : Cs} {i : Nat} {p : Addr} {xs ys : List α} {x : α} (hw : ∀ F v x, Dt K F v (en x) → v = vf x) (s : Sta F (k1 ++ (p, .lst (xs.map vf)) :: k2) H) (hi : σ[i]? = some (some (.ref p))) (h : EvD K te σ F (k1 ++ (p, .lst (xs.map vf)) :: k2) (en x) (l1 ++ (p, .lst (xs.map vf)) :: l2)) (hm : appM xs x = some ys)
    (q : ∀ F2 H2, Gr F F2 → Sta F2 (l1 ++ (p, .lst (ys.map vf)) :: l2) H2 → nx σ H2) : tDrop (tBM K "list" rAppend (tVar i) (tCons te tNil)) ⟨nx, rt, bk, ct⟩ σ H := by
  obtain ⟨hl, rfl⟩ := appM_some hm
  refine s_appX s hi h (by rw [List.length_map]; exact hl) fun v F2 H2 g2 s2 h2 => q F2 H2 g2 ?_
  cases hw F2 v x h2
  rw [List.map_append]; exact s2
theorem s_appGX {α : Type} {en : α → PyData} {k1 k2 l1 l2 : Cs} {i : Nat} {p : Addr} {vs : List V} {xs ys : List α} {x : α} (s : Sta F (k1 ++ (p, .lst vs) :: k2) H) (hf : Dts K F vs (xs.map en)) (hi : σ[i]? = some (some (.ref p))) (h : EvD K te σ F (k1 ++ (p, .lst vs) :: k2) (en x) (l1 ++ (p, .lst vs) :: l2)) (hm : appM xs x = some ys)
    (q : ∀ us F2 H2, Gr F F2 → Sta F2 (l1 ++ (p, .lst us) :: l2) H2 → Dts K F2 us (ys.map en) → nx σ H2) : tDrop (tBM K "list" rAppend (tVar i) (tCons te tNil)) ⟨nx, rt, bk, ct⟩ σ H := by
  obtain ⟨hl, rfl⟩ := appM_some hm
  refine s_appX s hi h (by rw [hf.len, List.length_map]; exact hl) fun v F2 H2 g2 s2 h2 => q _ F2 H2 g2 s2 ?_
  rw [List.map_append]; exact (hf.gr g2).app (.cons h2 .nil)
theorem s_itemX {k1 k2 m1 m2 l1 l2 : Cs} {i : Nat} {p : Addr} {vs : List V} {ti : TE} {k : Int} {j : Nat} (s : Sta F (k1 ++ (p, .lst vs) :: k2) H) (hi : σ[i]? = some (some (.ref p))) (h : EvD K te σ F (k1 ++ (p, .lst vs) :: k2) d (m1 ++ (p, .lst vs) :: m2))
    (h2 : EvD K ti σ F (m1 ++ (p, .lst vs) :: m2) (.int k) (l1 ++ (p, .lst vs) :: l2)) (hj : ixN vs.length k = some j) (q : ∀ v F2 H2, Gr F F2 → Sta F2 (l1 ++ (p, .lst (vs.set j v)) :: l2) H2 → Dt K F2 v d → nx σ H2) : tAsg te (gSub (tVar i) ti rSetL) ⟨nx, rt, bk, ct⟩ σ H :=
  h F H .rfl s _ fun v F2 H2 g2 s2 hv => ⟨.ref p, hi, h2 F2 H2 g2 s2 _ fun w F3 H3 g3 s3 hw => ⟨p, vs, k, j, rfl, hw.toInt, s3.getAt, hj, q v F3 _ (g2.tr g3) s3.putAt (hv.gr g3)⟩⟩
theorem s_itemFX {α : Type} {vf : α → V} {en : α → PyData} {k1 k2 m1 m2 l1 l2 : Cs} {i : Nat} {p : Addr} {xs ys : List α} {x : α} {ti : TE} {k : Int} (hw : ∀ F v x, Dt K F v (en x) → v = vf x) (s : Sta F (k1 ++ (p, .lst (xs.map vf)) :: k2) H) (hi : σ[i]? = some (some (.ref p))) (h : EvD K te σ F (k1 ++ (p, .lst (xs.map vf)) :: k2) (en x) (m1 ++ (p, .lst (xs.map vf)) :: m2))
    (h2 : EvD K ti σ F (m1 ++ (p, .lst (xs.map vf)) :: m2) (.int k) (l1 ++ (p, .lst (xs.map vf)) :: l2)) (hm : setM xs k x = some ys) (q : ∀ F2 H2, Gr F F2 → Sta F2 (l1 ++ (p, .lst (ys.map vf)) :: l2) H2 → nx σ H2) : tAsg te (gSub (tVar i) ti rSetL) ⟨nx, rt, bk, ct⟩ σ H := by
  obtain ⟨j, hj, rfl⟩ := setM_some hm
  refine s_itemX (j := j) s hi h h2 (by rw [List.length_map]; exact hj) fun v F2 H2 g2 s2 hv => q F2 H2 g2 ?_
  cases hw F2 v x hv
  rw [List.map_set]; exact s2
theorem s_itemGX {α : Type} {en : α → PyData} {k1 k2 m1 m2 l1 l2 : Cs} {i : Nat} {p : Addr} {vs : List V} {xs ys : List α} {x : α} {ti : TE} {k : Int} (s : Sta F (k1 ++ (p, .lst vs) :: k2) H) (hf : Dts K F vs (xs.map en)) (hi : σ[i]? = some (some (.ref p))) (h : EvD K te σ F (k1 ++ (p, .lst vs) :: k2) (en x) (m1 ++ (p, .lst vs) :: m2))
    (h2 : EvD K ti σ F (m1 ++ (p, .lst vs) :: m2) (.int k) (l1 ++ (p, .lst vs) :: l2)) (hm : setM xs k x = some ys) (q : ∀ us F2 H2, Gr F F2 → Sta F2 (l1 ++ (p, .lst us) :: l2) H2 → Dts K F2 us (ys.map en) → nx σ H2) : tAsg te (gSub (tVar i) ti rSetL) ⟨nx, rt, bk, ct⟩ σ H := by
  obtain ⟨j, hj, rfl⟩ := setM_some hm
  refine s_itemX (j := j) s hi h h2 (by rw [hf.len, List.length_map]; exact hj) fun v F2 H2 g2 s2 hv => q _ F2 H2 g2 s2 ?_
  rw [List.map_set]; exact (hf.gr g2).setAt j hv
end
end Bw
namespace Bw
open PySem L2
section
variable {K : PySem.W.Frag} {σ : St} {F F' : Hp} {cs cs1 cs2 cs3 : Cs} {ta tb tc te : TE} {d e : PyData} {as : TA} {a b c : Int} {nx bk ct : St → Hp → Prop} {rt : VK} {H : Hp} {t u : TS}
theorem s_augI {i : Nat} {σ' : St} {w b : Int} {f : Int → Int → Int} (hx : σ[i]? = some (some (.int w))) (s : Sta F cs H) (h : EvD K te σ F cs (.int b) cs1) (hσ : σ.set i (some (.int (f w b))) = σ') (q : ∀ F2 H2, Gr F F2 → Sta F2 cs1 H2 → nx σ' H2) : tAug i te (ipI f) ⟨nx, rt, bk, ct⟩ σ H :=
  ⟨.int w, hx, h F H .rfl s _ fun v F2 H2 g2 s2 h2 => ⟨w, b, rfl, h2.toInt, by show nx (σ.set i (some (.int (f w b)))) H2; rw [hσ]; exact q F2 H2 g2 s2⟩⟩
def rGetL (K : PySem.W.Frag) : V → V → Hp → VK → Prop := rIxL K
/-- o[i] op= e, o a cell of ints -/
theorem s_augS {k1 k2 m1 m2 l1 l2 : Cs} {i : Nat} {p : Addr} {xs ys : List Int} {ti : TE} {k w b : Int} {f : Int → Int → Int} (s : Sta F (k1 ++ (p, .lst (xs.map V.int)) :: k2) H) (hi : σ[i]? = some (some (.ref p))) (h1 : EvD K ti σ F (k1 ++ (p, .lst (xs.map V.int)) :: k2) (.int k) (m1 ++ (p, .lst (xs.map V.int)) :: m2)) (hg : atI xs k = some w)
    (h2 : EvD K te σ F (m1 ++ (p, .lst (xs.map V.int)) :: m2) (.int b) (l1 ++ (p, .lst (xs.map V.int)) :: l2)) (hm : setM xs k (f w b) = some ys) (q : ∀ F2 H2, Gr F F2 → Sta F2 (l1 ++ (p, .lst (ys.map V.int)) :: l2) H2 → nx σ H2) : tAugS (tVar i) ti te (rIxL K) (ipI f) rSetL ⟨nx, rt, bk, ct⟩ σ H := by
  obtain ⟨j, hj, rfl⟩ := setM_some hm
  refine ⟨.ref p, hi, h1 F H .rfl s _ fun v F2 H2 g2 s2 hv => ⟨p, xs.map V.int, k, .int w, rfl, hv.toInt, .inl (.inl s2.getAt), by rw [atI_map, hg]; rfl, h2 F2 H2 g2 s2 _ fun y F3 H3 g3 s3 hy => ⟨w, b, rfl, hy.toInt, p, xs.map V.int, k, j, rfl, hv.toInt, s3.getAt, by rw [List.length_map]; exact hj, q F3 _ (g2.tr g3) ?_⟩⟩⟩
  rw [List.map_set]; exact s3.putAt
theorem s_popFX {α : Type} {vf : α → V} {en : α → PyData} {k1 k2 l1 l2 : Cs} {i j : Nat} {p : Addr} {xs ys : List α} {x : α} {ti : TE} {k : Int} {σ' : St} (hd : ∀ F x, Dt K F (vf x) (en x)) (s : Sta F (k1 ++ (p, .lst (xs.map vf)) :: k2) H) (hi : σ[i]? = some (some (.ref p)))
    (h2 : EvD K ti σ F (k1 ++ (p, .lst (xs.map vf)) :: k2) (.int k) (l1 ++ (p, .lst (xs.map vf)) :: l2)) (hm : popM xs k = some (x, ys)) (hσ : σ.set j (some (vf x)) = σ') (q : ∀ F2 H2, Gr F F2 → Sta F2 (l1 ++ (p, .lst (ys.map vf)) :: l2) H2 → nx σ' H2) : tAsg (tBM K "list" rPopAt (tVar i) (tCons ti tNil)) (gName j) ⟨nx, rt, bk, ct⟩ σ H := by
  obtain ⟨⟨a1, a2⟩, m, b1, b2, rfl⟩ := popM_some hm
  refine ⟨.ref p, hi, .inl ⟨rfl, _, .inl (.inl s.getAt)⟩, h2 F H .rfl s _ fun w F3 H3 g3 s3 hw => ⟨p, xs.map vf, k, m, vf x, rfl, by cases hw.toInt; rfl, s3.getAt, a1, a2, by rw [List.length_map]; exact b1, by rw [List.getElem?_map, b2]; rfl, ?_⟩⟩
  show nx (σ.set j (some (vf x))) _
  rw [hσ]
  refine q F3 _ g3 ?_
  have s4 := s3.putAt (o' := .lst ((xs.map vf).eraseIdx m))
  rw [er_map]
  exact s4
theorem s_remFX {k1 k2 l1 l2 : Cs} {i : Nat} {p : Addr} {xs ys : List Int} {ti : TE} {k : Int} (s : Sta F (k1 ++ (p, .lst (xs.map V.int)) :: k2) H) (hi : σ[i]? = some (some (.ref p)))
    (h2 : EvD K ti σ F (k1 ++ (p, .lst (xs.map V.int)) :: k2) (.int k) (l1 ++ (p, .lst (xs.map V.int)) :: l2)) (hm : remM xs k = some ys) (q : ∀ F2 H2, Gr F F2 → Sta F2 (l1 ++ (p, .lst (ys.map V.int)) :: l2) H2 → nx σ H2) : tDrop (tBM K "list" rRemI (tVar i) (tCons ti tNil)) ⟨nx, rt, bk, ct⟩ σ H := by
  unfold remM at hm; split at hm
  · rename_i hin
    cases hm
    obtain ⟨j, e1, e2, e3⟩ := rem_at hin
    refine ⟨.ref p, hi, .inl ⟨rfl, _, .inl (.inl s.getAt)⟩, h2 F H .rfl s _ fun w F3 H3 g3 s3 hw => ⟨p, xs, k, j, rfl, by cases hw.toInt; rfl, s3.getAt, e1, e2, q F3 _ g3 ?_⟩⟩
    rw [e3]
    exact s3.putAt
  · cases hm
/-! f-strings -/
def EvJ (K : PySem.W.Frag) (ts : List TE) (σ : St) (F : Hp) (cs : Cs) (acc out : Str) (cs' : Cs) : Prop :=
  ∀ F1 H1, Gr F F1 → Sta F1 cs H1 → ∀ Q : Str → Hp → Prop, (∀ F2 H2, Gr F1 F2 → Sta F2 cs' H2 → Q out H2) → tJs ts acc σ H1 Q
theorem j_nil {acc : Str} : EvJ K [] σ F cs acc acc cs := fun F1 H1 g s Q q => q F1 H1 .rfl s
theorem j_cons {acc x y out : Str} {ts : List TE} (h : EvD K te σ F cs (.str x) cs1) (hy : scatM acc x = some y) (h2 : EvJ K ts σ F cs1 y out cs2) : EvJ K (te :: ts) σ F cs acc out cs2 := fun F1 H1 g1 s Q q =>
  h F1 H1 g1 s _ fun v F2 H2 g2 s2 hv => by
    obtain ⟨hl, rfl⟩ := scatM_some hy
    refine ⟨x, hv.toStr, ?_, h2 F2 H2 (g1.tr g2) s2 Q fun F3 H3 g3 s3 => q F3 H3 (g2.tr g3) s3⟩
    rw [TL.len_tl, TL.tl_append, List.length_append, ← TL.len_tl, ← TL.len_tl]
    exact sz hl
theorem d_fstr {ts : List TE} {out : Str} (h : EvJ K ts σ F cs Str.empty out cs1) : EvD K (fun σ H Q => tJs ts Str.empty σ H fun out H1 => Q (.str out) H1) σ F cs (.str out) cs1 := fun F1 H1 g1 s Q q =>
  h F1 H1 g1 s _ fun F2 H2 g2 s2 => q _ F2 H2 g2 s2 (.str _)
theorem d_fmtS {x : Str} (h : EvD K te σ F cs (.str x) cs1) (hl : lenS x = some a) : EvD K (tFmt te) σ F cs (.str x) cs1 := fun F1 H1 g1 s Q q =>
  h F1 H1 g1 s _ fun v F2 H2 g2 s2 hv => .inl ⟨x, hv.toStr, sz (lenS_some hl).1, q _ F2 H2 g2 s2 (.str _)⟩
theorem d_fmtI {x : Str} (h : EvD K te σ F cs (.int a) cs1) (hn : strM a = some x) : EvD K (tFmt te) σ F cs (.str x) cs1 := fun F1 H1 g1 s Q q =>
  h F1 H1 g1 s _ fun v F2 H2 g2 s2 hv => by
    obtain ⟨h1, rfl⟩ := strM_some hn
    exact .inr ⟨a, hv.toInt, h1, q _ F2 H2 g2 s2 (.str _)⟩
end
end Bw
namespace Bw
open PySem L2
theorem get_list {X : Cx} : PGet X (rIxL X.K) := by
  intro pins s σ H x y v u Q I rx ry h
  obtain ⟨p, xs, i, z, rfl, rfl, hq, he, q⟩ := h
  cases rx
  obtain ⟨t, rfl⟩ := ry
  obtain ⟨its, r, pl, hz⟩ := I.list hq
  obtain ⟨j, h1, h2, h3, h4, h5⟩ := atI_get he
  obtain ⟨w, ew, rw'⟩ := r.get h2
  have hl := r.length
  have hn := line63
  have fin : EP X pins σ Q w s := ⟨z, H, I, rw', q⟩
  by_cases h0 : 0 ≤ i
  · have hj : i.toNat = j := by
      rw [seqIndex_of h0 h5] at h1
      exact Option.some.inj h1
    exact wpAny_getItem_list pl.isList h0 (by omega) (by rw [hj]; simpa using ew) fin
  · have hj : (i + (its.toArray.size : Int)).toNat = j := by
      rw [seqIndex_neg (by omega) h4] at h1
      rw [List.size_toArray, ← hl]
      exact Option.some.inj h1
    exact wpAny_getItem_list_neg pl.isList (by omega) (by rw [List.size_toArray] <;> omega) (by omega) (by rw [hj]; simpa using ew) fin
end Bw
namespace Bw
open PySem L2
section
variable {K : PySem.W.Frag} {σ : St} {F F' : Hp} {cs cs1 cs2 cs3 : Cs} {ta tb tc te : TE} {d e : PyData} {as : TA} {a b c : Int} {nx bk ct : St → Hp → Prop} {rt : VK} {H : Hp} {t u : TS}
/-! what keeps the state true: another order, fewer cells -/
def Sb (c c' : Cs) : Prop := ∀ F H, Sta F c H → Sta F c' H
theorem sb_rfl : Sb cs cs := fun _ _ s => s
theorem sb_perm (p : cs.Perm cs1) : Sb cs cs1 := fun _ _ s => s.perm p
theorem sb_drop {c : Addr × HO} : Sb (c :: cs) cs := fun F H s => ⟨s.fr, fun p hp => s.sep p (List.mem_cons_of_mem _ hp), fun p hp => s.has p (List.mem_cons_of_mem _ hp), by have := s.nd; rw [List.map_cons, List.nodup_cons] at this; exact this.2⟩
theorem Sb.tr (h : Sb cs cs1) (k : Sb cs1 cs2) : Sb cs cs2 := fun F H s => k F H (h F H s)
/-- a function that changes cells, and tells data -/
theorem d_callX {α β : Type} {A : α → List Ar} {B : β → PyData} {C : β → List (List V)} {f : α → Option β} {x : α} {y : β} {E : XK} {cc cs' : Cs} (h : EvR K as σ F cs (A x) cc cs1) (hp : Sb cs1 (cc ++ cs')) (hf : f x = some y) (hq : Sb (upC cc (C y) ++ cs') cs2) : EvD K (tCall (spC K A B C f) [] E as) σ F cs (B y) cs2 := fun F1 H1 g1 s Q q =>
  h F1 H1 g1 s _ fun vs F2 H2 g2 s2 h2 => ⟨F2, cc, cs', x, y, by rw [List.append_nil]; exact h2, hp _ _ s2, hf, fun v F3 H3 g3 s3 h3 => q v F3 H3 (g2.tr g3) (hq _ _ s3) h3⟩
/-- .. that tells a new list -/
def spF (K : PySem.W.Frag) {α β : Type} (A : α → List Ar) (B : β → List PyData) (C : β → List (List V)) (f : α → Option β) : Sp := fun vs H Q _ => ∃ F cc cs x y, ArgR K F vs (A x) cc ∧ Sta F (cc ++ cs) H ∧ f x = some y ∧ ∀ p us F2 H2, Gr F F2 → Sta F2 ((p, .lst us) :: (upC cc (C y) ++ cs)) H2 → Dts K F2 us (B y) → Q (.ref p) H2
theorem c_callX {α β : Type} {A : α → List Ar} {B : β → List PyData} {C : β → List (List V)} {f : α → Option β} {x : α} {y : β} {E : XK} {cc cs' : Cs} (h : EvR K as σ F cs (A x) cc cs1) (hp : Sb cs1 (cc ++ cs')) (hf : f x = some y) (hq : ∀ z, Sb (z :: (upC cc (C y) ++ cs')) (z :: cs2)) : EvC K (tCall (spF K A B C f) [] E as) σ F cs (B y) cs2 := fun F1 H1 g1 s Q q =>
  h F1 H1 g1 s _ fun vs F2 H2 g2 s2 h2 => ⟨F2, cc, cs', x, y, by rw [List.append_nil]; exact h2, hp _ _ s2, hf, fun p us F3 H3 g3 s3 h3 => q p us F3 H3 (g2.tr g3) (hq _ _ _ s3) h3⟩
/-- an argument that is a new list of flat things -/
theorem r_n {xs : List Ar} {cc : Cs} {ds : List PyData} {us : List V} (h : EvC K te σ F cs ds cs1) (hu : ∀ F vs, Dts K F vs ds → vs = us) (h2 : ∀ p, EvR K as σ F ((p, .lst us) :: cs1) xs cc cs2) : True := trivial
theorem s_retC {ds : List PyData} (s : Sta F cs H) (h : EvC K te σ F cs ds cs1) (q : ∀ p us F2 H2, Gr F F2 → Sta F2 ((p, .lst us) :: cs1) H2 → Dts K F2 us ds → rt (.ref p) H2) : tRet te ⟨nx, rt, bk, ct⟩ σ H := h F H .rfl s _ q
theorem s_retV {i : Nat} {v : V} (hi : σ[i]? = some (some v)) (q : rt v H) : tRet (tVar i) ⟨nx, rt, bk, ct⟩ σ H := ⟨v, hi, q⟩
def fuel : Nat := 100000000
end
end Bw
namespace Bw
open PySem L2
section
variable {K : PySem.W.Frag} {σ : St} {F F' : Hp} {cs cs1 cs2 cs3 : Cs} {ta tb tc te : TE} {d e : PyData} {as : TA}
/-- the first argument is a new list of flat things, which nobody keeps -/
theorem d_callN {α β : Type} {A : α → List Ar} {B : β → PyData} {C : β → List (List V)} {f : α → Option β} {x : α} {y : β} {E : XK} {cc cs' : Cs} {ds : List PyData} {us : List V} {xs : List Ar} (h : EvC K te σ F cs ds cs1) (hu : ∀ F vs, Dts K F vs ds → vs = us) (hA : A x = .c us :: xs) (h2 : ∀ p, EvR K as σ F ((p, .lst us) :: cs1) xs cc ((p, .lst us) :: cs2))
    (hp : ∀ p, Sb ((p, .lst us) :: cs2) ((p, .lst us) :: cc ++ cs')) (hf : f x = some y) (hq : ∀ p, Sb (upC ((p, .lst us) :: cc) (C y) ++ cs') cs3) : EvD K (tCall (spC K A B C f) [] E (tCons te as)) σ F cs (B y) cs3 := fun F1 H1 g1 s Q q =>
  h F1 H1 g1 s _ fun p vs F2 H2 g2 s2 hv => by
    cases hu F2 vs hv
    refine h2 p F2 H2 (g1.tr g2) s2 _ fun ws F3 H3 g3 s3 h3 => ⟨F3, (p, .lst us) :: cc, cs', x, y, by rw [List.append_nil, hA]; exact .c h3, hp p _ _ s3, hf, fun v F4 H4 g4 s4 h4 => q v F4 H4 ((g2.tr g3).tr g4) (hq p _ _ s4) h4⟩
theorem c_callN {α β : Type} {A : α → List Ar} {B : β → List PyData} {C : β → List (List V)} {f : α → Option β} {x : α} {y : β} {E : XK} {cc cs' : Cs} {ds : List PyData} {us : List V} {xs : List Ar} (h : EvC K te σ F cs ds cs1) (hu : ∀ F vs, Dts K F vs ds → vs = us) (hA : A x = .c us :: xs) (h2 : ∀ p, EvR K as σ F ((p, .lst us) :: cs1) xs cc ((p, .lst us) :: cs2))
    (hp : ∀ p, Sb ((p, .lst us) :: cs2) ((p, .lst us) :: cc ++ cs')) (hf : f x = some y) (hq : ∀ p z, Sb (z :: (upC ((p, .lst us) :: cc) (C y) ++ cs')) (z :: cs3)) : EvC K (tCall (spF K A B C f) [] E (tCons te as)) σ F cs (B y) cs3 := fun F1 H1 g1 s Q q =>
  h F1 H1 g1 s _ fun p vs F2 H2 g2 s2 hv => by
    cases hu F2 vs hv
    refine h2 p F2 H2 (g1.tr g2) s2 _ fun ws F3 H3 g3 s3 h3 => ⟨F3, (p, .lst us) :: cc, cs', x, y, by rw [List.append_nil, hA]; exact .c h3, hp p _ _ s3, hf, fun p' us' F4 H4 g4 s4 h4 => q p' us' F4 H4 ((g2.tr g3).tr g4) (hq p _ _ _ s4) h4⟩
end
end Bw

namespace Bw
open PySem L2
section
variable {K : PySem.W.Frag} {σ : St} {F F' : Hp} {cs cs1 cs2 cs3 : Cs} {ta tb tc te : TE} {d e : PyData} {as : TA} {a b c : Int} {nx bk ct : St → Hp → Prop} {rt : VK} {H : Hp} {t u : TS}
/-- a cell lent for a new list of flat things -/
theorem c_lendX {l1 l2 m1 m2 : Cs} {p : Addr} {o : HO} {ds : List PyData} {ws : List V} (hw : ∀ F vs, Dts K F vs ds → vs = ws) (hd : ∀ F, Dts K F ws ds) (h : ∀ F1, Gr F F1 → F1 p = none → EvC K te σ (upd F1 p o) (l1 ++ l2) ds (m1 ++ m2)) : EvC K te σ F (l1 ++ (p, o) :: l2) ds (m1 ++ (p, o) :: m2) := fun F1 H1 g1 s Q q => by
  refine h F1 g1 s.freeAt (upd F1 p o) H1 .rfl s.frozeAt Q fun p' vs F2 H2 g2 s2 h2 => ?_
  cases hw F2 vs h2
  exact q p' ws (cut F2 p) H2 (gr_cut s.freeAt g2) (Sta.lent (l1 := (p', .lst ws) :: m1) g2 s2) (hd _)
/-- xs.count(k) -/
theorem d_cntI {xs : List Int} (ha : EvD K ta σ F cs (eL eI xs) cs1) (hb : EvD K tb σ F cs1 (.int b) cs2) : EvD K (tBM K "list" (rCntI K) ta (tCons tb tNil)) σ F cs (.int ((xs.count b : Nat) : Int)) cs2 := fun F1 H1 g1 s Q q =>
  ha F1 H1 g1 s _ fun v F2 H2 g2 s2 h2 => by
    obtain ⟨p, vs, rfl, hl, hd⟩ := h2.toLst
    cases hd.ints
    exact ⟨.inl ⟨rfl, _, gr_L s2.fr hl⟩, hb F2 H2 (g1.tr g2) s2 _ fun w F3 H3 g3 s3 h3 => ⟨p, xs, b, rfl, by rw [h3.toInt], gr_L s3.fr (gr_L g3 hl), q _ F3 H3 (g2.tr g3) s3 (.int _)⟩⟩
/-- y.extend(new list) -/
theorem s_ext {k1 k2 l1 l2 : Cs} {i : Nat} {p : Addr} {vs : List V} {ds : List PyData} (s : Sta F (k1 ++ (p, .lst vs) :: k2) H) (hi : σ[i]? = some (some (.ref p))) (h : EvC K te σ F (k1 ++ (p, .lst vs) :: k2) ds (l1 ++ (p, .lst vs) :: l2)) (hl : vs.length + ds.length ≤ 100000)
    (q : ∀ us F2 H2, Gr F F2 → Sta F2 (l1 ++ (p, .lst (vs ++ us)) :: l2) H2 → Dts K F2 us ds → nx σ H2) : tDrop (tBM K "list" rExtend (tVar i) (tCons te tNil)) ⟨nx, rt, bk, ct⟩ σ H :=
  ⟨.ref p, hi, .inl ⟨rfl, _, .inl (.inl s.getAt)⟩, h F H .rfl s _ fun b us F2 H2 g2 s2 h2 => ⟨p, b, vs, us, rfl, rfl, Sta.getAt (l1 := (b, .lst us) :: l1) s2, s2.at List.mem_cons_self, by rw [h2.len]; exact sz hl, q us _ _ (g2.tr s2.gfr) s2.froze.putAt (h2.gr s2.gfr)⟩⟩
theorem s_extFX {α : Type} {vf : α → V} {en : α → PyData} {k1 k2 l1 l2 : Cs} {i : Nat} {p : Addr} {xs ys zs : List α} (hw : ∀ F vs (ys : List α), Dts K F vs (ys.map en) → vs = ys.map vf) (s : Sta F (k1 ++ (p, .lst (xs.map vf)) :: k2) H) (hi : σ[i]? = some (some (.ref p))) (h : EvC K te σ F (k1 ++ (p, .lst (xs.map vf)) :: k2) (ys.map en) (l1 ++ (p, .lst (xs.map vf)) :: l2)) (hm : catM xs ys = some zs)
    (q : ∀ F2 H2, Gr F F2 → Sta F2 (l1 ++ (p, .lst (zs.map vf)) :: l2) H2 → nx σ H2) : tDrop (tBM K "list" rExtend (tVar i) (tCons te tNil)) ⟨nx, rt, bk, ct⟩ σ H := by
  obtain ⟨hl, rfl⟩ := catM_some hm
  refine s_ext s hi h (by rw [List.length_map, List.length_map]; exact hl) fun us F2 H2 g2 s2 h2 => q F2 H2 g2 ?_
  cases hw F2 us ys h2
  rw [List.map_append]; exact s2
theorem s_extGX {α : Type} {en : α → PyData} {k1 k2 l1 l2 : Cs} {i : Nat} {p : Addr} {vs : List V} {xs ys zs : List α} (s : Sta F (k1 ++ (p, .lst vs) :: k2) H) (hf : Dts K F vs (xs.map en)) (hi : σ[i]? = some (some (.ref p))) (h : EvC K te σ F (k1 ++ (p, .lst vs) :: k2) (ys.map en) (l1 ++ (p, .lst vs) :: l2)) (hm : catM xs ys = some zs)
    (q : ∀ us F2 H2, Gr F F2 → Sta F2 (l1 ++ (p, .lst us) :: l2) H2 → Dts K F2 us (zs.map en) → nx σ H2) : tDrop (tBM K "list" rExtend (tVar i) (tCons te tNil)) ⟨nx, rt, bk, ct⟩ σ H := by
  obtain ⟨hl, rfl⟩ := catM_some hm
  refine s_ext s hi h (by rw [hf.len, List.length_map, List.length_map]; exact hl) fun us F2 H2 g2 s2 h2 => q _ F2 H2 g2 s2 ?_
  rw [List.map_append]; exact (hf.gr g2).app h2
/-- y.clear() -/
theorem s_clr {l1 l2 : Cs} {i : Nat} {p : Addr} {vs : List V} (s : Sta F (l1 ++ (p, .lst vs) :: l2) H) (hi : σ[i]? = some (some (.ref p))) (q : Sta F (l1 ++ (p, .lst []) :: l2) (upd H p (.lst [])) → nx σ (upd H p (.lst []))) : tDrop (tBM0 K "list" rClear (tVar i)) ⟨nx, rt, bk, ct⟩ σ H :=
  ⟨.ref p, hi, .inl ⟨rfl, _, .inl (.inl s.getAt)⟩, p, vs, rfl, rfl, s.getAt, q s.putAt⟩
end
end Bw

namespace Bw
open PySem L2
/-! things of any kind: casts -/
def Ck {α : Type} (e : α → PyData) (c : PyData → Option α) : Prop := ∀ d x, c d = some x → d = e x
def asI : PyData → Option Int
  | .int i => some i
  | _ => none
def asB : PyData → Option Bool
  | .bool b => some b
  | _ => none
def asS : PyData → Option Str
  | .str x => some x
  | _ => none
def asN : PyData → Option Unit
  | .none => some ()
  | _ => none
def asAll {α : Type} (c : PyData → Option α) : List PyData → Option (List α)
  | [] => some []
  | d :: ds => (c d).bind fun x => (asAll c ds).bind fun xs => some (x :: xs)
def asL {α : Type} (c : PyData → Option α) : PyData → Option (List α)
  | .list ds => asAll c ds
  | _ => none
def asD (d : PyData) : Option PyData := some d
def asLD : PyData → Option (List PyData)
  | .list ds => some ds
  | _ => none
def asTD : PyData → Option (List PyData)
  | .tuple ds => some ds
  | _ => none
def asT2 {α β : Type} (c : PyData → Option α) (c' : PyData → Option β) : PyData → Option (α × β)
  | .tuple [a, b] => (c a).bind fun x => (c' b).bind fun y => some (x, y)
  | _ => none
def asT3 {α β γ : Type} (c : PyData → Option α) (c' : PyData → Option β) (c'' : PyData → Option γ) : PyData → Option (α × β × γ)
  | .tuple [a, b, d] => (c a).bind fun x => (c' b).bind fun y => (c'' d).bind fun z => some (x, y, z)
  | _ => none
def asT4 {α β γ δ : Type} (c : PyData → Option α) (c' : PyData → Option β) (c'' : PyData → Option γ) (c3 : PyData → Option δ) : PyData → Option (α × β × γ × δ)
  | .tuple [a, b, d, e] => (c a).bind fun x => (c' b).bind fun y => (c'' d).bind fun z => (c3 e).bind fun w => some (x, y, z, w)
  | _ => none
def asO {α : Type} (c : PyData → Option α) : PyData → Option (Option α)
  | .none => some none
  | d => (c d).bind fun x => some (some x)
theorem ck_D : Ck eD asD := fun d x h => by cases h; rfl
theorem ck_I : Ck eI asI := fun d x h => by cases d <;> first | (cases h; rfl) | cases h
theorem ck_B : Ck eB asB := fun d x h => by cases d <;> first | (cases h; rfl) | cases h
theorem ck_S : Ck eS asS := fun d x h => by cases d <;> first | (cases h; rfl) | cases h
theorem ck_N : Ck eN asN := fun d x h => by cases d <;> first | (cases h; rfl) | cases h
theorem ck_all {α : Type} {e : α → PyData} {c : PyData → Option α} (k : Ck e c) : ∀ {ds : List PyData} {xs : List α}, asAll c ds = some xs → ds = xs.map e
  | [], xs, h => by cases h; rfl
  | d :: ds, xs, h => by
    obtain ⟨x, h1, h⟩ := bnd h
    obtain ⟨ys, h2, h⟩ := bnd h
    cases h
    rw [k d x h1, ck_all k h2]; rfl
theorem ck_L {α : Type} {e : α → PyData} {c : PyData → Option α} (k : Ck e c) : Ck (eL e) (asL c) := fun d x h => by
  cases d with
  | list ds => exact congrArg PyData.list (ck_all k (show asAll c ds = some x from h))
  | _ => cases h
theorem ck_LD : Ck (eL eD) asLD := fun d x h => by
  cases d with
  | list ds =>
    cases h
    exact congrArg PyData.list (List.map_id' x).symm
  | _ => cases h
theorem ck_TD {d : PyData} {x : List PyData} (h : asTD d = some x) : d = .tuple x := by
  cases d with
  | tuple ds => cases h; rfl
  | _ => cases h
theorem ck_T2 {α β : Type} {e : α → PyData} {c : PyData → Option α} {e' : β → PyData} {c' : PyData → Option β} (k : Ck e c) (k' : Ck e' c') : Ck (eT2 e e') (asT2 c c') := fun d x h => by
  unfold asT2 at h
  split at h
  · obtain ⟨y, h1, h⟩ := bnd h
    obtain ⟨z, h2, h⟩ := bnd h
    cases h
    rw [k _ _ h1, k' _ _ h2]
  · cases h
theorem ck_T3 {α β γ : Type} {e : α → PyData} {c : PyData → Option α} {e' : β → PyData} {c' : PyData → Option β} {e2 : γ → PyData} {c2 : PyData → Option γ} (k : Ck e c) (k' : Ck e' c') (k2 : Ck e2 c2) : Ck (eT3 e e' e2) (asT3 c c' c2) := fun d x h => by
  unfold asT3 at h
  split at h
  · obtain ⟨y, h1, h⟩ := bnd h
    obtain ⟨z, h2, h⟩ := bnd h
    obtain ⟨z', h3, h⟩ := bnd h
    cases h
    rw [k _ _ h1, k' _ _ h2, k2 _ _ h3]
  · cases h
theorem ck_T4 {α β γ δ : Type} {e : α → PyData} {c : PyData → Option α} {e' : β → PyData} {c' : PyData → Option β} {e2 : γ → PyData} {c2 : PyData → Option γ} {e3 : δ → PyData} {c3 : PyData → Option δ} (k : Ck e c) (k' : Ck e' c') (k2 : Ck e2 c2) (k3 : Ck e3 c3) : Ck (eT4 e e' e2 e3) (asT4 c c' c2 c3) := fun d x h => by
  unfold asT4 at h
  split at h
  · obtain ⟨y, h1, h⟩ := bnd h
    obtain ⟨z, h2, h⟩ := bnd h
    obtain ⟨z', h3, h⟩ := bnd h
    obtain ⟨z2, h4, h⟩ := bnd h
    cases h
    rw [k _ _ h1, k' _ _ h2, k2 _ _ h3, k3 _ _ h4]
  · cases h
theorem ck_O {α : Type} {e : α → PyData} {c : PyData → Option α} (k : Ck e c) : Ck (eO e) (asO c) := fun d x h => by
  unfold asO at h
  split at h
  · cases h; rfl
  · obtain ⟨y, h1, h⟩ := bnd h
    cases h
    exact k _ _ h1
/-! .. and the other way -/
def Cv {α β : Type} (e : α → PyData) (e' : β → PyData) (g : α → β) : Prop := ∀ x, e x = e' (g x)
theorem cv_id {α : Type} {e : α → PyData} : Cv e e (fun x => x) := fun _ => rfl
theorem cv_D {α : Type} {e : α → PyData} : Cv e eD e := fun _ => rfl
theorem cv_some {α β : Type} {e : α → PyData} {e' : β → PyData} {g : α → β} (h : Cv e e' g) : Cv e (eO e') (fun x => some (g x)) := fun x => h x
theorem cv_none {β : Type} {e' : β → PyData} : Cv eN (eO e') (fun _ => (none : Option β)) := fun _ => rfl
theorem cv_O {α β : Type} {e : α → PyData} {e' : β → PyData} {g : α → β} (h : Cv e e' g) : Cv (eO e) (eO e') (fun x => x.map g) := fun x => by cases x with
  | none => rfl
  | some y => exact h y
theorem cv_OD {α : Type} {e : α → PyData} : Cv (eO e) eD (eO e) := fun _ => rfl
theorem cv_L {α β : Type} {e : α → PyData} {e' : β → PyData} {g : α → β} (h : Cv e e' g) : Cv (eL e) (eL e') (fun xs => xs.map g) := fun xs => by
  show PyData.list _ = PyData.list _
  rw [List.map_map]
  exact congrArg PyData.list (List.map_congr_left fun x _ => h x)
theorem cv_T2 {α α' β β' : Type} {e : α → PyData} {e' : α' → PyData} {g : α → α'} {f : β → PyData} {f' : β' → PyData} {k : β → β'} (h : Cv e e' g) (h' : Cv f f' k) : Cv (eT2 e f) (eT2 e' f') (fun x => (g x.1, k x.2)) := fun x => by
  show PyData.tuple _ = PyData.tuple _
  rw [h, h']
theorem cv_T3 {α α' β β' γ γ' : Type} {e : α → PyData} {e' : α' → PyData} {g : α → α'} {f : β → PyData} {f' : β' → PyData} {k : β → β'} {i : γ → PyData} {i' : γ' → PyData} {m : γ → γ'} (h : Cv e e' g) (h' : Cv f f' k) (h2 : Cv i i' m) : Cv (eT3 e f i) (eT3 e' f' i') (fun x => (g x.1, k x.2.1, m x.2.2)) := fun x => by
  show PyData.tuple _ = PyData.tuple _
  rw [h, h', h2]
theorem cv_T4 {α α' β β' γ γ' δ δ' : Type} {e : α → PyData} {e' : α' → PyData} {g : α → α'} {f : β → PyData} {f' : β' → PyData} {k : β → β'} {i : γ → PyData} {i' : γ' → PyData} {m : γ → γ'} {u : δ → PyData} {u' : δ' → PyData} {w : δ → δ'} (h : Cv e e' g) (h' : Cv f f' k) (h2 : Cv i i' m) (h3 : Cv u u' w) : Cv (eT4 e f i u) (eT4 e' f' i' u') (fun x => (g x.1, k x.2.1, m x.2.2.1, w x.2.2.2)) := fun x => by
  show PyData.tuple _ = PyData.tuple _
  rw [h, h', h2, h3]
/-! what is asked of things of any kind -/
def ixD : PyData → Int → Option PyData
  | .list ds, i => atI ds i
  | .tuple ds, i => atI ds i
  | .str x, i => (ixS x i).map PyData.str
  | _, _ => none
def lenD : PyData → Option Int
  | .list ds => some ds.length
  | .tuple ds => some ds.length
  | .str x => lenS x
  | _ => none
abbrev rLenG (K : PySem.W.Frag) : List V → Hp → VK → Prop := fun xs H Q => ∃ x n, xs = [x] ∧ LenV K x H n ∧ Q (.int n) H
theorem cr_lenG {X : Cx} : CallR X (.builtin "len") (rLenG X.K) := call_len
section
variable {K : PySem.W.Frag} {σ : St} {F F' : Hp} {cs cs1 cs2 cs3 : Cs} {ta tb tc te : TE} {d e : PyData} {as : TA} {a b c : Int}
theorem d_ixD {z : PyData} (ha : EvD K ta σ F cs d cs1) (hb : EvD K tb σ F cs1 (.int b) cs2) (hz : ixD d b = some z) : EvD K (tOp (rIx K) ta tb) σ F cs z cs2 := by
  intro F1 H1 g1 s Q q
  refine ha F1 H1 g1 s _ fun v F2 H2 g2 s2 h2 => hb F2 H2 (g1.tr g2) s2 _ fun w F3 H3 g3 s3 h3 => ?_
  cases d with
  | list ds =>
    refine .inl ?_
    have k := d_ixLs (K := K) (σ := [some v, some w]) (F := F3) (cs := cs2) (ta := tVar 0) (tb := tVar 1) (d_var rfl (h2.gr g3)) (d_var rfl h3) hz F3 H3 .rfl s3 Q fun v F4 H4 g4 s4 h4 => q v F4 H4 (g2.tr (g3.tr g4)) s4 h4
    obtain ⟨v', e', w', e'', k⟩ := k
    cases e'; cases e''; exact k
  | tuple ds =>
    refine .inr (.inl ?_)
    have k := d_ixT (K := K) (σ := [some v, some w]) (F := F3) (cs := cs2) (ta := tVar 0) (tb := tVar 1) (d_var rfl (h2.gr g3)) (d_var rfl h3) hz F3 H3 .rfl s3 Q fun v F4 H4 g4 s4 h4 => q v F4 H4 (g2.tr (g3.tr g4)) s4 h4
    obtain ⟨v', e', w', e'', k⟩ := k
    cases e'; cases e''; exact k
  | str x =>
    have hz : (ixS x b).map PyData.str = some z := hz
    cases hx : ixS x b with
    | none => rw [hx] at hz; cases hz
    | some y =>
      rw [hx] at hz; cases hz
      refine .inr (.inr ?_)
      have k := d_ixS (K := K) (σ := [some v, some w]) (F := F3) (cs := cs2) (ta := tVar 0) (tb := tVar 1) (d_var rfl (h2.gr g3)) (d_var rfl h3) hx F3 H3 .rfl s3 Q fun v F4 H4 g4 s4 h4 => q v F4 H4 (g2.tr (g3.tr g4)) s4 h4
      obtain ⟨v', e', w', e'', k⟩ := k
      cases e'; cases e''; exact k
  | none => cases hz
  | bool _ => cases hz
  | int _ => cases hz
  | dict _ => cases hz
theorem d_lenD {n : Int} (ha : EvDs K as σ F cs [d] cs1) (hn : lenD d = some n) : EvD K (tCB (rLenG K) as) σ F cs (.int n) cs1 := d_cb ha fun vs F2 H2 h s Q q => by
  obtain ⟨v, rfl, k1⟩ := h.one
  cases d with
  | list ds =>
    obtain ⟨p, ys, rfl, hl, hd⟩ := k1.toLst
    cases hn
    exact ⟨_, ys.length, rfl, .inl ⟨ys, gr_L s.fr hl, rfl⟩, q _ F2 H2 .rfl s (by rw [hd.len]; exact .int _)⟩
  | tuple ds =>
    obtain ⟨p, ys, rfl, hl, hd⟩ := k1.toTup
    cases hn
    exact ⟨_, ys.length, rfl, .inr ⟨ys, gr_T s.fr hl, rfl⟩, q _ F2 H2 .rfl s (by rw [hd.len]; exact .int _)⟩
  | str x =>
    cases k1.toStr
    obtain ⟨h1, rfl⟩ := lenS_some hn
    exact ⟨_, x.length, rfl, ⟨sz h1, rfl⟩, q _ F2 H2 .rfl s (.int _)⟩
  | none => cases hn
  | bool _ => cases hn
  | int _ => cases hn
  | dict _ => cases hn
/-- is True, is False -/
def isBlD (b : Bool) : PyData → Bool
  | .bool c => decide (c = b)
  | _ => false
/-- a walk over a tuple -/
theorem src_tup {p : Addr} {vs : List V} {ds : List PyData} (h : SqT K F p vs) (hd : Dts K F vs ds) : Src K (Itt K p) F ds := fun F1 c1 H1 g s => by
  have q : SqT K H1 p vs := gr_T s.fr (gr_T g h)
  refine ⟨fun i hi => ?_, ⟨vs, q, by rw [hd.len]; exact Nat.le_refl _⟩, fun i v H2 d e y => ?_⟩
  · have hi' : i < vs.length := by rw [hd.len]; exact hi
    exact ⟨vs, vs[i], q, List.getElem?_eq_getElem hi'⟩
  · obtain ⟨rfl, y⟩ := y
    obtain ⟨d', e', h'⟩ := hd.get (y vs q)
    rw [e] at e'; cases e'
    exact ⟨F1, .rfl, s, h'.gr g⟩
theorem i_tup {ds : List PyData} (h : EvD K te σ F cs (.tuple ds) cs1) : EvI K (iTup K te) σ F cs ds cs1 := fun F1 H1 g1 s R q =>
  h F1 H1 g1 s _ fun v F2 H2 g2 s2 h2 => by
    obtain ⟨p, vs, rfl, hs, hd⟩ := h2.toTup
    exact ⟨p, rfl, ⟨vs, gr_T s2.fr hs⟩, q _ F2 H2 g2 s2 (src_tup hs hd)⟩
/-- xs[::-1] -/
theorem c_rev {α : Type} {en : α → PyData} {xs : List α} (h : EvD K te σ F cs (eL en xs) cs1) : EvC K (tRevL K te) σ F cs (xs.reverse.map en) cs1 := fun F1 H1 g1 s Q q =>
  h F1 H1 g1 s _ fun v F2 H2 g2 s2 hv => by
    obtain ⟨p, vs, rfl, hl, hd⟩ := hv.toLst
    refine ⟨p, vs, rfl, gr_L s2.fr hl, fun l nl => q _ _ _ _ g2 (s2.cell nl) ?_⟩
    have : ∀ {us : List V} {ds : List PyData}, Dts K F2 us ds → Dts K F2 us.reverse ds.reverse := by
      intro us ds h
      induction us generalizing ds with
      | nil => cases h; exact .nil
      | cons u us ih => cases h with | cons a b => rw [List.reverse_cons, List.reverse_cons]; exact (ih b).app (.cons a .nil)
    rw [List.map_reverse]
    exact this hd
/-- slices of a tuple -/
theorem d_slT {ds : List PyData} {tl th : TO} {lo hi : Option Int} (h : EvD K te σ F cs (.tuple ds) cs1) (h1 : EvO tl σ F cs1 lo cs2) (h2 : EvO th σ F cs2 hi cs3) : EvD K (tSl (rSlA K) te tl th) σ F cs (.tuple (cutL ds lo hi)) cs3 := fun F1 H1 g1 s Q q =>
  h F1 H1 g1 s _ fun v F2 H2 g2 s2 hv => h1 F2 H2 (g1.tr g2) s2 _ fun F3 H3 g3 s3 => h2 F3 H3 ((g1.tr g2).tr g3) s3 _ fun F4 H4 g4 s4 => by
    obtain ⟨p, vs, rfl, hl, hd⟩ := hv.toTup
    have hd' := hd.gr (g3.tr g4)
    refine ⟨p, vs, rfl, gr_T s4.fr (gr_T (g3.tr g4) hl), fun hw => q _ F4 H4 (g2.tr (g3.tr g4)) s4 ?_, fun _ l nl => q _ _ _ ((g2.tr (g3.tr g4)).tr (Gr.new (s4.fr.back nl))) (s4.lay nl) (.tup (.inl (.inl upd_same)) ?_)⟩
    · have e : cutL ds lo hi = ds := by
        unfold cutL
        rw [← hd.len, hw.1, hw.2, List.drop_zero, Nat.sub_zero, hd.len, List.take_length]
      rw [e]
      exact .tup (gr_T (g3.tr g4) hl) hd'
    · unfold cutV cutL
      rw [hd.len]
      exact ((hd'.gr (Gr.new (s4.fr.back nl))).drop _).take _
end
end Bw

namespace Bw
open PySem L2
abbrev eT0 : Unit → PyData := fun _ => .tuple []
/-! is True, is False, is None of anything -/
def rIsBl : R2 := fun x y H Q => ∃ b, y = .bl b ∧ Q (.bl (decide (x = .bl b))) H
def rNisBl : R2 := fun x y H Q => ∃ b, y = .bl b ∧ Q (.bl (!decide (x = .bl b))) H
theorem relV_bool {x : V} {v : Value} {b : Bool} (r : RelV x v) : plainIs v (.bool b) = true ∧ (v == Value.bool b) = decide (x = .bl b) := by
  cases x with
  | bl c =>
    cases (show v = Value.bool c from r)
    refine ⟨rfl, ?_⟩
    by_cases h : c = b
    · subst h; simp
    · rw [decide_eq_false (fun z => h (V.bl.inj z))]
      exact beq_eq_false_iff_ne.mpr fun z => h (Value.bool.inj z)
  | non => cases (show v = Value.none from r); exact ⟨rfl, rfl⟩
  | ref a => cases (show v = Value.ref a from r); exact ⟨rfl, rfl⟩
  | ty n => cases (show v = Value.type n from r); exact ⟨rfl, rfl⟩
  | int i => obtain ⟨t, rfl⟩ := r; exact ⟨rfl, rfl⟩
  | str i => obtain ⟨t, rfl⟩ := r; exact ⟨rfl, rfl⟩
  | byt i => obtain ⟨t, rfl⟩ := r; exact ⟨rfl, rfl⟩
  | flt i => obtain ⟨t, rfl⟩ := r; exact ⟨rfl, rfl⟩
theorem op_isB {X : Cx} : OpR X (compareOp .Is) rIsBl := by
  intro pins s σ H x y v u Q I rx ry h
  obtain ⟨b, rfl, q⟩ := h
  cases (show u = Value.bool b from ry)
  obtain ⟨h1, h2⟩ := relV_bool (b := b) rx
  exact wpAny_is_plain h1 ⟨.bl _, H, I, by rw [h2]; rfl, q⟩
theorem op_nisB {X : Cx} : OpR X (compareOp .IsNot) rNisBl := by
  intro pins s σ H x y v u Q I rx ry h
  obtain ⟨b, rfl, q⟩ := h
  cases (show u = Value.bool b from ry)
  obtain ⟨h1, h2⟩ := relV_bool (b := b) rx
  exact wpAny_isNot_plain h1 ⟨.bl _, H, I, by rw [h2]; rfl, q⟩
def isNoD : PyData → Bool
  | .none => true
  | _ => false
section
variable {K : PySem.W.Frag} {σ : St} {F F' : Hp} {cs cs1 cs2 cs3 : Cs} {ta tb tc te : TE} {d e : PyData} {as : TA} {a b c : Int}
theorem Dt.noD {v : V} (h : Dt K F v d) : decide (v = V.non) = isNoD d := by cases h <;> rfl
theorem Dt.blD {v : V} {b : Bool} (h : Dt K F v d) : decide (v = V.bl b) = isBlD b d := by
  cases h with
  | bl c =>
    show decide (V.bl c = V.bl b) = decide (c = b)
    by_cases q : c = b
    · subst q; simp
    · rw [decide_eq_false q, decide_eq_false (fun z => q (V.bl.inj z))]
  | _ => rfl
theorem d_isD (ha : EvD K ta σ F cs d cs1) : EvD K (tOp rIsN ta (tC .non)) σ F cs (.bool (isNoD d)) cs1 := fun F1 H1 g1 s Q q =>
  ha F1 H1 g1 s _ fun v F2 H2 g2 s2 h2 => ⟨rfl, q _ F2 H2 g2 s2 (by rw [h2.noD]; exact .bl _)⟩
theorem d_nisD (ha : EvD K ta σ F cs d cs1) : EvD K (tOp rNotN ta (tC .non)) σ F cs (.bool (!isNoD d)) cs1 := fun F1 H1 g1 s Q q =>
  ha F1 H1 g1 s _ fun v F2 H2 g2 s2 h2 => ⟨rfl, q _ F2 H2 g2 s2 (by rw [h2.noD]; exact .bl _)⟩
theorem d_isBl {b : Bool} (ha : EvD K ta σ F cs d cs1) : EvD K (tOp rIsBl ta (tC (.bl b))) σ F cs (.bool (isBlD b d)) cs1 := fun F1 H1 g1 s Q q =>
  ha F1 H1 g1 s _ fun v F2 H2 g2 s2 h2 => ⟨b, rfl, q _ F2 H2 g2 s2 (by rw [h2.blD]; exact .bl _)⟩
theorem d_nisBl {b : Bool} (ha : EvD K ta σ F cs d cs1) : EvD K (tOp rNisBl ta (tC (.bl b))) σ F cs (.bool (!isBlD b d)) cs1 := fun F1 H1 g1 s Q q =>
  ha F1 H1 g1 s _ fun v F2 H2 g2 s2 h2 => ⟨b, rfl, q _ F2 H2 g2 s2 (by rw [h2.blD]; exact .bl _)⟩
/-! a dict of which nothing is asked but its kind -/
theorem d_dict0 : EvD K tDNewK σ F cs (.dict []) cs := fun F1 H1 g1 s Q q => fun p hp => q _ _ _ (Gr.new (s.fr.back hp)) (s.lay hp) (.dct upd_same)
/-- {k: v}, both written, a text for a key -/
theorem d_dict1 {x : Str} {w : V} : EvD K (tDisp [(tC (.str x), tC w)]) σ F cs (.dict []) cs := fun F1 H1 g1 s Q q => fun p hp => by
  refine ⟨upd_same, [(Sum.inr x, w)], rfl, by show 1 ≤ 15; decide, ?_⟩
  rw [upd_upd]
  exact q _ _ _ (Gr.new (s.fr.back hp)) (s.lay hp) (.dct upd_same)
/-! formats -/
def fmtD : PyData → Option Str
  | .int i => strM i
  | .str x => (lenS x).bind fun _ => some x
  | _ => none
theorem d_fmtD {x : Str} (h : EvD K te σ F cs d cs1) (hn : fmtD d = some x) : EvD K (tFmt te) σ F cs (.str x) cs1 := by
  cases d with
  | int i => exact d_fmtI h hn
  | str y =>
    obtain ⟨n, h1, h2⟩ := bnd (show (lenS y).bind (fun _ => some y) = some x from hn)
    cases h2
    exact d_fmtS h h1
  | none => cases hn
  | bool _ => cases hn
  | list _ => cases hn
  | tuple _ => cases hn
  | dict _ => cases hn
end
end Bw

namespace Bw
open PySem L2
/-! i in range(lo, hi) -/
def rInRng : R2 := fun x y H Q => ∃ i a lo hi, x = V.int i ∧ y = V.ref a ∧ H a = some (.rng lo hi) ∧ Q (.bl (decide (lo ≤ i ∧ i < hi))) H
def rNinRng : R2 := fun x y H Q => ∃ i a lo hi, x = V.int i ∧ y = V.ref a ∧ H a = some (.rng lo hi) ∧ Q (.bl (!decide (lo ≤ i ∧ i < hi))) H
abbrev rRange2 : List V → Hp → VK → Prop := fun vs H Q => ∃ i j, vs = [V.int i, V.int j] ∧ ∀ p, H p = none → Q (.ref p) (upd H p (.rng i j))
theorem op_inRng {X : Cx} : OpR X (compareOp .In) rInRng := op_in_rng
theorem op_ninRng {X : Cx} : OpR X (compareOp .NotIn) rNinRng := by
  intro pins s σ H x y v u Q I rx ry h
  obtain ⟨i, a, lo, hi, rfl, rfl, ha, q⟩ := h
  obtain ⟨k, rfl⟩ := rx
  obtain rfl : u = Value.ref a := ry
  obtain ⟨t1, t2, t3, ho⟩ := I.hok a _ ha
  show wpAny _ _ (contains (Value.ref a) (Value.int i k) >>= fun b => pure (Value.bool (!b))) _ _ s
  refine wpAny_bind (wpAny_contains_slot (T := "range") ⟨_, ho, rfl⟩ F.slot_range_contains (call_meets F.slot_range_contains ⟨_, ho, rfl⟩ F.entry_range_contains (F.args_range_contains_2 _ _)
    (q_contains a lo hi i t1 t2 t3 k) ⟨ho, wpAny_truthy_bool (wpAny_pure ⟨.bl _, H, I, rfl, ?_⟩)⟩))
  rw [place1]
  exact q
theorem cr_range2' {X : Cx} : CallR X (.type "range") rRange2 := cr_range2
section
variable {K : PySem.W.Frag} {σ : St} {F F' : Hp} {cs cs1 cs2 cs3 : Cs} {ta tb tc te : TE} {d e : PyData} {as : TA} {a b c : Int}
theorem d_inRng (ha : EvD K ta σ F cs (.int a) cs1) (hb : EvDs K as σ F cs1 [.int b, .int c] cs2) : EvD K (tOp rInRng ta (tCB rRange2 as)) σ F cs (.bool (decide (b ≤ a ∧ a < c))) cs2 := fun F1 H1 g1 s Q q =>
  ha F1 H1 g1 s _ fun v F2 H2 g2 s2 h2 => hb F2 H2 (g1.tr g2) s2 _ fun vs F3 H3 g3 s3 h3 => by
    cases h2.toInt
    obtain ⟨w, z, rfl, k1, k2⟩ := h3.two; cases k1.toInt; cases k2.toInt
    exact ⟨b, c, rfl, fun p hp => ⟨a, p, b, c, rfl, rfl, upd_same, q _ _ _ ((g2.tr g3).tr (Gr.new (s3.fr.back hp))) (s3.lay hp) (.bl _)⟩⟩
theorem d_ninRng (ha : EvD K ta σ F cs (.int a) cs1) (hb : EvDs K as σ F cs1 [.int b, .int c] cs2) : EvD K (tOp rNinRng ta (tCB rRange2 as)) σ F cs (.bool (!decide (b ≤ a ∧ a < c))) cs2 := fun F1 H1 g1 s Q q =>
  ha F1 H1 g1 s _ fun v F2 H2 g2 s2 h2 => hb F2 H2 (g1.tr g2) s2 _ fun vs F3 H3 g3 s3 h3 => by
    cases h2.toInt
    obtain ⟨w, z, rfl, k1, k2⟩ := h3.two; cases k1.toInt; cases k2.toInt
    exact ⟨b, c, rfl, fun p hp => ⟨a, p, b, c, rfl, rfl, upd_same, q _ _ _ ((g2.tr g3).tr (Gr.new (s3.fr.back hp))) (s3.lay hp) (.bl _)⟩⟩
end
end Bw

namespace Bw
open PySem L2
/-- an expression that tells a known value and changes nothing -/
def VP (to : TE) (σ : St) (F : Hp) (cs : Cs) (v : V) : Prop := ∀ F1 H1, Gr F F1 → Sta F1 cs H1 → ∀ Q : VK, Q v H1 → to σ H1 Q
section
variable {K : PySem.W.Frag} {σ : St} {F F' : Hp} {cs cs1 cs2 cs3 : Cs} {ta tb tc te : TE} {d e : PyData} {as : TA} {a b c : Int} {nx bk ct : St → Hp → Prop} {rt : VK} {H : Hp} {t u : TS}
theorem vp_var {i : Nat} {v : V} (h : σ[i]? = some (some v)) : VP (tVar i) σ F cs v := fun F1 H1 g s Q q => ⟨v, h, q⟩
theorem vp_tup {to : TE} {t : Addr} {vs : List V} {k : Int} {v : V} (h : VP to σ F cs (.ref t)) (ht : SqT K F t vs) (hk : atI vs k = some v) : VP (tOp (rIxT K) to (tC (.int k))) σ F cs v := fun F1 H1 g s Q q =>
  h F1 H1 g s _ ⟨t, vs, k, v, rfl, rfl, gr_T s.fr (gr_T g ht), hk, q⟩
theorem VP.gr {to : TE} {v : V} (g : Gr F F') (h : VP to σ F cs v) : VP to σ F' cs v := fun F1 H1 g1 s Q q => h F1 H1 (g.tr g1) s Q q
theorem d_vp {v : V} (h : VP te σ F cs v) (hd : Dt K F v d) : EvD K te σ F cs d cs := fun F1 H1 g s Q q => h F1 H1 g s Q (q v F1 H1 .rfl s (hd.gr g))
/-! the readings, opened -/
theorem o_asg {g : TG} (h : te σ H fun v H' => g v σ H' nx) : tAsg te g ⟨nx, rt, bk, ct⟩ σ H := h
theorem o_ret (h : te σ H rt) : tRet te ⟨nx, rt, bk, ct⟩ σ H := h
theorem o_drop (h : te σ H fun _ H' => nx σ H') : tDrop te ⟨nx, rt, bk, ct⟩ σ H := h
theorem o_name {i : Nat} {v : V} {σ' : St} {Q : St → Hp → Prop} (e : σ.set i (some v) = σ') (h : Q σ' H) : gName i v σ H Q := by show Q (σ.set i (some v)) H; rw [e]; exact h
theorem o_tup {Q : VK} (h : as σ H fun vs H1 => vs.length ≤ sizeLine ∧ ∀ p, H1 p = none → Q (.ref p) (upd H1 p (.tup vs))) : tTup as σ H Q := h
theorem o_cons {Q : List V → Hp → Prop} (h : te σ H fun v H1 => as σ H1 fun vs H2 => Q (v :: vs) H2) : tCons te as σ H Q := h
theorem o_nil {Q : List V → Hp → Prop} (h : Q [] H) : tNil σ H Q := h
theorem o_d {Q : VK} (s : Sta F cs H) (h : EvD K te σ F cs d cs1) (q : ∀ v F2 H2, Gr F F2 → Sta F2 cs1 H2 → Dt K F2 v d → Q v H2) : te σ H Q := h F H .rfl s Q q
theorem o_c {Q : VK} {ds : List PyData} (s : Sta F cs H) (h : EvC K te σ F cs ds cs1) (q : ∀ p us F2 H2, Gr F F2 → Sta F2 ((p, .lst us) :: cs1) H2 → Dts K F2 us ds → Q (.ref p) H2) : te σ H Q := h F H .rfl s Q q
theorem o_v {Q : VK} {v : V} (s : Sta F cs H) (h : VP te σ F cs v) (q : Q v H) : te σ H Q := h F H .rfl s Q q
/-- the tuple itself stands for good -/
theorem o_tupN {n : Nat} {vs : List V} {Q : VK} (s : Sta F cs H) (hn : vs.length ≤ 1000) (q : ∀ p, Gr F (upd F p (.tup vs)) → Sta (upd F p (.tup vs)) cs (upd H p (.tup vs)) → Q (.ref p) (upd H p (.tup vs))) : vs.length ≤ sizeLine ∧ ∀ p, H p = none → Q (.ref p) (upd H p (.tup vs)) :=
  ⟨Nat.le_trans hn (by decide), fun p hp => q p (Gr.new (s.fr.back hp)) (s.lay hp)⟩
theorem sq_new {p : Addr} {vs : List V} : SqT K (upd F p (.tup vs)) p vs := .inl (.inl upd_same)
theorem dt_t {p : Addr} {vs : List V} {ds : List PyData} (h : SqT K F p vs) (hd : Dts K F vs ds) : Dt K F (.ref p) (.tuple ds) := .tup h hd
theorem s_appV {k1 k2 l1 l2 : Cs} {to : TE} {p : Addr} {vs : List V} (s : Sta F (k1 ++ (p, .lst vs) :: k2) H) (hi : VP to σ F (k1 ++ (p, .lst vs) :: k2) (.ref p)) (h : EvD K te σ F (k1 ++ (p, .lst vs) :: k2) d (l1 ++ (p, .lst vs) :: l2)) (hl : vs.length < 100000)
    (q : ∀ v F2 H2, Gr F F2 → Sta F2 (l1 ++ (p, .lst (vs ++ [v])) :: l2) H2 → Dt K F2 v d → nx σ H2) : tDrop (tBM K "list" rAppend to (tCons te tNil)) ⟨nx, rt, bk, ct⟩ σ H :=
  hi F H .rfl s _ ⟨.inl ⟨rfl, _, .inl (.inl s.getAt)⟩, h F H .rfl s _ fun v F2 H2 g2 s2 h2 => ⟨p, vs, v, rfl, rfl, s2.getAt, szl hl, q v F2 _ g2 s2.putAt h2⟩⟩
theorem s_appFV {α : Type} {vf : α → V} {en : α → PyData} {k1 k2 l1 l2 : Cs} {to : TE} {p : Addr} {xs ys : List α} {x : α} (hw : ∀ F v x, Dt K F v (en x) → v = vf x) (s : Sta F (k1 ++ (p, .lst (xs.map vf)) :: k2) H) (hi : VP to σ F (k1 ++ (p, .lst (xs.map vf)) :: k2) (.ref p)) (h : EvD K te σ F (k1 ++ (p, .lst (xs.map vf)) :: k2) (en x) (l1 ++ (p, .lst (xs.map vf)) :: l2)) (hm : appM xs x = some ys)
    (q : ∀ F2 H2, Gr F F2 → Sta F2 (l1 ++ (p, .lst (ys.map vf)) :: l2) H2 → nx σ H2) : tDrop (tBM K "list" rAppend to (tCons te tNil)) ⟨nx, rt, bk, ct⟩ σ H := by
  obtain ⟨hl, rfl⟩ := appM_some hm
  refine s_appV s hi h (by rw [List.length_map]; exact hl) fun v F2 H2 g2 s2 h2 => q F2 H2 g2 ?_
  cases hw F2 v x h2
  rw [List.map_append]; exact s2
theorem s_appGV {α : Type} {en : α → PyData} {k1 k2 l1 l2 : Cs} {to : TE} {p : Addr} {vs : List V} {xs ys : List α} {x : α} (s : Sta F (k1 ++ (p, .lst vs) :: k2) H) (hf : Dts K F vs (xs.map en)) (hi : VP to σ F (k1 ++ (p, .lst vs) :: k2) (.ref p)) (h : EvD K te σ F (k1 ++ (p, .lst vs) :: k2) (en x) (l1 ++ (p, .lst vs) :: l2)) (hm : appM xs x = some ys)
    (q : ∀ us F2 H2, Gr F F2 → Sta F2 (l1 ++ (p, .lst us) :: l2) H2 → Dts K F2 us (ys.map en) → nx σ H2) : tDrop (tBM K "list" rAppend to (tCons te tNil)) ⟨nx, rt, bk, ct⟩ σ H := by
  obtain ⟨hl, rfl⟩ := appM_some hm
  refine s_appV s hi h (by rw [hf.len, List.length_map]; exact hl) fun v F2 H2 g2 s2 h2 => q _ F2 H2 g2 s2 ?_
  rw [List.map_append]; exact (hf.gr g2).app (.cons h2 .nil)
theorem s_itemV {k1 k2 m1 m2 l1 l2 : Cs} {to : TE} {p : Addr} {vs : List V} {ti : TE} {k : Int} {j : Nat} (s : Sta F (k1 ++ (p, .lst vs) :: k2) H) (hi : VP to σ F (m1 ++ (p, .lst vs) :: m2) (.ref p)) (h : EvD K te σ F (k1 ++ (p, .lst vs) :: k2) d (m1 ++ (p, .lst vs) :: m2))
    (h2 : EvD K ti σ F (m1 ++ (p, .lst vs) :: m2) (.int k) (l1 ++ (p, .lst vs) :: l2)) (hj : ixN vs.length k = some j) (q : ∀ v F2 H2, Gr F F2 → Sta F2 (l1 ++ (p, .lst (vs.set j v)) :: l2) H2 → Dt K F2 v d → nx σ H2) : tAsg te (gSub to ti rSetL) ⟨nx, rt, bk, ct⟩ σ H :=
  h F H .rfl s _ fun v F2 H2 g2 s2 hv => hi F2 H2 g2 s2 _ (h2 F2 H2 g2 s2 _ fun w F3 H3 g3 s3 hw => ⟨p, vs, k, j, rfl, hw.toInt, s3.getAt, hj, q v F3 _ (g2.tr g3) s3.putAt (hv.gr g3)⟩)
theorem s_itemFV {α : Type} {vf : α → V} {en : α → PyData} {k1 k2 m1 m2 l1 l2 : Cs} {to : TE} {p : Addr} {xs ys : List α} {x : α} {ti : TE} {k : Int} (hw : ∀ F v x, Dt K F v (en x) → v = vf x) (s : Sta F (k1 ++ (p, .lst (xs.map vf)) :: k2) H) (hi : VP to σ F (m1 ++ (p, .lst (xs.map vf)) :: m2) (.ref p)) (h : EvD K te σ F (k1 ++ (p, .lst (xs.map vf)) :: k2) (en x) (m1 ++ (p, .lst (xs.map vf)) :: m2))
    (h2 : EvD K ti σ F (m1 ++ (p, .lst (xs.map vf)) :: m2) (.int k) (l1 ++ (p, .lst (xs.map vf)) :: l2)) (hm : setM xs k x = some ys) (q : ∀ F2 H2, Gr F F2 → Sta F2 (l1 ++ (p, .lst (ys.map vf)) :: l2) H2 → nx σ H2) : tAsg te (gSub to ti rSetL) ⟨nx, rt, bk, ct⟩ σ H := by
  obtain ⟨j, hj, rfl⟩ := setM_some hm
  refine s_itemV (j := j) s hi h h2 (by rw [List.length_map]; exact hj) fun v F2 H2 g2 s2 hv => q F2 H2 g2 ?_
  cases hw F2 v x hv
  rw [List.map_set]; exact s2
theorem s_itemGV {α : Type} {en : α → PyData} {k1 k2 m1 m2 l1 l2 : Cs} {to : TE} {p : Addr} {vs : List V} {xs ys : List α} {x : α} {ti : TE} {k : Int} (s : Sta F (k1 ++ (p, .lst vs) :: k2) H) (hf : Dts K F vs (xs.map en)) (hi : VP to σ F (m1 ++ (p, .lst vs) :: m2) (.ref p)) (h : EvD K te σ F (k1 ++ (p, .lst vs) :: k2) (en x) (m1 ++ (p, .lst vs) :: m2))
    (h2 : EvD K ti σ F (m1 ++ (p, .lst vs) :: m2) (.int k) (l1 ++ (p, .lst vs) :: l2)) (hm : setM xs k x = some ys) (q : ∀ us F2 H2, Gr F F2 → Sta F2 (l1 ++ (p, .lst us) :: l2) H2 → Dts K F2 us (ys.map en) → nx σ H2) : tAsg te (gSub to ti rSetL) ⟨nx, rt, bk, ct⟩ σ H := by
  obtain ⟨j, hj, rfl⟩ := setM_some hm
  refine s_itemV (j := j) s hi h h2 (by rw [hf.len, List.length_map]; exact hj) fun v F2 H2 g2 s2 hv => q _ F2 H2 g2 s2 ?_
  rw [List.map_set]; exact (hf.gr g2).setAt j hv
theorem s_augSV {k1 k2 m1 m2 l1 l2 : Cs} {to : TE} {p : Addr} {xs ys : List Int} {ti : TE} {k w b : Int} {f : Int → Int → Int} (s : Sta F (k1 ++ (p, .lst (xs.map V.int)) :: k2) H) (hi : VP to σ F (k1 ++ (p, .lst (xs.map V.int)) :: k2) (.ref p)) (h1 : EvD K ti σ F (k1 ++ (p, .lst (xs.map V.int)) :: k2) (.int k) (m1 ++ (p, .lst (xs.map V.int)) :: m2)) (hg : atI xs k = some w)
    (h2 : EvD K te σ F (m1 ++ (p, .lst (xs.map V.int)) :: m2) (.int b) (l1 ++ (p, .lst (xs.map V.int)) :: l2)) (hm : setM xs k (f w b) = some ys) (q : ∀ F2 H2, Gr F F2 → Sta F2 (l1 ++ (p, .lst (ys.map V.int)) :: l2) H2 → nx σ H2) : tAugS to ti te (rIxL K) (ipI f) rSetL ⟨nx, rt, bk, ct⟩ σ H := by
  obtain ⟨j, hj, rfl⟩ := setM_some hm
  refine hi F H .rfl s _ (h1 F H .rfl s _ fun v F2 H2 g2 s2 hv => ⟨p, xs.map V.int, k, .int w, rfl, hv.toInt, .inl (.inl s2.getAt), by rw [atI_map, hg]; rfl, h2 F2 H2 g2 s2 _ fun y F3 H3 g3 s3 hy => ⟨w, b, rfl, hy.toInt, p, xs.map V.int, k, j, rfl, hv.toInt, s3.getAt, by rw [List.length_map]; exact hj, q F3 _ (g2.tr g3) ?_⟩⟩)
  rw [List.map_set]; exact s3.putAt
theorem s_popFV {α : Type} {vf : α → V} {en : α → PyData} {k1 k2 l1 l2 : Cs} {to : TE} {j : Nat} {p : Addr} {xs ys : List α} {x : α} {ti : TE} {k : Int} {σ' : St} (hd : ∀ F x, Dt K F (vf x) (en x)) (s : Sta F (k1 ++ (p, .lst (xs.map vf)) :: k2) H) (hi : VP to σ F (k1 ++ (p, .lst (xs.map vf)) :: k2) (.ref p))
    (h2 : EvD K ti σ F (k1 ++ (p, .lst (xs.map vf)) :: k2) (.int k) (l1 ++ (p, .lst (xs.map vf)) :: l2)) (hm : popM xs k = some (x, ys)) (hσ : σ.set j (some (vf x)) = σ') (q : ∀ F2 H2, Gr F F2 → Sta F2 (l1 ++ (p, .lst (ys.map vf)) :: l2) H2 → nx σ' H2) : tAsg (tBM K "list" rPopAt to (tCons ti tNil)) (gName j) ⟨nx, rt, bk, ct⟩ σ H := by
  obtain ⟨⟨a1, a2⟩, m, b1, b2, rfl⟩ := popM_some hm
  refine hi F H .rfl s _ ⟨.inl ⟨rfl, _, .inl (.inl s.getAt)⟩, h2 F H .rfl s _ fun w F3 H3 g3 s3 hw => ⟨p, xs.map vf, k, m, vf x, rfl, by cases hw.toInt; rfl, s3.getAt, a1, a2, by rw [List.length_map]; exact b1, by rw [List.getElem?_map, b2]; rfl, ?_⟩⟩
  show nx (σ.set j (some (vf x))) _
  rw [hσ]
  refine q F3 _ g3 ?_
  have s4 := s3.putAt (o' := .lst ((xs.map vf).eraseIdx m))
  rw [er_map]
  exact s4
theorem s_remFV {k1 k2 l1 l2 : Cs} {to : TE} {p : Addr} {xs ys : List Int} {ti : TE} {k : Int} (s : Sta F (k1 ++ (p, .lst (xs.map V.int)) :: k2) H) (hi : VP to σ F (k1 ++ (p, .lst (xs.map V.int)) :: k2) (.ref p))
    (h2 : EvD K ti σ F (k1 ++ (p, .lst (xs.map V.int)) :: k2) (.int k) (l1 ++ (p, .lst (xs.map V.int)) :: l2)) (hm : remM xs k = some ys) (q : ∀ F2 H2, Gr F F2 → Sta F2 (l1 ++ (p, .lst (ys.map V.int)) :: l2) H2 → nx σ H2) : tDrop (tBM K "list" rRemI to (tCons ti tNil)) ⟨nx, rt, bk, ct⟩ σ H := by
  unfold remM at hm; split at hm
  · rename_i hin
    cases hm
    obtain ⟨j, e1, e2, e3⟩ := rem_at hin
    refine hi F H .rfl s _ ⟨.inl ⟨rfl, _, .inl (.inl s.getAt)⟩, h2 F H .rfl s _ fun w F3 H3 g3 s3 hw => ⟨p, xs, k, j, rfl, by cases hw.toInt; rfl, s3.getAt, e1, e2, q F3 _ g3 ?_⟩⟩
    rw [e3]
    exact s3.putAt
  · cases hm
theorem s_extV {k1 k2 l1 l2 : Cs} {to : TE} {p : Addr} {vs : List V} {ds : List PyData} (s : Sta F (k1 ++ (p, .lst vs) :: k2) H) (hi : VP to σ F (k1 ++ (p, .lst vs) :: k2) (.ref p)) (h : EvC K te σ F (k1 ++ (p, .lst vs) :: k2) ds (l1 ++ (p, .lst vs) :: l2)) (hl : vs.length + ds.length ≤ 100000)
    (q : ∀ us F2 H2, Gr F F2 → Sta F2 (l1 ++ (p, .lst (vs ++ us)) :: l2) H2 → Dts K F2 us ds → nx σ H2) : tDrop (tBM K "list" rExtend to (tCons te tNil)) ⟨nx, rt, bk, ct⟩ σ H :=
  hi F H .rfl s _ ⟨.inl ⟨rfl, _, .inl (.inl s.getAt)⟩, h F H .rfl s _ fun b us F2 H2 g2 s2 h2 => ⟨p, b, vs, us, rfl, rfl, Sta.getAt (l1 := (b, .lst us) :: l1) s2, s2.at List.mem_cons_self, by rw [h2.len]; exact sz hl, q us _ _ (g2.tr s2.gfr) s2.froze.putAt (h2.gr s2.gfr)⟩⟩
theorem s_extFV {α : Type} {vf : α → V} {en : α → PyData} {k1 k2 l1 l2 : Cs} {to : TE} {p : Addr} {xs ys zs : List α} (hw : ∀ F vs (ys : List α), Dts K F vs (ys.map en) → vs = ys.map vf) (s : Sta F (k1 ++ (p, .lst (xs.map vf)) :: k2) H) (hi : VP to σ F (k1 ++ (p, .lst (xs.map vf)) :: k2) (.ref p)) (h : EvC K te σ F (k1 ++ (p, .lst (xs.map vf)) :: k2) (ys.map en) (l1 ++ (p, .lst (xs.map vf)) :: l2)) (hm : catM xs ys = some zs)
    (q : ∀ F2 H2, Gr F F2 → Sta F2 (l1 ++ (p, .lst (zs.map vf)) :: l2) H2 → nx σ H2) : tDrop (tBM K "list" rExtend to (tCons te tNil)) ⟨nx, rt, bk, ct⟩ σ H := by
  obtain ⟨hl, rfl⟩ := catM_some hm
  refine s_extV s hi h (by rw [List.length_map, List.length_map]; exact hl) fun us F2 H2 g2 s2 h2 => q F2 H2 g2 ?_
  cases hw F2 us ys h2
  rw [List.map_append]; exact s2
theorem s_extGV {α : Type} {en : α → PyData} {k1 k2 l1 l2 : Cs} {to : TE} {p : Addr} {vs : List V} {xs ys zs : List α} (s : Sta F (k1 ++ (p, .lst vs) :: k2) H) (hf : Dts K F vs (xs.map en)) (hi : VP to σ F (k1 ++ (p, .lst vs) :: k2) (.ref p)) (h : EvC K te σ F (k1 ++ (p, .lst vs) :: k2) (ys.map en) (l1 ++ (p, .lst vs) :: l2)) (hm : catM xs ys = some zs)
    (q : ∀ us F2 H2, Gr F F2 → Sta F2 (l1 ++ (p, .lst us) :: l2) H2 → Dts K F2 us (zs.map en) → nx σ H2) : tDrop (tBM K "list" rExtend to (tCons te tNil)) ⟨nx, rt, bk, ct⟩ σ H := by
  obtain ⟨hl, rfl⟩ := catM_some hm
  refine s_extV s hi h (by rw [hf.len, List.length_map, List.length_map]; exact hl) fun us F2 H2 g2 s2 h2 => q _ F2 H2 g2 s2 ?_
  rw [List.map_append]; exact (hf.gr g2).app h2
theorem s_clrV {l1 l2 : Cs} {to : TE} {p : Addr} {vs : List V} (s : Sta F (l1 ++ (p, .lst vs) :: l2) H) (hi : VP to σ F (l1 ++ (p, .lst vs) :: l2) (.ref p)) (q : Sta F (l1 ++ (p, .lst []) :: l2) (upd H p (.lst [])) → nx σ (upd H p (.lst []))) : tDrop (tBM0 K "list" rClear to) ⟨nx, rt, bk, ct⟩ σ H :=
  hi F H .rfl s _ ⟨.inl ⟨rfl, _, .inl (.inl s.getAt)⟩, p, vs, rfl, rfl, s.getAt, q s.putAt⟩
end
def Su (c c' : Cs) : Prop := ∃ l, c.Perm (l ++ c')
theorem su_rfl {cs : Cs} : Su cs cs := ⟨[], .refl _⟩
theorem su_perm {cs cs1 : Cs} (p : cs.Perm cs1) : Su cs cs1 := ⟨[], p⟩
theorem su_drop {c : Addr × HO} {cs : Cs} : Su (c :: cs) cs := ⟨[c], .refl _⟩
theorem Su.tr {cs cs1 cs2 : Cs} (h : Su cs cs1) (k : Su cs1 cs2) : Su cs cs2 := by
  obtain ⟨l, h⟩ := h
  obtain ⟨m, k⟩ := k
  exact ⟨l ++ m, h.trans (by rw [List.append_assoc]; exact k.append_left l)⟩
theorem sta_tl : ∀ {l : Cs} {cs : Cs} {F H : Hp}, Sta F (l ++ cs) H → Sta F cs H
  | [], _, _, _, s => s
  | c :: l, cs, F, H, s => sta_tl (l := l) (sb_drop (c := c) (cs := l ++ cs) F H s)
theorem Su.sb {cs cs1 : Cs} (h : Su cs cs1) : Sb cs cs1 := fun F H s => by
  obtain ⟨l, h⟩ := h
  exact sta_tl (s.perm h)
theorem su_app {cs cs1 c : Cs} (h : Su cs cs1) : Su (c ++ cs) (c ++ cs1) := by
  obtain ⟨l, h⟩ := h
  refine ⟨l, (h.append_left c).trans ?_⟩
  rw [← List.append_assoc, ← List.append_assoc]
  exact List.perm_append_comm.append_right cs1
section
variable {K : PySem.W.Frag} {σ : St} {F F' : Hp} {cs cs1 cs2 cs3 : Cs} {ta tb tc te : TE} {d e : PyData} {as : TA} {a b c : Int} {nx bk ct : St → Hp → Prop} {rt : VK} {H : Hp} {t u : TS}
/-- list(path) -/
theorem c_listV {l1 l2 : Cs} {to : TE} {p : Addr} {us : List V} {ds : List PyData} (hi : VP to σ F (l1 ++ (p, .lst us) :: l2) (.ref p)) (hd : Dts K F us ds) : EvC K (tCB (rListS K) (tCons to tNil)) σ F (l1 ++ (p, .lst us) :: l2) ds (l1 ++ (p, .lst us) :: l2) := fun F1 H1 g1 s Q q =>
  hi F1 H1 g1 s _ ⟨p, us, rfl, .inl (.inl (.inl s.getAt)), fun l nl => q _ _ _ _ .rfl (s.cell nl) (hd.gr g1)⟩
/-! a function that tells a new thing, some parts of which may change -/
def spR (K : PySem.W.Frag) {α β : Type} (A : α → List Ar) (C : β → List (List V)) (R : β → Hp → V → Cs → Prop) (f : α → Option β) : Sp := fun vs H Q _ => ∃ F cc cs x y, ArgR K F vs (A x) cc ∧ Sta F (cc ++ cs) H ∧ f x = some y ∧ ∀ v c F2 H2, Gr F F2 → Sta F2 (c ++ (upC cc (C y) ++ cs)) H2 → R y F2 v c → Q v H2
theorem o_callR {α β : Type} {A : α → List Ar} {C : β → List (List V)} {R : β → Hp → V → Cs → Prop} {f : α → Option β} {x : α} {y : β} {E : XK} {cc cs' : Cs} {Q : VK} (s : Sta F cs H) (h : EvR K as σ F cs (A x) cc cs1) (hp : Sb cs1 (cc ++ cs')) (hf : f x = some y) (hq : Su (upC cc (C y) ++ cs') cs2)
    (q : ∀ v c F2 H2, Gr F F2 → Sta F2 (c ++ cs2) H2 → R y F2 v c → Q v H2) : tCall (spR K A C R f) [] E as σ H Q :=
  h F H .rfl s _ fun vs F2 H2 g2 s2 h2 => ⟨F2, cc, cs', x, y, by rw [List.append_nil]; exact h2, hp _ _ s2, hf, fun v c F3 H3 g3 s3 r => q v c F3 H3 (g2.tr g3) ((su_app hq).sb _ _ s3) r⟩
theorem d_callR {α β : Type} {A : α → List Ar} {C : β → List (List V)} {R : β → Hp → V → Cs → Prop} {B : β → PyData} {f : α → Option β} {x : α} {y : β} {E : XK} {cc cs' : Cs} (hR : ∀ y F H v c cs, R y F v c → Sta F (c ++ cs) H → ∃ F', Gr F F' ∧ Sta F' cs H ∧ Dt K F' v (B y)) (h : EvR K as σ F cs (A x) cc cs1) (hp : Sb cs1 (cc ++ cs')) (hf : f x = some y) (hq : Su (upC cc (C y) ++ cs') cs2) : EvD K (tCall (spR K A C R f) [] E as) σ F cs (B y) cs2 := fun F1 H1 g1 s Q q =>
  h F1 H1 g1 s _ fun vs F2 H2 g2 s2 h2 => ⟨F2, cc, cs', x, y, by rw [List.append_nil]; exact h2, hp _ _ s2, hf, fun v c F3 H3 g3 s3 r => by
    obtain ⟨F4, g4, s4, d4⟩ := hR y F3 H3 v c cs2 r ((su_app hq).sb _ _ s3)
    exact q v F4 H3 ((g2.tr g3).tr g4) s4 d4⟩
end
end Bw

namespace Bw
open PySem L2
/-! data without lists -/
mutual
def noL : PyData → Bool
  | .list _ => false
  | .dict _ => false
  | .tuple ds => noLs ds
  | _ => true
def noLs : List PyData → Bool
  | [] => true
  | d :: ds => noL d && noLs ds
end
section
variable {K : PySem.W.Frag} {F F2 : Hp} {p : Addr} {us : List V}
mutual
theorem Dt.cutL (hp : F2 p = some (.lst us)) : ∀ {v : V} {d : PyData}, Dt K F2 v d → noL d = true → Dt K (cut F2 p) v d
  | _, _, .non, _ => .non
  | _, _, .bl b, _ => .bl b
  | _, _, .int i, _ => .int i
  | _, _, .str x, _ => .str x
  | _, _, .lst h a, n => by simp [noL] at n
  | _, _, .dct h, n => by simp [noL] at n
  | _, _, .tup (a := a) (ds := ds) h k, n => by
    have n' : noLs ds = true := by simpa [noL] using n
    refine .tup ?_ (Dts.cutL hp k n')
    rcases h with (h | ⟨o, h⟩) | h
    · refine .inl (.inl ?_)
      rw [cut_ne (fun z => by rw [z, hp] at h; cases h)]; exact h
    · refine .inl (.inr ⟨o, ?_⟩)
      rw [cut_ne (fun z => by rw [z, hp] at h; cases h)]; exact h
    · exact .inr h
theorem Dts.cutL (hp : F2 p = some (.lst us)) : ∀ {vs : List V} {ds : List PyData}, Dts K F2 vs ds → noLs ds = true → Dts K (cut F2 p) vs ds
  | _, _, .nil, _ => .nil
  | _, _, .cons h t, n => by
    rw [noLs, Bool.and_eq_true] at n
    exact .cons (Dt.cutL hp h n.1) (Dts.cutL hp t n.2)
end
end
def Nl {α : Type} (e : α → PyData) : Prop := ∀ x, noL (e x) = true
theorem nl_I : Nl eI := fun _ => rfl
theorem nl_B : Nl eB := fun _ => rfl
theorem nl_S : Nl eS := fun _ => rfl
theorem nl_N : Nl eN := fun _ => rfl
theorem nl_O {α : Type} {e : α → PyData} (h : Nl e) : Nl (eO e) := fun x => by cases x with
  | none => rfl
  | some y => exact h y
theorem nl_T2 {α β : Type} {e : α → PyData} {f : β → PyData} (h : Nl e) (k : Nl f) : Nl (eT2 e f) := fun x => by show (noL (e x.1) && (noL (f x.2) && true)) = true; rw [h, k]; rfl
theorem nl_T3 {α β γ : Type} {e : α → PyData} {f : β → PyData} {g : γ → PyData} (h : Nl e) (k : Nl f) (l : Nl g) : Nl (eT3 e f g) := fun x => by show (noL (e x.1) && (noL (f x.2.1) && (noL (g x.2.2) && true))) = true; rw [h, k, l]; rfl
theorem nl_T4 {α β γ δ : Type} {e : α → PyData} {f : β → PyData} {g : γ → PyData} {i : δ → PyData} (h : Nl e) (k : Nl f) (l : Nl g) (m : Nl i) : Nl (eT4 e f g i) := fun x => by show (noL (e x.1) && (noL (f x.2.1) && (noL (g x.2.2.1) && (noL (i x.2.2.2) && true)))) = true; rw [h, k, l, m]; rfl
theorem nls {α : Type} {e : α → PyData} (h : Nl e) : ∀ xs : List α, noLs (xs.map e) = true
  | [] => rfl
  | x :: xs => by show (noL (e x) && noLs (xs.map e)) = true; rw [h, nls h xs]; rfl
section
variable {K : PySem.W.Frag} {σ : St} {F F' : Hp} {cs cs1 cs2 cs3 : Cs} {ta tb tc te : TE} {d e : PyData} {as : TA}
theorem Ev.grC {ds : List PyData} (g : Gr F F') (h : EvC K te σ F cs ds cs1) : EvC K te σ F' cs ds cs1 := fun F1 H1 g1 s Q q => h F1 H1 (g.tr g1) s Q q
theorem Ev.grR {xs : List Ar} {cc : Cs} (g : Gr F F') (h : EvR K as σ F cs xs cc cs1) : EvR K as σ F' cs xs cc cs1 := fun F1 H1 g1 s Q q => h F1 H1 (g.tr g1) s Q q
theorem r_cv {xs : List Ar} {cc : Cs} {to : TE} {p : Addr} {us : List V} (hi : VP to σ F cs (.ref p)) (h2 : EvR K as σ F cs xs cc cs2) : EvR K (tCons to as) σ F cs (.c us :: xs) ((p, .lst us) :: cc) cs2 := fun F1 H1 g1 s Q q =>
  hi F1 H1 g1 s _ (h2 F1 H1 g1 s _ fun vs F2 H2 g2 s2 h => q _ F2 H2 g2 s2 (.c h))
/-- the first argument is a new list of flat things, which nobody keeps -/
theorem o_callRN {α β : Type} {A : α → List Ar} {C : β → List (List V)} {R : β → Hp → V → Cs → Prop} {f : α → Option β} {x : α} {y : β} {E : XK} {cc cs' : Cs} {ds : List PyData} {us : List V} {xs : List Ar} {H : Hp} {Q : VK} (s : Sta F cs H) (h : EvC K te σ F cs ds cs1) (hu : ∀ F vs, Dts K F vs ds → vs = us) (hA : A x = .c us :: xs) (h2 : ∀ p, EvR K as σ F ((p, .lst us) :: cs1) xs cc ((p, .lst us) :: cs2))
    (hp : ∀ p, Sb ((p, .lst us) :: cs2) ((p, .lst us) :: cc ++ cs')) (hf : f x = some y) (hq : ∀ p, Su (upC ((p, .lst us) :: cc) (C y) ++ cs') cs3) (q : ∀ v c F2 H2, Gr F F2 → Sta F2 (c ++ cs3) H2 → R y F2 v c → Q v H2) : tCall (spR K A C R f) [] E (tCons te as) σ H Q :=
  h F H .rfl s _ fun p vs F2 H2 g2 s2 hv => by
    cases hu F2 vs hv
    exact h2 p F2 H2 g2 s2 _ fun ws F3 H3 g3 s3 h3 => ⟨F3, (p, .lst us) :: cc, cs', x, y, by rw [List.append_nil, hA]; exact .c h3, hp p _ _ s3, hf, fun v c F4 H4 g4 s4 r => q v c F4 H4 ((g2.tr g3).tr g4) ((su_app (hq p)).sb _ _ s4) r⟩
theorem d_callRN {α β : Type} {A : α → List Ar} {C : β → List (List V)} {R : β → Hp → V → Cs → Prop} {B : β → PyData} {f : α → Option β} {x : α} {y : β} {E : XK} {cc cs' : Cs} {ds : List PyData} {us : List V} {xs : List Ar} (hR : ∀ y F H v c cs, R y F v c → Sta F (c ++ cs) H → ∃ F', Gr F F' ∧ Sta F' cs H ∧ Dt K F' v (B y)) (h : EvC K te σ F cs ds cs1) (hu : ∀ F vs, Dts K F vs ds → vs = us) (hA : A x = .c us :: xs) (h2 : ∀ p, EvR K as σ F ((p, .lst us) :: cs1) xs cc ((p, .lst us) :: cs2))
    (hp : ∀ p, Sb ((p, .lst us) :: cs2) ((p, .lst us) :: cc ++ cs')) (hf : f x = some y) (hq : ∀ p, Su (upC ((p, .lst us) :: cc) (C y) ++ cs') cs3) : EvD K (tCall (spR K A C R f) [] E (tCons te as)) σ F cs (B y) cs3 := fun F1 H1 g1 s Q q =>
  o_callRN s (Ev.grC g1 h) hu hA (fun p => Ev.grR g1 (h2 p)) hp hf hq fun v c F3 H3 g3 s3 r => by
    obtain ⟨F4, g4, s4, d4⟩ := hR y F3 H3 v c cs3 r s3
    exact q v F4 H3 (g3.tr g4) s4 d4
theorem d_lendT {l1 l2 m1 m2 : Cs} {p : Addr} {us : List V} (hn : noL d = true) (h : ∀ F1, Gr F F1 → F1 p = none → EvD K te σ (upd F1 p (.lst us)) (l1 ++ l2) d (m1 ++ m2)) : EvD K te σ F (l1 ++ (p, .lst us) :: l2) d (m1 ++ (p, .lst us) :: m2) := fun F1 H1 g1 s Q q => by
  refine h F1 g1 s.freeAt (upd F1 p (.lst us)) H1 .rfl s.frozeAt Q fun v F2 H2 g2 s2 h2 => ?_
  exact q v (cut F2 p) H2 (gr_cut s.freeAt g2) (Sta.lent g2 s2) (h2.cutL (g2 p _ upd_same) hn)
theorem c_lendT {l1 l2 m1 m2 : Cs} {p : Addr} {us : List V} {ds : List PyData} (hn : noLs ds = true) (h : ∀ F1, Gr F F1 → F1 p = none → EvC K te σ (upd F1 p (.lst us)) (l1 ++ l2) ds (m1 ++ m2)) : EvC K te σ F (l1 ++ (p, .lst us) :: l2) ds (m1 ++ (p, .lst us) :: m2) := fun F1 H1 g1 s Q q => by
  refine h F1 g1 s.freeAt (upd F1 p (.lst us)) H1 .rfl s.frozeAt Q fun a vs F2 H2 g2 s2 h2 => ?_
  exact q a vs (cut F2 p) H2 (gr_cut s.freeAt g2) (Sta.lent (l1 := (a, .lst vs) :: m1) g2 s2) (h2.cutL (g2 p _ upd_same) hn)
end
end Bw

namespace Bw
open PySem L2
/-! dicts with flat keys and flat values -/
def lookK {κ ν : Type} [DecidableEq κ] (d : List (κ × ν)) (k : κ) : Option ν := (d.find? fun p => decide (p.1 = k)).map (·.2)
def putKV {κ ν : Type} [DecidableEq κ] (d : List (κ × ν)) (k : κ) (v : ν) : List (κ × ν) := if (d.any fun p => decide (p.1 = k)) = true then d.map (fun p => if p.1 = k then (p.1, v) else p) else d ++ [(k, v)]
def hasK {κ ν : Type} [DecidableEq κ] (d : List (κ × ν)) (k : κ) : Bool := (lookK d k).isSome
def putM {κ ν : Type} [DecidableEq κ] (d : List (κ × ν)) (k : κ) (v : ν) : Option (List (κ × ν)) := if d.length < 100000 then some (putKV d k v) else none
def kvE {κ ν : Type} (kf : κ → Key) (vf : ν → V) (d : List (κ × ν)) : List (Key × V) := d.map fun p => (kf p.1, vf p.2)
def Inj {κ : Type} (kf : κ → Key) : Prop := ∀ a b, kf a = kf b → a = b
abbrev kS : Str → Key := fun x => Sum.inr x
abbrev kI : Int → Key := fun x => Sum.inl x
theorem inj_S : Inj kS := fun _ _ h => Sum.inr.inj h
theorem inj_I : Inj kI := fun _ _ h => Sum.inl.inj h
section
variable {κ ν : Type} [DecidableEq κ] {kf : κ → Key} {vf : ν → V}
theorem val_kv (hk : Inj kf) : ∀ (d : List (κ × ν)) (k : κ), valV (kvE kf vf d) (kf k) = (lookK d k).map vf
  | [], _ => rfl
  | p :: d, k => by
    have ih := val_kv hk d k
    unfold valV kvE lookK at ih ⊢
    rw [List.map_cons, List.find?_cons, List.find?_cons]
    by_cases h : p.1 = k
    · rw [decide_eq_true h, decide_eq_true (congrArg kf h)]; rfl
    · rw [decide_eq_false h, decide_eq_false (fun z => h (hk _ _ z))]; exact ih
theorem put_kv (hk : Inj kf) (d : List (κ × ν)) (k : κ) (v : ν) : putK (kvE kf vf d) (kf k) (vf v) = kvE kf vf (putKV d k v) := by
  have e : ∀ d : List (κ × ν), ((kvE kf vf d).any fun kv => decide (kv.1 = kf k)) = d.any fun p => decide (p.1 = k) := fun d => by
    unfold kvE
    rw [List.any_map]
    congr 1
    funext p
    by_cases h : p.1 = k
    · simp [h]
    · have : ¬ kf p.1 = kf k := fun z => h (hk _ _ z)
      simp [h, this]
  unfold putK putKV
  rw [e]
  by_cases q : (d.any fun p => decide (p.1 = k)) = true
  · rw [if_pos q, if_pos q]
    unfold kvE
    rw [List.map_map, List.map_map]
    apply List.map_congr_left
    intro p _
    show (if kf p.1 = kf k then (kf p.1, vf v) else (kf p.1, vf p.2)) = _
    by_cases h : p.1 = k
    · rw [if_pos (congrArg kf h)]; show _ = (kf (if p.1 = k then (p.1, v) else p).1, vf (if p.1 = k then (p.1, v) else p).2); rw [if_pos h]
    · rw [if_neg (fun z => h (hk _ _ z))]; show _ = (kf (if p.1 = k then (p.1, v) else p).1, vf (if p.1 = k then (p.1, v) else p).2); rw [if_neg h]
  · rw [if_neg q, if_neg q]
    unfold kvE
    rw [List.map_append]; rfl
theorem putM_some {d e : List (κ × ν)} {k : κ} {v : ν} (h : putM d k v = some e) : d.length < 100000 ∧ putKV d k v = e := by
  unfold putM at h; split at h
  · rename_i q; exact ⟨q, Option.some.inj h⟩
  · cases h
end
/-- how a key's value stands -/
structure KfOk {κ : Type} (kf : κ → Key) (ek : κ → PyData) : Prop where
  inj : Inj kf
  v : ∀ K F v x, Dt K F v (ek x) → v = kV (kf x)
theorem kf_S : KfOk kS eS := ⟨inj_S, fun _ _ _ _ h => h.toStr⟩
theorem kf_I : KfOk kI eI := ⟨inj_I, fun _ _ _ _ h => h.toInt⟩
section
variable {K : PySem.W.Frag} {σ : St} {F F' : Hp} {cs cs1 cs2 cs3 : Cs} {ta tb tc te td : TE} {d e : PyData} {as : TA} {a b c : Int} {nx bk ct : St → Hp → Prop} {rt : VK} {H : Hp} {t u : TS}
variable {κ ν : Type} [DecidableEq κ] {kf : κ → Key} {vf : ν → V} {ek : κ → PyData} {ev : ν → PyData}
/-- a new dict -/
theorem o_dict0 {Q : VK} (s : Sta F cs H) (q : ∀ p H2, Sta F ((p, .dK (kvE kf vf [])) :: cs) H2 → Q (.ref p) H2) : tDNewK σ H Q := fun p hp => q p _ (s.cell hp)
/-- k in d -/
theorem d_din {D : List (κ × ν)} {k : κ} {p : Addr} (hk : KfOk kf ek) (ha : EvD K ta σ F cs (ek k) cs1) (hd : VP td σ F cs1 (.ref p)) (hF : F p = some (.dK (kvE kf vf D))) : EvD K (tDIn ta td) σ F cs (.bool (hasK D k)) cs1 := fun F1 H1 g1 s Q q =>
  ha F1 H1 g1 s _ fun v F2 H2 g2 s2 h2 => hd F2 H2 (g1.tr g2) s2 _ ⟨p, valV (kvE kf vf D) (kf k), rfl, by rw [hk.v K F2 v k h2]; exact DGet.k (s2.fr _ _ ((g1.tr g2) _ _ hF)), by
    rw [val_kv hk.inj, Option.isSome_map]; exact q _ F2 H2 g2 s2 (.bl _)⟩
theorem d_dnin {D : List (κ × ν)} {k : κ} {p : Addr} (hk : KfOk kf ek) (ha : EvD K ta σ F cs (ek k) cs1) (hd : VP td σ F cs1 (.ref p)) (hF : F p = some (.dK (kvE kf vf D))) : EvD K (tDNotIn ta td) σ F cs (.bool (!hasK D k)) cs1 := fun F1 H1 g1 s Q q =>
  ha F1 H1 g1 s _ fun v F2 H2 g2 s2 h2 => hd F2 H2 (g1.tr g2) s2 _ ⟨p, valV (kvE kf vf D) (kf k), rfl, by rw [hk.v K F2 v k h2]; exact DGet.k (s2.fr _ _ ((g1.tr g2) _ _ hF)), by
    rw [val_kv hk.inj, Option.isSome_map]; exact q _ F2 H2 g2 s2 (.bl _)⟩
/-- d[k] -/
theorem d_dget {D : List (κ × ν)} {k : κ} {x : ν} {p : Addr} (hk : KfOk kf ek) (hv : ∀ F x, Dt K F (vf x) (ev x)) (hd : VP td σ F cs (.ref p)) (ha : EvD K ta σ F cs (ek k) cs1) (hF : F p = some (.dK (kvE kf vf D))) (hx : lookK D k = some x) : EvD K (tDGet td ta) σ F cs (ev x) cs1 := fun F1 H1 g1 s Q q =>
  hd F1 H1 g1 s _ (ha F1 H1 g1 s _ fun v F2 H2 g2 s2 h2 => ⟨p, vf x, rfl, by
    have := DGet.k (k := kf k) (s2.fr _ _ ((g1.tr g2) _ _ hF))
    rw [val_kv hk.inj, hx] at this
    rw [hk.v K F2 v k h2]; exact this, q _ F2 H2 g2 s2 (hv _ _)⟩)
/-- len(d) -/
abbrev rLenD : List V → Hp → VK → Prop := fun xs H Q => ∃ a kvs, xs = [V.ref a] ∧ H a = some (.dK kvs) ∧ Q (.int kvs.length) H
theorem d_lenK {D : List (κ × ν)} {p : Addr} (hd : VP td σ F cs (.ref p)) (hF : F p = some (.dK (kvE kf vf D))) : EvD K (tCB rLenD (tCons td tNil)) σ F cs (.int D.length) cs := fun F1 H1 g1 s Q q =>
  hd F1 H1 g1 s _ ⟨p, _, rfl, s.fr _ _ (g1 _ _ hF), q _ F1 H1 .rfl s (by unfold kvE; rw [List.length_map]; exact .int _)⟩
/-- d[k] = v, d a cell -/
theorem s_dput {k1 k2 m1 m2 l1 l2 : Cs} {D D2 : List (κ × ν)} {k : κ} {x : ν} {p : Addr} (hk : KfOk kf ek) (hw : ∀ F v x, Dt K F v (ev x) → v = vf x) (s : Sta F (k1 ++ (p, .dK (kvE kf vf D)) :: k2) H) (h : EvD K te σ F (k1 ++ (p, .dK (kvE kf vf D)) :: k2) (ev x) (m1 ++ (p, .dK (kvE kf vf D)) :: m2))
    (hd : VP td σ F (m1 ++ (p, .dK (kvE kf vf D)) :: m2) (.ref p)) (ha : EvD K ta σ F (m1 ++ (p, .dK (kvE kf vf D)) :: m2) (ek k) (l1 ++ (p, .dK (kvE kf vf D)) :: l2)) (hm : putM D k x = some D2)
    (q : ∀ F2 H2, Gr F F2 → Sta F2 (l1 ++ (p, .dK (kvE kf vf D2)) :: l2) H2 → nx σ H2) : sDPut td ta te ⟨nx, rt, bk, ct⟩ σ H :=
  h F H .rfl s _ fun v F2 H2 g2 s2 hv => hd F2 H2 g2 s2 _ (ha F2 H2 g2 s2 _ fun y F3 H3 g3 s3 hy => by
    obtain ⟨hl, rfl⟩ := putM_some hm
    refine ⟨p, _, rfl, ?_, q F3 _ (g2.tr g3) (s3.putAt (o' := .dK (kvE kf vf (putKV D k x))))⟩
    rw [hk.v K F3 y k hy, hw F2 v x hv, ← put_kv hk.inj]
    exact DPut.k s3.getAt (by unfold kvE; rw [List.length_map]; exact szl hl))
/-- .. for a new name -/
theorem s_setDict {i : Nat} {σ' : Addr → St} (s : Sta F cs H) (hσ : ∀ p, σ.set i (some (.ref p)) = σ' p) (q : ∀ p H2, Sta F ((p, .dK (kvE kf vf [])) :: cs) H2 → nx (σ' p) H2) : tAsg tDNewK (gName i) ⟨nx, rt, bk, ct⟩ σ H := fun p hp => by
  show nx (σ.set i (some (.ref p))) _
  rw [hσ]
  exact q p _ (s.cell hp)
end
/-! what no tuple is, cut out -/
def nTup (o : HO) : Prop := ∀ xs, o ≠ .tup xs ∧ ∀ ob, o ≠ .frz ob (.tup xs)
theorem nt_d (kvs : List (Key × V)) : nTup (.dK kvs) := fun xs => ⟨fun z => (nomatch z), fun _ z => (nomatch z)⟩
theorem nt_l (kvs : List V) : nTup (.lst kvs) := fun xs => ⟨fun z => (nomatch z), fun _ z => (nomatch z)⟩
section
variable {K : PySem.W.Frag} {F F2 : Hp} {p : Addr} {o : HO}
mutual
theorem Dt.cutO (hp : F2 p = some o) (ho : nTup o) : ∀ {v : V} {d : PyData}, Dt K F2 v d → noL d = true → Dt K (cut F2 p) v d
  | _, _, .non, _ => .non
  | _, _, .bl b, _ => .bl b
  | _, _, .int i, _ => .int i
  | _, _, .str x, _ => .str x
  | _, _, .lst h a, n => by simp [noL] at n
  | _, _, .dct h, n => by simp [noL] at n
  | _, _, .tup (a := a) (ds := ds) h k, n => by
    have n' : noLs ds = true := by simpa [noL] using n
    refine .tup ?_ (Dts.cutO hp ho k n')
    rcases h with (h | ⟨ob, h⟩) | h
    · refine .inl (.inl ?_)
      rw [cut_ne (fun z => by rw [z, hp] at h; exact (ho _).1 (Option.some.inj h))]; exact h
    · refine .inl (.inr ⟨ob, ?_⟩)
      rw [cut_ne (fun z => by rw [z, hp] at h; exact (ho _).2 ob (Option.some.inj h))]; exact h
    · exact .inr h
theorem Dts.cutO (hp : F2 p = some o) (ho : nTup o) : ∀ {vs : List V} {ds : List PyData}, Dts K F2 vs ds → noLs ds = true → Dts K (cut F2 p) vs ds
  | _, _, .nil, _ => .nil
  | _, _, .cons h t, n => by
    rw [noLs, Bool.and_eq_true] at n
    exact .cons (Dt.cutO hp ho h n.1) (Dts.cutO hp ho t n.2)
end
end
section
variable {K : PySem.W.Frag} {σ : St} {F F' : Hp} {cs cs1 cs2 cs3 : Cs} {ta tb tc te : TE} {d e : PyData} {as : TA}
theorem d_lendO {l1 l2 m1 m2 : Cs} {p : Addr} {o : HO} (ho : nTup o) (hn : noL d = true) (h : ∀ F1, Gr F F1 → F1 p = none → EvD K te σ (upd F1 p o) (l1 ++ l2) d (m1 ++ m2)) : EvD K te σ F (l1 ++ (p, o) :: l2) d (m1 ++ (p, o) :: m2) := fun F1 H1 g1 s Q q => by
  refine h F1 g1 s.freeAt (upd F1 p o) H1 .rfl s.frozeAt Q fun v F2 H2 g2 s2 h2 => ?_
  exact q v (cut F2 p) H2 (gr_cut s.freeAt g2) (Sta.lent g2 s2) (h2.cutO (g2 p _ upd_same) ho hn)
theorem c_lendO {l1 l2 m1 m2 : Cs} {p : Addr} {o : HO} {ds : List PyData} (ho : nTup o) (hn : noLs ds = true) (h : ∀ F1, Gr F F1 → F1 p = none → EvC K te σ (upd F1 p o) (l1 ++ l2) ds (m1 ++ m2)) : EvC K te σ F (l1 ++ (p, o) :: l2) ds (m1 ++ (p, o) :: m2) := fun F1 H1 g1 s Q q => by
  refine h F1 g1 s.freeAt (upd F1 p o) H1 .rfl s.frozeAt Q fun a vs F2 H2 g2 s2 h2 => ?_
  exact q a vs (cut F2 p) H2 (gr_cut s.freeAt g2) (Sta.lent (l1 := (a, .lst vs) :: m1) g2 s2) (h2.cutO (g2 p _ upd_same) ho hn)
theorem sb_drop2 {z c : Addr × HO} : Sb (z :: c :: cs) (z :: cs) := Sb.tr (sb_perm (.swap c z cs)) sb_drop
/-- xs.insert(i, x), a cell -/
def insM {α : Type} (xs : List α) (i : Int) (x : α) : Option (List α) := if xs.length < 100000 ∧ 0 ≤ i ∧ i < 2 ^ 63 then some (xs.take i.toNat ++ [x] ++ xs.drop i.toNat) else none
abbrev rInsert : V → List V → Hp → VK → Prop := fun x vs H Q => ∃ (l : Addr) (xs : List V) (i : Int) (y : V), x = .ref l ∧ vs = [.int i, y] ∧ H l = some (.lst xs) ∧ xs.length < sizeLine ∧ 0 ≤ i ∧ i < 2 ^ 63 ∧ Q .non (upd H l (.lst (xs.take i.toNat ++ [y] ++ xs.drop i.toNat)))
theorem s_insFV {α : Type} {vf : α → V} {en : α → PyData} {k1 k2 m1 m2 l1 l2 : Cs} {to ti : TE} {p : Addr} {xs ys : List α} {x : α} {k : Int} {nx bk ct : St → Hp → Prop} {rt : VK} {H : Hp} (hw : ∀ F v x, Dt K F v (en x) → v = vf x) (s : Sta F (k1 ++ (p, .lst (xs.map vf)) :: k2) H) (hi : VP to σ F (k1 ++ (p, .lst (xs.map vf)) :: k2) (.ref p))
    (h1 : EvD K ti σ F (k1 ++ (p, .lst (xs.map vf)) :: k2) (.int k) (m1 ++ (p, .lst (xs.map vf)) :: m2)) (h : EvD K te σ F (m1 ++ (p, .lst (xs.map vf)) :: m2) (en x) (l1 ++ (p, .lst (xs.map vf)) :: l2)) (hm : insM xs k x = some ys)
    (q : ∀ F2 H2, Gr F F2 → Sta F2 (l1 ++ (p, .lst (ys.map vf)) :: l2) H2 → nx σ H2) : tDrop (tBM K "list" rInsert to (tCons ti (tCons te tNil))) ⟨nx, rt, bk, ct⟩ σ H := by
  unfold insM at hm; split at hm
  · rename_i hl
    cases hm
    refine hi F H .rfl s _ ⟨.inl ⟨rfl, _, .inl (.inl s.getAt)⟩, h1 F H .rfl s _ fun v F2 H2 g2 s2 hv => h F2 H2 g2 s2 _ fun w F3 H3 g3 s3 hx => ⟨p, xs.map vf, k, w, rfl, by rw [hv.toInt], s3.getAt, by rw [List.length_map]; exact szl hl.1, hl.2.1, hl.2.2, q F3 _ (g2.tr g3) ?_⟩⟩
    cases hw F3 w x hx
    rw [List.map_append, List.map_append, List.map_take, List.map_drop]
    exact s3.putAt
  · cases hm
end
end Bw

namespace Bw
open PySem L2
theorem eqE_OI : EqE (eO eI) := fun x y => by
  cases x <;> cases y <;> simp [eO, PyData.eqv]
  exact beq_dec _ _
theorem eqE_OS : EqE (eO eS) := fun x y => by
  cases x <;> cases y <;> simp [eO, PyData.eqv]
  exact beq_dec _ _
theorem eqE_OB : EqE (eO eB) := fun x y => by
  cases x <;> cases y <;> simp [eO, PyData.eqv]
  exact beq_dec _ _
theorem sh_OI : ShE 0 (eO eI) := fun x => by cases x <;> exact ⟨by simp [eO, PyData.canLay0], by simp [eO, PyData.depth]⟩
theorem sh_OB : ShE 0 (eO eB) := fun x => by cases x <;> exact ⟨by simp [eO, PyData.canLay0], by simp [eO, PyData.depth]⟩
section
variable {K : PySem.W.Frag} {σ : St} {F F' : Hp} {cs cs1 cs2 cs3 : Cs} {ta tb tc te : TE} {d e : PyData} {as : TA} {nx bk ct : St → Hp → Prop} {rt : VK} {H : Hp}
theorem sqT_cut {p a : Addr} {o : HO} {xs : List V} (hp : F p = some o) (ho : nTup o) (h : SqT K F a xs) : SqT K (cut F p) a xs := by
  rcases h with (h | ⟨ob, h⟩) | h
  · refine .inl (.inl ?_)
    rw [cut_ne (fun z => by rw [z, hp] at h; exact (ho _).1 (Option.some.inj h))]; exact h
  · refine .inl (.inr ⟨ob, ?_⟩)
    rw [cut_ne (fun z => by rw [z, hp] at h; exact (ho _).2 ob (Option.some.inj h))]; exact h
  · exact .inr h
theorem i_tupM {α : Type} {en : α → PyData} {xs : List α} (h : EvD K te σ F cs (.tuple (xs.map en)) cs1) : EvI K (iTup K te) σ F cs (xs.map en) cs1 := i_tup h
/-- xs.pop(k), nothing kept -/
theorem s_popFD {α : Type} {vf : α → V} {k1 k2 l1 l2 : Cs} {to : TE} {p : Addr} {xs ys : List α} {x : α} {ti : TE} {k : Int} (s : Sta F (k1 ++ (p, .lst (xs.map vf)) :: k2) H) (hi : VP to σ F (k1 ++ (p, .lst (xs.map vf)) :: k2) (.ref p))
    (h2 : EvD K ti σ F (k1 ++ (p, .lst (xs.map vf)) :: k2) (.int k) (l1 ++ (p, .lst (xs.map vf)) :: l2)) (hm : popM xs k = some (x, ys)) (q : ∀ F2 H2, Gr F F2 → Sta F2 (l1 ++ (p, .lst (ys.map vf)) :: l2) H2 → nx σ H2) : tDrop (tBM K "list" rPopAt to (tCons ti tNil)) ⟨nx, rt, bk, ct⟩ σ H := by
  obtain ⟨⟨a1, a2⟩, m, b1, b2, rfl⟩ := popM_some hm
  refine hi F H .rfl s _ ⟨.inl ⟨rfl, _, .inl (.inl s.getAt)⟩, h2 F H .rfl s _ fun w F3 H3 g3 s3 hw => ⟨p, xs.map vf, k, m, vf x, rfl, by cases hw.toInt; rfl, s3.getAt, a1, a2, by rw [List.length_map]; exact b1, by rw [List.getElem?_map, b2]; rfl, ?_⟩⟩
  have s4 := s3.putAt (o' := .lst ((xs.map vf).eraseIdx m))
  refine q F3 _ g3 ?_
  rw [er_map]; exact s4
theorem Dts.erase : ∀ {vs : List V} {ds : List PyData} (n : Nat), Dts K F vs ds → Dts K F (vs.eraseIdx n) (ds.eraseIdx n)
  | _, _, _, .nil => .nil
  | _, _, 0, .cons _ t => t
  | _, _, n + 1, .cons h t => .cons h (Dts.erase n t)
theorem s_popGD {α : Type} {en : α → PyData} {k1 k2 l1 l2 : Cs} {to : TE} {p : Addr} {vs : List V} {xs ys : List α} {x : α} {ti : TE} {k : Int} (s : Sta F (k1 ++ (p, .lst vs) :: k2) H) (hf : Dts K F vs (xs.map en)) (hi : VP to σ F (k1 ++ (p, .lst vs) :: k2) (.ref p))
    (h2 : EvD K ti σ F (k1 ++ (p, .lst vs) :: k2) (.int k) (l1 ++ (p, .lst vs) :: l2)) (hm : popM xs k = some (x, ys)) (q : ∀ us F2 H2, Gr F F2 → Sta F2 (l1 ++ (p, .lst us) :: l2) H2 → Dts K F2 us (ys.map en) → nx σ H2) : tDrop (tBM K "list" rPopAt to (tCons ti tNil)) ⟨nx, rt, bk, ct⟩ σ H := by
  obtain ⟨⟨a1, a2⟩, m, b1, b2, rfl⟩ := popM_some hm
  have hl : vs.length = xs.length := by rw [hf.len, List.length_map]
  have hm' : m < vs.length := by rw [hl]; exact (List.getElem?_eq_some_iff.mp b2).1
  refine hi F H .rfl s _ ⟨.inl ⟨rfl, _, .inl (.inl s.getAt)⟩, h2 F H .rfl s _ fun w F3 H3 g3 s3 hw => ⟨p, vs, k, m, vs[m], rfl, by cases hw.toInt; rfl, s3.getAt, a1, a2, by rw [hl]; exact b1, List.getElem?_eq_getElem hm', ?_⟩⟩
  refine q _ F3 _ g3 (s3.putAt (o' := .lst (vs.eraseIdx m))) ?_
  rw [er_map]
  exact Dts.erase m (hf.gr g3)
end
end Bw

namespace Bw
open PySem PySem.Calls PyProof.Rows PySem.W
/-! list(zip(a, b)) -/
/-- the pairs told so far, each in a tuple of its own -/
structure ZG (xs ys : Array Value) (lo : Addr) (h : Heap) (as : List Addr) : Prop where
  rise : as.Pairwise (· < ·)
  above : ∀ a ∈ as, lo < a
  pairs : ∀ (j : Nat) (a : Addr), as[j]? = some a → ∃ x y, xs[j]? = some x ∧ ys[j]? = some y ∧ h.get? a = some { cls := .type "tuple", data := .seq #[x, y] }
theorem ZG.there {xs ys : Array Value} {lo : Addr} {h : Heap} {as : List Addr} (g : ZG xs ys lo h as) {a : Addr} (ha : a ∈ as) : a < h.objs.size := by
  obtain ⟨j, hj⟩ := List.mem_iff_getElem?.mp ha
  obtain ⟨_, _, _, _, e⟩ := g.pairs j a hj
  exact Heap.lt_size e
structure ZSt (h : Heap) (z TI TO i1 i2 l1 l2 S : Addr) (i : Nat) : Prop where
  ti : IsPair h TI (.ref i1) (.ref i2)
  it1 : h.IsListIter i1 l1 i
  it2 : h.IsListIter i2 l2 i
  out : (IsZip h z TI TO .none ∧ ∃ x y, IsPair h TO x y) ∨ ∃ T f oT, IsZipHeld h z TI TO T f ∧ h.get? T = some oT ∧ T ≠ z ∧ T ≠ i1 ∧ T ≠ i2 ∧ T ≠ S
theorem ZSt.keep {h h' : Heap} {z TI TO i1 i2 l1 l2 S : Addr} {i : Nat} (st : ZSt h z TI TO i1 i2 l1 l2 S i) (k : ∀ b o, b ≠ S → h.get? b = some o → h'.get? b = some o)
    (n1 : TI ≠ S) (n2 : i1 ≠ S) (n3 : i2 ≠ S) (n4 : z ≠ S) (n5 : TO ≠ S) : ZSt h' z TI TO i1 i2 l1 l2 S i where
  ti := k _ _ n1 st.ti
  it1 := st.it1.at fun o e => k _ o n2 e
  it2 := st.it2.at fun o e => k _ o n3 e
  out := by
    rcases st.out with ⟨a, x, y, b⟩ | ⟨T, f, oT, a, b, c1, c2, c3, c4⟩
    · exact .inl ⟨k _ _ n4 a, x, y, k _ _ n5 b⟩
    · exact .inr ⟨T, f, oT, k _ _ n4 a, k _ _ c4 b, c1, c2, c3, c4⟩
section
variable {prog : Program} {w : World} {A : Around} {E : Value → Shared → Prop} {s : Shared} {z TI TO i1 i2 l1 l2 S : Addr} {xs ys : Array Value}
theorem zl_item {i : Nat} {x y : Value} {Q : Option Value → Shared → Prop} (D : ZipApart z TI TO i1 i2 l1 l2) (st : ZSt s.heap z TI TO i1 i2 l1 l2 S i) (hS : S < s.heap.objs.size) (hl1 : s.heap.IsList l1 xs) (hl2 : s.heap.IsList l2 ys)
    (hx : xs[i]? = some x) (hy : ys[i]? = some y)
    (hQ : ∀ h', ZSt h' z TI TO i1 i2 l1 l2 S (i + 1) → IsPair h' s.heap.objs.size x y → h'.objs.size = s.heap.objs.size + 1 →
      (∀ c o, c ≠ z → c ≠ TO → c ≠ i1 → c ≠ i2 → s.heap.get? c = some o → h'.get? c = some o) → Q (some (.ref s.heap.objs.size)) { s with heap := h' }) : wpAny (model prog w) A (pyNext (.ref z)) Q E s := by
  have li1 : i1 < s.heap.objs.size := let ⟨_, e, _⟩ := st.it1; Heap.lt_size e
  have li2 : i2 < s.heap.objs.size := let ⟨_, e, _⟩ := st.it2; Heap.lt_size e
  rcases st.out with ⟨hz, a, b, hTO⟩ | ⟨T, f, oT, hz, hT, c1, c2, c3, c4⟩
  · have lz : z < s.heap.objs.size := Heap.lt_size hz
    exact wpAny_pyNext_zip_item D hz st.ti hTO st.it1 st.it2 hl1 hl2 hx hy fun h' hz' _ h1' h2' hp hsz hk =>
      hQ h' ⟨hk _ _ D.TIz D.TITO D.TIi1 D.TIi2 st.ti, h1', h2', .inr ⟨_, false, _, hz', hp, Nat.ne_of_gt lz, Nat.ne_of_gt li1, Nat.ne_of_gt li2, Nat.ne_of_gt hS⟩⟩ hp hsz hk
  · exact wpAny_pyNext_zip_item_held D hz hT st.ti st.it1 st.it2 hl1 hl2 hx hy fun h' hz' h1' h2' hp hsz hk =>
      hQ h' ⟨hk _ _ D.TIz D.TIi1 D.TIi2 st.ti, h1', h2', .inr ⟨T, true, oT, hz', hk _ _ c1 c2 c3 hT, c1, c2, c3, c4⟩⟩ hp hsz fun c o q1 _ q3 q4 e => hk c o q1 q3 q4 e
theorem zl_done {i : Nat} {Q : Option Value → Shared → Prop} (hh : A.handled = none) (D : ZipApart z TI TO i1 i2 l1 l2) (st : ZSt s.heap z TI TO i1 i2 l1 l2 S i) (hl1 : s.heap.IsList l1 xs) (hl2 : s.heap.IsList l2 ys)
    (hend : xs[i]? = none ∨ ys[i]? = none)
    (hQ : ∀ h', (∀ c o, c ≠ z → c ≠ TO → c ≠ i1 → c ≠ i2 → s.heap.get? c = some o → h'.get? c = some o) → Q none { s with heap := h' }) : wpAny (model prog w) A (pyNext (.ref z)) Q E s := by
  rcases st.out with ⟨hz, a, b, hTO⟩ | ⟨T, f, oT, hz, hT, c1, c2, c3, c4⟩
  · exact wpAny_pyNext_zip_end hh D hz st.ti hTO st.it1 st.it2 hl1 hl2 hend hQ
  · exact wpAny_pyNext_zip_end_held hh D hz hT st.ti st.it1 st.it2 hl1 hl2 hend fun h' hk => hQ h' fun c o q1 _ q3 q4 e => hk c o q1 q3 q4 e
end
section
variable {prog : Program} {w : World} {A : Around} {s : Shared} {R : Result → Shared → Prop} {z TI TO i1 i2 l1 l2 S : Addr} {xs ys : Array Value}
theorem zl_loop (hh : A.handled = none) (D : ZipApart z TI TO i1 i2 l1 l2) (nz : z < S) (nTI : TI < S) (nTO : TO < S) (n1 : i1 < S) (n2 : i2 < S) (nl1 : l1 < S) (nl2 : l2 < S) (hn : min xs.size ys.size ≤ sizeLine) (res : Value) {h₁ : Heap}
    (hR : ∀ h' tk acc c as, (∀ b o, b ≠ S → b ≠ z → b ≠ TO → b ≠ i1 → b ≠ i2 → h₁.get? b = some o → h'.get? b = some o) → h'.get? S = some { cls := .type "list", dict := none, data := .seq acc c, slots := #[] } → as.length = min xs.size ys.size →
      ZG xs ys S h' as → acc.toList = as.map Value.ref → R (.ok (.ret res)) { s with heap := h', toks := tk }) :
    ∀ (k i : Nat) (h : Heap) (tk c : Nat) (acc : Array Value) (as : List Addr), min xs.size ys.size - i = k → i ≤ min xs.size ys.size → ZSt h z TI TO i1 i2 l1 l2 S i → h.IsList l1 xs → h.IsList l2 ys →
      (∀ b o, b ≠ S → b ≠ z → b ≠ TO → b ≠ i1 → b ≠ i2 → h₁.get? b = some o → h.get? b = some o) →
      h.get? S = some { cls := .type "list", dict := none, data := .seq acc c, slots := #[] } → acc.toList = as.map Value.ref → as.length = i → ZG xs ys S h as →
      codeAny (model prog w) A (.builtin "list.extend.loop" ⟨[.ref S, .ref z, res], []⟩) R { s with heap := h, toks := tk } := by
  have a1 : S ≠ z := Nat.ne_of_gt nz
  have a2 : S ≠ TO := Nat.ne_of_gt nTO
  have a3 : S ≠ i1 := Nat.ne_of_gt n1
  have a4 : S ≠ i2 := Nat.ne_of_gt n2
  have gt : ∀ {b : Addr}, S < b → b ≠ S ∧ b ≠ z ∧ b ≠ TO ∧ b ≠ i1 ∧ b ≠ i2 := fun {b} hb => ⟨Nat.ne_of_gt hb, Nat.ne_of_gt (Nat.lt_trans nz hb), Nat.ne_of_gt (Nat.lt_trans nTO hb), Nat.ne_of_gt (Nat.lt_trans n1 hb), Nat.ne_of_gt (Nat.lt_trans n2 hb)⟩
  intro k
  induction k with
  | zero =>
    intro i h tk c acc as hk hi st hl1 hl2 hkeep hS hacc hal hG
    have hin : i = min xs.size ys.size := by omega
    refine codeAny_builtin PySem.F.entry_extend_loop ?_
    rw [Around.under_plainId PySem.F.plain_extend_loop _]
    show wpAny _ A.in1 (pyNext (.ref z) >>= _) _ _ _
    have hend : xs[i]? = none ∨ ys[i]? = none := by
      by_cases q : xs.size ≤ i
      · exact .inl (Array.getElem?_eq_none q)
      · exact .inr (Array.getElem?_eq_none (by omega))
    refine wpAny_bind (zl_done (s := { s with heap := h, toks := tk }) (A := A.in1) hh D st hl1 hl2 hend fun h' he => ?_)
    refine wpAny_pure (hR h' tk acc c as (fun b o q0 q1 q2 q3 q4 e => he b o q1 q2 q3 q4 (hkeep b o q0 q1 q2 q3 q4 e)) (he S _ a1 a2 a3 a4 hS) (by omega) ⟨hG.rise, hG.above, fun j a hj => ?_⟩ hacc)
    obtain ⟨x, y, e1, e2, e3⟩ := hG.pairs j a hj
    obtain ⟨_, q1, q2, q3, q4⟩ := gt (hG.above a (List.mem_of_getElem? hj))
    exact ⟨x, y, e1, e2, he a _ q1 q2 q3 q4 e3⟩
  | succ k ih =>
    intro i h tk c acc as hk hi st hl1 hl2 hkeep hS hacc hal hG
    have hlt : i < min xs.size ys.size := by omega
    have hx : xs[i]? = some xs[i] := Array.getElem?_eq_getElem (by omega)
    have hy : ys[i]? = some ys[i] := Array.getElem?_eq_getElem (by omega)
    generalize xs[i] = x at hx
    generalize ys[i] = y at hy
    have hsz : acc.size = i := by rw [← Array.length_toList, hacc, List.length_map, hal]
    refine codeAny_builtin PySem.F.entry_extend_loop ?_
    rw [Around.under_plainId PySem.F.plain_extend_loop _]
    show wpAny _ A.in1 (pyNext (.ref z) >>= _) _ _ _
    refine wpAny_bind (zl_item (s := { s with heap := h, toks := tk }) (S := S) D st (Heap.lt_size hS) hl1 hl2 hx hy fun h' st' ht hz hkp => ?_)
    dsimp only at ht hz hkp ⊢
    have hS' := hkp S _ a1 a2 a3 a4 hS
    have up : ∀ b o, b ≠ S → h'.get? b = some o → (h'.update S (Obj.mapSeq (·.push (Value.ref h.objs.size)))).get? b = some o := fun b o hb e => (Heap.get?_update_other _ _ (Ne.symm hb)).trans e
    have hSl : S < h.objs.size := Heap.lt_size hS
    show wpAny _ A.in1 (updateSeq S (·.push (Value.ref h.objs.size)) >>= _) _ _ _
    refine wpAny_bind ?_
    refine wpAny_updateSeq hS' rfl (wpAny_pure ⟨plainId_quiet PySem.F.plain_extend_loop _, ih (i + 1) _ tk _ (acc.push (Value.ref h.objs.size)) (as ++ [h.objs.size]) (by omega) hlt
      (st'.keep up (Nat.ne_of_lt nTI) (Nat.ne_of_lt n1) (Nat.ne_of_lt n2) (Nat.ne_of_lt nz) (Nat.ne_of_lt nTO)) (hl1.at fun o e => up l1 o (Nat.ne_of_lt nl1) (hkp l1 o D.l1z D.l1TO D.l1i1 D.l1i2 e)) (hl2.at fun o e => up l2 o (Nat.ne_of_lt nl2) (hkp l2 o D.l2z D.l2TO D.l2i1 D.l2i2 e))
      (fun b o q0 q1 q2 q3 q4 e => up b o q0 (hkp b o q1 q2 q3 q4 (hkeep b o q0 q1 q2 q3 q4 e))) (Heap.get?_update_self _ hS' rfl) (by rw [Array.toList_push, hacc, List.map_append]; rfl) (by rw [List.length_append, hal]; rfl) ⟨?_, ?_, ?_⟩⟩) (by rw [hsz]; omega) (by show (acc.push (Value.ref h.objs.size)).size ≤ sizeLine + 1; rw [Array.size_push, hsz]; omega)
    · refine List.pairwise_append.mpr ⟨hG.rise, List.pairwise_singleton _ _, fun a ha b hb => ?_⟩
      rw [List.mem_singleton.mp hb]
      exact hG.there ha
    · intro a ha
      rcases List.mem_append.mp ha with ha | ha
      · exact hG.above a ha
      · rw [List.mem_singleton.mp ha]; exact hSl
    · intro j b hj
      rcases Nat.lt_trichotomy j as.length with h1 | h1 | h1
      · rw [List.getElem?_append_left h1] at hj
        obtain ⟨x', y', e1, e2, e3⟩ := hG.pairs j b hj
        obtain ⟨q0, q1, q2, q3, q4⟩ := gt (hG.above b (List.mem_of_getElem? hj))
        exact ⟨x', y', e1, e2, up b _ q0 (hkp b _ q1 q2 q3 q4 e3)⟩
      · subst h1
        have hb : h.objs.size = b := by simpa using hj
        subst hb
        subst hal
        exact ⟨x, y, hx, hy, up _ _ (Nat.ne_of_gt hSl) ht⟩
      · have hnone : (as ++ [h.objs.size])[j]? = none := List.getElem?_eq_none (by rw [List.length_append, List.length_singleton]; omega)
        rw [hnone] at hj; cases hj
end
theorem zl_len : typeLookup (.type "zip") "__len__" = pure none := by rw [typeLookup_type, builtinLookup_eq_fast]; kernel_rfl
theorem zl_hin : typeLookup (.type "zip") "__length_hint__" = pure none := by rw [typeLookup_type, builtinLookup_eq_fast]; kernel_rfl
section
variable {prog : Program} {w : World} {A : Around} {E : Value → Shared → Prop} {s : Shared} {z TI TO i1 i2 l1 l2 S : Addr} {xs ys : Array Value}
theorem zl_hint {r : Addr} {Q : Bool → Shared → Prop} (hT : s.TypeIs (.ref r) "zip") (h : Q true s) : wpAny (model prog w) A (Builtin.List.listLengthHint (.ref r)) Q E s := by
  unfold Builtin.List.listLengthHint
  refine wpAny_bind (wpAny_specialOf hT zl_len ?_)
  refine wpAny_ite_split (fun hab => absurd hab (by decide)) (fun _ => ?_)
  refine wpAny_ite_split (fun hab => absurd hab (by decide)) (fun _ => ?_)
  refine wpAny_bind (wpAny_specialOf hT zl_hin ?_)
  exact wpAny_pure h
theorem zl_extend {R : Result → Shared → Prop} (hh : A.handled = none) (D : ZipApart z TI TO i1 i2 l1 l2) (st : ZSt s.heap z TI TO i1 i2 l1 l2 S 0) (hl1 : s.heap.IsList l1 xs) (hl2 : s.heap.IsList l2 ys)
    (nz : z < S) (nTI : TI < S) (nTO : TO < S) (n1 : i1 < S) (n2 : i2 < S) (nl1 : l1 < S) (nl2 : l2 < S) (hz : IsZip s.heap z TI TO .none) (res : Value) (c₀ : Nat) (hS : s.heap.get? S = some { cls := .type "list", data := .seq #[] c₀ })
    (hR : ∀ h' tk acc c as, (∀ b o, b ≠ S → b ≠ z → b ≠ TO → b ≠ i1 → b ≠ i2 → s.heap.get? b = some o → h'.get? b = some o) → h'.get? S = some { cls := .type "list", dict := none, data := .seq acc c, slots := #[] } → as.length = min xs.size ys.size →
      ZG xs ys S h' as → acc.toList = as.map Value.ref → R (.ok (.ret res)) { s with heap := h', toks := tk }) (hn : min xs.size ys.size ≤ sizeLine) :
    wpAny (model prog w) A.in1 (Builtin.List.listExtendWith (.ref S) (.ref z) res)
      (fun fin s' => match fin with | .done f => R (.ok f) s' | .again c' => c'.quiet = true ∧ codeAny (model prog w) A c' R s') (fun e s' => R (.error e) s') s := by
  have hT : s.TypeIs (.ref z) "zip" := ⟨_, hz, rfl⟩
  have key : ∀ (h : Heap) (c₁ tk : Nat), (∀ b o, b ≠ S → s.heap.get? b = some o → h.get? b = some o) →
      h.get? S = some { cls := .type "list", data := .seq #[] c₁ } → codeAny (model prog w) A (.builtin "list.extend.loop" ⟨[.ref S, .ref z, res], []⟩) R { s with heap := h, toks := tk } := by
    intro h c₁ tk hk hS₁
    exact zl_loop (s := s) (h₁ := s.heap) hh D nz nTI nTO n1 n2 nl1 nl2 hn res hR (min xs.size ys.size) 0 h tk c₁ #[] [] (Nat.sub_zero _) (Nat.zero_le _)
      (st.keep hk (Nat.ne_of_lt nTI) (Nat.ne_of_lt n1) (Nat.ne_of_lt n2) (Nat.ne_of_lt nz) (Nat.ne_of_lt nTO)) (hl1.at fun o e => hk _ o (Nat.ne_of_lt nl1) e) (hl2.at fun o e => hk _ o (Nat.ne_of_lt nl2) e)
      (fun b o hb _ _ _ _ e => hk b o hb e) hS₁ rfl rfl ⟨List.Pairwise.nil, (fun _ ha => nomatch ha), (fun j a hj => by simp at hj)⟩
  unfold Builtin.List.listExtendWith
  refine wpAny_bind (wpAny_typeOf (T := "zip") hT ?_)
  have h1 : Builtin.List.listSameRef (.ref S) (.ref z) = false := by simp [Builtin.List.listSameRef, Nat.ne_of_gt nz]
  have h2 : (Value.type "zip" == Value.type "list") = false := by decide
  have h3 : (Value.type "zip" == Value.type "tuple") = false := by decide
  simp only [h1, h2, h3, Bool.or_false, Bool.false_eq_true, if_false]
  refine wpAny_bind (wpAny_pyIter_zip hz ?_)
  refine wpAny_bind (wpAny_holding (zl_hint hT ?_))
  refine wpAny_ite_split (fun _ => ?_) (fun hab => absurd rfl hab)
  refine wpAny_bind (wpAny_rule ?_)
  refine wpAny_bind ?_
  show wpAny _ _ (updateSeq S (·.push .none) >>= fun _ => updateSeq S (·.pop)) _ _ _
  refine wpAny_bind (wpAny_updateSeq hS rfl ?_)
  have hS₂ := Heap.get?_update_self (Obj.mapSeq (·.push Value.none)) hS rfl
  refine wpAny_updateSeq (hz := by seq_fits) hS₂ rfl ?_
  have hS₃ := Heap.get?_update_self (Obj.mapSeq (·.pop)) hS₂ rfl
  refine wpAny_pure ⟨plainId_quiet PySem.F.plain_extend_loop _, key _ _ _ (fun b o hb e => ?_) hS₃⟩
  exact (Heap.get?_update_other _ _ (Ne.symm hb)).trans ((Heap.get?_update_other _ _ (Ne.symm hb)).trans e)
theorem zl_init {R : Result → Shared → Prop} (hh : A.handled = none) (D : ZipApart z TI TO i1 i2 l1 l2) (st : ZSt s.heap z TI TO i1 i2 l1 l2 S 0) (hl1 : s.heap.IsList l1 xs) (hl2 : s.heap.IsList l2 ys)
    (nz : z < S) (nTI : TI < S) (nTO : TO < S) (n1 : i1 < S) (n2 : i2 < S) (nl1 : l1 < S) (nl2 : l2 < S) (hz : IsZip s.heap z TI TO .none) (hS : s.heap.get? S = some { cls := .type "list", data := .seq #[] })
    (hR : ∀ h' tk acc c as, (∀ b o, b ≠ S → b ≠ z → b ≠ TO → b ≠ i1 → b ≠ i2 → s.heap.get? b = some o → h'.get? b = some o) → h'.get? S = some { cls := .type "list", dict := none, data := .seq acc c, slots := #[] } → as.length = min xs.size ys.size →
      ZG xs ys S h' as → acc.toList = as.map Value.ref → R (.ok (.ret .none)) { s with heap := h', toks := tk }) (hn : min xs.size ys.size ≤ sizeLine) :
    wpAny (model prog w) A.in1 (Builtin.«list.__init__» ⟨[.ref S, .ref z], []⟩)
      (fun fin s' => match fin with | .done f => R (.ok f) s' | .again c' => c'.quiet = true ∧ codeAny (model prog w) A c' R s') (fun e s' => R (.error e) s') s := by
  show wpAny _ _ (do let old ← Builtin.List.listItems (.ref S); Builtin.List.listUpdate (.ref S) (fun _ => #[]); letGo old.toList.reverse; Builtin.List.listExtendWith (.ref S) (.ref z) .none) _ _ s
  refine wpAny_bind ?_
  unfold Builtin.List.listItems
  refine wpAny_bind (wpAny_seqItems hS rfl (wpAny_pure ?_))
  show wpAny _ _ (updateSeq S (fun _ => #[]) >>= fun _ => letGo (#[] : Array Value).toList.reverse >>= fun _ => Builtin.List.listExtendWith (.ref S) (.ref z) .none) _ _ s
  refine wpAny_bind (wpAny_updateSeq hS rfl ?_)
  have hS₂ := Heap.get?_update_self (Obj.mapSeq (fun _ => (#[] : Array Value))) hS rfl
  have oth : ∀ b o, b ≠ S → s.heap.get? b = some o → (s.heap.update S (Obj.mapSeq (fun _ => (#[] : Array Value)))).get? b = some o :=
    fun b o hb e => (Heap.get?_update_other _ _ (Ne.symm hb)).trans e
  refine wpAny_bind (wpAny_letGo ?_)
  refine zl_extend hh D (st.keep oth (Nat.ne_of_lt nTI) (Nat.ne_of_lt n1) (Nat.ne_of_lt n2) (Nat.ne_of_lt nz) (Nat.ne_of_lt nTO)) (hl1.at fun o e => oth _ o (Nat.ne_of_lt nl1) e) (hl2.at fun o e => oth _ o (Nat.ne_of_lt nl2) e)
    nz nTI nTO n1 n2 nl1 nl2 (oth _ _ (Nat.ne_of_lt nz) hz) .none _ hS₂ (fun h' tk acc c as hk hS' hl hG hacc => ?_) hn
  exact hR h' tk acc c as (fun b o q0 q1 q2 q3 q4 e => hk b o q0 q1 q2 q3 q4 (oth b o q0 e)) hS' hl hG hacc
theorem zl_call {Q : Value → Shared → Prop} {a b : Value} (hh : A.handled = none) (D : ZipApart z TI TO i1 i2 l1 l2) (hz : IsZip s.heap z TI TO .none) (hTI : IsPair s.heap TI (.ref i1) (.ref i2)) (hTO : IsPair s.heap TO a b) (h1 : s.heap.IsListIter i1 l1 0) (h2 : s.heap.IsListIter i2 l2 0)
    (hl1 : s.heap.IsList l1 xs) (hl2 : s.heap.IsList l2 ys) (hn : min xs.size ys.size ≤ sizeLine)
    (hQ : ∀ h' tk acc c as, (∀ b o, b ≠ z → b ≠ TO → b ≠ i1 → b ≠ i2 → s.heap.get? b = some o → h'.get? b = some o) → h'.get? s.heap.objs.size = some { cls := .type "list", dict := none, data := .seq acc c, slots := #[] } → as.length = min xs.size ys.size →
      ZG xs ys s.heap.objs.size h' as → acc.toList = as.map Value.ref → Q (.ref s.heap.objs.size) { s with heap := h', toks := tk }) :
    wpAny (model prog w) A (call (.type "list") [.ref z]) Q E s := by
  refine callType_codes (Q₁ := fun obj s₁ => obj = .ref s.heap.objs.size ∧ s₁ = { s with heap := s.heap.push { cls := .type "list", data := .seq #[] } }) PySem.F.called_list (PySem.F.typeCall_list_1 _) PySem.F.entry_list_init
    (code_list_new _ ⟨rfl, rfl⟩) fun obj s₁ h₁ => ?_
  obtain ⟨rfl, rfl⟩ := h₁
  have hS : (s.heap.push { cls := .type "list", data := .seq #[] }).get? s.heap.objs.size = some { cls := .type "list", data := .seq #[] } := Heap.get?_push_size _ rfl
  have pk : ∀ b o, s.heap.get? b = some o → (s.heap.push { cls := .type "list", data := .seq #[] }).get? b = some o := fun b o e => Heap.get?_push_of_some _ e
  have li1 : i1 < s.heap.objs.size := let ⟨_, e, _⟩ := h1; Heap.lt_size e
  have li2 : i2 < s.heap.objs.size := let ⟨_, e, _⟩ := h2; Heap.lt_size e
  have ll1 : l1 < s.heap.objs.size := let ⟨_, e, _⟩ := hl1; Heap.lt_size e
  have ll2 : l2 < s.heap.objs.size := let ⟨_, e, _⟩ := hl2; Heap.lt_size e
  refine ⟨⟨_, hS, rfl⟩, PySem.F.args_list_init_2 _ _, zl_init (A := A.in1) hh D ⟨pk _ _ hTI, h1.at fun o e => pk _ o e, h2.at fun o e => pk _ o e, .inl ⟨pk _ _ hz, _, _, pk _ _ hTO⟩⟩ (hl1.at fun o e => pk _ o e) (hl2.at fun o e => pk _ o e)
    (Heap.lt_size hz) (Heap.lt_size hTI) (Heap.lt_size hTO) li1 li2 ll1 ll2 (pk _ _ hz) hS (fun h' tk acc c as hk hS' hl hG hacc => ?_) hn⟩
  exact ⟨rfl, hQ h' tk acc c as (fun b o q1 q2 q3 q4 e => hk b o (Nat.ne_of_lt (Heap.lt_size e)) q1 q2 q3 q4 (Heap.get?_push_of_some _ e)) hS' hl hG hacc⟩
end
end Bw
namespace Bw
open PySem L2
/-! the laid pairs -/
def layT : Hp → List (V × V) → List Addr → Hp
  | H, p :: ps, t :: ts => layT (upd H t (.tup [p.1, p.2])) ps ts
  | H, _, _ => H
def freT : Hp → List (V × V) → List Addr → Prop
  | H, p :: ps, t :: ts => H t = none ∧ freT (upd H t (.tup [p.1, p.2])) ps ts
  | _, [], [] => True
  | _, _, _ => False
theorem layT_ne : ∀ (ts : List Addr) (ps : List (V × V)) (H : Hp) (b : Addr), b ∉ ts → layT H ps ts b = H b
  | [], [], _, _, _ => rfl
  | [], _ :: _, _, _, _ => rfl
  | _ :: _, [], _, _, _ => rfl
  | t :: ts, p :: ps, H, b, h => by
    show layT (upd H t _) ps ts b = _
    have n : b ≠ t := fun q => h (by rw [q]; exact List.mem_cons_self)
    rw [layT_ne ts ps _ b fun q => h (List.mem_cons_of_mem _ q), upd_ne n]
theorem freT_of : ∀ (ts : List Addr) (ps : List (V × V)) (H : Hp), ts.length = ps.length → ts.Nodup → (∀ t ∈ ts, H t = none) → freT H ps ts
  | [], [], _, _, _, _ => trivial
  | [], _ :: _, _, h, _, _ => by simp at h
  | _ :: _, [], _, h, _, _ => by simp at h
  | t :: ts, p :: ps, H, hl, nd, hn => by
    rw [List.nodup_cons] at nd
    refine ⟨hn t List.mem_cons_self, freT_of ts ps _ (by simpa using hl) nd.2 fun u hu => ?_⟩
    have n : u ≠ t := fun q => nd.1 (by rw [← q]; exact hu)
    rw [upd_ne n]
    exact hn u (List.mem_cons_of_mem _ hu)
theorem layT_at : ∀ (ts : List Addr) (ps : List (V × V)) (H : Hp) (j : Nat) (t : Addr) (p : V × V), ts.Nodup → ts[j]? = some t → ps[j]? = some p → layT H ps ts t = some (.tup [p.1, p.2])
  | [], _, _, _, _, _, _, h, _ => by simp at h
  | _ :: _, [], _, _, _, _, _, _, h => by simp at h
  | u :: ts, q :: ps, H, j, t, p, nd, h1, h2 => by
    rw [List.nodup_cons] at nd
    show layT (upd H u _) ps ts t = _
    cases j with
    | zero =>
      simp only [List.getElem?_cons_zero, Option.some.injEq] at h1 h2
      subst h1; subst h2
      rw [layT_ne ts ps _ _ nd.1, upd_same]
    | succ j => exact layT_at ts ps _ j t p nd.2 (by simpa using h1) (by simpa using h2)
def tListZip (K : PySem.W.Frag) (ta : TA) : TE := fun σ H Q => ta σ H fun vs H1 => ∃ a b xs ys, vs = [.ref a, .ref b] ∧ SqL K H1 a xs ∧ SqL K H1 b ys ∧
  ∀ (ts : List Addr) (l : Addr), freT H1 (xs.zip ys) ts → layT H1 (xs.zip ys) ts l = none → Q (.ref l) (upd (layT H1 (xs.zip ys) ts) l (.lst (ts.map V.ref)))
/-- many things laid at once -/
theorem inv_many {X : Cx} {pins : List (Addr × Obj)} {σ : St} {H H' : Hp} {s : Shared} {h' : Heap} {t' : Nat} (I : Inv X pins σ H s) (k : ∀ b u, s.heap.get? b = some u → h'.get? b = some u)
    (same : ∀ b, b < s.heap.objs.size → H' b = H b) (new : ∀ b o, s.heap.objs.size ≤ b → H' b = some o → ObjOk X.prog X.w H' h' b o) : Inv X pins σ H' { s with heap := h', toks := t' } := by
  refine I.un ⟨fun b o e _ _ _ => k b o e, fun b o e _ _ _ => ⟨o.slots, k b o e⟩, fun b o e n _ => (same b (Heap.lt_size e)).trans n, fun b o e _ => ⟨o, k b o e⟩, fun b xs e => (same b (I.hok.lt e)).trans e, fun b o u e => (same b (I.hok.lt e)).trans e, fun b ps e => ⟨#[], by rw [same b (I.hok.lt e), e]; simp⟩⟩ fun b o e => ?_
  by_cases q : b < s.heap.objs.size
  · rw [same b q] at e
    exact (I.hok b o e).stay (fun c u _ z => k c u z) (fun c z => (same c (I.hok.lt z)).trans z) fun c xs z => (same c (I.hok.lt z)).trans z
  · exact new b o (Nat.le_of_not_lt q) e
theorem vals_refs : ∀ as : List Addr, Vals (as.map V.ref) (as.map Value.ref)
  | [] => .nil
  | _ :: as => .cons rfl (vals_refs as)
section
variable {X : Cx} {e e2 : Expr} {ta : TA} {p p0 pos pos0 : Pos}
theorem pe_listzip (hg0 : Gl X "list") (hm0 : X.mg "list" = none) (hg : Gl X "zip") (hm : X.mg "zip" = none) (ha : PA X [e, e2] ta) (hc : X.calm = true)
    (hs : starEach [e, e2] X.env = (false, eval e X.env) :: starEach [e2] X.env := by rfl) (hpl : (backTo pos (starEach [e2] X.env)).any (·.1) = false := by rfl) :
    PE X (.Call (.Name "list" p0) [.Call (.Name "zip" p) [e, e2] [] pos] [] pos0) (tListZip X.K ta) := by
  refine ⟨fun pins s σ H Q I h => ?_⟩
  refine wpAny_Call_Name_kw (ld_blt I hg0 hm0 PyProof.Rows.boot_list ?_)
  refine PyProof.Rows.callWith_type1 (Calls.spliced_cons ?_) rfl rfl
  refine PyProof.Rows.Call_ (ld_blt I hg hm PyProof.Rows.boot_zip (PyProof.Rows.callWith_type1 (thn (ha.run pos pins s σ H _ I h) fun us s1 ⟨vs, H1, I1, r1, q1⟩ => ?_) hs hpl))
  obtain ⟨a, b, xs, ys, ex, hqx, hqy, q⟩ := q1
  subst ex
  cases r1 with
  | cons r rr =>
    cases rr with
    | cons r' rr =>
      cases rr
      cases r
      cases r'
      obtain ⟨its, rv, p1, z1⟩ := I1.list hqx
      obtain ⟨its2, rv2, p2, z2⟩ := I1.list hqy
      have la : a < s1.heap.objs.size := p1.lt
      have lb : b < s1.heap.objs.size := p2.lt
      have e1 := rv.length
      have e2 := rv2.length
      refine call_zip_2 p1.isList p2.isList fun h' hz hTI hTO h1 h2 hsz hk => ?_
      refine Calls.spliced_nil ?_
      refine zl_call (s := { s1 with heap := h' }) (xs := its.toArray) (ys := its2.toArray) (I.ok.hd hc) (PySem.W.ktu_apart s1.heap.objs.size a b la lb) hz hTI hTO h1 h2 (p1.isList.at fun o x => hk _ o x) (p2.isList.at fun o x => hk _ o x) (by simp only [List.size_toArray]; omega) fun h'' tk acc c as hk2 hl hlen hG hacc => ?_
      dsimp only at hl hlen hG ⊢
      have keep : ∀ b o, s1.heap.get? b = some o → h''.get? b = some o := fun b o x => by
        have bl : b < s1.heap.objs.size := Heap.lt_size x
        have up : ∀ k : Nat, b ≠ s1.heap.objs.size + k := fun k => Nat.ne_of_lt (Nat.lt_of_lt_of_le bl (Nat.le_add_right _ _))
        exact hk2 b o (up 4) (up 3) (up 0) (up 1) (hk b o x)
      have sz' : s1.heap.objs.size ≤ h'.objs.size := by rw [hsz]; exact Nat.le_add_right _ _
      have nd : as.Nodup := hG.rise.imp fun hab => Nat.ne_of_lt hab
      have hab : ∀ t ∈ as, s1.heap.objs.size + 5 < t := fun t ht => hsz ▸ hG.above t ht
      have zl : (xs.zip ys).length = as.length := by rw [List.length_zip, hlen]; simp only [List.size_toArray]; omega
      have nl : h'.objs.size ∉ as := fun hm => Nat.lt_irrefl _ (hG.above _ hm)
      have fr : ∀ t ∈ as, H1 t = none := fun t ht => I1.hok.fresh (Nat.le_of_lt (Nat.lt_of_le_of_lt (Nat.le_add_right _ 5) (hab t ht)))
      have ln : layT H1 (xs.zip ys) as h'.objs.size = none := by rw [layT_ne _ _ _ _ nl]; exact I1.hok.fresh sz'
      have I2 : Inv X pins σ (upd (layT H1 (xs.zip ys) as) h'.objs.size (.lst (as.map V.ref))) { s1 with heap := h'', toks := tk } := by
        refine inv_many I1 keep (fun b hb => ?_) fun b o hb ho => ?_
        · rw [upd_ne (Nat.ne_of_lt (Nat.lt_of_lt_of_le hb sz')), layT_ne _ _ _ _ fun hm => Nat.lt_irrefl _ (Nat.lt_trans (Nat.lt_of_lt_of_le hb (Nat.le_add_right _ 5)) (hab b hm))]
        · by_cases q1 : b = h'.objs.size
          · subst q1
            rw [upd_same] at ho
            cases ho
            refine ⟨by rw [List.length_map, ← zl, List.length_zip]; omega, acc.toList, c, ?_, by rw [Array.toArray_toList]; exact hl⟩
            rw [hacc]
            exact vals_refs as
          · rw [upd_ne q1] at ho
            by_cases q2 : b ∈ as
            · obtain ⟨j, hj⟩ := List.mem_iff_getElem?.mp q2
              have hjl : j < as.length := (List.getElem?_eq_some_iff.mp hj).1
              have hjz : (xs.zip ys)[j]? = some (xs.zip ys)[j] := List.getElem?_eq_getElem (by omega)
              have hat := layT_at as (xs.zip ys) H1 j b _ nd hj hjz
              rw [hat] at ho
              cases ho
              obtain ⟨x, y, x1, y1, hT⟩ := hG.pairs j b hj
              have hx : xs[j]? = some (xs.zip ys)[j].1 := by
                rw [List.getElem_zip]; exact List.getElem?_eq_getElem _
              have hy : ys[j]? = some (xs.zip ys)[j].2 := by
                rw [List.getElem_zip]; exact List.getElem?_eq_getElem _
              obtain ⟨u, hu1, ru⟩ := rv.get hx
              obtain ⟨u2, hu2, ru2⟩ := rv2.get hy
              have x1' : its[j]? = some x := by simpa using x1
              have y1' : its2[j]? = some y := by simpa using y1
              rw [hu1] at x1'; cases x1'
              rw [hu2] at y1'; cases y1'
              exact ⟨by show 2 ≤ sizeLine; decide, [_, _], .cons ru (.cons ru2 .nil), ⟨_, hT, rfl, _, rfl⟩⟩
            · rw [layT_ne _ _ _ _ q2, I1.hok.fresh hb] at ho
              cases ho
      exact ⟨.ref h'.objs.size, _, I2, rfl, q as _ (freT_of _ _ _ zl.symm nd fr) ln⟩
end
section
variable {K : PySem.W.Frag} {σ : St} {F : Hp} {cs cs1 : Cs} {as : TA}
theorem lay_sta : ∀ (vs ws : List V) (ds es : List PyData) (ts : List Addr) (F H : Hp), Sta F cs H → freT H (vs.zip ws) ts → Dts K F vs ds → Dts K F ws es → ∃ F', Gr F F' ∧ Sta F' cs (layT H (vs.zip ws) ts) ∧ Dts K F' (ts.map V.ref) (List.zipWith (fun d e => PyData.tuple [d, e]) ds es)
  | [], _, _, _, ts, F, H, s, f, h1, h2 => by
    cases h1
    cases ts with
    | nil => exact ⟨F, Gr.rfl, s, .nil⟩
    | cons t ts => exact absurd f id
  | _ :: _, [], _, _, ts, F, H, s, f, h1, h2 => by
    cases h1
    cases h2
    cases ts with
    | nil => exact ⟨F, Gr.rfl, s, .nil⟩
    | cons t ts => exact absurd f id
  | v :: vs, w :: ws, _, _, ts, F, H, s, f, h1, h2 => by
    cases h1 with
    | cons a1 b1 =>
      cases h2 with
      | cons a2 b2 =>
        cases ts with
        | nil => exact absurd f id
        | cons t ts =>
          obtain ⟨nt, f⟩ := f
          have g0 : Gr F (upd F t (.tup [v, w])) := Gr.new (s.fr.back nt)
          obtain ⟨F', g, s', d⟩ := lay_sta vs ws _ _ ts _ _ (s.lay nt) f (b1.gr g0) (b2.gr g0)
          exact ⟨F', g0.tr g, s', .cons (.tup (.inl (.inl (g _ _ upd_same))) (.cons (a1.gr (g0.tr g)) (.cons (a2.gr (g0.tr g)) .nil))) d⟩
theorem c_listzip {α β : Type} {en : α → PyData} {em : β → PyData} {xs : List α} {ys : List β} (h : EvDs K as σ F cs [eL en xs, eL em ys] cs1) : EvC K (tListZip K as) σ F cs ((xs.zip ys).map (eT2 en em)) cs1 := fun F1 H1 g1 s Q q =>
  h F1 H1 g1 s _ fun v F2 H2 g2 s2 h2 => by
    obtain ⟨v, w, rfl, k1, k2⟩ := h2.two
    obtain ⟨p, vs, rfl, hs, hd⟩ := k1.toLst
    obtain ⟨p', ws, rfl, hs', hd'⟩ := k2.toLst
    refine ⟨p, p', vs, ws, rfl, gr_L s2.fr hs, gr_L s2.fr hs', fun ts l f nl => ?_⟩
    obtain ⟨F3, g3, s3, d3⟩ := lay_sta vs ws _ _ ts F2 H2 s2 f hd hd'
    rw [zip_map] at d3
    exact q l _ F3 _ (g2.tr g3) (s3.cell nl) d3
end
end Bw

namespace Bw
open PySem L2
/-! sorted, of ints -/
def insI (x : Int) : List Int → List Int
  | [] => [x]
  | y :: ys => if x ≤ y then x :: y :: ys else y :: insI x ys
def srtI : List Int → List Int
  | [] => []
  | x :: xs => insI x (srtI xs)
theorem insI_perm (x : Int) : ∀ ys, (insI x ys).Perm (x :: ys)
  | [] => List.Perm.refl _
  | y :: ys => by
    unfold insI
    split
    · exact List.Perm.refl _
    · exact ((insI_perm x ys).cons y).trans (List.Perm.swap x y ys)
theorem srtI_perm : ∀ xs, (srtI xs).Perm xs
  | [] => List.Perm.refl _
  | x :: xs => (insI_perm x _).trans ((srtI_perm xs).cons x)
theorem insI_sort (x : Int) : ∀ ys, ys.Pairwise (· ≤ ·) → (insI x ys).Pairwise (· ≤ ·)
  | [], _ => List.pairwise_singleton _ _
  | y :: ys, h => by
    rw [List.pairwise_cons] at h
    unfold insI
    split
    · rename_i q
      rw [List.pairwise_cons]
      exact ⟨fun z hz => by rcases List.mem_cons.mp hz with rfl | hz; (exact q); (exact Int.le_trans q (h.1 z hz)), List.pairwise_cons.mpr h⟩
    · rename_i q
      rw [List.pairwise_cons]
      refine ⟨fun z hz => ?_, insI_sort x ys h.2⟩
      rcases List.mem_cons.mp ((insI_perm x ys).mem_iff.mp hz) with rfl | hz
      · omega
      · exact h.1 z hz
theorem srtI_sort : ∀ xs, (srtI xs).Pairwise (· ≤ ·)
  | [] => List.Pairwise.nil
  | x :: xs => insI_sort x _ (srtI_sort xs)
theorem sort_uniq : ∀ (xs ys : List Int), xs.Perm ys → xs.Pairwise (· ≤ ·) → ys.Pairwise (· ≤ ·) → xs = ys
  | [], ys, p, _, _ => (List.Perm.nil_eq p)
  | x :: xs, [], p, _, _ => by have := p.length_eq; simp at this
  | x :: xs, y :: ys, p, h1, h2 => by
    rw [List.pairwise_cons] at h1 h2
    have e : x = y := by
      have hx : x ∈ y :: ys := p.mem_iff.mp List.mem_cons_self
      have hy : y ∈ x :: xs := p.mem_iff.mpr List.mem_cons_self
      rcases List.mem_cons.mp hx with e | hx
      · exact e
      · rcases List.mem_cons.mp hy with e | hy
        · exact e.symm
        · have := h1.1 y hy; have := h2.1 x hx; omega
    subst e
    rw [sort_uniq xs ys (List.Perm.cons_inv p) h1.2 h2.2]
section
variable {K : PySem.W.Frag} {σ : St} {F : Hp} {cs cs1 : Cs} {as : TA}
theorem c_sortedI {xs : List Int} (h : EvDs K as σ F cs [eL eI xs] cs1) : EvC K (tCB (rSortedI K) as) σ F cs ((srtI xs).map eI) cs1 := fun F1 H1 g1 s Q q =>
  h F1 H1 g1 s _ fun v F2 H2 g2 s2 h2 => by
    obtain ⟨v, rfl, k1⟩ := h2.one
    obtain ⟨p, vs, rfl, hs, hd⟩ := k1.toLst
    have := hd.ints
    subst this
    refine ⟨p, xs, rfl, gr_L s2.fr hs, fun ns' l pr so nl => ?_⟩
    rw [sort_uniq ns' (srtI xs) (pr.trans (srtI_perm xs).symm) so (srtI_sort xs)]
    exact q l _ F2 _ g2 (s2.cell nl) (Dts.of_ints _)
theorem d_sortedI {xs : List Int} (h : EvDs K as σ F cs [eL eI xs] cs1) : EvD K (tCB (rSortedI K) as) σ F cs (eL eI (srtI xs)) cs1 := (c_sortedI h).dd
/-- max, min of a list -/
def maxL : List Int → Option Int
  | [] => none
  | x :: xs => some (xs.foldl max x)
def minL : List Int → Option Int
  | [] => none
  | x :: xs => some (xs.foldl min x)
theorem foldl_max : ∀ (xs : List Int) (x : Int), (xs.foldl max x = x ∨ xs.foldl max x ∈ xs) ∧ x ≤ xs.foldl max x ∧ ∀ y ∈ xs, y ≤ xs.foldl max x
  | [], x => ⟨.inl rfl, Int.le_refl _, fun y hy => by cases hy⟩
  | z :: xs, x => by
    obtain ⟨h1, h2, h3⟩ := foldl_max xs (max x z)
    rw [List.foldl_cons]
    refine ⟨?_, by omega, fun y hy => ?_⟩
    · rcases h1 with h1 | h1
      · rw [h1]
        by_cases q : z ≤ x
        · left; omega
        · right; have : max x z = z := by omega
          rw [this]; exact List.mem_cons_self
      · exact .inr (List.mem_cons_of_mem _ h1)
    · rcases List.mem_cons.mp hy with rfl | hy
      · omega
      · exact h3 y hy
theorem foldl_min : ∀ (xs : List Int) (x : Int), (xs.foldl min x = x ∨ xs.foldl min x ∈ xs) ∧ xs.foldl min x ≤ x ∧ ∀ y ∈ xs, xs.foldl min x ≤ y
  | [], x => ⟨.inl rfl, Int.le_refl _, fun y hy => by cases hy⟩
  | z :: xs, x => by
    obtain ⟨h1, h2, h3⟩ := foldl_min xs (min x z)
    rw [List.foldl_cons]
    refine ⟨?_, by omega, fun y hy => ?_⟩
    · rcases h1 with h1 | h1
      · rw [h1]
        by_cases q : x ≤ z
        · left; omega
        · right; have : min x z = z := by omega
          rw [this]; exact List.mem_cons_self
      · exact .inr (List.mem_cons_of_mem _ h1)
    · rcases List.mem_cons.mp hy with rfl | hy
      · omega
      · exact h3 y hy
theorem d_maxL {xs : List Int} {m : Int} (h : EvDs K as σ F cs [eL eI xs] cs1) (hm : maxL xs = some m) : EvD K (tCB (rMax K) as) σ F cs (.int m) cs1 := fun F1 H1 g1 s Q q =>
  h F1 H1 g1 s _ fun v F2 H2 g2 s2 h2 => by
    obtain ⟨v, rfl, k1⟩ := h2.one
    obtain ⟨p, vs, rfl, hs, hd⟩ := k1.toLst
    have := hd.ints
    subst this
    cases xs with
    | nil => cases hm
    | cons x xs =>
      cases hm
      obtain ⟨a1, a2, a3⟩ := foldl_max xs x
      refine ⟨p, x :: xs, rfl, gr_L s2.fr hs, by simp, fun m hm hle => ?_⟩
      have e : m = xs.foldl max x := by
        have b1 : xs.foldl max x ≤ m := by
          rcases a1 with e | e
          · rw [e]; exact hle x List.mem_cons_self
          · exact hle _ (List.mem_cons_of_mem _ e)
        have b2 : m ≤ xs.foldl max x := by
          rcases List.mem_cons.mp hm with rfl | hm
          · exact a2
          · exact a3 m hm
        omega
      rw [e]
      exact q _ F2 H2 g2 s2 (.int _)
theorem d_minL {xs : List Int} {m : Int} (h : EvDs K as σ F cs [eL eI xs] cs1) (hm : minL xs = some m) : EvD K (tCB (rMin K) as) σ F cs (.int m) cs1 := fun F1 H1 g1 s Q q =>
  h F1 H1 g1 s _ fun v F2 H2 g2 s2 h2 => by
    obtain ⟨v, rfl, k1⟩ := h2.one
    obtain ⟨p, vs, rfl, hs, hd⟩ := k1.toLst
    have := hd.ints
    subst this
    cases xs with
    | nil => cases hm
    | cons x xs =>
      cases hm
      obtain ⟨a1, a2, a3⟩ := foldl_min xs x
      refine ⟨p, x :: xs, rfl, gr_L s2.fr hs, by simp, fun m hm hle => ?_⟩
      have e : m = xs.foldl min x := by
        have b1 : m ≤ xs.foldl min x := by
          rcases a1 with e | e
          · rw [e]; exact hle x List.mem_cons_self
          · exact hle _ (List.mem_cons_of_mem _ e)
        have b2 : xs.foldl min x ≤ m := by
          rcases List.mem_cons.mp hm with rfl | hm
          · exact a2
          · exact a3 m hm
        omega
      rw [e]
      exact q _ F2 H2 g2 s2 (.int _)
end
end Bw
namespace Bw
open PySem L2
section
variable {K : PySem.W.Frag} {σ : St} {F : Hp} {cs cs1 cs2 : Cs} {ta tb : TE} {b : Int}
theorem d_ixTH {α : Type} {e : α → PyData} {xs : List α} {z : α} (ha : EvD K ta σ F cs (.tuple (xs.map e)) cs1) (hb : EvD K tb σ F cs1 (.int b) cs2) (hz : atI xs b = some z) : EvD K (tOp (rIxT K) ta tb) σ F cs (e z) cs2 :=
  d_ixT ha hb (by rw [atI_map, hz]; rfl)
theorem dts_D {α : Type} {e : α → PyData} {xs : List α} {us : List V} (h : Dts K F us (xs.map e)) : Dts K F us ((xs.map e).map eD) := by
  have : (xs.map e).map eD = xs.map e := by rw [List.map_map]; rfl
  rw [this]; exact h
end
end Bw
namespace Bw
open PySem L2
section
variable {K : PySem.W.Frag} {F : Hp}
def tup2M {α : Type} : List α → Option (α × α)
  | [a, b] => some (a, b)
  | _ => none
def tup3M {α : Type} : List α → Option (α × α × α)
  | [a, b, c] => some (a, b, c)
  | _ => none
theorem tup2M_eq {α : Type} {xs : List α} {p : α × α} (h : tup2M xs = some p) : xs = [p.1, p.2] := by
  unfold tup2M at h; split at h
  · cases h; rfl
  · cases h
theorem tup3M_eq {α : Type} {xs : List α} {p : α × α × α} (h : tup3M xs = some p) : xs = [p.1, p.2.1, p.2.2] := by
  unfold tup3M at h; split at h
  · cases h; rfl
  · cases h
theorem ul2 {v : V} {d1 d2 : PyData} (h : Dt K F v (.list [d1, d2])) : ∃ p v1 v2, v = .ref p ∧ SqL K F p [v1, v2] ∧ Dt K F v1 d1 ∧ Dt K F v2 d2 := by
  obtain ⟨p, vs, rfl, h1, h2⟩ := h.toLst
  obtain ⟨v1, v2, rfl, k1, k2⟩ := h2.two
  exact ⟨p, v1, v2, rfl, h1, k1, k2⟩
theorem ul3 {v : V} {d1 d2 d3 : PyData} (h : Dt K F v (.list [d1, d2, d3])) : ∃ p v1 v2 v3, v = .ref p ∧ SqL K F p [v1, v2, v3] ∧ Dt K F v1 d1 ∧ Dt K F v2 d2 ∧ Dt K F v3 d3 := by
  obtain ⟨p, vs, rfl, h1, h2⟩ := h.toLst
  cases h2 with
  | cons a1 h2 =>
    obtain ⟨v2, v3, rfl, k2, k3⟩ := h2.two
    exact ⟨p, _, v2, v3, rfl, h1, a1, k2, k3⟩
end
end Bw

namespace Bw
open PySem L2
/-! exceptions that are kept -/
/-- an exception of the class at C, its dict at d (none: it has none), at a -/
def ExK (C : Addr) (d : Option Addr) (a : Addr) : HO := .ext fun h => ∃ (oe : Obj) (vs : Array Value), h.get? a = some oe ∧ oe.cls = .ref C ∧ oe.dict = d ∧ oe.data = .fields vs
def DOk (H : Hp) (d : Option Addr) : Prop := match d with
  | none => True
  | some dd => ∃ fs, H dd = some (.xd fs)
theorem exK_ok {P : Program} {w : World} {H : Hp} {h : Heap} {a C : Addr} {dd : Option Addr} {oe : Obj} {vs : Array Value} (e : h.get? a = some oe) (c : oe.cls = .ref C) (d : oe.dict = dd) (hd : oe.data = .fields vs) : ObjOk P w H h a (ExK C dd a) :=
  ⟨⟨oe, vs, e, c, d, hd⟩, ⟨oe, e⟩, fun _ _ ⟨o, v, q, r⟩ k => ⟨o, v, k o q, r⟩⟩
/-- what is known of an exception class -/
def ExC (K : PySem.W.Frag) (C : Addr) : Bool := (PySem.W.clsIn K C).isSome && PySem.W.findIn K (.ref C) "__getattribute__" == some (some (.builtin "BaseException.__getattribute__")) && (PySem.W.findIn K (.ref C) "__getattr__").isSome &&
  PySem.W.subIn K (.ref C) (.type "BaseException") == some true && PySem.W.findIn K (.ref C) "__class__" == some (some (.builtin "object.__class__")) && PySem.W.specialIn K (.builtin "object.__class__") "__get__" == some (some (.builtin "getset_descriptor.__get__")) &&
  PySem.W.takesIn K (.builtin "object.__class__") == some true && PySem.W.mroIn K C (.type "object") == some true
theorem kit_ex {K : PySem.W.Frag} {C x : Addr} {ox : Obj} {od : Option Obj} (h : ExC K C = true) : PySem.W.KitX K (.ref x) (.ref C) (fun h => PySem.W.InstAt h x ox C od) := by
  unfold ExC at h
  simp only [Bool.and_eq_true, beq_iff_eq] at h
  obtain ⟨⟨⟨⟨⟨⟨⟨h1, h2⟩, h3⟩, h4⟩, h5⟩, h6⟩, h7⟩, h8⟩ := h
  obtain ⟨gt, h3⟩ := Option.isSome_iff_exists.mp h3
  exact PySem.W.kitx_exc h1 h2 h3 h4 h5 h6 h7 h8
def rIsiE (K : PySem.W.Frag) : List V → Hp → VK → Prop := fun xs H Q => ∃ (a C : Addr) (d : Option Addr) (c : V) (u : Value) (b : Bool), xs = [.ref a, c] ∧ ClsV c u ∧ H a = some (ExK C d a) ∧ DOk H d ∧ ExC K C = true ∧ PySem.W.kitOne K (.ref C) u = some b ∧ Q (.bl b) H
def rIsiTE (K : PySem.W.Frag) : List V → Hp → VK → Prop := fun xs H Q => ∃ (a C : Addr) (d : Option Addr) (tp : Addr) (cs : List V) (us : List Value) (b : Bool), xs = [.ref a, .ref tp] ∧ H tp = some (.tup cs) ∧ Paired ClsV cs us ∧ H a = some (ExK C d a) ∧ DOk H d ∧ ExC K C = true ∧ PySem.W.kitAny K (.ref C) us = some b ∧ Q (.bl b) H
section
variable {X : Cx}
theorem exK_at {pins : List (Addr × Obj)} {σ : St} {H : Hp} {s : Shared} {a C : Addr} {d : Option Addr} (I : Inv X pins σ H s) (h : H a = some (ExK C d a)) (hx : DOk H d) : ∃ oe od, PySem.W.InstAt s.heap a oe C od := by
  have x : ObjOk X.prog X.w H s.heap a (.ext fun h => ∃ (oe : Obj) (vs : Array Value), h.get? a = some oe ∧ oe.cls = .ref C ∧ oe.dict = d ∧ oe.data = .fields vs) := I.hok a _ h
  obtain ⟨⟨oe, vs, e, c, dd, hd⟩, _⟩ := x
  obtain ⟨oc, od, dt, sl⟩ := oe
  dsimp only at c dd hd
  subst c dd hd
  cases od with
  | none => exact ⟨_, none, e, rfl, rfl, trivial⟩
  | some z =>
    obtain ⟨fs, hz⟩ := hx
    obtain ⟨mA, hns, hr⟩ := (show ObjOk X.prog X.w H s.heap z (.xd fs) from I.hok z _ hz)
    obtain ⟨oz, ho, hl⟩ := lookIn_ns hns
    exact ⟨_, some oz, e, rfl, rfl, ho⟩
theorem cr_isiE : CallR X (.builtin "isinstance") (rIsiE X.K) := by
  intro pins s σ H xs us Q I r h
  obtain ⟨a, C, d, c, u, b, rfl, k, ha, hd, hC, e, q⟩ := h
  obtain ⟨u1, u2, rfl, r1, r2⟩ := vals2 r
  have e2 := k.eq r2
  subst e2
  cases (show u1 = Value.ref a from r1)
  obtain ⟨oe, od, J⟩ := exK_at I ha hd
  exact PySem.W.kia_one (kit_ex (ox := oe) (od := od) hC) I.kIn J e (fun z => nomatch z) fun tk => ⟨.bl b, H, I.tok tk, rfl, q⟩
theorem cr_isiTE : CallR X (.builtin "isinstance") (rIsiTE X.K) := by
  intro pins s σ H xs us Q I r h
  obtain ⟨a, C, d, tp, cs, ws, b, rfl, hT, k, ha, hd, hC, e, q⟩ := h
  obtain ⟨u1, u2, rfl, r1, r2⟩ := vals2 r
  cases (show u2 = Value.ref tp from r2)
  cases (show u1 = Value.ref a from r1)
  obtain ⟨oe, od, J⟩ := exK_at I ha hd
  obtain ⟨_, its, rv, o, h1, h2, n, h3⟩ := (show ObjOk X.prog X.w H s.heap tp (.tup cs) from I.hok tp _ hT)
  have e3 := ClsV.all k rv
  subst e3
  obtain ⟨oc, od', dt, sl⟩ := o
  simp only at h2 h3
  subst h2 h3
  exact PySem.W.kia_tup (kit_ex (ox := oe) (od := od) hC) I.kIn J h1 e (fun z => nomatch z) fun tk => ⟨.bl b, H, I.tok tk, rfl, q⟩
/-- an object that was not tracked is tracked from now on -/
theorem inv_track {pins : List (Addr × Obj)} {σ : St} {H : Hp} {s : Shared} {a : Addr} {o : HO} {oe : Obj} {vs : Array Value} (I : Inv X pins σ H s) (na : H a = none) (e : s.heap.get? a = some oe) (hd : oe.data = .fields vs) (nL : a ≠ X.env.locals)
    (n0 : X.s_0.heap.get? a = none) (np : ∀ p ∈ X.pn ++ pins, p.1 ≠ a) (new : ObjOk X.prog X.w (upd H a o) s.heap a o) : Inv X pins σ (upd H a o) s := by
  have ne : ∀ b u, H b = some u → b ≠ a := fun b u q z => by rw [z, na] at q; cases q
  refine ⟨I.ok, I.os, I.bare, ⟨I.base.keep, I.base.slot, fun b ob q n hx => ?_, I.base.there, fun b xs q => ?_, fun b ob u q => ?_, fun b ps q => ?_⟩, I.loc, I.cell, ?_, fun x c q => ?_, fun p hp => ?_, fun b u q => ?_, I.len⟩
  · have : b ≠ a := fun z => by rw [z, n0] at q; cases q
    rw [upd_ne this]; exact I.base.free b ob q n hx
  · have := I.base.tups b xs q
    rw [upd_ne (ne b _ this)]; exact this
  · have := I.base.frzs b ob u q
    rw [upd_ne (ne b _ this)]; exact this
  · obtain ⟨more, q⟩ := I.base.tbls b ps q
    exact ⟨more, by rw [upd_ne (ne b _ q)]; exact q⟩
  · rw [upd_ne (Ne.symm nL)]; exact I.free
  · have : c ≠ a := fun z => by
      obtain ⟨v, oc, h1, h2⟩ := I.cell x c q
      rw [z, e] at h1
      cases h1
      rw [hd] at h2
      cases h2
    rw [upd_ne this]; exact I.freeC x c q
  · obtain ⟨q1, q2, q3⟩ := I.pin p hp
    exact ⟨q1, by rw [upd_ne (np p hp)]; exact q2, q3⟩
  · by_cases z : b = a
    · subst z; rw [upd_same] at q; cases q; exact new
    · rw [upd_ne z] at q
      exact (I.hok b u q).stay (fun c v _ q => q) (fun c q => by rw [upd_ne (ne c _ q)]; exact q) fun c xs q => by rw [upd_ne (ne c _ q)]; exact q
end
/-- 'except x as n: suite', where what is caught may be kept behind the suite -/
def wKeep (K : PySem.W.Frag) (c : Value) (i : Nat) (ts : Addr → Value → Option Addr → TS) (Wout : WX) (D : Ends) : WX := fun cls d σ H =>
  ∃ b, PySem.W.exmOne K cls c = some b ∧ (b = true → ∃ C, cls = .ref C ∧ ∀ a, H a = none → ts a cls d { nx := fun σ' H' => H' a = none ∧ D.nx (σ'.set i none) (upd H' a (ExK C d a)), rt := fun _ _ => False, bk := fun _ _ => False, ct := fun _ _ => False } (σ.set i (some (.ref a))) H) ∧
    (b = false → Wout cls d σ H)
section
open PySem.Spec PyProof.Rows
variable {X : Cx} {x n : Str} {c : Value} {i : Nat} {body suite : List Stmt} {b₀ : Stmt} {np pos pos' : Pos} {tb : WX → TS} {ts : Addr → Value → Option Addr → TS} {Wout : WX}
theorem ps_try_keep (hs : X.stack = X.env :: X.outer) (hf : X.env.frame = some X.env.locals) (hex : X.ex = []) (hN : X.N.Nodup) (hi : X.N[i]? = some n) (hln : X.env.kindOf n = some .local) (hc : Names X x c) (tk : Takes X Wout)
    (hb : ∀ (W : WX) (pn : List (Addr × Obj)) (xe : Value → Shared → Prop), Takes (X.tr pn xe) W → PassesOwn (model X.prog X.w) X.A X.env xe → PSs (X.tr pn xe) body (tb W))
    (hsu : ∀ (a : Addr) (oe : Obj) (cls : Value) (d : Option Addr) (pn : List (Addr × Obj)), Zc cls d oe → (∃ vs, oe.data = .fields vs) → PSs (X.suite a ((a, oe) :: pn)) (b₀ :: suite) (ts a cls d)) :
    PS X (.Try body [.ExceptHandler (some (.Name x np)) (some n) (b₀ :: suite) pos'] [] [] pos) (fun D σ H => tb (wKeep X.K c i ts Wout D) D σ H) := by
  refine ⟨fun pins s σ H D I h => ?_⟩
  have ok := I.ok
  have hfr : X.A.frames = some (X.env :: X.outer) := by rw [ok.frames, hs]
  have hloc : Loc X.env.scope n := .inl hln
  refine wpAny_Try_except ?_
  refine wpAny_mono ((hb (wKeep X.K c i ts Wout D) (X.pn ++ pins) (fun e s₁ => wpAny (model X.prog X.w) X.A (noteFrame e X.env) (fun _ s₂ => wpAny (model X.prog X.w) X.A (setFlight e none) (fun _ s₃ =>
    wpAny (model X.prog X.w) X.A (handleBy e X.env [.ExceptHandler (some (.Name x np)) (some n) (b₀ :: suite) pos']) (SP X pins D) X.xe s₃) X.xe s₂) X.xe s₁) (fun u s' xx => ?_) PassesOwn.looking).run [] s σ H D (I.toTry _) h) (fun f s1 hsp => ?_) (fun e s1 he => he)
  · obtain ⟨a, B, sI, pins', σ', H', cls, d, rfl, J', nb, up, sky, na, os, ag, b, hb1, hyes, hno⟩ := xx
    have J : Inv X pins σ' H' sI := J'.ofTry ok
    have sky' : Sky B (X.env :: X.outer) a (Zc cls d) X.env.locals s'.heap := by rw [← hs]; exact sky
    show wpAny (model X.prog X.w) X.A (noteFrame (.ref a) X.env) _ _ _
    refine Sky.land Zc.steady hfr hf sky' fun h3 fl3 up3 => ?_
    have J3 : Inv X pins σ' H' { s' with heap := h3 } := J.landed nb fl3.1 (up.trans up3) os ag
    obtain ⟨oe3, vs3, he3, hz3, hd3⟩ := fl3.there
    have hBn : B.get? a = none := fl3.2.1
    have notFr : ∀ {h : Heap} {o : Obj} {vs : Array Value}, h.FunFrames B (X.env :: X.outer) → h.get? a = some o → o.data = .fields vs → a ∉ frs (X.env :: X.outer) := fun {h o vs} ff e dd hm => by
      obtain ⟨_, o', e', hnf⟩ := ff.mem hm
      rw [e] at e'; cases e'
      exact hnf _ dd
    have nfr := notFr fl3.2.2.1 he3 hd3
    have nL : a ≠ X.env.locals := fun z => nfr (List.mem_filterMap.mpr ⟨X.env, List.mem_cons_self, by rw [hf, z]⟩)
    have nF : a ∉ X.fs := fun hm => by
      obtain ⟨e, he, q⟩ := List.mem_filterMap.mp hm
      exact nfr (List.mem_filterMap.mpr ⟨e, List.mem_cons_of_mem _ he, q⟩)
    have nSI : sI.heap.get? a = none := by
      cases q : sI.heap.get? a with
      | none => rfl
      | some o =>
        have := nb a o q (by rw [hs]; exact nfr)
        rw [hBn] at this; cases this
    have n0 : X.s_0.heap.get? a = none := by
      cases q : X.s_0.heap.get? a with
      | none => rfl
      | some o =>
        obtain ⟨o', q'⟩ := J.base.there a o q (by rw [hex]; exact List.not_mem_nil)
        rw [nSI] at q'; cases q'
    have npin : ∀ p ∈ X.pn ++ pins, p.1 ≠ a := fun p hp z => by
      have := (J.pin p hp).1
      rw [z, nSI] at this; cases this
    have S3 := J3.suite he3 hd3 na nL nF
    refine wpAny_handleBy_cons (codeAny_handlers_test ?_) (by intro q; cases q)
    have LT : PySem.W.Looks (model X.prog X.w) h3 (typeOf (.ref a)) cls := fun A Q E s k q => wpAny_typeOf_ref (k _ _ he3) (by rw [hz3.1]; exact q)
    have LM := PySem.W.exm_one (M := model X.prog X.w) (J3.kIn) LT hb1
    have test : ∀ {Q : Value → Shared → Prop} {E : Value → Shared → Prop}, Q c { s' with heap := h3 } → wpAny (model X.prog X.w) (X.A.mark (some (.ref a))) (eval (.Name x np) X.env) Q E { s' with heap := h3 } := fun {Q E} q => by
      obtain ⟨hg, hdbg, hm | ⟨hm, hv, hnn⟩⟩ := hc
      · exact ld_glob (X := X.suite a ((a, oe3) :: (X.pn ++ pins))) S3 hg hm q hdbg
      · exact ld_blt (X := X.suite a ((a, oe3) :: (X.pn ++ pins))) S3 hg hm hv q hnn hdbg
    refine test (LM.here ?_)
    cases b with
    | true =>
      obtain ⟨C, hcls, hyes⟩ := hyes rfl
      refine codeAny_handlers_suite_as ?_
      refine HandSPX.lands_againZ fl3 fun h4 fl4 up4 => ?_
      have J4 : Inv X pins σ' H' { s' with heap := h4 } := J.landed nb fl4.1 ((up.trans up3).trans up4) os ag
      obtain ⟨oe4, vs4, he4, hz4, hd4⟩ := fl4.there
      have S4 := J4.suite he4 hd4 na nL nF
      refine store_ok (X := X.suite a ((a, oe4) :: (X.pn ++ pins))) (v := .ref a) S4 hN hi hloc rfl (fun s5 S5 => ?_) (.inr hln)
      refine wpAny_mono ((hsu a oe4 cls d (X.pn ++ pins) hz4 ⟨_, hd4⟩).run [] s5 _ H' _ S5 (hyes a na)) (fun f s6 hsp => ?_) (fun _ _ z => False.elim z)
      cases f with
      | next =>
        obtain ⟨σ6, H6, S6, na6, q6⟩ := hsp
        refine gone_ok (X := X.suite a ((a, oe4) :: (X.pn ++ pins))) S6 hN hi hln fun s7 S7 => ?_
        have he7 : s7.heap.get? a = some oe4 := (S7.pin (a, oe4) (by simp)).1
        have J7 : Inv X pins (σ6.set i none) H6 s7 := S7.unsuite ok
        exact ⟨_, _, inv_track J7 na6 he7 hd4 nL n0 npin (exK_ok he7 (hz4.1.trans hcls) hz4.2 hd4), q6⟩
      | brk =>
        obtain ⟨σ6, H6, S6, q6⟩ := hsp
        exact False.elim q6
      | cont =>
        obtain ⟨σ6, H6, S6, q6⟩ := hsp
        exact False.elim q6
      | ret u =>
        obtain ⟨v6, σ6, H6, S6, r6, q6⟩ := hsp
        exact False.elim q6
    | false =>
      show wpAny _ X.A (handleBy (.ref a) X.env []) _ _ _
      refine wpAny_handleBy_nil ?_
      obtain ⟨k1, k2, k3, oe, vs, T, oT, ts', he, hz, hd, h1, hr⟩ := id fl3
      unfold PySem.passOn
      refine wpAny_bind (wpAny_field he hd h1 ?_)
      rw [if_neg (show ¬ ((Value.ref T == Value.none) = true) from by simp)]
      have fin : wpAny (model X.prog X.w) X.A (setFlight (.ref a) X.env.frame) (fun _ s4 => wpAny (model X.prog X.w) X.A (throw (.ref a) : Sem Flow) (SP X pins D) X.xe s4) X.xe { s' with heap := h3 } := by
        rw [hf]
        refine HandSPX.setFlight_upZ fl3 fun h4 hh4 up4 => wpAny_throw (tk _ _ ?_)
        exact ⟨a, B, sI, pins, σ', H', cls, d, rfl, J, nb, (up.trans up3).trans up4, .inr (.inr (by rw [hs]; exact hh4)), na, os, ag, hno rfl⟩
      first
        | exact wpAny_bind (wpAny_pure (wpAny_bind fin))
        | exact wpAny_bind fin
  · cases f with
    | next =>
      obtain ⟨σ', H', J', q⟩ := hsp
      exact wpAny_execs_nil ⟨σ', H', J'.ofTry ok, q⟩
    | brk =>
      obtain ⟨σ', H', J', q⟩ := hsp
      exact ⟨σ', H', J'.ofTry ok, q⟩
    | cont =>
      obtain ⟨σ', H', J', q⟩ := hsp
      exact ⟨σ', H', J'.ofTry ok, q⟩
    | ret u =>
      obtain ⟨v, σ', H', J', r, q⟩ := hsp
      exact ⟨v, σ', H', J'.ofTry ok, r, q⟩
end
end Bw

namespace Bw
open PySem L2
/-! what raises -/
/-- a class's name, and what its field holds -/
abbrev Xe := Str × PyData
inductive Rs (β : Type) where
  | ok (y : β)
  | ex (c : Xe)
/-- the field of a class -/
def fld (c : Str) : Option Str := if c = "NoStore" then some "part" else if c = "NoPlan" then some "at" else if c = "NoPaper" then some "at" else none
/-- what d, an exception's dict, holds -/
def Xd (K : PySem.W.Frag) (F : Hp) (e : Xe) (d : Option Addr) : Prop := match fld e.1 with
  | none => d = none
  | some f => ∃ a v, d = some a ∧ F a = some (.xd [(f, v)]) ∧ Dt K F v e.2
theorem Xd.gr {K : PySem.W.Frag} {F F' : Hp} {e : Xe} {d : Option Addr} (g : Gr F F') (h : Xd K F e d) : Xd K F' e d := by
  unfold Xd at h ⊢
  split at h
  · exact h
  · obtain ⟨a, v, h1, h2, h3⟩ := h
    exact ⟨a, v, h1, g _ _ h2, h3.gr g⟩
theorem Xd.ok {K : PySem.W.Frag} {F H : Hp} {e : Xe} {d : Option Addr} (g : Gr F H) (h : Xd K F e d) : DOk H d := by
  unfold Xd at h
  split at h
  · subst h; trivial
  · obtain ⟨a, v, rfl, h2, h3⟩ := h
    exact ⟨_, g _ _ h2⟩
def okM {β : Type} : Rs β → Option β
  | .ok y => some y
  | .ex _ => none
theorem okM_some {β : Type} {r : Rs β} {y : β} (h : okM r = some y) : r = .ok y := by
  cases r with
  | ok z => cases h; rfl
  | ex c => cases h
def Rs.map {α β : Type} (g : α → β) : Rs α → Rs β
  | .ok y => .ok (g y)
  | .ex c => .ex c
/-- a promise that may end by an exception of a class of the program -/
def spPX (K : PySem.W.Frag) {α β : Type} (A : α → List PyData) (B : β → PyData) (f : α → Option (Rs β)) : Sp := fun vs H Q E => ∃ F cs x r, Dts K F vs (A x) ∧ Sta F cs H ∧ f x = some r ∧
  (∀ y, r = .ok y → ∀ v F2 H2, Gr F F2 → Sta F2 cs H2 → Dt K F2 v (B y) → Q v H2) ∧ ∀ c, r = .ex c → ∀ d F2 H2, Gr F F2 → Sta F2 cs H2 → Xd K F2 c d → E (.ref (He.ga K c.1)) d H2
structure OkX (P : Program) (w : World) (K : PySem.W.Frag) (mg : Str → Option Value) (base : Heap) (k : Nat) (x : Str) (ps : List Str) (sp : Sp) : Prop where
  ex : ∃ fd, FnOk P w K mg base (L2.CX P w) k (He.ga K x) fd ps sp ∧ Binds K fd ps [] ∧ Lk K (He.ga K x) fd
  kp : PySem.W.keepIn K (.ref (He.ga K x)) = true
  gm : mg x = some (.ref (He.ga K x))
abbrev XF0 : XK := fun _ _ _ => False
abbrev WF0 : WX := fun _ _ _ _ => False
theorem passF {X : Cx} (σ : St) : PassesAt (L2.CX X.prog X.w) X σ XF0 := fun _ _ _ e s' I c => by
  obtain ⟨a, B, H', cls, d, _, _, _, _, _, _, _, h⟩ := c
  exact False.elim h
section
variable {K : PySem.W.Frag} {σ : St} {F : Hp} {cs cs1 : Cs} {H : Hp} {as : TA} {te : TE} {nx bk ct : St → Hp → Prop} {rt : V → Hp → Prop} {W : WX}
/-- called where it does not raise -/
theorem dx_call {α β : Type} {A : α → List PyData} {B : β → PyData} {f : α → Option (Rs β)} {x : α} {y : β} {E : St → XK} (h : EvDs K as σ F cs (A x) cs1) (hf : f x = some (.ok y)) : EvD K (tCallS (spPX K A B f) E as) σ F cs (B y) cs1 := fun F1 H1 g1 s Q q =>
  h F1 H1 g1 s _ fun vs F2 H2 g2 s2 h2 => ⟨F2, cs1, x, .ok y, h2, s2, hf, fun z hz v F3 H3 g3 s3 h3 => by cases hz; exact q v F3 H3 (g2.tr g3) s3 h3, fun c hc => nomatch hc⟩
/-- what may raise: r the end -/
def EvX (K : PySem.W.Frag) (te : TE) (W : WX) (σ : St) (F : Hp) (cs : Cs) (r : Rs PyData) (cs' : Cs) : Prop :=
  ∀ F1 H1, Gr F F1 → Sta F1 cs H1 → ∀ Q : VK, (∀ d, r = .ok d → ∀ v F2 H2, Gr F1 F2 → Sta F2 cs' H2 → Dt K F2 v d → Q v H2) → (∀ c, r = .ex c → ∀ d F2 H2, Gr F1 F2 → Sta F2 cs' H2 → Xd K F2 c d → W (.ref (He.ga K c.1)) d σ H2) → te σ H1 Q
theorem x_call {α β : Type} {A : α → List PyData} {B : β → PyData} {f : α → Option (Rs β)} {x : α} {r : Rs β} (h : EvDs K as σ F cs (A x) cs1) (hf : f x = some r) : EvX K (tCallS (spPX K A B f) (WE W) as) W σ F cs (r.map B) cs1 := fun F1 H1 g1 s Q q qx =>
  h F1 H1 g1 s _ fun vs F2 H2 g2 s2 h2 => ⟨F2, cs1, x, r, h2, s2, hf, fun y hy v F3 H3 g3 s3 h3 => by subst hy; exact q _ rfl v F3 H3 (g2.tr g3) s3 h3, fun c hc d F3 H3 g3 s3 xd => by subst hc; exact qx c rfl d F3 H3 (g2.tr g3) s3 xd⟩
theorem s_dropX {α : Type} {B : α → PyData} {r : Rs α} (s : Sta F cs H) (h : EvX K te W σ F cs (r.map B) cs1) (q : ∀ y, r = .ok y → ∀ F2 H2, Gr F F2 → Sta F2 cs1 H2 → nx σ H2)
    (qx : ∀ c, r = .ex c → ∀ d F2 H2, Gr F F2 → Sta F2 cs1 H2 → Xd K F2 c d → W (.ref (He.ga K c.1)) d σ H2) : tDrop te ⟨nx, rt, bk, ct⟩ σ H :=
  h F H .rfl s _ (fun d hd v F2 H2 g2 s2 _ => by
    cases r with
    | ok y => exact q y rfl F2 H2 g2 s2
    | ex c => cases hd) (fun c hc d F2 H2 g2 s2 xd => by
    cases r with
    | ok y => cases hc
    | ex c' => cases hc; exact qx c rfl d F2 H2 g2 s2 xd)
theorem s_setX {α : Type} {B : α → PyData} {r : Rs α} {i : Nat} {σ' : V → St} (s : Sta F cs H) (h : EvX K te W σ F cs (r.map B) cs1) (hσ : ∀ v, σ.set i (some v) = σ' v) (q : ∀ y, r = .ok y → ∀ v F2 H2, Gr F F2 → Sta F2 cs1 H2 → Dt K F2 v (B y) → nx (σ' v) H2)
    (qx : ∀ c, r = .ex c → ∀ d F2 H2, Gr F F2 → Sta F2 cs1 H2 → Xd K F2 c d → W (.ref (He.ga K c.1)) d σ H2) : tAsg te (gName i) ⟨nx, rt, bk, ct⟩ σ H :=
  h F H .rfl s _ (fun d hd v F2 H2 g2 s2 h2 => by
    cases r with
    | ok y =>
      cases hd
      show nx (σ.set i (some v)) H2
      rw [hσ v]; exact q y rfl v F2 H2 g2 s2 h2
    | ex c => cases hd) (fun c hc d F2 H2 g2 s2 xd => by
    cases r with
    | ok y => cases hc
    | ex c' => cases hc; exact qx c rfl d F2 H2 g2 s2 xd)
theorem s_retX {α : Type} {B : α → PyData} {r : Rs α} (s : Sta F cs H) (h : EvX K te W σ F cs (r.map B) cs1) (q : ∀ y, r = .ok y → ∀ v F2 H2, Gr F F2 → Sta F2 cs1 H2 → Dt K F2 v (B y) → rt v H2)
    (qx : ∀ c, r = .ex c → ∀ d F2 H2, Gr F F2 → Sta F2 cs1 H2 → Xd K F2 c d → W (.ref (He.ga K c.1)) d σ H2) : tRet te ⟨nx, rt, bk, ct⟩ σ H :=
  h F H .rfl s _ (fun d hd v F2 H2 g2 s2 h2 => by
    cases r with
    | ok y => cases hd; exact q y rfl v F2 H2 g2 s2 h2
    | ex c => cases hd) (fun c hc d F2 H2 g2 s2 xd => by
    cases r with
    | ok y => cases hc
    | ex c' => cases hc; exact qx c rfl d F2 H2 g2 s2 xd)
/-- a kept exception, or None -/
def Xv (K : PySem.W.Frag) (cl : List Str) (F : Hp) (v : V) : Option Xe → Prop
  | none => v = .non
  | some c => c.1 ∈ cl ∧ ∃ a d, v = .ref a ∧ F a = some (ExK (He.ga K c.1) d a) ∧ Xd K F c d
theorem Xv.gr {cl : List Str} {F F' : Hp} {v : V} {o : Option Xe} (g : Gr F F') (h : Xv K cl F v o) : Xv K cl F' v o := by
  cases o with
  | none => exact h
  | some c => obtain ⟨h0, a, d, h1, h2, h3⟩ := h; exact ⟨h0, a, d, h1, g _ _ h2, h3.gr g⟩
def subX (c d : Str) : Bool := c == d || d == "CartError"
def isX (o : Option Xe) (d : Str) : Bool := match o with
  | none => false
  | some c => subX c.1 d
def anyX (o : Option Xe) (ds : List Str) : Bool := ds.any fun d => isX o d
/-- what is known of the classes: cl may be raised, ts are asked for -/
structure XFc (K : PySem.W.Frag) (cl ts : List Str) : Prop where
  ex : ∀ c ∈ cl, ExC K (He.ga K c) = true
  kit : ∀ c ∈ cl, ∀ d ∈ ts, PySem.W.kitOne K (.ref (He.ga K c)) (.ref (He.ga K d)) = some (subX c d)
  kitV : ∀ c ∈ cl, PySem.W.kitOne K (.ref (He.ga K c)) (.type "ValueError") = some true
  kitN : ∀ d ∈ ts, PySem.W.kitOne K (.type "NoneType") (.ref (He.ga K d)) = some false
  exm : ∀ c ∈ cl, PySem.W.exmOne K (.ref (He.ga K c)) (.ref (He.ga K "CartError")) = some true
  fl : ∀ c ∈ cl, ∀ f, fld c = some f → xfB K (He.ga K c) = true ∧ PySem.W.findIn K (.ref (He.ga K c)) f = some none
abbrev rIsiX (K : PySem.W.Frag) : List V → Hp → VK → Prop := fun xs H Q => rIsi K xs H Q ∨ rIsiE K xs H Q
abbrev rIsiXT (K : PySem.W.Frag) : List V → Hp → VK → Prop := fun xs H Q => rIsiT K xs H Q ∨ rIsiTE K xs H Q
theorem cr_isiX {X : Cx} : CallR X (.builtin "isinstance") (rIsiX X.K) := call_isi.or cr_isiE
theorem cr_isiXT {X : Cx} : CallR X (.builtin "isinstance") (rIsiXT X.K) := call_isiT.or cr_isiTE
theorem kitN_V : kitB "NoneType" "ValueError" = some false := by decide +kernel
theorem d_isiX {cl ts : List Str} {o : Option Xe} {v : V} {i : Nat} {d : Str} (X : XFc K cl ts) (hi : σ[i]? = some (some v)) (hx : Xv K cl F v o) (hd : d ∈ ts) : EvD K (tCB (rIsiX K) (tCons (tVar i) (tCons (tC (.ref (He.ga K d))) tNil))) σ F cs (.bool (isX o d)) cs := fun F1 H1 g1 s Q q => by
  refine ⟨v, hi, ?_⟩
  show rIsiX K [v, .ref (He.ga K d)] H1 Q
  cases o with
  | none =>
    cases (show v = .non from hx)
    exact .inl ⟨.non, _, .type "NoneType", .ref (He.ga K d), false, rfl, .own _, .base .non, X.kitN d hd, q _ F1 H1 .rfl s (.bl _)⟩
  | some c =>
    obtain ⟨hc, a, dd, rfl, ha, hxd⟩ := hx
    exact .inr ⟨a, He.ga K c.1, dd, _, .ref (He.ga K d), subX c.1 d, rfl, .own _, s.fr _ _ (g1 _ _ ha), hxd.ok (g1.tr s.fr), X.ex c.1 hc, X.kit c.1 hc d hd, q _ F1 H1 .rfl s (.bl _)⟩
theorem d_isiXV {cl ts : List Str} {o : Option Xe} {v : V} {i : Nat} (X : XFc K cl ts) (hi : σ[i]? = some (some v)) (hx : Xv K cl F v o) : EvD K (tCB (rIsiX K) (tCons (tVar i) (tCons (tC (.ty "ValueError")) tNil))) σ F cs (.bool o.isSome) cs := fun F1 H1 g1 s Q q => by
  refine ⟨v, hi, ?_⟩
  show rIsiX K [v, .ty "ValueError"] H1 Q
  cases o with
  | none =>
    cases (show v = .non from hx)
    exact .inl ⟨.non, _, .type "NoneType", .type "ValueError", false, rfl, .ty _, .base .non, kit_ty kitN_V, q _ F1 H1 .rfl s (.bl _)⟩
  | some c =>
    obtain ⟨hc, a, dd, rfl, ha, hxd⟩ := hx
    exact .inr ⟨a, He.ga K c.1, dd, _, .type "ValueError", true, rfl, .ty _, s.fr _ _ (g1 _ _ ha), hxd.ok (g1.tr s.fr), X.ex c.1 hc, X.kitV c.1 hc, q _ F1 H1 .rfl s (.bl _)⟩
def clsV (K : PySem.W.Frag) (ds : List Str) : List V := ds.map fun d => .ref (He.ga K d)
theorem clsV_paired : ∀ ds : List Str, Paired ClsV (clsV K ds) (ds.map fun d => Value.ref (He.ga K d))
  | [] => .nil
  | d :: ds => .cons (.own _) (clsV_paired ds)
theorem kitAny_none {cl ts : List Str} (X : XFc K cl ts) : ∀ ds : List Str, (∀ d ∈ ds, d ∈ ts) → PySem.W.kitAny K (.type "NoneType") (ds.map fun d => Value.ref (He.ga K d)) = some false
  | [], _ => rfl
  | d :: ds, h => kitAny_cons (X.kitN d (h d List.mem_cons_self)) (fun _ => kitAny_none X ds fun e he => h e (List.mem_cons_of_mem _ he)) (fun z => nomatch z)
theorem kitAny_some {cl ts : List Str} (X : XFc K cl ts) {c : Xe} (hc : c.1 ∈ cl) : ∀ ds : List Str, (∀ d ∈ ds, d ∈ ts) → PySem.W.kitAny K (.ref (He.ga K c.1)) (ds.map fun d => Value.ref (He.ga K d)) = some (anyX (some c) ds)
  | [], _ => rfl
  | d :: ds, h => by
    refine kitAny_cons (X.kit c.1 hc d (h d List.mem_cons_self)) (fun z => ?_) (fun z => ?_)
    · have := kitAny_some X hc ds fun e he => h e (List.mem_cons_of_mem _ he)
      rw [this]
      show some _ = some (subX c.1 d || _)
      rw [z]; rfl
    · show (subX c.1 d || _) = true
      rw [z]; rfl
/-- isinstance(x, (A, B, ..)); ta the written tuple's parts -/
theorem d_isiXT {cl ts ds : List Str} {o : Option Xe} {v : V} {i : Nat} {ta : TA} (X : XFc K cl ts) (hi : σ[i]? = some (some v)) (hx : Xv K cl F v o) (hd : ∀ d ∈ ds, d ∈ ts) (hl : ds.length ≤ 100000)
    (ht : ∀ H (Q : List V → Hp → Prop), Q (clsV K ds) H → ta σ H Q) : EvD K (tCB (rIsiXT K) (tCons (tVar i) (tCons (tTup ta) tNil))) σ F cs (.bool (anyX o ds)) cs := fun F1 H1 g1 s Q q => by
  refine ⟨v, hi, ?_⟩
  show tTup ta σ H1 fun w H2 => rIsiXT K [v, w] H2 Q
  refine ht H1 _ ⟨by unfold clsV; rw [List.length_map]; exact sz hl, fun p hp => ?_⟩
  have s2 : Sta (upd F1 p (.tup (clsV K ds))) cs (upd H1 p (.tup (clsV K ds))) := s.lay hp
  have g2 : Gr F1 (upd F1 p (.tup (clsV K ds))) := Gr.new (s.fr.back hp)
  cases o with
  | none =>
    cases (show v = .non from hx)
    refine .inl ⟨.non, p, clsV K ds, .type "NoneType", _, false, rfl, upd_same, clsV_paired ds, .base .non, kitAny_none X ds hd, ?_⟩
    have : anyX none ds = false := by unfold anyX; rw [List.any_eq_false]; intro d _; exact Bool.false_ne_true
    rw [this] at q
    exact q _ _ _ g2 s2 (.bl _)
  | some c =>
    obtain ⟨hc, a, dd, rfl, ha, hxd⟩ := hx
    exact .inr ⟨a, He.ga K c.1, dd, p, clsV K ds, _, anyX (some c) ds, rfl, upd_same, clsV_paired ds, s2.fr _ _ (g2 _ _ (g1 _ _ ha)), hxd.ok ((g1.tr g2).tr s2.fr), X.ex c.1 hc, kitAny_some X hc ds hd, q _ _ _ g2 s2 (.bl _)⟩
/-- caught and kept: `except CartError as e: kept = e`; i is e's place, j the keeper's -/
theorem s_catch {cl ts : List Str} {i j : Nat} {c : Xe} {dd : Option Addr} {D : Ends} {Wout : WX} {σ' : Addr → St} (X : XFc K cl ts) (hc : c.1 ∈ cl) (s : Sta F cs H) (xd : Xd K F c dd) (hij : ∀ v, (σ.set i (some v))[i]? = some (some v)) (hσ : ∀ a, (((σ.set i (some (.ref a))).set j (some (.ref a))).set i none) = σ' a)
    (q : ∀ a F2 H2, Gr F F2 → Sta F2 cs H2 → Xv K cl F2 (.ref a) (some c) → D.nx (σ' a) H2) :
    wKeep K (.ref (He.ga K "CartError")) i (fun _ _ _ => tAsg (tVar i) (gName j)) Wout D (.ref (He.ga K c.1)) dd σ H := by
  refine ⟨true, X.exm c.1 hc, fun _ => ⟨_, rfl, fun a ha => ?_⟩, fun z => nomatch z⟩
  refine ⟨.ref a, hij _, ha, ?_⟩
  rw [hσ a]
  exact q a _ _ (Gr.new (s.fr.back ha)) (s.lay ha) ⟨hc, a, dd, rfl, upd_same, xd.gr (Gr.new (s.fr.back ha))⟩
end
end Bw

namespace Bw
open PySem L2
/-! tuple(xs), list(a tuple), tuple + tuple -/
abbrev rTupleL (K : PySem.W.Frag) : List V → Hp → VK → Prop := fun xs H Q => ∃ p ys, xs = [.ref p] ∧ ((SqL K H p ys ∧ ∀ l, H l = none → Q (.ref l) (upd H l (.tup ys))) ∨ (SqT K H p ys ∧ Q (.ref p) H))
theorem cr_tuple {X : Cx} : CallR X (.type "tuple") (rTupleL X.K) := call_tuple_of
section
variable {K : PySem.W.Frag} {σ : St} {F : Hp} {cs cs1 cs2 : Cs} {as : TA} {ta tb : TE}
theorem d_tupleL {ds : List PyData} (h : EvDs K as σ F cs [.list ds] cs1) : EvD K (tCB (rTupleL K) as) σ F cs (.tuple ds) cs1 := fun F1 H1 g1 s Q q =>
  h F1 H1 g1 s _ fun v F2 H2 g2 s2 h2 => by
    obtain ⟨v, rfl, k⟩ := h2.one
    obtain ⟨p, ys, rfl, hl, hd⟩ := k.toLst
    refine ⟨p, ys, rfl, .inl ⟨gr_L s2.fr hl, fun l nl => ?_⟩⟩
    have g3 : Gr F2 (upd F2 l (.tup ys)) := Gr.new (s2.fr.back nl)
    exact q _ _ _ (g2.tr g3) (s2.lay nl) (.tup (.inl (.inl upd_same)) (hd.gr g3))
theorem d_tupleT {ds : List PyData} (h : EvDs K as σ F cs [.tuple ds] cs1) : EvD K (tCB (rTupleL K) as) σ F cs (.tuple ds) cs1 := fun F1 H1 g1 s Q q =>
  h F1 H1 g1 s _ fun v F2 H2 g2 s2 h2 => by
    obtain ⟨v, rfl, k⟩ := h2.one
    obtain ⟨p, ys, rfl, hl, hd⟩ := k.toTup
    exact ⟨p, ys, rfl, .inr ⟨gr_T s2.fr hl, q _ _ _ g2 s2 (.tup hl hd)⟩⟩
theorem c_listT {ds : List PyData} (h : EvDs K as σ F cs [.tuple ds] cs1) : EvC K (tCB (rListS K) as) σ F cs ds cs1 := fun F1 H1 g1 s Q q =>
  h F1 H1 g1 s _ fun v F2 H2 g2 s2 h2 => by
    obtain ⟨v, rfl, k⟩ := h2.one
    obtain ⟨p, ys, rfl, hl, hd⟩ := k.toTup
    exact ⟨p, ys, rfl, .inr (gr_T s2.fr hl), fun l nl => q _ _ _ _ g2 (s2.cell nl) hd⟩
theorem d_catT {ds es : List PyData} (ha : EvD K ta σ F cs (.tuple ds) cs1) (hb : EvD K tb σ F cs1 (.tuple es) cs2) (hn : ds ≠ []) (he : es ≠ []) (hl : ds.length + es.length ≤ 100000) : EvD K (tOp (rCatT K) ta tb) σ F cs (.tuple (ds ++ es)) cs2 :=
  d_op ha hb fun x y F2 H2 hx hy s _ Q q => by
    obtain ⟨p, vs, rfl, h1, k1⟩ := hx.toTup
    obtain ⟨p', ws, rfl, h2, k2⟩ := hy.toTup
    have l1 := k1.len
    have l2 := k2.len
    have e2 : ws ≠ [] := fun z => he (List.length_eq_zero_iff.mp (by rw [← l2, z]; rfl))
    refine ⟨p, p', vs, ws, rfl, rfl, gr_T s.fr h1, gr_T s.fr h2, fun z => hn (List.length_eq_zero_iff.mp (by rw [← l1, z]; rfl)), by rw [l1, l2]; exact sz hl, fun z => absurd z e2, fun _ l nl => ?_⟩
    have g3 : Gr F2 (upd F2 l (.tup (vs ++ ws))) := Gr.new (s.fr.back nl)
    exact q _ _ _ g3 (s.lay nl) (.tup (.inl (.inl upd_same)) ((k1.gr g3).app (k2.gr g3)))
end
end Bw

namespace Bw
open PySem L2
/-! raise and try, put together for the generator -/
abbrev WX0 (E : XK) : WX := fun cls d _ H => E cls d H
def tRaiseX (W : WX) (C : Addr) : TS := fun _ σ H => W (.ref C) none σ H
/-- a plain exception class of the program -/
def excB (K : PySem.W.Frag) (x : Str) : Bool := PySem.W.excIn K (He.ga K x) [.type "ValueError", .type "Exception", .type "BaseException", .type "object"] "ValueError.__new__" && PySem.W.keepIn K (.ref (He.ga K x)) &&
  PySem.W.subIn K (.ref (He.ga K x)) (.type "BaseException") == some true && PySem.W.typeIn K (.ref (He.ga K x)) == some (.type "type")
structure ExD (K : PySem.W.Frag) (mg : Str → Option Value) (x : Str) : Prop where
  b : excB K x = true
  gm : mg x = some (.ref (He.ga K x))
section
variable {X : Cx} {W : WX} {body : List Stmt} {t : TS}
theorem pss_tk (tk : Takes X W) (h : Takes X W → PSs X body t) : PSs X body t := h tk
theorem ps_raiseX {x m : Str} {j : Nat} {p p2 pos pos' : Pos} (hc : X.calm = true) (tk : Takes X W) (e : ExD X.K X.mg x) (hg : Gl X x) (hdb : (x == ("__debug__" : Str)) = false := by decide) :
    PS X (.Raise (some (.Call (.Name x p) [.Constant (.str m) j p2] [] pos)) none pos') (tRaiseX W (He.ga X.K x)) := by
  have hb := e.b
  unfold excB at hb
  simp only [Bool.and_eq_true, beq_iff_eq] at hb
  obtain ⟨⟨⟨h1, h2⟩, h3⟩, h4⟩ := hb
  exact ps_raise hc tk (pmk_own PySem.F.excBase_ValueError h1 e.gm h2 (raises_own h3 h4) hg hdb)
theorem takesF : Takes X.nox WF0 := fun u s' h => by
  obtain ⟨a, B, sI, pins, σ, H, cls, d, _, _, _, _, _, _, _, _, w⟩ := h
  exact False.elim w
def tTryK (K : PySem.W.Frag) (i j : Nat) (Wout : WX) (tb : WX → TS) : TS := fun D σ H => tb (wKeep K (.ref (He.ga K "CartError")) i (fun _ _ _ => tAsg (tVar i) (gName j)) Wout D) D σ H
end
section
variable {K : PySem.W.Frag} {σ : St} {F : Hp} {cs : Cs} {H : Hp} {W : WX} {D : Ends}
theorem s_raise {C : Addr} (h : W (.ref C) none σ H) : tRaiseX W C D σ H := h
end
end Bw
namespace Bw
open PySem L2
def tupD2 : PyData → Option (PyData × PyData)
  | .tuple [a, b] => some (a, b)
  | _ => none
def tupD3 : PyData → Option (PyData × PyData × PyData)
  | .tuple [a, b, c] => some (a, b, c)
  | _ => none
def tupD4 : PyData → Option (PyData × PyData × PyData × PyData)
  | .tuple [a, b, c, d] => some (a, b, c, d)
  | _ => none
theorem tupD2_eq {d : PyData} {p : PyData × PyData} (h : tupD2 d = some p) : d = .tuple [p.1, p.2] := by
  unfold tupD2 at h; split at h
  · cases h; rfl
  · cases h
theorem tupD3_eq {d : PyData} {p : PyData × PyData × PyData} (h : tupD3 d = some p) : d = .tuple [p.1, p.2.1, p.2.2] := by
  unfold tupD3 at h; split at h
  · cases h; rfl
  · cases h
theorem tupD4_eq {d : PyData} {p : PyData × PyData × PyData × PyData} (h : tupD4 d = some p) : d = .tuple [p.1, p.2.1, p.2.2.1, p.2.2.2] := by
  unfold tupD4 at h; split at h
  · cases h; rfl
  · cases h
end Bw
namespace Bw
open PySem L2
theorem s_tryJ {K : PySem.W.Frag} {σ : St} {H : Hp} {nx bk ct : St → Hp → Prop} {rt : V → Hp → Prop} {i j : Nat} {Wout : WX} {tb : WX → TS} (J : St → Hp → Prop) (rest : ∀ σ' H', J σ' H' → nx σ' H')
    (body : (∀ σ' H', J σ' H' → nx σ' H') → tb (wKeep K (.ref (He.ga K "CartError")) i (fun _ _ _ => tAsg (tVar i) (gName j)) Wout ⟨nx, rt, bk, ct⟩) ⟨nx, rt, bk, ct⟩ σ H) : tTryK K i j Wout tb ⟨nx, rt, bk, ct⟩ σ H := body rest
end Bw
namespace Bw
open PySem L2
/-! the facts of the classes, told by the head -/
def ceB (K : PySem.W.Frag) : Bool := PySem.W.specialIn K (.ref (He.ga K "CartError")) "__getattribute__" == some (some (.builtin "type.__getattribute__")) && PySem.W.readsIn K (He.ga K "CartError") (.type "type") && (match PySem.W.findCls K (.ref (He.ga K "CartError")) (.type "type") "__init__" with
  | some (.val (.builtin n)) => n == "ValueError.__init__"
  | _ => false) && PySem.W.keepIn K (.ref (He.ga K "CartError"))
/-- a class with an own __init__ and a field -/
def oexB (K : PySem.W.Frag) (C : Addr) (f : Str) : Bool := (match K.lookup C with
  | some ⟨.type "type", _, .cls cd, sl⟩ => (match cd.mro, sl.toList with
    | .ref C' :: bm, [_, _, _, _, some (.builtin n), _] => C' == C && n == "ValueError.__new__" && !cd.hasDel && cd.hasDict && HandSPX.refsVE bm
    | _, _ => false)
  | _ => false) && PySem.W.findIn K (.ref C) "__setattr__" == some (some (.builtin "object.__setattr__")) && PySem.W.subIn K (.ref C) (.type "BaseException") == some true && PySem.W.typeIn K (.ref C) == some (.type "type") && PySem.W.keepIn K (.ref C) &&
  PySem.W.findIn K (.ref C) "__init__" == some (some (.ref (He.ma K C "__init__"))) && PySem.W.typeIn K (.ref (He.ma K C "__init__")) == some (.type "function") && xfB K C && PySem.W.findIn K (.ref C) f == some none
structure OexF (K : PySem.W.Frag) (C : Addr) (f : Str) : Prop where
  T : OexC K C
  iC : PySem.W.findIn K (.ref C) "__init__" = some (some (.ref (He.ma K C "__init__")))
  tI : PySem.W.typeIn K (.ref (He.ma K C "__init__")) = some (.type "function")
  xf : xfB K C = true
  no : PySem.W.findIn K (.ref C) f = some none
theorem oex_of {K : PySem.W.Frag} {C : Addr} {f : Str} (h : oexB K C f = true) : OexF K C f := by
  unfold oexB at h
  simp only [Bool.and_eq_true, beq_iff_eq] at h
  obtain ⟨⟨⟨⟨⟨⟨⟨⟨q, h2⟩, h3⟩, h4⟩, h5⟩, h6⟩, h7⟩, h8⟩, h9⟩ := h
  refine ⟨⟨?_, h2, h3, h4, h5⟩, h6, h7, h8, h9⟩
  split at q
  · rename_i dd cd sl ho
    split at q
    · rename_i C' bm k0 k1 k2 k3 n k5 hm hs
      simp only [Bool.and_eq_true, beq_iff_eq, Bool.not_eq_true'] at q
      obtain ⟨⟨⟨⟨rfl, rfl⟩, hdel⟩, hdi⟩, ht⟩ := q
      obtain ⟨nm, bs, mro, ns, qn, hd, sn, sub, ab, col, del⟩ := cd
      dsimp only at hm hdel hdi
      subst hm hdel hdi
      have hsl : sl = #[k0, k1, k2, k3, some (.builtin "ValueError.__new__"), k5] := by
        obtain ⟨l⟩ := sl
        simp only at hs
        rw [hs]
      subst hsl
      exact ⟨nm, qn, ns, bs, bm, sn, sub, ab, col, dd, k0, k1, k2, k3, k5, ho, ht⟩
    · cases q
  · cases q
def xfcB (cl ts : List Str) (K : PySem.W.Frag) : Bool := (cl.all fun c => ExC K (He.ga K c) && (ts.all fun d => PySem.W.kitOne K (.ref (He.ga K c)) (.ref (He.ga K d)) == some (subX c d)) && PySem.W.kitOne K (.ref (He.ga K c)) (.type "ValueError") == some true &&
  PySem.W.exmOne K (.ref (He.ga K c)) (.ref (He.ga K "CartError")) == some true && (match fld c with
    | none => excB K c
    | some f => oexB K (He.ga K c) f)) && (ts.all fun d => PySem.W.kitOne K (.type "NoneType") (.ref (He.ga K d)) == some false) && ceB K
theorem xfc_of {cl ts : List Str} {K : PySem.W.Frag} (h : xfcB cl ts K = true) : XFc K cl ts := by
  unfold xfcB at h
  rw [Bool.and_eq_true, Bool.and_eq_true, List.all_eq_true, List.all_eq_true] at h
  obtain ⟨⟨h1, h2⟩, _⟩ := h
  have k : ∀ c ∈ cl, _ := fun c hc => h1 c hc
  simp only [Bool.and_eq_true, List.all_eq_true, beq_iff_eq] at k h2
  refine ⟨fun c hc => (k c hc).1.1.1.1, fun c hc d hd => (k c hc).1.1.1.2 d hd, fun c hc => (k c hc).1.1.2, fun d hd => h2 d hd, fun c hc => (k c hc).1.2, fun c hc f hf => ?_⟩
  have z := (k c hc).2
  rw [hf] at z
  exact ⟨(oex_of z).xf, (oex_of z).no⟩
theorem ce_of {cl ts : List Str} {K : PySem.W.Frag} (h : xfcB cl ts K = true) : ceB K = true := by
  unfold xfcB at h
  rw [Bool.and_eq_true] at h
  exact h.2
theorem oxf_of {cl ts : List Str} {K : PySem.W.Frag} (h : xfcB cl ts K = true) {c f : Str} (hc : c ∈ cl) (hf : fld c = some f) : OexF K (He.ga K c) f := by
  unfold xfcB at h
  rw [Bool.and_eq_true, Bool.and_eq_true, List.all_eq_true] at h
  have k := h.1.1 c hc
  simp only [Bool.and_eq_true] at k
  have z := k.2
  rw [hf] at z
  exact oex_of z
theorem exd_of {cl ts : List Str} {K : PySem.W.Frag} {mg : Str → Option Value} (h : xfcB cl ts K = true) {c : Str} (hc : c ∈ cl) (hf : fld c = none) (g : mg c = some (.ref (He.ga K c))) : ExD K mg c := by
  unfold xfcB at h
  rw [Bool.and_eq_true, Bool.and_eq_true, List.all_eq_true] at h
  have k := h.1.1 c hc
  simp only [Bool.and_eq_true] at k
  have z := k.2
  rw [hf] at z
  exact ⟨z, g⟩
def asCS (g : Addr → Option Obj) (n : Nat) : List Addr := He.asD g n ++ [cStatics]
def hookB (n : Nat) (fa : List He.Fa) (fn : List He.DefD) (ex : PySem.W.Frag → Bool) : PySem.W.Hook where
  α := He.AlD × Bool
  obs := fun s => (He.obsD fa fn (He.frG s.heap.get? (asCS s.heap.get? n)), ex (He.frG s.heap.get? (asCS s.heap.get? n)))
  val := fun _ => (He.valD fn, true)
  says := fun _ h => ∃ K : PySem.W.Frag, K.In h ∧ He.SaysD fa fn K ∧ ex K = true
  of := fun _ _ e => ⟨_, He.frG_in, congrArg (fun z : He.AlD × Bool => z.1) e, congrArg (fun z : He.AlD × Bool => z.2) e⟩
  keeps := fun _ _ _ ⟨K, hK, c⟩ k => ⟨K, PySem.W.Frag.In.keeps hK k, c⟩
def obsB (n : Nat) (fa : List He.Fa) (fn : List He.DefD) (ex : PySem.W.Frag → Bool) (g : Addr → Option Obj) : He.AlD × Bool := (He.obsD fa fn (He.frG g (asCS g n)), ex (He.frG g (asCS g n)))
theorem obsB_eq {n : Nat} {fa : List He.Fa} {fn : List He.DefD} {ex : PySem.W.Frag → Bool} {g : Addr → Option Obj} {s : Shared} (h : ∀ a, g a = s.heap.get? a) : obsB n fa fn ex g = (hookB n fa fn ex).obs s := by
  have e : g = s.heap.get? := funext h
  rw [e]; rfl
end Bw

namespace Bw
open PySem L2
/-! dict(a list of pairs) -/
abbrev rDictP (K : PySem.W.Frag) : List V → Hp → VK → Prop := fun xs H Q => ∃ (a : Addr) (ps : List Addr) (kvs : List (Key × V)), xs = [.ref a] ∧ SqL K H a (ps.map V.ref) ∧ Paired (fun p kv => SqT K H p [kV kv.1, kv.2]) ps kvs ∧ ∀ p, H p = none → Q (.ref p) (upd H p (.dK (mergeK [] kvs)))
theorem cr_dictP {X : Cx} (hc : X.calm = true) : CallR X (.type "dict") (rDictP X.K) := call_dictP hc
section
variable {K : PySem.W.Frag} {σ : St} {F : Hp} {cs cs1 : Cs} {as : TA}
theorem dts_pairs {ν : Type} {ev : ν → PyData} {vf : ν → V} (hv : ∀ F v x, Dt K F v (ev x) → v = vf x) {H : Hp} (g : Gr F H) : ∀ {xs : List (Str × ν)} {vs : List V}, Dts K F vs (xs.map (eT2 eS ev)) → ∃ ps : List Addr, vs = ps.map V.ref ∧ Paired (fun p kv => SqT K H p [kV kv.1, kv.2]) ps (kvE kS vf xs)
  | [], vs, h => by cases h; exact ⟨[], rfl, .nil⟩
  | x :: xs, vs, h => by
    cases h with
    | cons a b =>
      obtain ⟨p, v1, v2, rfl, hT, k1, k2⟩ := u2 a
      obtain ⟨ps, rfl, hp⟩ := dts_pairs hv g b
      cases k1.toStr
      cases hv _ _ _ k2
      exact ⟨p :: ps, rfl, .cons (gr_T g hT) hp⟩
/-- .. as a thing -/
theorem d_dictP {ν : Type} {ev : ν → PyData} {vf : ν → V} (hv : ∀ F v x, Dt K F v (ev x) → v = vf x) {xs : List (Str × ν)} (h : EvDs K as σ F cs [eL (eT2 eS ev) xs] cs1) : EvD K (tCB (rDictP K) as) σ F cs (.dict []) cs1 := fun F1 H1 g1 s Q q =>
  h F1 H1 g1 s _ fun v F2 H2 g2 s2 h2 => by
    obtain ⟨v, rfl, k⟩ := h2.one
    obtain ⟨p, ys, rfl, hl, hd⟩ := k.toLst
    obtain ⟨ps, rfl, hp⟩ := dts_pairs hv s2.fr hd
    exact ⟨p, ps, _, rfl, gr_L s2.fr hl, hp, fun l nl => q _ _ _ (g2.tr (Gr.new (s2.fr.back nl))) (s2.lay nl) (.dct upd_same)⟩
end
end Bw

namespace Bw
open PySem L2
/-! exceptions with a field: raised, kept, read -/
/-- what may stand in the text of an exception -/
def FmV (v : V) : Prop := (∃ y : Str, v = .str y ∧ y.length ≤ 1000) ∨ (∃ i : Int, v = .int i ∧ i.natAbs.log2 < 1920 ∧ (toString i : Str).length ≤ 1000) ∨ v = .non
/-- {x}: a text, an int or None -/
def tFmtU (te : TE) : TE := fun σ H Q => te σ H fun x H1 => (∃ y : Str, x = .str y ∧ y.length ≤ sizeLine ∧ Q (.str y) H1) ∨ (∃ i : Int, x = .int i ∧ i.natAbs.log2 < 1920 ∧ Q (.str (toString i)) H1) ∨ (x = .non ∧ Q (.str "None") H1)
theorem pe_fmtU {X : Cx} {e : Expr} {te : TE} {pos : Pos} (he : PE X e te) : PE X (.FormattedValue e (-1) none pos) (tFmtU te) := by
  refine ⟨fun pins s σ H Q I h => ?_⟩
  refine PySem.wpAny_FormattedValue_plain (thn (he.run pins s σ H _ I h) fun v s1 hv => ?_)
  obtain ⟨x, H1, I1, r1, q⟩ := hv
  rcases q with ⟨y, rfl, hz, q⟩ | ⟨i, rfl, hz, q⟩ | ⟨rfl, q⟩
  · obtain ⟨t, rfl⟩ := r1
    exact PySem.wpAny_formatField_str ⟨.str y, H1, I1, ⟨t, rfl⟩, q⟩ ⟨.str y, H1, I1.tok _, ⟨_, rfl⟩, q⟩ hz
  · obtain ⟨t, rfl⟩ := r1
    exact PySem.wpAny_formatField_int hz ⟨.str (toString i), H1, I1.tok _, ⟨_, rfl⟩, q⟩
  · obtain rfl : v = Value.none := r1
    exact PySem.wpAny_formatField_none ⟨.str "None", H1, I1.tok _, ⟨_, rfl⟩, q⟩
def spI (C : Addr) (f : Str) : Sp := fun vs H Q _ => ∃ a v, vs = [.ref a, v] ∧ H a = some (exo a C none) ∧ FmV v ∧ ∀ dx, H dx = none → dx ≠ a → Q .non (upd (upd H dx (exd dx [(f, v)])) a (exo a C (some dx)))
theorem spI_len {C : Addr} {f : Str} {vs : List V} {H : Hp} {Q : VK} {E : XK} (h : spI C f vs H Q E) : vs.length = 2 := by
  obtain ⟨a, v, rfl, _⟩ := h; rfl
structure OkI (P : Program) (w : World) (K : PySem.W.Frag) (mg : Str → Option Value) (base : Heap) (x f : Str) : Prop where
  ex : ∃ fd, FnOk P w K mg base CX0 1 (He.ma K (He.ga K x) "__init__") fd ["self", f] (spI (He.ga K x) f) ∧ Binds K fd ["self", f] []
  gm : mg x = some (.ref (He.ga K x))
  T : OexF K (He.ga K x) f
section
variable {X : Cx} {e : Expr} {es : List Expr} {te : TE} {ta : TA} {p1 p2 pos p pos' : Pos} {W : WX}
theorem pe_ceinit {pl : Sem Bool} (hg : Gl X "CartError") (hm : X.mg "CartError" = some (.ref (He.ga X.K "CartError"))) (ce : ceB X.K = true) (ha : PA X (e :: es) ta)
    (hc : eval (.Call (.Attribute (.Name "CartError" p1) "__init__" p2) (e :: es) [] pos) X.env = (do
      let ov ← eval (.Name "CartError" p1) X.env
      standAt p2.atName
      let (f, first) ← holding [ov] (getMethod ov "__init__" pl)
      callWith pos f first (backTo pos (starEach (e :: es) X.env)) (backToKw pos (keywordEach [] X.env))) := by rfl)
    (he : starEach (e :: es) X.env = (false, eval e X.env) :: starEach es X.env := by rfl) (hpl : (backTo pos (starEach es X.env)).any (·.1) = false := by rfl) :
    PE X (.Call (.Attribute (.Name "CartError" p1) "__init__" p2) (e :: es) [] pos) (tVeI X.K ta) := by
  unfold ceB at ce
  simp only [Bool.and_eq_true, beq_iff_eq] at ce
  obtain ⟨⟨⟨c1, c2⟩, c3⟩, c4⟩ := ce
  have vV : PySem.W.findCls X.K (.ref (He.ga X.K "CartError")) (.type "type") "__init__" = some (.val (.builtin "ValueError.__init__")) := by
    split at c3
    · rename_i n h; rw [h]; rw [beq_iff_eq] at c3; rw [c3]
    · cases c3
  refine ⟨fun pins s σ H Q I h => ?_⟩
  refine PySem.W.methodCall_KW (ld_glob I hg hm ?_ (by decide)) hc
  refine PySem.W.method_cls I.kIn c1 (PySem.W.cls_value I.kIn c2 vV (by decide +kernel) ?_)
  show wpAny _ _ (callWith pos (Value.builtin "ValueError.__init__") [] (backTo pos (starEach (e :: es) X.env)) []) _ _ _
  refine PyProof.Rows.callWith_method1 (thn (ha.run pos pins _ σ H _ (I.tok _) h) fun us s1 ⟨vs, H1, I1, r1, a, C, ws, ev, hl, T, ea, q⟩ => ?_) he hpl
  subst ev
  cases r1 with
  | @cons _ u0 _ ur ra rw' =>
    obtain rfl : u0 = Value.ref a := ra
    have hlen : ur.length ≤ sizeLine := by
      rw [← Paired.length rw', sizeLine_eq]
      omega
    exact oinit_ok T I1 ea hlen fun s' J => ⟨.non, H1, J, rfl, q⟩
def tRaiseF (K : PySem.W.Frag) (W : WX) (x f : Str) (te : TE) : TS := fun _ σ H => tMkO (He.ga K x) (spI (He.ga K x) f) [] (tCons te tNil) σ H fun cls d H' => W cls d σ H'
theorem ps_raiseF {x f : Str} (hc : X.calm = true) (tk : Takes X W) (F : OkI X.prog X.w X.K X.mg X.base x f) (hr : Room 2 X.A) (hg : Gl X x) (he : PE X e te) (hdb : (x == ("__debug__" : Str)) = false := by decide)
    (hs : starEach [e] X.env = (false, eval e X.env) :: starEach [] X.env := by rfl) (hpl : (backTo pos (starEach [] X.env)).any (·.1) = false := by rfl) :
    PS X (.Raise (some (.Call (.Name x p) [e] [] pos)) none pos') (tRaiseF X.K W x f te) := by
  obtain ⟨fd, F1, hb⟩ := F.ex
  exact ps_raise hc tk (pmk_oex F.T.T F.T.iC F.T.tI F1 hr hb .nil pass0 hg F.gm (pa_cons he pa_nil (hs := hs)) hdb hs hpl)
/-- x.f, where x holds an exception that is kept -/
def tXat (K : PySem.W.Frag) (f : Str) (te : TE) : TE := fun σ H Q => te σ H fun x H1 => ∃ (a C dd : Addr) (fs : List (Str × V)) (v : V), x = .ref a ∧ H1 a = some (ExK C (some dd) a) ∧ H1 dd = some (.xd fs) ∧ xfB K C = true ∧ PySem.W.findIn K (.ref C) f = some none ∧ fs.lookup f = some v ∧ Q v H1
theorem pe_xat {n : Str} (he : PE X e te) (hb : attributeBase e n X.env (eval e X.env) = eval e X.env := by rfl) : PE X (.Attribute e n pos) (tXat X.K n te) := by
  refine ⟨fun pins s σ H Q I h => ?_⟩
  refine attr_of hb (thn (he.run pins s σ H _ I h) fun u s1 hh => ?_)
  obtain ⟨x, H1, I1, rx, a, C, dd, fs, v, ex, ha, ea, xf, hno, l, q⟩ := hh
  subst ex
  obtain rfl : u = Value.ref a := rx
  have T := xfB_ok xf
  have hk : ObjOk X.prog X.w H1 s1.heap a (.ext fun h => ∃ (oe : Obj) (vs : Array Value), h.get? a = some oe ∧ oe.cls = .ref C ∧ oe.dict = some dd ∧ oe.data = .fields vs) := I1.hok a _ ha
  obtain ⟨⟨oe, vs, e1, e2, e3, hd⟩, _⟩ := hk
  have hx : ObjOk X.prog X.w H1 s1.heap dd (.xd fs) := I1.hok dd _ ea
  obtain ⟨mA, hns, hr⟩ := hx
  obtain ⟨od, ho, hl⟩ := lookIn_ns hns
  obtain ⟨u, hu, ru⟩ := RelO.some_of (v := v) (o := mA n) (by rw [← l]; exact hr n)
  have J : PySem.W.InstAt s1.heap a oe C (some od) := ⟨e1, e2, by unfold PySem.W.notCls; rw [hd] <;> rfl, by rw [e3]; exact ho⟩
  exact HandSPX.exc_get I1.kIn J T.ga T.gg T.exC (PySem.W.findObj_own T.hdC hno rfl (by rw [hl, hu])) (handed_of ru) ⟨v, H1, I1.tok _, ru, q⟩
end
/-- self, x: CartError.__init__(self, f'm{x}'); self.x = x -/
def tInit (K : PySem.W.Frag) (f m : Str) : TS := tSeq (tDrop (tVeI K (tCons (tVar 0) (tCons (fun σ H Q => tJs [tC (.str m), tFmtU (tVar 1)] Str.empty σ H fun out H1 => Q (.str out) H1) tNil)))) (tOst K f (tVar 0) (tVar 1))
theorem w_init {K : PySem.W.Frag} {C : Addr} {f m : Str} {vs : List V} {H : Hp} {Q : VK} {E : XK} (T : OexF K C f) (hm : m.length ≤ 1000) (h : spI C f vs H Q E) : tInit K f m { nx := fun _ H' => Q .non H', rt := Q } (start ["self", f] vs) H := by
  obtain ⟨a, v, rfl, ha, fm, q⟩ := h
  have sl : sizeLine = sizeLine := rfl
  refine ⟨.ref a, rfl, m, rfl, ?_, v, rfl, ?_⟩
  · rw [sizeLine_eq, Str.length_append]; have : Str.empty.length = 0 := rfl; omega
  have fin : ∀ y : Str, y.length ≤ 1000 → ∃ z : Str, V.str y = V.str z ∧ (Str.empty ++ m ++ z).length ≤ sizeLine ∧ tJs [] (Str.empty ++ m ++ z) [some (.ref a), some v] H fun out H1 => tNil [some (.ref a), some v] H1 fun ws H2 => ∃ (a' C' : Addr) (ws' : List V), (.ref a :: .str out :: ws) = .ref a' :: ws' ∧ ws'.length ≤ 1000 ∧ OexC K C' ∧ H2 a' = some (exo a' C' none) ∧ tOst K f (tVar 0) (tVar 1) { nx := fun _ H' => Q .non H', rt := Q } [some (.ref a), some v] H2 := fun y hy => by
    refine ⟨y, rfl, ?_, ?_⟩
    · rw [sizeLine_eq, Str.length_append, Str.length_append]; have : Str.empty.length = 0 := rfl; omega
    · refine ⟨a, C, _, rfl, Nat.le_of_ble_eq_true rfl, T.T, ha, ?_⟩
      exact ⟨v, rfl, .ref a, rfl, a, C, rfl, T.T, T.no, .inl ⟨ha, fun dx hx hn => q dx hx hn⟩⟩
  rcases fm with ⟨y, rfl, hy⟩ | ⟨i, rfl, hi, hy⟩ | rfl
  · refine .inl ⟨y, rfl, by rw [sizeLine_eq]; omega, ?_⟩
    exact fin y hy
  · exact .inr (.inl ⟨i, rfl, hi, fin _ hy⟩)
  · exact .inr (.inr ⟨rfl, fin _ (by decide)⟩)
section
variable {K : PySem.W.Frag} {σ : St} {F : Hp} {cs cs1 : Cs} {H : Hp} {te : TE} {W : WX} {D : Ends}
/-- a thing that may stand in the text of an exception -/
def fmB : PyData → Bool
  | .str y => decide (y.length ≤ 1000)
  | .int i => decide (i.natAbs.log2 < 1920) && decide ((toString i : Str).length ≤ 1000)
  | .none => true
  | _ => false
theorem fmV_of {v : V} {d : PyData} (h : Dt K F v d) (b : fmB d = true) : FmV v := by
  cases d with
  | str y => cases h.toStr; exact .inl ⟨y, rfl, of_decide_eq_true b⟩
  | int i =>
    cases h.toInt
    obtain ⟨b1, b2⟩ := Bool.and_eq_true_iff.mp b
    exact .inr (.inl ⟨i, rfl, of_decide_eq_true b1, of_decide_eq_true b2⟩)
  | none => cases h.toNon; exact .inr (.inr rfl)
  | _ => cases b
theorem s_raiseF {d : PyData} {x f : Str} (s : Sta F cs H) (h : EvD K te σ F cs d cs1) (b : fmB d = true) (hf : fld x = some f) (q : ∀ dd F2 H2, Gr F F2 → Sta F2 cs1 H2 → Xd K F2 (x, d) dd → W (.ref (He.ga K x)) dd σ H2) : tRaiseF K W x f te D σ H := by
  refine h F H .rfl s _ fun v F2 H2 g2 s2 hv => ⟨Nat.le_of_ble_eq_true rfl, fun a ha => ?_⟩
  refine ⟨a, v, rfl, upd_same, fmV_of hv b, fun dx hx hn => ⟨rfl, dx, [(f, v)], upd_same, ?_, ?_, ?_⟩⟩
  · rw [upd_ne hn, upd_same]
  · rw [upd_ne hn] at hx; exact hx
  · rw [upd_ne hn] at hx
    have e : upd (del (upd (upd (upd H2 a (exo a (He.ga K x) none)) dx (exd dx [(f, v)])) a (exo a (He.ga K x) (some dx))) a) dx (.xd [(f, v)]) = upd H2 dx (.xd [(f, v)]) := by
      funext z
      by_cases hz : z = dx
      · rw [hz, upd_same, upd_same]
      · rw [upd_ne hz, upd_ne hz]
        by_cases hza : z = a
        · rw [hza, del_same, ha]
        · rw [del_ne hza, upd_ne hza, upd_ne hz, upd_ne hza]
    rw [e]
    have g3 : Gr F2 (upd F2 dx (.xd [(f, v)])) := Gr.new (s2.fr.back hx)
    refine q _ _ _ (g2.tr g3) (s2.lay hx) ?_
    unfold Xd
    rw [hf]
    exact ⟨dx, v, rfl, upd_same, hv.gr g3⟩
def partM (f : Str) (o : Option Xe) : Option PyData := match o with
  | some e => if fld e.1 = some f then some e.2 else none
  | none => none
theorem d_xat {cl ts : List Str} {o : Option Xe} {v : V} {i : Nat} {f : Str} {d : PyData} (X : XFc K cl ts) (hi : σ[i]? = some (some v)) (hx : Xv K cl F v o) (h : partM f o = some d) : EvD K (tXat K f (tVar i)) σ F cs d cs := fun F1 H1 g1 s Q q => by
  cases o with
  | none => cases h
  | some e =>
    obtain ⟨hc, a, dd, rfl, ha, hxd⟩ := hx
    unfold partM at h
    dsimp only at h
    split at h
    · rename_i hf
      cases h
      unfold Xd at hxd
      rw [hf] at hxd
      obtain ⟨z, w, rfl, hz, hw⟩ := hxd
      obtain ⟨x1, x2⟩ := X.fl _ hc f hf
      refine ⟨.ref a, hi, a, He.ga K e.1, z, [(f, w)], w, rfl, s.fr _ _ (g1 _ _ ha), s.fr _ _ (g1 _ _ hz), x1, x2, ?_, q w F1 H1 .rfl s (hw.gr g1)⟩
      simp [List.lookup]
    · cases h
end
end Bw
namespace Bw
open PySem L2
theorem xd0 {K : PySem.W.Frag} {F : Hp} {c : Str} {d : PyData} (h : fld c = none) : Xd K F (c, d) none := by
  unfold Xd; rw [h]
def fmM (d : PyData) : Option Unit := if fmB d = true then some () else none
theorem fmM_ok {d : PyData} {u : Unit} (h : fmM d = some u) : fmB d = true := by
  unfold fmM at h
  split at h
  · assumption
  · cases h
end Bw

namespace Bw
open PySem PySem.Spec PyProof.Rows L2
/-! an old list, repeated -/
def rRepS (K : PySem.W.Frag) : R2 := fun x y H Q => ∃ l k xs, x = .ref l ∧ y = .int k ∧ SqL K H l xs ∧ -(2 ^ 63) ≤ k ∧ k < 2 ^ 63 ∧ xs.length * k.toNat ≤ sizeLine ∧
  ∀ p, H p = none → Q (.ref p) (upd H p (.lst (List.replicate k.toNat xs).flatten))
theorem rmulW (a : Int) (t : Tok) (l : Addr) (items : Array Value) (n : Nat) (dd : Option Addr) (sl : Array (Option Value)) :
    Meets (Builtin.«int.__rmul__» ⟨[.int a t, .ref l], []⟩) (fun _ R s => s.heap.get? l = some { cls := .type "list", dict := dd, data := .seq items n, slots := sl } ∧ R (.ok (.ret Value.notImplemented)) s) :=
  .of_wp fun prog w A R s h => by
    obtain ⟨hp, g, d, tk, os⟩ := s; obtain ⟨hl, h⟩ := h
    wp_walk using PyProof.Rows.wpAny_loadPart' hl
    exact ⟨_, rfl, h⟩
theorem mulW (l : Addr) (items : Array Value) (n : Nat) (dd : Option Addr) (sl : Array (Option Value)) (x : Int) (u : Tok) (hc0 : ¬(!Builtin.List.listFitsIndex x) = true) (hc1 : ¬items.size * x.toNat > (2 ^ 63 - 1) / 8) (hc2 : ¬Builtin.List.listTooLong (items.size * x.toNat) = true) :
    Meets (Builtin.«list.__mul__» ⟨[.ref l, .int x u], []⟩) (fun _ R s => s.heap.get? l = some { cls := .type "list", dict := dd, data := .seq items n, slots := sl } ∧ R (.ok (.ret (Value.ref s.heap.objs.size))) { s with heap := s.heap.push { cls := Value.type "list", data := Data.seq (List.foldl (fun x1 x2 => x1 ++ x2) #[] (List.replicate (if items.isEmpty = true then 0 else x.toNat) items)) }, toks := s.toks }) :=
  .of_wp fun prog w A R s h => by
    obtain ⟨hp, g, d, tk, os⟩ := s; obtain ⟨hl, h⟩ := h
    have hsz := PySem.AutoListH.joined_fits hc2
    wp_walk using PyProof.Rows.wpAny_loadPart' hl
    refine wpAny_ite_false (decide_eq_false (Nat.not_lt.mpr hsz)) ?_
    wp_walk using PyProof.Rows.wpAny_loadPart' hl
    exact ⟨_, rfl, h⟩
theorem op_repS {X : Cx} : OpR X (binaryOp .Mult) (rRepS X.K) := by
  intro pins s σ H x y v u Q I rx ry h
  obtain ⟨l, k, xs, rfl, rfl, hH, h1, h2, hz, q⟩ := h
  cases rx
  obtain ⟨t, rfl⟩ := ry
  obtain ⟨its, r, pl, _⟩ := I.list hH
  have hl := r.length
  obtain ⟨⟨cls, dd, data, sl⟩, e, hc, n, hd⟩ := pl.isList
  simp only at hc hd
  subst hc hd
  have hlen : its.toArray.size * k.toNat ≤ sizeLine := by rw [List.size_toArray, ← hl]; exact hz
  have hcap : ¬ its.toArray.size * k.toNat > (2 ^ 63 - 1) / 8 := by
    have : (sizeLine : Nat) ≤ (2 ^ 63 - 1) / 8 := by decide
    omega
  have hfit : ¬ (!Builtin.List.listFitsIndex k) = true := by
    rw [fitsIndex_both h1 h2]
    exact Bool.false_ne_true
  have hlong : ¬ Builtin.List.listTooLong (its.toArray.size * k.toNat) = true := by
    rw [notLongL hlen]
    exact Bool.false_ne_true
  have hnew : List.foldl (fun x1 x2 => x1 ++ x2) #[] (List.replicate (if its.toArray.isEmpty = true then 0 else k.toNat) its.toArray) = (List.replicate k.toNat its).flatten.toArray := by
    have f0 : ∀ m : Nat, List.foldl (fun x1 x2 => x1 ++ x2) #[] (List.replicate m its.toArray) = (List.replicate m its).flatten.toArray := fun m => by
      have := foldl_rep its m []
      rw [List.nil_append] at this
      exact this
    rw [f0]
    cases its with
    | nil => simp
    | cons a r' => rw [if_neg (by simp)]
  refine wpAny_binaryOp_repeat_ref (T := "list") (U := "int") (by decide) ⟨_, e, rfl⟩ (fun s' => typeIs_int s' k t) PySem.noFill_list_mul F.fills_int_mul F.slot_int_rmul PySem.repeat_list F.slot_int_index.lookup
    (call_meets F.slot_int_rmul (typeIs_int s k t) F.entry_int_rmul (F.args_int_rmul_2 _ _) (rmulW k t l its.toArray n dd sl)
      ⟨e, rfl, ⟨_, e, rfl⟩, call_meets F.slot_list_mul ⟨_, e, rfl⟩ F.entry_list_mul (F.args_list_mul_2 _ _) (mulW l its.toArray n dd sl k t hfit hcap hlong) ⟨e, ?_⟩⟩)
  rw [hnew]
  exact ⟨.ref _, _, I.lnew (t' := s.toks) (r.rep k.toNat) (by rw [PyProof.Rows.lm_len_rep_flat, Nat.mul_comm]; exact hz), rfl, q _ I.fresh⟩
end Bw
namespace Bw
open PySem L2
section
variable {K : PySem.W.Frag} {σ : St} {F : Hp} {cs cs1 cs2 cs3 : Cs} {ta tb te : TE} {as : TA} {b : Int} {d : PyData}
theorem c_repS {α : Type} {en : α → PyData} {xs zs : List α} (ha : EvD K ta σ F cs (eL en xs) cs1) (hb : EvD K tb σ F cs1 (.int b) cs2) (hz : repM xs b = some zs) : EvC K (tOp (rRepS K) ta tb) σ F cs (zs.map en) cs2 := fun F1 H1 g1 s Q q =>
  ha F1 H1 g1 s _ fun v F2 H2 g2 s2 h2 => hb F2 H2 (g1.tr g2) s2 _ fun w F3 H3 g3 s3 h3 => by
    cases h3.toInt
    obtain ⟨p, vs, rfl, hl, hd⟩ := (h2.gr g3).toLst
    obtain ⟨⟨h4, h5, h6⟩, rfl⟩ := repM_some hz
    refine ⟨p, b, vs, rfl, rfl, gr_L s3.fr hl, h4, h5, ?_, fun l nl => q _ _ _ _ (g2.tr g3) (s3.cell nl) ?_⟩
    · rw [hd.len, List.length_map]; exact sz h6
    · rw [List.map_flatten, List.map_replicate]; exact hd.rep b.toNat
/-- {} as a thing -/
theorem d_dnew : EvD K tDNewK σ F cs (.dict []) cs := fun F1 H1 g1 s Q q => fun p hp => q _ _ _ (Gr.new (s.fr.back hp)) (s.lay hp) (.dct upd_same)
/-! a new list among the arguments -/
def EvN (K : PySem.W.Frag) (ta : TA) (σ : St) (F : Hp) (cs : Cs) (as : List Ar) (us : List V) (cc cs' : Cs) : Prop :=
  ∀ F1 H1, Gr F F1 → Sta F1 cs H1 → ∀ Q : List V → Hp → Prop, (∀ p vs F2 H2, Gr F1 F2 → Sta F2 ((p, .lst us) :: cs') H2 → ArgR K F2 vs as ((p, .lst us) :: cc) → Q vs H2) → ta σ H1 Q
theorem n_new {xs : List Ar} {cc : Cs} {ds : List PyData} {us : List V} (h : EvC K te σ F cs ds cs1) (hu : ∀ F vs, Dts K F vs ds → vs = us) (h2 : ∀ p, EvR K as σ F ((p, .lst us) :: cs1) xs cc ((p, .lst us) :: cs2)) : EvN K (tCons te as) σ F cs (.c us :: xs) us cc cs2 := fun F1 H1 g1 s Q q =>
  h F1 H1 g1 s _ fun p vs F2 H2 g2 s2 hv => by
    cases hu F2 vs hv
    exact h2 p F2 H2 (g1.tr g2) s2 _ fun ws F3 H3 g3 s3 h3 => q p _ F3 H3 (g2.tr g3) s3 (.c h3)
theorem n_d {xs : List Ar} {cc : Cs} {us : List V} (h : EvD K te σ F cs d cs1) (h2 : EvN K as σ F cs1 xs us cc cs2) : EvN K (tCons te as) σ F cs (.d d :: xs) us cc cs2 := fun F1 H1 g1 s Q q =>
  h F1 H1 g1 s _ fun v F2 H2 g2 s2 hv => h2 F2 H2 (g1.tr g2) s2 _ fun p vs F3 H3 g3 s3 h3 => q p _ F3 H3 (g2.tr g3) s3 (.d (hv.gr g3) h3)
theorem d_callM {α β : Type} {A : α → List Ar} {B : β → PyData} {C : β → List (List V)} {f : α → Option β} {x : α} {y : β} {E : XK} {cc cs' : Cs} {us : List V} (h : EvN K as σ F cs (A x) us cc cs2)
    (hp : ∀ p, Sb ((p, .lst us) :: cs2) ((p, .lst us) :: cc ++ cs')) (hf : f x = some y) (hq : ∀ p, Sb (upC ((p, .lst us) :: cc) (C y) ++ cs') cs3) : EvD K (tCall (spC K A B C f) [] E as) σ F cs (B y) cs3 := fun F1 H1 g1 s Q q =>
  h F1 H1 g1 s _ fun p vs F3 H3 g3 s3 h3 => ⟨F3, (p, .lst us) :: cc, cs', x, y, by rw [List.append_nil]; exact h3, hp p _ _ s3, hf, fun v F4 H4 g4 s4 h4 => q v F4 H4 (g3.tr g4) (hq p _ _ s4) h4⟩
theorem c_callM {α β : Type} {A : α → List Ar} {B : β → List PyData} {C : β → List (List V)} {f : α → Option β} {x : α} {y : β} {E : XK} {cc cs' : Cs} {us : List V} (h : EvN K as σ F cs (A x) us cc cs2)
    (hp : ∀ p, Sb ((p, .lst us) :: cs2) ((p, .lst us) :: cc ++ cs')) (hf : f x = some y) (hq : ∀ p z, Sb (z :: (upC ((p, .lst us) :: cc) (C y) ++ cs')) (z :: cs3)) : EvC K (tCall (spF K A B C f) [] E as) σ F cs (B y) cs3 := fun F1 H1 g1 s Q q =>
  h F1 H1 g1 s _ fun p vs F3 H3 g3 s3 h3 => ⟨F3, (p, .lst us) :: cc, cs', x, y, by rw [List.append_nil]; exact h3, hp p _ _ s3, hf, fun p' us' F4 H4 g4 s4 h4 => q p' us' F4 H4 (g3.tr g4) (hq p _ _ _ s4) h4⟩
theorem o_callRM {α β : Type} {A : α → List Ar} {C : β → List (List V)} {R : β → Hp → V → Cs → Prop} {f : α → Option β} {x : α} {y : β} {E : XK} {cc cs' : Cs} {us : List V} {H : Hp} {Q : VK} (s : Sta F cs H) (h : EvN K as σ F cs (A x) us cc cs2)
    (hp : ∀ p, Sb ((p, .lst us) :: cs2) ((p, .lst us) :: cc ++ cs')) (hf : f x = some y) (hq : ∀ p, Su (upC ((p, .lst us) :: cc) (C y) ++ cs') cs3) (q : ∀ v c F2 H2, Gr F F2 → Sta F2 (c ++ cs3) H2 → R y F2 v c → Q v H2) : tCall (spR K A C R f) [] E as σ H Q :=
  h F H .rfl s _ fun p vs F3 H3 g3 s3 h3 => ⟨F3, (p, .lst us) :: cc, cs', x, y, by rw [List.append_nil]; exact h3, hp p _ _ s3, hf, fun v c F4 H4 g4 s4 r => q v c F4 H4 (g3.tr g4) ((su_app (hq p)).sb _ _ s4) r⟩
theorem d_callRM {α β : Type} {A : α → List Ar} {C : β → List (List V)} {R : β → Hp → V → Cs → Prop} {B : β → PyData} {f : α → Option β} {x : α} {y : β} {E : XK} {cc cs' : Cs} {us : List V} (hR : ∀ y F H v c cs, R y F v c → Sta F (c ++ cs) H → ∃ F', Gr F F' ∧ Sta F' cs H ∧ Dt K F' v (B y)) (h : EvN K as σ F cs (A x) us cc cs2)
    (hp : ∀ p, Sb ((p, .lst us) :: cs2) ((p, .lst us) :: cc ++ cs')) (hf : f x = some y) (hq : ∀ p, Su (upC ((p, .lst us) :: cc) (C y) ++ cs') cs3) : EvD K (tCall (spR K A C R f) [] E as) σ F cs (B y) cs3 := fun F1 H1 g1 s Q q =>
  o_callRM s (fun F2 H2 g2 => h F2 H2 (g1.tr g2)) hp hf hq fun v c F3 H3 g3 s3 r => by
    obtain ⟨F4, g4, s4, d4⟩ := hR y F3 H3 v c cs3 r s3
    exact q v F4 H3 (g3.tr g4) s4 d4
/-! a function of one thing, a kept exception or None -/
def spX (K : PySem.W.Frag) (cl : List Str) {β : Type} (B : β → PyData) (f : Option Xe → Option β) : Sp := fun vs H Q _ => ∃ F cs v o y, vs = [v] ∧ Xv K cl F v o ∧ Sta F cs H ∧ f o = some y ∧ ∀ v2 F2 H2, Gr F F2 → Sta F2 cs H2 → Dt K F2 v2 (B y) → Q v2 H2
theorem d_callX1 {cl : List Str} {β : Type} {B : β → PyData} {f : Option Xe → Option β} {o : Option Xe} {y : β} {v : V} {i : Nat} {E : XK} (hi : σ[i]? = some (some v)) (hx : Xv K cl F v o) (hf : f o = some y) : EvD K (tCall (spX K cl B f) [] E (tCons (tVar i) tNil)) σ F cs (B y) cs := fun F1 H1 g1 s Q q =>
  ⟨v, hi, F1, cs, v, o, y, rfl, hx.gr g1, s, hf, fun v2 F2 H2 g2 s2 h2 => q v2 F2 H2 g2 s2 h2⟩
end
end Bw
namespace Bw
open PySem L2
section
variable {K : PySem.W.Frag} {σ : St} {F : Hp} {cs cs1 cs2 : Cs} {ta tb : TE}
/-! and, or: where a later part changes cells -/
theorem t_andC {t u : TT} {a r : Bool} (h1 : EvT t σ F cs a cs1) (h2 : a = true → EvT u σ F cs1 r cs2) (h4 : a = false → r = false ∧ cs1 = cs2) : EvT (tAnd t u) σ F cs r cs2 := fun F1 H1 g1 s Q q => h1 F1 H1 g1 s _ fun F2 H2 g2 s2 => by
  cases a with
  | true => exact h2 rfl F2 H2 (g1.tr g2) s2 Q fun F3 H3 g3 s3 => q F3 H3 (g2.tr g3) s3
  | false => obtain ⟨e1, e2⟩ := h4 rfl; rw [e1] at q; rw [e2] at s2; exact q F2 H2 g2 s2
theorem t_orC {t u : TT} {a r : Bool} (h1 : EvT t σ F cs a cs1) (h2 : a = false → EvT u σ F cs1 r cs2) (h4 : a = true → r = true ∧ cs1 = cs2) : EvT (tOr t u) σ F cs r cs2 := fun F1 H1 g1 s Q q => h1 F1 H1 g1 s _ fun F2 H2 g2 s2 => by
  cases a with
  | false => exact h2 rfl F2 H2 (g1.tr g2) s2 Q fun F3 H3 g3 s3 => q F3 H3 (g2.tr g3) s3
  | true => obtain ⟨e1, e2⟩ := h4 rfl; rw [e1] at q; rw [e2] at s2; exact q F2 H2 g2 s2
theorem d_andC {a r : Bool} (h1 : EvD K ta σ F cs (.bool a) cs1) (h2 : a = true → EvD K tb σ F cs1 (.bool r) cs2) (h4 : a = false → r = false ∧ cs1 = cs2) : EvD K (tAndV ta tb) σ F cs (.bool r) cs2 := fun F1 H1 g1 s Q q => h1 F1 H1 g1 s _ fun v F2 H2 g2 s2 hv => ⟨a, hv.toBl, by
  cases a with
  | true => exact h2 rfl F2 H2 (g1.tr g2) s2 Q fun v F3 H3 g3 s3 k => q v F3 H3 (g2.tr g3) s3 k
  | false => obtain ⟨e1, e2⟩ := h4 rfl; rw [e1] at q; rw [e2] at s2; exact q _ F2 H2 g2 s2 (.bl false)⟩
theorem d_orC {a r : Bool} (h1 : EvD K ta σ F cs (.bool a) cs1) (h2 : a = false → EvD K tb σ F cs1 (.bool r) cs2) (h4 : a = true → r = true ∧ cs1 = cs2) : EvD K (tOrV ta tb) σ F cs (.bool r) cs2 := fun F1 H1 g1 s Q q => h1 F1 H1 g1 s _ fun v F2 H2 g2 s2 hv => ⟨a, hv.toBl, by
  cases a with
  | false => exact h2 rfl F2 H2 (g1.tr g2) s2 Q fun v F3 H3 g3 s3 k => q v F3 H3 (g2.tr g3) s3 k
  | true => obtain ⟨e1, e2⟩ := h4 rfl; rw [e1] at q; rw [e2] at s2; exact q _ F2 H2 g2 s2 (.bl true)⟩
end
end Bw
namespace Bw
open PySem L2
def clsB : Stmt → List Stmt
  | .ClassDef (body := b) .. => b
  | _ => []
abbrev eT5 {α β γ δ ε : Type} (e : α → PyData) (f : β → PyData) (g : γ → PyData) (h : δ → PyData) (i : ε → PyData) (x : α × β × γ × δ × ε) : PyData := .tuple [e x.1, f x.2.1, g x.2.2.1, h x.2.2.2.1, i x.2.2.2.2]
end Bw

namespace L2
open PySem PySem.Spec PyProof.Rows
/-! an instance is made, and its __init__ may raise -/
def tMakeS (C : Addr) (sp : Sp) (E : St → XK) (t : TA) : TE := fun σ H Q => t σ H fun vs H1 => ∀ x dx, H1 x = none → H1 dx = none → dx ≠ x →
  sp (.ref x :: vs) (upd (upd H1 dx (.own x)) x (.ins C dx [])) (fun v H2 => v = .non ∧ Q (.ref x) H2) (E σ)
section
variable {X : Cx} {CX : CXT} {k : Nat} {f C : Addr} {fd : FuncData} {ps : List Str} {sp : Sp} {E : St → XK} {x m : Str} {p pos apos : Pos} {e o : Expr} {es : List Expr} {ta : TE} {t : TA}
theorem run_makeS {pins : List (Addr × Obj)} {σ : St} {H : Hp} {s : Shared} {Q : VK} {us : List Value} {vs : List V} (M : Mk X.K C f) (F : FnOk X.prog X.w X.K X.mg X.base CX k f fd ps sp) (hr : Room (k + 1) X.A) (hb : Binds X.K fd ps [])
    (hx : PassesAt CX X σ (E σ)) (I : Inv X pins σ H s) (r : Vals vs us)
    (h : ∀ x dx, H x = none → H dx = none → dx ≠ x → sp (.ref x :: vs) (upd (upd H dx (.own x)) x (.ins C dx [])) (fun v H2 => v = .non ∧ Q (.ref x) H2) (E σ)) :
    wpAny (model X.prog X.w) X.A (call (.ref C) us) (EP X pins σ Q) X.xe s := by
  have hq := h (s.heap.objs.size + 1) s.heap.objs.size (I.hok.fresh (Nat.le_succ _)) (I.hok.fresh (Nat.le_refl _)) (Nat.ne_of_lt (Nat.lt_succ_self _))
  have I2 := Inv.made (C := C) I
  have r2 : Vals (V.ref (s.heap.objs.size + 1) :: vs) (Value.ref (s.heap.objs.size + 1) :: us) := .cons rfl r
  have hl : (Value.ref (s.heap.objs.size + 1) :: us).length = ps.length := by
    have e := r2.length
    rw [F.len _ _ _ _ hq] at e
    exact e.symm
  have b := hb _ (Value.ref (s.heap.objs.size + 1) :: us) I2.kIn (by rw [List.append_nil]; exact hl)
  rw [List.append_nil] at b
  refine wpAny_call (make_map (f := f) I.kIn M.makes M.init (beq_iff_eq.mp M.fn) (codeAny_mono (F.run _ X.stack _ _ ⟨Value.ref (s.heap.objs.size + 1) :: us, []⟩ (Value.ref (s.heap.objs.size + 1) :: us) _ _ (E σ) (hr.make C us [])
    (I2.env0.make C us []) b r2 hq) fun r s' hq' => ?_))
  cases r with
  | error e => exact hx pins _ _ e s' I2 hq'
  | ok fl =>
    cases fl with
    | ret u =>
      obtain ⟨v, H', I3, rv, ev, q3⟩ := I2.after hq'
      subst ev
      exact ⟨rv, ⟨V.ref (s.heap.objs.size + 1), H', I3, rfl, q3⟩⟩
    | next => exact False.elim hq'
    | brk => exact False.elim hq'
    | cont => exact False.elim hq'
theorem pe_makeS (M : Mk X.K C f) (F : FnOk X.prog X.w X.K X.mg X.base CX k f fd ps sp) (hr : Room (k + 1) X.A) (hg : Gl X x) (hm : X.mg x = some (.ref C)) (hb : Binds X.K fd ps []) (hx : ∀ σ, PassesAt CX X σ (E σ))
    (ha : PA X (e :: es) t) (hdb : (x == ("__debug__" : Str)) = false := by decide) (he : starEach (e :: es) X.env = (false, eval e X.env) :: starEach es X.env := by rfl) (hpl : (backTo pos (starEach es X.env)).any (·.1) = false := by rfl) :
    PE X (.Call (.Name x p) (e :: es) [] pos) (tMakeS C sp E t) := by
  refine ⟨fun pins s σ H Q I h => ?_⟩
  refine wpAny_Call_Name_kw (ld_glob I hg hm ?_ hdb)
  refine PySem.W.callWith_K (h₀ := X.base) I.ok.mod.kin M.kp (thn (ha.run pos pins s σ H _ I h) fun us s1 ⟨vs, H1, I1, r, q⟩ => ⟨I1.kIn, ?_⟩) he hpl
  exact run_makeS M F hr hb (hx σ) I1 r q
end
end L2
namespace Bw
open PySem L2
/-- a promise of an __init__ that ends by an exception -/
def spMX (K : PySem.W.Frag) (C : Addr) {α : Type} (A : α → List PyData) (f : α → Option (Rs Unit)) : Sp := fun vs H _ E => ∃ F cs a dx ws x e, vs = .ref a :: ws ∧ Dts K F ws (A x) ∧ Sta F ((a, .ins C dx []) :: (dx, .own a) :: cs) H ∧ f x = some (.ex e) ∧
  ∀ d F2 H2, Gr F F2 → Sta F2 cs H2 → Xd K F2 e d → E (.ref (He.ga K e.1)) d H2
structure OkM (P : Program) (w : World) (K : PySem.W.Frag) (mg : Str → Option Value) (base : Heap) (k : Nat) (x : Str) (ps : List Str) (sp : Sp) : Prop where
  ex : ∃ fd, FnOk P w K mg base (L2.CX P w) k (He.ma K (He.ga K x) "__init__") fd ps sp ∧ Binds K fd ps []
  gm : mg x = some (.ref (He.ga K x))
  mkr : Mk K (He.ga K x) (He.ma K (He.ga K x) "__init__")
/-- a method's def -/
def DfM (K : PySem.W.Frag) (c m q : Str) (st : Stmt) : Prop := ∃ fd, FunD K m q (defArgs st) (defBody st) (defScope st) [] [] (He.ma K (He.ga K c) m) fd
section
variable {K : PySem.W.Frag} {σ : St} {F : Hp} {cs cs1 : Cs} {H : Hp} {as : TA} {W : WX}
theorem x_makeX {α : Type} {C : Addr} {A : α → List PyData} {f : α → Option (Rs Unit)} {x : α} {e : Xe} (h : EvDs K as σ F cs (A x) cs1) (hf : f x = some (.ex e)) : EvX K (tMakeS C (spMX K C A f) (WE W) as) W σ F cs (.ex e) cs1 := fun F1 H1 g1 s Q q qx =>
  h F1 H1 g1 s _ fun vs F2 H2 g2 s2 h2 => fun a dx ha hdx hne => by
    have s3 : Sta F2 ((dx, .own a) :: cs1) (upd H2 dx (.own a)) := s2.cell hdx
    have s4 : Sta F2 ((a, .ins C dx []) :: (dx, .own a) :: cs1) (upd (upd H2 dx (.own a)) a (.ins C dx [])) := s3.cell (by rw [upd_ne (Ne.symm hne)]; exact ha)
    exact ⟨F2, cs1, a, dx, vs, x, e, rfl, h2, s4, hf, fun d F3 H3 g3 s5 xd => qx e rfl d F3 H3 (g2.tr g3) s5 xd⟩
end
end Bw
namespace Bw
open PySem L2
theorem exinj {β : Type} {c e : Xe} (h : some (Rs.ex c : Rs β) = some (.ex e)) : c = e := by cases h; rfl
end Bw
namespace Bw
open PySem L2
theorem ref_inj {a b : Addr} (h : (some (Value.ref a) : Option Value) = some (Value.ref b)) : a = b := by cases h; rfl
end Bw
namespace Bw
open PySem L2
section
variable {K : PySem.W.Frag} {σ : St} {F : Hp} {te : TE}
theorem s_insGV {α : Type} {en : α → PyData} {k1 k2 m1 m2 l1 l2 : Cs} {to ti : TE} {p : Addr} {vs : List V} {xs ys : List α} {x : α} {k : Int} {nx bk ct : St → Hp → Prop} {rt : VK} {H : Hp} (s : Sta F (k1 ++ (p, .lst vs) :: k2) H) (hf : Dts K F vs (xs.map en)) (hi : VP to σ F (k1 ++ (p, .lst vs) :: k2) (.ref p))
    (h1 : EvD K ti σ F (k1 ++ (p, .lst vs) :: k2) (.int k) (m1 ++ (p, .lst vs) :: m2)) (h : EvD K te σ F (m1 ++ (p, .lst vs) :: m2) (en x) (l1 ++ (p, .lst vs) :: l2)) (hm : insM xs k x = some ys)
    (q : ∀ us F2 H2, Gr F F2 → Sta F2 (l1 ++ (p, .lst us) :: l2) H2 → Dts K F2 us (ys.map en) → nx σ H2) : tDrop (tBM K "list" rInsert to (tCons ti (tCons te tNil))) ⟨nx, rt, bk, ct⟩ σ H := by
  unfold insM at hm; split at hm
  · rename_i hl
    cases hm
    refine hi F H .rfl s _ ⟨.inl ⟨rfl, _, .inl (.inl s.getAt)⟩, h1 F H .rfl s _ fun v F2 H2 g2 s2 hv => h F2 H2 g2 s2 _ fun w F3 H3 g3 s3 hx => ⟨p, vs, k, w, rfl, by rw [hv.toInt], s3.getAt, by rw [hf.len, List.length_map]; exact szl hl.1, hl.2.1, hl.2.2, q _ F3 _ (g2.tr g3) s3.putAt ?_⟩⟩
    rw [List.map_append, List.map_append, List.map_take, List.map_drop]
    have hf3 := hf.gr (g2.tr g3)
    exact ((hf3.take _).app (.cons hx .nil)).app (hf3.drop _)
  · cases hm
end
end Bw

namespace Bw
open PySem L2
/-! a dict that is walked is locked the while -/
theorem nt_f {o : Obj} {kvs : List (Key × V)} : nTup (.frz o (.dK kvs)) := fun xs => ⟨fun z => (nomatch z), fun _ z => by cases z⟩
theorem Sta.lockAt {F : Hp} {l1 l2 : Cs} {H : Hp} {p : Addr} {o o' : HO} (s : Sta F (l1 ++ (p, o) :: l2) H) : Sta (upd F p o') (l1 ++ l2) (upd H p o') := (s.putAt (o' := o')).frozeAt
theorem Sta.unlockAt {F F2 : Hp} {l1 l2 : Cs} {H2 : Hp} {p : Addr} {o o' : HO} (g : Gr (upd F p o') F2) (s : Sta F2 (l1 ++ l2) H2) : Sta (cut F2 p) (l1 ++ (p, o) :: l2) (upd H2 p o) := (Sta.lent g s).putAt
section
variable {K : PySem.W.Frag} {σ : St} {F : Hp} {cs cs1 : Cs} {te : TE} {d : PyData}
theorem c_lock {l1 l2 m1 m2 : Cs} {p : Addr} {kvs : List (Key × V)} {ds : List PyData} (hn : noLs ds = true) (h : ∀ od F1, Gr F F1 → F1 p = none → EvC K te σ (upd F1 p (.frz od (.dK kvs))) (l1 ++ l2) ds (m1 ++ m2)) :
    EvC K (tLockE te) σ F (l1 ++ (p, .dK kvs) :: l2) ds (m1 ++ (p, .dK kvs) :: m2) := fun F1 H1 g1 s Q q => by
  refine ⟨p, .dK kvs, s.getAt, True.intro, fun od => ?_⟩
  refine h od F1 g1 s.freeAt (upd F1 p (.frz od (.dK kvs))) _ .rfl s.lockAt _ fun a vs F2 H2 g2 s2 h2 => ?_
  refine ⟨s2.fr _ _ (g2 p _ upd_same), ?_⟩
  exact q a vs (cut F2 p) _ (gr_cut s.freeAt g2) (Sta.unlockAt (l1 := (a, .lst vs) :: m1) g2 s2) (h2.cutO (g2 p _ upd_same) nt_f hn)
theorem src_items {κ ν : Type} {p : Addr} {od : Obj} {xs : List (κ × ν)} {kf : κ → Key} {vf : ν → V} {ek : κ → PyData} {ev : ν → PyData} (hk : ∀ F k, Dt K F (kV (kf k)) (ek k)) (hv : ∀ F x, Dt K F (vf x) (ev x)) (h : F p = some (.frz od (.dK (kvE kf vf xs)))) : Src K (Iti p od (kvE kf vf xs)) F (xs.map (eT2 ek ev)) := fun F1 c1 H1 g s => by
  have hH : H1 p = some (.frz od (.dK (kvE kf vf xs))) := s.fr _ _ (g _ _ h)
  have w := walk_items (d := p) (o := od) (kvs := kvE kf vf xs)
  have len : (kvE kf vf xs).length = xs.length := List.length_map ..
  refine ⟨fun i hi => w.goes i H1 (by rw [len]; simpa using hi) hH, ?_, fun i v H2 d e y => ?_⟩
  · have := w.stops H1 hH
    rw [len] at this
    rw [List.length_map]; exact this
  · rw [List.getElem?_map] at e
    cases ex : xs[i]? with
    | none => rw [ex] at e; cases e
    | some kv =>
      rw [ex] at e
      cases e
      have hi := (List.getElem?_eq_some_iff.mp ex).1
      obtain ⟨T, x, z, rfl, nT, rfl, hx, hz⟩ := w.yields i H1 v H2 (by rw [len]; exact hi) hH y
      have ek : (kvE kf vf xs)[i]? = some (kf kv.1, vf kv.2) := by unfold kvE; rw [List.getElem?_map, ex]; rfl
      dsimp only at hx hz
      rw [ek] at hx hz
      cases hx
      cases hz
      have gg := Gr.new (o := .tup [kV (kf kv.1), vf kv.2]) (s.fr.back nT)
      exact ⟨_, gg, s.lay nT, .tup (.inl (.inl upd_same)) (.cons (hk _ _) (.cons (hv _ _) .nil))⟩
theorem i_items {κ ν : Type} {p : Addr} {od : Obj} {xs : List (κ × ν)} {kf : κ → Key} {vf : ν → V} {ek : κ → PyData} {ev : ν → PyData} (hk : ∀ F k, Dt K F (kV (kf k)) (ek k)) (hv : ∀ F x, Dt K F (vf x) (ev x)) (hi : VP te σ F cs (.ref p)) (h : F p = some (.frz od (.dK (kvE kf vf xs)))) : EvI K (iItems te) σ F cs (xs.map (eT2 ek ev)) cs := fun F1 H1 g1 s R q =>
  hi F1 H1 g1 s _ ⟨p, od, _, rfl, s.fr _ _ (g1 _ _ h), q _ F1 H1 .rfl s (src_items hk hv (g1 _ _ h))⟩
end
end Bw

namespace Bw
open PySem L2
section
variable {K : PySem.W.Frag} {σ : St} {F : Hp} {cs cs1 cs2 : Cs} {te : TE} {d : PyData}
/-! comprehensions whose tests and elements change cells -/
theorem c_lcT {S α β : Type} {wi : TI} {g : TG} {tt : TT} {vs : List Nat} {xs : List α} {en : α → PyData} {em : β → PyData} {f : S → α → Option (S × Option β)} {ys : List β} {s0 s1 : S} (cc : S → Cs)
    (hi : EvI K wi σ F cs (xs.map en) (cc s0)) (hm : lcSC f s0 xs = some (s1, ys))
    (turn : ∀ x z z' o v F1 p us, Gr F F1 → Dt K F1 v (en x) → f z x = some (z', o) → ∃ (σ2 : St) (z1 : S), (∀ H (Q : St → Hp → Prop), Sta F1 ((p, .lst us) :: cc z) H → Q σ2 H → g v (wipe σ vs) H Q) ∧ wipe σ2 vs = wipe σ vs ∧
      EvT tt σ2 F1 ((p, .lst us) :: cc z) o.isSome ((p, .lst us) :: cc z1) ∧ (o = none → z' = z1) ∧ ∀ y, o = some y → EvD K te σ2 F1 ((p, .lst us) :: cc z1) (em y) ((p, .lst us) :: cc z')) :
    EvC K (tLc wi g tt te vs) σ F cs (ys.map em) (cc s1) := fun F1 H1 g1 s Q q => by
  unfold lcSC at hm
  split at hm
  case isFalse => cases hm
  rename_i hl
  refine hi F1 H1 g1 s _ fun J F2 H2 g2 s2 hs => ?_
  intro p hp
  have s3 : Sta F2 ((p, .lst []) :: cc s0) (upd H2 p (.lst [])) := s2.cell hp
  refine ⟨fun i m H4 => m = xs.length - i ∧ i ≤ xs.length ∧ ∃ us done rest z F4, us.length ≤ i ∧ Gr F2 F4 ∧ Sta F4 ((p, .lst us) :: cc z) H4 ∧ Dts K F4 us (done.map em) ∧ lcS f z (xs.drop i) = some (s1, rest) ∧ done ++ rest = ys,
    ⟨xs.length, by simp, Nat.zero_le _, [], [], ys, s0, F2, Nat.le_refl _, .rfl, s3, .nil, by simpa using hm, rfl⟩, ?_⟩
  rintro i m H4 ⟨rfl, hi, us, done, rest, z, F4, hu, g4, s4, hd, hr, he⟩
  obtain ⟨hgo, hstop, hy⟩ := hs F4 _ H4 g4 s4
  by_cases hlt : i < xs.length
  · rw [List.drop_eq_getElem_cons hlt] at hr
    obtain ⟨⟨z', o⟩, ho, hr⟩ := bnd (show (f z xs[i]).bind _ = some (s1, rest) from hr)
    obtain ⟨⟨s1', zs⟩, hz, hr⟩ := bnd hr
    dsimp only at hz hr
    refine .inr ⟨hgo i (by simpa using hlt), fun H' => i + 1 ≤ xs.length ∧ ∃ us done rest z F4, us.length ≤ i + 1 ∧ Gr F2 F4 ∧ Sta F4 ((p, .lst us) :: cc z) H' ∧ Dts K F4 us (done.map em) ∧ lcS f z (xs.drop (i + 1)) = some (s1, rest) ∧ done ++ rest = ys, fun H' h' => ⟨xs.length - (i + 1), by omega, rfl, h'⟩, fun x H' y => ?_⟩
    obtain ⟨F5, g5, s5, d5⟩ := hy i x H' (en xs[i]) (by rw [List.getElem?_map, List.getElem?_eq_getElem hlt]; rfl) y
    obtain ⟨σ2, z1, h1, h2, h3, hn, h4⟩ := turn xs[i] z z' o x F5 p us (g1.tr (g2.tr (g4.tr g5))) d5 ho
    refine h1 H' _ s5 ⟨h2, h3 F5 H' .rfl s5 _ fun F6 H6 g6 s6 => ?_⟩
    cases o with
    | none =>
      cases hr
      cases hn rfl
      exact ⟨hlt, us, done, zs, z', F6, Nat.le_succ_of_le hu, g4.tr (g5.tr g6), s6, hd.gr (g5.tr g6), hz, he⟩
    | some y1 =>
      cases hr
      refine (h4 y1 rfl) F6 H6 g6 s6 _ fun v F7 H7 g7 s7 hv => ⟨us, s7.at List.mem_cons_self, szl (by omega), hlt, us ++ [v], done ++ [y1], zs, z', F7, by rw [List.length_append]; exact Nat.succ_le_succ hu, g4.tr (g5.tr (g6.tr g7)), s7.put, ?_, hz, ?_⟩
      · rw [List.map_append]
        exact (hd.gr (g5.tr (g6.tr g7))).app (.cons hv .nil)
      · rw [List.append_assoc]; exact he
  · have e : i = xs.length := by omega
    subst e
    rw [List.drop_length] at hr
    cases hr
    rw [List.append_nil] at he
    subst he
    exact .inl ⟨by simpa using hstop, q p us F4 H4 (g2.tr g4) s4 hd⟩
/-! tests that may raise -/
def EvTX (K : PySem.W.Frag) (tt : TT) (W : WX) (σ : St) (F : Hp) (cs : Cs) (r : Rs Bool) (cs' : Cs) : Prop :=
  ∀ F1 H1, Gr F F1 → Sta F1 cs H1 → ∀ Q : Bool → Hp → Prop, (∀ b, r = .ok b → ∀ F2 H2, Gr F1 F2 → Sta F2 cs' H2 → Q b H2) → (∀ c, r = .ex c → ∀ d F2 H2, Gr F1 F2 → Sta F2 cs' H2 → Xd K F2 c d → W (.ref (He.ga K c.1)) d σ H2) → tt σ H1 Q
def andXM (a : Rs Bool) (b : Unit → Option (Rs Bool)) : Option (Rs Bool) := match a with
  | .ok true => b ()
  | .ok false => some (.ok false)
  | .ex c => some (.ex c)
def orXM (a : Rs Bool) (b : Unit → Option (Rs Bool)) : Option (Rs Bool) := match a with
  | .ok false => b ()
  | .ok true => some (.ok true)
  | .ex c => some (.ex c)
variable {W : WX} {t u : TT}
theorem tx_of {b : Bool} (h : EvT t σ F cs b cs1) : EvTX K t W σ F cs (.ok b) cs1 := fun F1 H1 g1 s Q q _ => h F1 H1 g1 s _ fun F2 H2 g2 s2 => q b rfl F2 H2 g2 s2
theorem tx_and {a r : Rs Bool} {b : Unit → Option (Rs Bool)} (h1 : EvTX K t W σ F cs a cs1) (hm : andXM a b = some r) (h2 : ∀ r', b () = some r' → EvTX K u W σ F cs1 r' cs1) : EvTX K (tAnd t u) W σ F cs r cs1 := fun F1 H1 g1 s Q q qx =>
  h1 F1 H1 g1 s _ (fun b' hb F2 H2 g2 s2 => by
    subst hb
    cases b' with
    | true => exact (h2 r hm) F2 H2 (g1.tr g2) s2 Q (fun b e F3 H3 g3 s3 => q b e F3 H3 (g2.tr g3) s3) fun c e d F3 H3 g3 s3 xd => qx c e d F3 H3 (g2.tr g3) s3 xd
    | false =>
      cases (show some (Rs.ok false) = some r from hm)
      exact q false rfl F2 H2 g2 s2) fun c hc d F2 H2 g2 s2 xd => by
    subst hc
    cases (show some (Rs.ex c) = some r from hm)
    exact qx c rfl d F2 H2 g2 s2 xd
theorem tx_or {a r : Rs Bool} {b : Unit → Option (Rs Bool)} (h1 : EvTX K t W σ F cs a cs1) (hm : orXM a b = some r) (h2 : ∀ r', b () = some r' → EvTX K u W σ F cs1 r' cs1) : EvTX K (tOr t u) W σ F cs r cs1 := fun F1 H1 g1 s Q q qx =>
  h1 F1 H1 g1 s _ (fun b' hb F2 H2 g2 s2 => by
    subst hb
    cases b' with
    | false => exact (h2 r hm) F2 H2 (g1.tr g2) s2 Q (fun b e F3 H3 g3 s3 => q b e F3 H3 (g2.tr g3) s3) fun c e d F3 H3 g3 s3 xd => qx c e d F3 H3 (g2.tr g3) s3 xd
    | true =>
      cases (show some (Rs.ok true) = some r from hm)
      exact q true rfl F2 H2 g2 s2) fun c hc d F2 H2 g2 s2 xd => by
    subst hc
    cases (show some (Rs.ex c) = some r from hm)
    exact qx c rfl d F2 H2 g2 s2 xd
theorem tx_v {r : Rs Bool} (h : EvX K te W σ F cs (r.map PyData.bool) cs1) : EvTX K (tB te) W σ F cs r cs1 := fun F1 H1 g1 s Q q qx =>
  h F1 H1 g1 s _ (fun d hd v F2 H2 g2 s2 hv => by
    cases r with
    | ok b => cases hd; exact ⟨b, hv.toBl, q b rfl F2 H2 g2 s2⟩
    | ex c => cases hd) fun c hc d F2 H2 g2 s2 xd => by
    cases r with
    | ok b => cases hc
    | ex c' => cases hc; exact qx c rfl d F2 H2 g2 s2 xd
theorem tx_test {r : Rs Bool} (h : EvX K te W σ F cs (r.map PyData.bool) cs1) : EvTX K (tTest te) W σ F cs r cs1 := tx_v h
theorem x_isN {α : Type} {r : Rs α} (h : EvX K te W σ F cs (r.map fun _ => PyData.none) cs1) : EvX K (tOp rIsN te (tC .non)) W σ F cs ((r.map fun _ => true).map PyData.bool) cs1 := fun F1 H1 g1 s Q q qx =>
  h F1 H1 g1 s _ (fun d hd v F2 H2 g2 s2 hv => by
    cases r with
    | ok b =>
      cases hd
      cases hv.toNon
      exact ⟨rfl, q _ rfl _ F2 H2 g2 s2 (.bl _)⟩
    | ex c => cases hd) fun c hc d F2 H2 g2 s2 xd => by
    cases r with
    | ok b => cases hc
    | ex c' => cases hc; exact qx c rfl d F2 H2 g2 s2 xd
theorem x_isi {α : Type} {e : α → PyData} {r : Rs α} {c : String} (hc : c ∈ isiK) (h : EvX K te W σ F cs (r.map e) cs1) : EvX K (tCB (rIsi K) (tCons te (tCons (tC (.ty c)) tNil))) W σ F cs ((r.map fun y => isiD c (e y)).map PyData.bool) cs1 := fun F1 H1 g1 s Q q qx =>
  h F1 H1 g1 s _ (fun d hd v F2 H2 g2 s2 hv => by
    cases r with
    | ok b =>
      cases hd
      exact ⟨v, .ty c, .type (kindD (e b)), .type c, isiD c (e b), rfl, .ty c, ty_of s2.fr hv, kit_isi hc (e b), q _ rfl _ F2 H2 g2 s2 (.bl _)⟩
    | ex c => cases hd) fun c hc d F2 H2 g2 s2 xd => by
    cases r with
    | ok b => cases hc
    | ex c' => cases hc; exact qx c rfl d F2 H2 g2 s2 xd
theorem s_ifX {c : TT} {r r' : Rs Bool} {t u : TS} {H : Hp} {nx bk ct : St → Hp → Prop} {rt : VK} (s : Sta F cs H) (h : EvTX K c W σ F cs r cs1) (e : r = r') (qt : r' = .ok true → ∀ F2 H2, Gr F F2 → Sta F2 cs1 H2 → t ⟨nx, rt, bk, ct⟩ σ H2) (qf : r' = .ok false → ∀ F2 H2, Gr F F2 → Sta F2 cs1 H2 → u ⟨nx, rt, bk, ct⟩ σ H2)
    (qx : ∀ c, r' = .ex c → ∀ d F2 H2, Gr F F2 → Sta F2 cs1 H2 → Xd K F2 c d → W (.ref (He.ga K c.1)) d σ H2) : tIfS c t u ⟨nx, rt, bk, ct⟩ σ H := by
  subst e
  exact h F H .rfl s _ (fun b hb F2 H2 g2 s2 => by
    cases b with
    | true => exact qt hb F2 H2 g2 s2
    | false => exact qf hb F2 H2 g2 s2) qx
end
end Bw
namespace Bw
open PySem L2
/-! in range(n) -/
abbrev rRange1 : List V → Hp → VK → Prop := fun vs H Q => ∃ j, vs = [V.int j] ∧ ∀ p, H p = none → Q (.ref p) (upd H p (.rng 0 j))
theorem cr_range1' {X : Cx} : CallR X (.type "range") rRange1 := by
  intro pins s σ H vs us Q I r h
  obtain ⟨j, rfl, q⟩ := h
  obtain ⟨u1, rfl, rj⟩ := vals1 r
  obtain ⟨u, rfl⟩ := rj
  refine call_range_1 ⟨.ref s.heap.objs.size, upd H s.heap.objs.size (.rng 0 j), I.laid (t' := s.toks + 1 + 1) (fun b o e => Heap.get?_push_of_some _ e) (Nat.le_refl _) ?_, rfl, q _ (I.hok.fresh (Nat.le_refl _))⟩
  exact ⟨s.toks, u, s.toks + 1, Heap.get?_push_size _ rfl⟩
section
variable {K : PySem.W.Frag} {σ : St} {F : Hp} {cs cs1 cs2 : Cs} {ta : TE} {as : TA} {a c : Int}
theorem d_inRng1 (ha : EvD K ta σ F cs (.int a) cs1) (hb : EvDs K as σ F cs1 [.int c] cs2) : EvD K (tOp rInRng ta (tCB rRange1 as)) σ F cs (.bool (decide (0 ≤ a ∧ a < c))) cs2 := fun F1 H1 g1 s Q q =>
  ha F1 H1 g1 s _ fun v F2 H2 g2 s2 h2 => hb F2 H2 (g1.tr g2) s2 _ fun vs F3 H3 g3 s3 h3 => by
    cases h2.toInt
    obtain ⟨w, rfl, k1⟩ := h3.one; cases k1.toInt
    exact ⟨c, rfl, fun p hp => ⟨a, p, 0, c, rfl, rfl, upd_same, q _ _ _ ((g2.tr g3).tr (Gr.new (s3.fr.back hp))) (s3.lay hp) (.bl _)⟩⟩
theorem d_ninRng1 (ha : EvD K ta σ F cs (.int a) cs1) (hb : EvDs K as σ F cs1 [.int c] cs2) : EvD K (tOp rNinRng ta (tCB rRange1 as)) σ F cs (.bool (!decide (0 ≤ a ∧ a < c))) cs2 := fun F1 H1 g1 s Q q =>
  ha F1 H1 g1 s _ fun v F2 H2 g2 s2 h2 => hb F2 H2 (g1.tr g2) s2 _ fun vs F3 H3 g3 s3 h3 => by
    cases h2.toInt
    obtain ⟨w, rfl, k1⟩ := h3.one; cases k1.toInt
    exact ⟨c, rfl, fun p hp => ⟨a, p, 0, c, rfl, rfl, upd_same, q _ _ _ ((g2.tr g3).tr (Gr.new (s3.fr.back hp))) (s3.lay hp) (.bl _)⟩⟩
end
end Bw
namespace Bw
open PySem L2
section
variable {K : PySem.W.Frag} {σ : St} {F : Hp} {cs cs1 cs2 : Cs} {ta tb : TE}
theorem d_inTI {x : Int} {xs : List Int} (ha : EvD K ta σ F cs (.int x) cs1) (hb : EvD K tb σ F cs1 (.tuple (xs.map eI)) cs2) : EvD K (tOp (rIn K false) ta tb) σ F cs (.bool (inL x xs)) cs2 :=
  d_op ha hb fun _ y F2 H2 hx hy s _ Q q => by
    cases hx.toInt
    obtain ⟨p, vs, rfl, hl, hd⟩ := hy.toTup
    cases hd.ints
    refine ⟨p, _, rfl, .inr (gr_T s.fr hl), rfl, flatI xs, q _ F2 H2 .rfl s ?_⟩
    rw [inV_int]; exact .bl _
theorem d_ninTI {x : Int} {xs : List Int} (ha : EvD K ta σ F cs (.int x) cs1) (hb : EvD K tb σ F cs1 (.tuple (xs.map eI)) cs2) : EvD K (tOp (rIn K true) ta tb) σ F cs (.bool (!inL x xs)) cs2 :=
  d_op ha hb fun _ y F2 H2 hx hy s _ Q q => by
    cases hx.toInt
    obtain ⟨p, vs, rfl, hl, hd⟩ := hy.toTup
    cases hd.ints
    refine ⟨p, _, rfl, .inr (gr_T s.fr hl), rfl, flatI xs, q _ F2 H2 .rfl s ?_⟩
    rw [inV_int]; exact .bl _
theorem d_inTS {x : Str} {xs : List Str} (ha : EvD K ta σ F cs (.str x) cs1) (hb : EvD K tb σ F cs1 (.tuple (xs.map eS)) cs2) : EvD K (tOp (rIn K false) ta tb) σ F cs (.bool (inL x xs)) cs2 :=
  d_op ha hb fun _ y F2 H2 hx hy s _ Q q => by
    cases hx.toStr
    obtain ⟨p, vs, rfl, hl, hd⟩ := hy.toTup
    cases hd.strs
    refine ⟨p, _, rfl, .inr (gr_T s.fr hl), rfl, flatS xs, q _ F2 H2 .rfl s ?_⟩
    rw [inV_str]; exact .bl _
theorem d_ninTS {x : Str} {xs : List Str} (ha : EvD K ta σ F cs (.str x) cs1) (hb : EvD K tb σ F cs1 (.tuple (xs.map eS)) cs2) : EvD K (tOp (rIn K true) ta tb) σ F cs (.bool (!inL x xs)) cs2 :=
  d_op ha hb fun _ y F2 H2 hx hy s _ Q q => by
    cases hx.toStr
    obtain ⟨p, vs, rfl, hl, hd⟩ := hy.toTup
    cases hd.strs
    refine ⟨p, _, rfl, .inr (gr_T s.fr hl), rfl, flatS xs, q _ F2 H2 .rfl s ?_⟩
    rw [inV_str]; exact .bl _
end
end Bw
namespace Bw
open PySem L2
/-! list(range(n)) -/
def lrgM (a b : Int) : Option (List Int) := (rngM a b).bind fun xs => if xs.length ≤ 100000 then some xs else none
theorem c_listRg1 {K : PySem.W.Frag} {σ : St} {F : Hp} {cs cs1 : Cs} {ta : TE} {n : Int} {xs : List Int} (h : EvD K ta σ F cs (.int n) cs1) (hm : lrgM 0 n = some xs) : EvC K (tLstRg (tRg1 ta)) σ F cs (xs.map eI) cs1 := fun F1 H1 g1 s Q q => by
  obtain ⟨ys, h1, h2⟩ := bnd hm
  obtain ⟨hr, rfl⟩ := rngM_some h1
  split at h2
  case isFalse => cases h2
  rename_i hl
  cases h2
  refine h F1 H1 g1 s _ fun v F2 H2 g2 s2 hv => ?_
  cases hv.toInt
  have e : rgV 0 n = (rngL 0 n).map V.int := by unfold rgV rngL; rw [List.map_map]; rfl
  refine ⟨n, rfl, ⟨hr.1, hr.2.1, hr.2.2.1, hr.2.2.2, ?_⟩, fun p hp => ?_⟩
  · unfold rngL at hl; rw [List.length_map, List.length_range] at hl; omega
  · rw [e]
    exact q p _ F2 _ g2 (s2.cell hp) (Dts.of_ints _)
end Bw

namespace L2
open PySem PySem.Spec PyProof.Rows
/-! methods that may raise -/
def tMeE (C : Addr) (m : Str) (sp : Sp) (E : St → XK) (ta : TE) (t : TA) : TE := fun σ H Q => ta σ H fun x H1 => ∃ a dx fs, x = .ref a ∧ H1 a = some (.ins C dx fs) ∧ fs.lookup m = none ∧
  t σ H1 fun vs H2 => sp (x :: vs) H2 Q (E σ)
section
variable {X : Cx} {CX : CXT} {k : Nat} {f C : Addr} {fd : FuncData} {ps : List Str} {sp : Sp} {E : St → XK} {x m : Str} {p pos apos : Pos} {e o : Expr} {es : List Expr} {ta : TE} {t : TA}
theorem pe_meE {pl : Sem Bool} (he : PE X o ta) (c : Cls X.K C) (hm : Meth X.K C m f) (F : FnOk X.prog X.w X.K X.mg X.base CX k f fd ps sp) (hr : Room k X.A) (hb : Binds X.K fd ps []) (hx : ∀ σ, PassesAt CX X σ (E σ)) (ha : PA X (e :: es) t)
    (hst : starEach (e :: es) X.env = (false, eval e X.env) :: starEach es X.env := by rfl) (hpl : (backTo pos (starEach es X.env)).any (·.1) = false := by rfl)
    (ht : eval (.Call (.Attribute o m apos) (e :: es) [] pos) X.env = (do
      let ov ← eval o X.env
      standAt apos.atName
      let (f, first) ← holding [ov] (getMethod ov m pl)
      callWith pos f first (backTo pos (starEach (e :: es) X.env)) (backToKw pos (keywordEach [] X.env))) := by rfl) :
    PE X (.Call (.Attribute o m apos) (e :: es) [] pos) (tMeE C m sp E ta t) := by
  refine ⟨fun pins s σ H Q I h => ?_⟩
  refine PySem.W.methodCall_KW (pl := pl) (thn (he.run pins s σ H _ I h) fun u s1 ⟨x, H1, I1, rx, a, dx, fs, ex, ea, l, q⟩ => ?_) ht
  subst ex
  obtain rfl : u = Value.ref a := rx
  refine getmeth_ok I1 ea c hm l ?_
  refine PySem.W.callWith_K (first := [.ref a]) (h₀ := X.base) I.ok.mod.kin hm.kp (thn (ha.run pos pins s1 σ H1 _ I1 q) fun us s2 ⟨vs, H2, I2, r, q2⟩ => ⟨I2.kIn, ?_⟩) hst hpl
  exact run_fnS (us := .ref a :: us) (vs := .ref a :: vs) F hr hb (hx σ) I2 (.cons rfl r) q2
theorem pe_meE0 {pl : Sem Bool} (he : PE X o ta) (c : Cls X.K C) (hm : Meth X.K C m f) (F : FnOk X.prog X.w X.K X.mg X.base CX k f fd ps sp) (hr : Room k X.A) (hb : Binds X.K fd ps []) (hx : ∀ σ, PassesAt CX X σ (E σ))
    (ht : eval (.Call (.Attribute o m apos) [] [] pos) X.env = (do
      let ov ← eval o X.env
      standAt apos.atName
      let (f, first) ← holding [ov] (getMethod ov m pl)
      callWith pos f first (backTo pos (starEach [] X.env)) (backToKw pos (keywordEach [] X.env))) := by rfl) :
    PE X (.Call (.Attribute o m apos) [] [] pos) (tMeE C m sp E ta tNil) := by
  refine ⟨fun pins s σ H Q I h => ?_⟩
  refine PySem.W.methodCall_KW (pl := pl) (thn (he.run pins s σ H _ I h) fun u s1 ⟨x, H1, I1, rx, a, dx, fs, ex, ea, l, q⟩ => ?_) ht
  subst ex
  obtain rfl : u = Value.ref a := rx
  refine getmeth_ok I1 ea c hm l ?_
  exact PySem.W.callWith_K0 (first := [.ref a]) I1.kIn hm.kp (run_fnS (us := [.ref a]) (vs := [.ref a]) F hr hb (hx σ) I1 (.cons rfl .nil) q)
end
end L2
namespace Bw
open PySem L2
/-- a method that holds its promise: the same contexts as Ok (no exception) and OkX -/
structure OkMe (P : Program) (w : World) (K : PySem.W.Frag) (mg : Str → Option Value) (base : Heap) (CX : CXT) (k : Nat) (C m : Str) (ps : List Str) (sp : Sp) : Prop where
  ex : ∃ fd, FnOk P w K mg base CX k (He.ma K (He.ga K C) m) fd ps sp ∧ Binds K fd ps []
  cl : Cls K (He.ga K C)
  me : Meth K (He.ga K C) m (He.ma K (He.ga K C) m)
/-- a class that can be made -/
structure OkMk (P : Program) (w : World) (K : PySem.W.Frag) (mg : Str → Option Value) (base : Heap) (CX : CXT) (k : Nat) (C : Str) (ps : List Str) (sp : Sp) : Prop where
  ex : ∃ fd, FnOk P w K mg base CX k (He.ma K (He.ga K C) "__init__") fd ps sp ∧ Binds K fd ps []
  gm : mg C = some (.ref (He.ga K C))
  mkr : Mk K (He.ga K C) (He.ma K (He.ga K C) "__init__")
def adV : V → Addr
  | .ref a => a
  | _ => (0 : Nat)
section
variable {K : PySem.W.Frag} {σ : St} {F F' : Hp} {cs cs1 cs2 cs3 : Cs} {ta tb te tv : TE} {d : PyData} {as : TA} {nx bk ct : St → Hp → Prop} {rt : VK} {H : Hp} {t u : TS}
/-! fields -/
theorem vp_fld {a C dx : Addr} {fs : List (Str × V)} {f : Str} {v : V} (h : VP te σ F cs (.ref a)) (hm : (a, HO.ins C dx fs) ∈ cs) (c : Cls K C) (n : NoAttr K C f) (hl : fs.lookup f = some v) : VP (tFld K te f) σ F cs v :=
  fun F1 H1 g s Q q => h F1 H1 g s _ ⟨a, C, dx, fs, v, rfl, s.has _ hm, c, n, hl, q⟩
theorem s_fldO {f : Str} (h : tv σ H fun y H1 => ta σ H1 fun x H2 => ∃ a C dx fs, x = .ref a ∧ H2 a = some (.ins C dx fs) ∧ Cls K C ∧ NoAttr K C f ∧ fs.length < 1000 ∧ nx σ (upd H2 a (.ins C dx (putF f y fs)))) :
    sFld K ta tv f ⟨nx, rt, bk, ct⟩ σ H := h
theorem o_fld {Q : Hp → Prop} {l1 l2 : Cs} {a C dx : Addr} {fs fs' : List (Str × V)} {f : Str} {v : V} (s : Sta F (l1 ++ (a, .ins C dx fs) :: l2) H) (hp : VP ta σ F (l1 ++ (a, .ins C dx fs) :: l2) (.ref a)) (c : Cls K C) (n : NoAttr K C f) (hl : fs.length < 1000) (e : putF f v fs = fs')
    (q : ∀ H2, Sta F (l1 ++ (a, .ins C dx fs') :: l2) H2 → Q H2) : ta σ H fun x H2 => ∃ a C dx fs, x = .ref a ∧ H2 a = some (.ins C dx fs) ∧ Cls K C ∧ NoAttr K C f ∧ fs.length < 1000 ∧ Q (upd H2 a (.ins C dx (putF f v fs))) := by
  refine hp F H Gr.rfl s _ ⟨a, C, dx, fs, rfl, s.getAt, c, n, hl, ?_⟩
  rw [e]
  exact q _ s.putAt
theorem s_fldAdd {l1 l2 m1 m2 : Cs} {a C dx : Addr} {fs fs' : List (Str × V)} {f : Str} {w b : Int} (s : Sta F (l1 ++ (a, .ins C dx fs) :: l2) H) (hp : VP ta σ F (l1 ++ (a, .ins C dx fs) :: l2) (.ref a)) (c : Cls K C) (n : NoAttr K C f) (hk : fs.lookup f = some (.int w))
    (h : EvD K tv σ F (l1 ++ (a, .ins C dx fs) :: l2) (.int b) (m1 ++ (a, .ins C dx fs) :: m2)) (hl : fs.length < 1000) (e : putF f (.int (w + b)) fs = fs') (q : ∀ F2 H2, Gr F F2 → Sta F2 (m1 ++ (a, .ins C dx fs') :: m2) H2 → nx σ H2) :
    sFldAug K ta tv rAdd f ⟨nx, rt, bk, ct⟩ σ H := by
  refine hp F H Gr.rfl s _ ⟨a, C, dx, fs, _, rfl, s.getAt, c, n, hk, h F H Gr.rfl s _ fun v F2 H2 g2 s2 hv => ?_⟩
  cases hv.toInt
  refine ⟨w, b, rfl, rfl, dx, fs, s2.getAt, hl, ?_⟩
  rw [e]
  exact q F2 _ g2 s2.putAt
theorem s_fldSub {l1 l2 m1 m2 : Cs} {a C dx : Addr} {fs fs' : List (Str × V)} {f : Str} {w b : Int} (s : Sta F (l1 ++ (a, .ins C dx fs) :: l2) H) (hp : VP ta σ F (l1 ++ (a, .ins C dx fs) :: l2) (.ref a)) (c : Cls K C) (n : NoAttr K C f) (hk : fs.lookup f = some (.int w))
    (h : EvD K tv σ F (l1 ++ (a, .ins C dx fs) :: l2) (.int b) (m1 ++ (a, .ins C dx fs) :: m2)) (hl : fs.length < 1000) (e : putF f (.int (w - b)) fs = fs') (q : ∀ F2 H2, Gr F F2 → Sta F2 (m1 ++ (a, .ins C dx fs') :: m2) H2 → nx σ H2) :
    sFldAug K ta tv rSub f ⟨nx, rt, bk, ct⟩ σ H := by
  refine hp F H Gr.rfl s _ ⟨a, C, dx, fs, _, rfl, s.getAt, c, n, hk, h F H Gr.rfl s _ fun v F2 H2 g2 s2 hv => ?_⟩
  cases hv.toInt
  refine ⟨w, b, rfl, rfl, dx, fs, s2.getAt, hl, ?_⟩
  rw [e]
  exact q F2 _ g2 s2.putAt
/-! promises with things that are owned -/
inductive Ag where
  | d (x : PyData)
  | o (P : Hp → V → Cs → Prop)
inductive ArgG (K : PySem.W.Frag) (F : Hp) : List V → List Ag → Cs → Prop
  | nil : ArgG K F [] [] []
  | d {v : V} {x : PyData} {vs : List V} {as : List Ag} {cs : Cs} : Dt K F v x → ArgG K F vs as cs → ArgG K F (v :: vs) (.d x :: as) cs
  | o {v : V} {P : Hp → V → Cs → Prop} {c : Cs} {vs : List V} {as : List Ag} {cs : Cs} : P F v c → ArgG K F vs as cs → ArgG K F (v :: vs) (.o P :: as) (c ++ cs)
theorem ArgG.no {vs : List V} {cs : Cs} (h : ArgG K F vs [] cs) : vs = [] ∧ cs = [] := by cases h; exact ⟨rfl, rfl⟩
theorem ArgG.hd {vs : List V} {x : PyData} {as : List Ag} {cs : Cs} (h : ArgG K F vs (.d x :: as) cs) : ∃ v ws, vs = v :: ws ∧ Dt K F v x ∧ ArgG K F ws as cs := by
  cases h with | d a b => exact ⟨_, _, rfl, a, b⟩
theorem ArgG.ho {vs : List V} {P : Hp → V → Cs → Prop} {as : List Ag} {cs : Cs} (h : ArgG K F vs (.o P :: as) cs) : ∃ v ws c cs', vs = v :: ws ∧ cs = c ++ cs' ∧ P F v c ∧ ArgG K F ws as cs' := by
  cases h with | o a b => exact ⟨_, _, _, _, rfl, rfl, a, b⟩
theorem ArgG.len : ∀ {vs : List V} {as : List Ag} {cs : Cs}, ArgG K F vs as cs → vs.length = as.length
  | _, _, _, .nil => rfl
  | _, _, _, .d _ t => by rw [List.length_cons, List.length_cons, t.len]
  | _, _, _, .o _ t => by rw [List.length_cons, List.length_cons, t.len]
/-- the general promise: what is owned comes in and goes out changed -/
def spG (K : PySem.W.Frag) {α β : Type} (A : α → List Ag) (R : β → Hp → List V → V → Cs → Prop) (f : α → Option β) : Sp := fun vs H Q _ => ∃ F cc cs x y, ArgG K F vs (A x) cc ∧ Sta F (cc ++ cs) H ∧ f x = some y ∧
  ∀ v c F2 H2, Gr F F2 → Sta F2 (c ++ cs) H2 → R y F2 vs v c → Q v H2
/-- the same, where it may raise: what is owned stays then as it was -/
def spGX (K : PySem.W.Frag) {α β : Type} (A : α → List Ag) (R : β → Hp → List V → V → Cs → Prop) (f : α → Option (Rs β)) : Sp := fun vs H Q E => ∃ F cc cs x r, ArgG K F vs (A x) cc ∧ Sta F (cc ++ cs) H ∧ f x = some r ∧
  (∀ y, r = .ok y → ∀ v c F2 H2, Gr F F2 → Sta F2 (c ++ cs) H2 → R y F2 vs v c → Q v H2) ∧ ∀ e, r = .ex e → ∀ d F2 H2, Gr F F2 → Sta F2 (cc ++ cs) H2 → Xd K F2 e d → E (.ref (He.ga K e.1)) d H2
/-- an __init__ -/
def spMk (K : PySem.W.Frag) (C : Addr) {α β : Type} (A : α → List PyData) (O : β → Hp → Addr → Cs → Prop) (f : α → Option β) : Sp := fun vs H Q _ => ∃ F cs a dx ws x y, vs = .ref a :: ws ∧ Dts K F ws (A x) ∧ Sta F ((a, .ins C dx []) :: (dx, .own a) :: cs) H ∧ f x = some y ∧
  ∀ c F2 H2, Gr F F2 → Sta F2 (c ++ cs) H2 → O y F2 a c → Q .non H2
def spMkX (K : PySem.W.Frag) (C : Addr) {α β : Type} (A : α → List PyData) (O : β → Hp → Addr → Cs → Prop) (f : α → Option (Rs β)) : Sp := fun vs H Q E => ∃ F cs a dx ws x r, vs = .ref a :: ws ∧ Dts K F ws (A x) ∧ Sta F ((a, .ins C dx []) :: (dx, .own a) :: cs) H ∧ f x = some r ∧
  (∀ y, r = .ok y → ∀ c F2 H2, Gr F F2 → Sta F2 (c ++ cs) H2 → O y F2 a c → Q .non H2) ∧ ∀ e, r = .ex e → ∀ d F2 H2, Gr F F2 → Sta F2 cs H2 → Xd K F2 e d → E (.ref (He.ga K e.1)) d H2
/-- borrowed: the first thing is an owned one that stays as it is, the others are data -/
def spB (K : PySem.W.Frag) {α β : Type} (O : α → Hp → Addr → Cs → Prop) (A : α → List PyData) (B : β → PyData) (f : α → Option β) : Sp := fun vs H Q _ => ∃ F cc cs a ws x y, vs = .ref a :: ws ∧ O x F a cc ∧ Dts K F ws (A x) ∧ Sta F (cc ++ cs) H ∧ f x = some y ∧
  ∀ v F2 H2, Gr F F2 → Sta F2 (cc ++ cs) H2 → Dt K F2 v (B y) → Q v H2
def spBF (K : PySem.W.Frag) {α β : Type} (O : α → Hp → Addr → Cs → Prop) (A : α → List PyData) (B : β → List PyData) (f : α → Option β) : Sp := fun vs H Q _ => ∃ F cc cs a ws x y, vs = .ref a :: ws ∧ O x F a cc ∧ Dts K F ws (A x) ∧ Sta F (cc ++ cs) H ∧ f x = some y ∧
  ∀ p us F2 H2, Gr F F2 → Sta F2 ((p, .lst us) :: (cc ++ cs)) H2 → Dts K F2 us (B y) → Q (.ref p) H2
/-! direct steps -/
theorem o_call {sp : Sp} {E : XK} {Q : VK} (h : as σ H fun vs H1 => sp (vs ++ []) H1 Q E) : tCall sp [] E as σ H Q := h
theorem o_callS {sp : Sp} {E : St → XK} {Q : VK} (h : as σ H fun vs H1 => sp vs H1 Q (E σ)) : tCallS sp E as σ H Q := h
theorem o_meth {l1 l2 : Cs} {a C dx : Addr} {fs : List (Str × V)} {m : Str} {sp : Sp} {E : XK} {Q : VK} (s : Sta F (l1 ++ (a, .ins C dx fs) :: l2) H) (hp : VP ta σ F (l1 ++ (a, .ins C dx fs) :: l2) (.ref a)) (hl : fs.lookup m = none)
    (h : as σ H fun vs H2 => sp (.ref a :: (vs ++ [])) H2 Q E) : tMeth C m sp [] E ta as σ H Q := hp F H Gr.rfl s _ ⟨a, dx, fs, rfl, s.getAt, hl, h⟩
theorem o_meE {l1 l2 : Cs} {a C dx : Addr} {fs : List (Str × V)} {m : Str} {sp : Sp} {E : St → XK} {Q : VK} (s : Sta F (l1 ++ (a, .ins C dx fs) :: l2) H) (hp : VP ta σ F (l1 ++ (a, .ins C dx fs) :: l2) (.ref a)) (hl : fs.lookup m = none)
    (h : as σ H fun vs H2 => sp (.ref a :: vs) H2 Q (E σ)) : tMeE C m sp E ta as σ H Q := hp F H Gr.rfl s _ ⟨a, dx, fs, rfl, s.getAt, hl, h⟩
theorem Sta.make {C a dx : Addr} (s : Sta F cs H) (ha : H a = none) (hd : H dx = none) (hne : dx ≠ a) : Sta F ((a, .ins C dx []) :: (dx, .own a) :: cs) (upd (upd H dx (.own a)) a (.ins C dx [])) := by
  have s1 := s.cell (o := .own a) hd
  refine s1.cell ?_
  rw [upd_ne (Ne.symm hne)]
  exact ha
theorem o_make {C : Addr} {sp : Sp} {E : XK} {Q : VK} (h : as σ H fun vs H1 => ∀ x dx, H1 x = none → H1 dx = none → dx ≠ x → sp (.ref x :: (vs ++ [])) (upd (upd H1 dx (.own x)) x (.ins C dx [])) (fun v H2 => v = .non ∧ Q (.ref x) H2) E) : tMake C sp [] E as σ H Q := h
theorem o_makeS {C : Addr} {sp : Sp} {E : St → XK} {Q : VK} (h : as σ H fun vs H1 => ∀ x dx, H1 x = none → H1 dx = none → dx ≠ x → sp (.ref x :: vs) (upd (upd H1 dx (.own x)) x (.ins C dx [])) (fun v H2 => v = .non ∧ Q (.ref x) H2) (E σ)) : tMakeS C sp E as σ H Q := h
/-- a test that is a value told by a direct step -/
theorem o_if {c : TT} (h : c σ H fun b H1 => (b = true → t ⟨nx, rt, bk, ct⟩ σ H1) ∧ (b = false → u ⟨nx, rt, bk, ct⟩ σ H1)) : tIfS c t u ⟨nx, rt, bk, ct⟩ σ H := by
  unfold tIfS
  refine cast ?_ h
  congr
  funext b H1
  cases b <;> simp
/-! borrowing calls within expressions -/
theorem EvDs.sta {ds : List PyData} (h : EvDs K as σ F cs ds cs1) : ∀ F1 H1, Gr F F1 → Sta F1 cs H1 → ∀ Q : List V → Hp → Prop, (∀ vs F2 H2, Gr F1 F2 → Sta F2 cs1 H2 → Dts K F2 vs ds → Q vs H2) → as σ H1 Q := h
theorem d_methB {α β : Type} {O : α → Hp → Addr → Cs → Prop} {A : α → List PyData} {B : β → PyData} {f : α → Option β} {x : α} {y : β} {a C dx : Addr} {fs : List (Str × V)} {m : Str} {E : XK} {cc cs' : Cs} (hp : VP ta σ F cs (.ref a)) (hm : (a, HO.ins C dx fs) ∈ cs) (hl : fs.lookup m = none)
    (h : EvDs K as σ F cs (A x) cs1) (ho : ∀ F', Gr F F' → O x F' a cc) (h1 : Sb cs1 (cc ++ cs')) (h2 : Sb (cc ++ cs') cs1) (hf : f x = some y) : EvD K (tMeth C m (spB K O A B f) [] E ta as) σ F cs (B y) cs1 := fun F1 H1 g1 s Q q => by
  refine hp F1 H1 g1 s _ ⟨a, dx, fs, rfl, s.has _ hm, hl, ?_⟩
  refine h F1 H1 g1 s _ fun vs F2 H2 g2 s2 hv => ?_
  rw [List.append_nil]
  exact ⟨F2, cc, cs', a, vs, x, y, rfl, ho F2 (g1.tr g2), hv, h1 _ _ s2, hf, fun v F3 H3 g3 s3 hv3 => q v F3 H3 (g2.tr g3) (h2 _ _ s3) hv3⟩
theorem c_methB {α β : Type} {O : α → Hp → Addr → Cs → Prop} {A : α → List PyData} {B : β → List PyData} {f : α → Option β} {x : α} {y : β} {a C dx : Addr} {fs : List (Str × V)} {m : Str} {E : XK} {cc cs' : Cs} (hp : VP ta σ F cs (.ref a)) (hm : (a, HO.ins C dx fs) ∈ cs) (hl : fs.lookup m = none)
    (h : EvDs K as σ F cs (A x) cs1) (ho : ∀ F', Gr F F' → O x F' a cc) (h1 : Sb cs1 (cc ++ cs')) (h2 : ∀ z, Sb (z :: (cc ++ cs')) (z :: cs1)) (hf : f x = some y) : EvC K (tMeth C m (spBF K O A B f) [] E ta as) σ F cs (B y) cs1 := fun F1 H1 g1 s Q q => by
  refine hp F1 H1 g1 s _ ⟨a, dx, fs, rfl, s.has _ hm, hl, ?_⟩
  refine h F1 H1 g1 s _ fun vs F2 H2 g2 s2 hv => ?_
  rw [List.append_nil]
  exact ⟨F2, cc, cs', a, vs, x, y, rfl, ho F2 (g1.tr g2), hv, h1 _ _ s2, hf, fun p us F3 H3 g3 s3 hu => q p us F3 H3 (g2.tr g3) (h2 _ _ _ s3) hu⟩
theorem d_callB {α β : Type} {O : α → Hp → Addr → Cs → Prop} {A : α → List PyData} {B : β → PyData} {f : α → Option β} {x : α} {y : β} {a : Addr} {E : XK} {cc cs' : Cs} (hp : VP ta σ F cs (.ref a))
    (h : EvDs K as σ F cs (A x) cs1) (ho : ∀ F', Gr F F' → O x F' a cc) (h1 : Sb cs1 (cc ++ cs')) (h2 : Sb (cc ++ cs') cs1) (hf : f x = some y) : EvD K (tCall (spB K O A B f) [] E (tCons ta as)) σ F cs (B y) cs1 := fun F1 H1 g1 s Q q => by
  refine hp F1 H1 g1 s _ ?_
  refine h F1 H1 g1 s _ fun vs F2 H2 g2 s2 hv => ?_
  show spB K O A B f (V.ref a :: (vs ++ [])) H2 Q E
  rw [List.append_nil]
  exact ⟨F2, cc, cs', a, vs, x, y, rfl, ho F2 (g1.tr g2), hv, h1 _ _ s2, hf, fun v F3 H3 g3 s3 hv3 => q v F3 H3 (g2.tr g3) (h2 _ _ s3) hv3⟩
theorem c_callB {α β : Type} {O : α → Hp → Addr → Cs → Prop} {A : α → List PyData} {B : β → List PyData} {f : α → Option β} {x : α} {y : β} {a : Addr} {E : XK} {cc cs' : Cs} (hp : VP ta σ F cs (.ref a))
    (h : EvDs K as σ F cs (A x) cs1) (ho : ∀ F', Gr F F' → O x F' a cc) (h1 : Sb cs1 (cc ++ cs')) (h2 : ∀ z, Sb (z :: (cc ++ cs')) (z :: cs1)) (hf : f x = some y) : EvC K (tCall (spBF K O A B f) [] E (tCons ta as)) σ F cs (B y) cs1 := fun F1 H1 g1 s Q q => by
  refine hp F1 H1 g1 s _ ?_
  refine h F1 H1 g1 s _ fun vs F2 H2 g2 s2 hv => ?_
  show spBF K O A B f (V.ref a :: (vs ++ [])) H2 Q E
  rw [List.append_nil]
  exact ⟨F2, cc, cs', a, vs, x, y, rfl, ho F2 (g1.tr g2), hv, h1 _ _ s2, hf, fun p us F3 H3 g3 s3 hu => q p us F3 H3 (g2.tr g3) (h2 _ _ _ s3) hu⟩
end
end Bw
namespace Bw
open PySem L2
/-- an owned list of things that stand -/
def OL (K : PySem.W.Frag) {α : Type} (e : α → PyData) (xs : List α) (F : Hp) (a : Addr) (c : Cs) : Prop := ∃ us, c = [(a, .lst us)] ∧ Dts K F us (xs.map e)
section
variable {K : PySem.W.Frag} {σ : St} {F F' : Hp} {cs cs1 cs2 : Cs} {to te : TE} {H : Hp} {t : TT}
theorem o_not {Q : Bool → Hp → Prop} (h : t σ H fun b H1 => Q (!b) H1) : tNot t σ H Q := h
theorem o_tB {Q : Bool → Hp → Prop} (h : te σ H fun v H1 => ∃ b, v = .bl b ∧ Q b H1) : tB te σ H Q := h
theorem o_dnew {κ ν : Type} {kf : κ → Key} {vf : ν → V} {Q : VK} (s : Sta F cs H) (q : ∀ p H2, Sta F ((p, .dK (kvE kf vf [])) :: cs) H2 → Q (.ref p) H2) : tDNewK σ H Q := fun p hp => q p _ (s.cell hp)
theorem pop0_dts {α : Type} {en : α → PyData} {xs ys : List α} {x : α} {us : List V} (k : popM xs 0 = some (x, ys)) (h : Dts K F us (xs.map en)) : ∃ u us', us = u :: us' ∧ Dt K F u (en x) ∧ Dts K F us' (ys.map en) := by
  obtain ⟨_, j, h1, h2, rfl⟩ := popM_some k
  cases xs with
  | nil => simp at h2
  | cons z zs =>
    have : j = 0 := by
      have e : seqIndex? (0 : Int) (z :: zs).length = some 0 := by unfold seqIndex?; simp
      rw [e] at h1; exact (Option.some.inj h1).symm
    subst this
    simp at h2; subst h2
    obtain ⟨u, us', rfl, a, b⟩ := Dts.hd h
    exact ⟨u, us', rfl, a, b⟩
theorem d_pop0 {l1 l2 : Cs} {p : Addr} {u : V} {us : List V} {d : PyData} (hp : VP to σ F (l1 ++ (p, .lst (u :: us)) :: l2) (.ref p)) (hd : Dt K F u d) :
    EvD K (tBM K "list" rPopAt to (tCons (tC (.int 0)) tNil)) σ F (l1 ++ (p, .lst (u :: us)) :: l2) d (l1 ++ (p, .lst us) :: l2) := fun F1 H1 g1 s Q q => by
  refine hp F1 H1 g1 s _ ⟨?_, p, u :: us, 0, 0, u, rfl, rfl, s.getAt, by decide, by decide, by unfold seqIndex?; simp, rfl, ?_⟩
  · exact .inl ⟨rfl, _, .inl (.inl s.getAt)⟩
  · exact q _ F1 _ Gr.rfl s.putAt (hd.gr g1)
end
end Bw
namespace Bw
open PySem L2 PyProof.Rows PySem.Spec
/-! texts, sorted -/
theorem lt_cons (x y : Nat) (a b : List Nat) : ltCps (x :: a) (y :: b) = true ↔ x < y ∨ x = y ∧ ltCps a b = true := by simp [ltCps]
theorem lt_tri : ∀ a b : List Nat, ltCps a b = true ∨ a = b ∨ ltCps b a = true
  | [], [] => .inr (.inl rfl)
  | [], _ :: _ => .inl (by simp [ltCps])
  | _ :: _, [] => .inr (.inr (by simp [ltCps]))
  | x :: a, y :: b => by
    rw [lt_cons, lt_cons]
    rcases Nat.lt_trichotomy x y with h | h | h
    · exact .inl (.inl h)
    · subst h
      rcases lt_tri a b with h | h | h
      · exact .inl (.inr ⟨rfl, h⟩)
      · exact .inr (.inl (by rw [h]))
      · exact .inr (.inr (.inr ⟨rfl, h⟩))
    · exact .inr (.inr (.inl h))
theorem lt_trans : ∀ a b c : List Nat, ltCps a b = true → ltCps b c = true → ltCps a c = true
  | [], [], _, h, _ => by simp [ltCps] at h
  | [], _ :: _, [], _, h => by simp [ltCps] at h
  | [], _ :: _, _ :: _, _, _ => by simp [ltCps]
  | _ :: _, [], _, h, _ => by simp [ltCps] at h
  | _ :: _, _ :: _, [], _, h => by simp [ltCps] at h
  | x :: a, y :: b, z :: c, h, k => by
    rw [lt_cons] at h k ⊢
    rcases h with h | ⟨rfl, h⟩
    · rcases k with k | ⟨rfl, k⟩
      · exact .inl (Nat.lt_trans h k)
      · exact .inl h
    · rcases k with k | ⟨rfl, k⟩
      · exact .inl k
      · exact .inr ⟨rfl, lt_trans a b c h k⟩
theorem lt_irr : ∀ a : List Nat, ltCps a a = false
  | [] => rfl
  | x :: a => by
    cases h : ltCps (x :: a) (x :: a) with
    | false => rfl
    | true =>
      rw [lt_cons] at h
      rcases h with h | ⟨_, h⟩
      · exact absurd h (Nat.lt_irrefl _)
      · rw [lt_irr a] at h; cases h
/-- x stands not behind y -/
def leS (x y : Str) : Prop := ltCps y.cps.toList x.cps.toList = false
instance (x y : Str) : Decidable (leS x y) := inferInstanceAs (Decidable (_ = _))
theorem str_ext {x y : Str} (h : x.cps.toList = y.cps.toList) : x = y := by
  obtain ⟨⟨a⟩⟩ := x; obtain ⟨⟨b⟩⟩ := y
  simp at h; subst h; rfl
theorem leS_antisymm {x y : Str} (h : leS x y) (k : leS y x) : x = y := by
  rcases lt_tri x.cps.toList y.cps.toList with q | q | q
  · unfold leS at k; rw [q] at k; cases k
  · exact str_ext q
  · unfold leS at h; rw [q] at h; cases h
theorem leS_total (x y : Str) : leS x y ∨ leS y x := by
  unfold leS
  rcases lt_tri x.cps.toList y.cps.toList with q | q | q
  · left
    cases h : ltCps y.cps.toList x.cps.toList with
    | false => rfl
    | true => have := lt_trans _ _ _ q h; rw [lt_irr] at this; cases this
  · left; rw [q]; exact lt_irr _
  · right
    cases h : ltCps x.cps.toList y.cps.toList with
    | false => rfl
    | true => have := lt_trans _ _ _ q h; rw [lt_irr] at this; cases this
theorem leS_trans {x y z : Str} (h : leS x y) (k : leS y z) : leS x z := by
  unfold leS at *
  cases q : ltCps z.cps.toList x.cps.toList with
  | false => rfl
  | true =>
    rcases lt_tri y.cps.toList x.cps.toList with r | r | r
    · rw [h] at r; cases r
    · rw [← r, k] at q; cases q
    · have := lt_trans _ _ _ q r; rw [k] at this; cases this
def insS (x : Str) : List Str → List Str
  | [] => [x]
  | y :: ys => if leS x y then x :: y :: ys else y :: insS x ys
def srtS : List Str → List Str
  | [] => []
  | x :: xs => insS x (srtS xs)
theorem insS_perm (x : Str) : ∀ ys, (insS x ys).Perm (x :: ys)
  | [] => .refl _
  | y :: ys => by
    unfold insS
    split
    · exact .refl _
    · exact ((insS_perm x ys).cons y).trans (.swap x y ys)
theorem srtS_perm : ∀ xs, (srtS xs).Perm xs
  | [] => .refl _
  | x :: xs => (insS_perm x _).trans ((srtS_perm xs).cons x)
theorem insS_sort (x : Str) : ∀ ys, ys.Pairwise leS → (insS x ys).Pairwise leS
  | [], _ => List.pairwise_singleton _ _
  | y :: ys, h => by
    rw [List.pairwise_cons] at h
    unfold insS
    split
    · rename_i q
      rw [List.pairwise_cons]
      exact ⟨fun z hz => by rcases List.mem_cons.mp hz with rfl | hz; (exact q); (exact leS_trans q (h.1 z hz)), List.pairwise_cons.mpr h⟩
    · rename_i q
      rw [List.pairwise_cons]
      refine ⟨fun z hz => ?_, insS_sort x ys h.2⟩
      rcases List.mem_cons.mp ((insS_perm x ys).mem_iff.mp hz) with rfl | hz
      · exact (leS_total _ _).resolve_left q
      · exact h.1 z hz
theorem srtS_sort : ∀ xs, (srtS xs).Pairwise leS
  | [] => List.Pairwise.nil
  | x :: xs => insS_sort x _ (srtS_sort xs)
theorem sortS_uniq : ∀ (xs ys : List Str), xs.Perm ys → xs.Pairwise leS → ys.Pairwise leS → xs = ys
  | [], ys, p, _, _ => (List.Perm.nil_eq p)
  | x :: xs, [], p, _, _ => by have := p.length_eq; simp at this
  | x :: xs, y :: ys, p, h, k => by
    rw [List.pairwise_cons] at h k
    have e : x = y := by
      rcases List.mem_cons.mp (p.mem_iff.mp List.mem_cons_self) with h1 | h1
      · exact h1
      · rcases List.mem_cons.mp (p.mem_iff.mpr List.mem_cons_self) with h2 | h2
        · exact h2.symm
        · exact leS_antisymm (h.1 y h2) (k.1 x h1)
    subst e
    rw [sortS_uniq xs ys (List.Perm.cons_inv p) h.2 k.2]
theorem rising_pw : ∀ (xs : List Str) (p : Str), risingS p xs = true → (p :: xs).Pairwise leS
  | [], p, _ => List.pairwise_singleton _ _
  | x :: xs, p, h => by
    unfold risingS at h
    rw [Bool.and_eq_true, Bool.not_eq_true'] at h
    have ih := rising_pw xs x h.2
    rw [List.pairwise_cons]
    refine ⟨fun z hz => ?_, ih⟩
    rcases List.mem_cons.mp hz with rfl | hz
    · exact h.1
    · exact leS_trans h.1 ((List.pairwise_cons.mp ih).1 z hz)
theorem sorted_pw {xs : List Str} (h : sortedS xs = true) : xs.Pairwise leS := by
  cases xs with
  | nil => exact List.Pairwise.nil
  | cons x xs => exact rising_pw xs x h
def srtM (xs : List Str) : Option (List Str) := if xs.length < 64 then some (srtS xs) else none
def idxM {α : Type} [BEq α] (xs : List α) (x : α) : Option Int := (xs.findIdx? fun y => y == x).map fun (j : Nat) => (j : Int)
section
variable {K : PySem.W.Frag} {σ : L2.St} {F : Hp} {cs cs1 cs2 : Cs} {as : TA} {ta tb : TE}
theorem c_sortedS {xs ys : List Str} (h : EvDs K as σ F cs [eL eS xs] cs1) (hm : srtM xs = some ys) : EvC K (tCB (rSortedS K) as) σ F cs (ys.map eS) cs1 := fun F1 H1 g1 s Q q => by
  unfold srtM at hm
  split at hm
  case isFalse => cases hm
  rename_i hl
  cases hm
  refine h F1 H1 g1 s _ fun vs F2 H2 g2 s2 hv => ?_
  obtain ⟨v, rfl, hv2⟩ := Dts.one hv
  obtain ⟨a, us, rfl, hq, hd⟩ := hv2.toLst
  obtain rfl := Dts.strs hd
  refine ⟨a, xs, rfl, gr_L s2.fr hq, hl, fun zs p pm so hp => ?_⟩
  obtain rfl := sortS_uniq zs (srtS xs) (pm.trans (srtS_perm xs).symm) (sorted_pw so) (srtS_sort xs)
  exact q p _ F2 _ g2 (s2.cell hp) (Dts.of_strs _)
theorem d_idxI {xs : List Int} {x j : Int} (ha : EvD K ta σ F cs (eL eI xs) cs1) (hb : EvD K tb σ F cs1 (.int x) cs2) (hm : idxM xs x = some j) : EvD K (tBM K "list" (rIndex K) ta (tCons tb tNil)) σ F cs (.int j) cs2 := fun F1 H1 g1 s Q q => by
  unfold idxM at hm
  rw [Option.map_eq_some_iff] at hm
  obtain ⟨n, hn, rfl⟩ := hm
  rw [List.findIdx?_eq_some_iff_getElem] at hn
  obtain ⟨hlt, hx, hno⟩ := hn
  refine ha F1 H1 g1 s _ fun v F2 H2 g2 s2 hv => ?_
  obtain ⟨a, us, rfl, hq, hd⟩ := hv.toLst
  obtain rfl := Dts.ints hd
  refine ⟨.inl ⟨rfl, _, gr_L s2.fr hq⟩, ?_⟩
  refine hb F2 H2 (g1.tr g2) s2 _ fun w F3 H3 g3 s3 hw => ?_
  cases hw.toInt
  refine ⟨a, xs.map V.int, .int x, n, .int x, rfl, rfl, gr_L s3.fr (gr_L g3 hq), rfl, flatI xs, ?_, by simp [eqV], fun m z' hm hz => ?_, q _ F3 H3 (g2.tr g3) s3 (.int _)⟩
  · rw [List.getElem?_map, List.getElem?_eq_getElem hlt]
    simp only [Option.map_some, Option.some.injEq]
    have : xs[n] = x := by simpa using hx
    rw [this]
  · rw [List.getElem?_map, List.getElem?_eq_getElem (by omega)] at hz
    simp only [Option.map_some, Option.some.injEq] at hz
    subst hz
    have := hno m hm
    simpa [eqV] using this
end
end Bw
namespace Bw
open PySem L2
theorem s_ifor {t u : TT} {a b : TS} {D : Ends} {σ : L2.St} {H : Hp} (h : tIfS t a (tIfS u a b) D σ H) : tIfS (tOr t u) a b D σ H := by
  unfold tIfS tOr
  unfold tIfS at h
  have e : (fun (c : Bool) (H1 : Hp) => if c = true then a D σ H1 else u σ H1 fun b_1 H1 => if b_1 = true then a D σ H1 else b D σ H1) = fun (c : Bool) (H1 : Hp) => if c = true then (if true = true then a D σ H1 else b D σ H1) else u σ H1 fun b_1 H1 => if b_1 = true then a D σ H1 else b D σ H1 := by
    funext c H1; cases c <;> rfl
  rw [e] at h
  exact h
theorem s_ifand {t u : TT} {a b : TS} {D : Ends} {σ : L2.St} {H : Hp} (h : tIfS t (tIfS u a b) b D σ H) : tIfS (tAnd t u) a b D σ H := by
  unfold tIfS tAnd
  unfold tIfS at h
  have e : (fun (c : Bool) (H1 : Hp) => if c = true then u σ H1 fun b_1 H1 => if b_1 = true then a D σ H1 else b D σ H1 else b D σ H1) = fun (c : Bool) (H1 : Hp) => if c = true then (u σ H1 fun b_1 H1 => if b_1 = true then a D σ H1 else b D σ H1) else if false = true then a D σ H1 else b D σ H1 := by
    funext c H1; cases c <;> rfl
  rw [e] at h
  exact h
end Bw

namespace Bw
open PySem L2
theorem u65 {k : Nat} {A : Around} (r : Room k A) : A.units + 65 < cLine := by have := r.un; omega
/-! x in a list, of things of any kind -/
def inTM {α : Type} [DecidableEq α] (e : α → PyData) (x : α) (xs : List α) : Option Bool := if SeqAt.shaped (e x) = true ∧ SeqAt.shaped (eL e xs) = true then some (decide (x ∈ xs)) else none
def inDM (x : PyData) (xs : List PyData) : Option Bool := if SeqAt.shaped x = true ∧ SeqAt.shaped (.list xs) = true then some (xs.any fun z => PyData.eqv z x) else none
section
variable {K : PySem.W.Frag} {σ : L2.St} {F : Hp} {cs cs1 cs2 : Cs} {ta tb : TE}
theorem any_eqE {α : Type} [DecidableEq α] {e : α → PyData} (he : EqE e) (x : α) (xs : List α) : ((xs.map e).any fun z => PyData.eqv z (e x)) = decide (x ∈ xs) := by
  induction xs with
  | nil => rfl
  | cons y ys ih =>
    rw [List.map_cons, List.any_cons, ih, he y x]
    by_cases q : y = x
    · simp [q]
    · have : ¬ x = y := fun z => q z.symm
      simp [q, this]
theorem d_inTM {α : Type} [DecidableEq α] {e : α → PyData} {x : α} {xs : List α} {b : Bool} (he : EqE e) (ha : EvD K ta σ F cs (e x) cs1) (hb : EvD K tb σ F cs1 (eL e xs) cs2) (hm : inTM e x xs = some b) : EvD K (tOp (rInD K) ta tb) σ F cs (.bool b) cs2 := fun F1 H1 g1 s Q q => by
  unfold inTM at hm
  split at hm
  case isFalse => cases hm
  rename_i hs
  cases hm
  refine ha F1 H1 g1 s _ fun v F2 H2 g2 s2 hv => hb F2 H2 (g1.tr g2) s2 _ fun w F3 H3 g3 s3 hw => ?_
  refine ⟨e x, xs.map e, (hv.gr (g3.tr s3.fr)).dp (SeqAt.canLay_of_shaped hs.1), (hw.gr s3.fr).dp (SeqAt.canLay_of_shaped hs.2), hs.1, hs.2, ?_⟩
  rw [any_eqE he]
  exact q _ F3 H3 (g2.tr g3) s3 (.bl _)
theorem d_ninTM {α : Type} [DecidableEq α] {e : α → PyData} {x : α} {xs : List α} {b : Bool} (he : EqE e) (ha : EvD K ta σ F cs (e x) cs1) (hb : EvD K tb σ F cs1 (eL e xs) cs2) (hm : inTM e x xs = some b) : EvD K (tOp (rNotInD K) ta tb) σ F cs (.bool (!b)) cs2 := fun F1 H1 g1 s Q q => by
  unfold inTM at hm
  split at hm
  case isFalse => cases hm
  rename_i hs
  cases hm
  refine ha F1 H1 g1 s _ fun v F2 H2 g2 s2 hv => hb F2 H2 (g1.tr g2) s2 _ fun w F3 H3 g3 s3 hw => ?_
  refine ⟨e x, xs.map e, (hv.gr (g3.tr s3.fr)).dp (SeqAt.canLay_of_shaped hs.1), (hw.gr s3.fr).dp (SeqAt.canLay_of_shaped hs.2), hs.1, hs.2, ?_⟩
  rw [any_eqE he]
  exact q _ F3 H3 (g2.tr g3) s3 (.bl _)
theorem d_inDM {x : PyData} {xs : List PyData} {b : Bool} (ha : EvD K ta σ F cs x cs1) (hb : EvD K tb σ F cs1 (.list xs) cs2) (hm : inDM x xs = some b) : EvD K (tOp (rInD K) ta tb) σ F cs (.bool b) cs2 := fun F1 H1 g1 s Q q => by
  unfold inDM at hm
  split at hm
  case isFalse => cases hm
  rename_i hs
  cases hm
  refine ha F1 H1 g1 s _ fun v F2 H2 g2 s2 hv => hb F2 H2 (g1.tr g2) s2 _ fun w F3 H3 g3 s3 hw => ?_
  exact ⟨x, xs, (hv.gr (g3.tr s3.fr)).dp (SeqAt.canLay_of_shaped hs.1), (hw.gr s3.fr).dp (SeqAt.canLay_of_shaped hs.2), hs.1, hs.2, q _ F3 H3 (g2.tr g3) s3 (.bl _)⟩
theorem d_ninDM {x : PyData} {xs : List PyData} {b : Bool} (ha : EvD K ta σ F cs x cs1) (hb : EvD K tb σ F cs1 (.list xs) cs2) (hm : inDM x xs = some b) : EvD K (tOp (rNotInD K) ta tb) σ F cs (.bool (!b)) cs2 := fun F1 H1 g1 s Q q => by
  unfold inDM at hm
  split at hm
  case isFalse => cases hm
  rename_i hs
  cases hm
  refine ha F1 H1 g1 s _ fun v F2 H2 g2 s2 hv => hb F2 H2 (g1.tr g2) s2 _ fun w F3 H3 g3 s3 hw => ?_
  exact ⟨x, xs, (hv.gr (g3.tr s3.fr)).dp (SeqAt.canLay_of_shaped hs.1), (hw.gr s3.fr).dp (SeqAt.canLay_of_shaped hs.2), hs.1, hs.2, q _ F3 H3 (g2.tr g3) s3 (.bl _)⟩
end
end Bw

namespace Bw
open PySem L2
section
variable {K : PySem.W.Frag} {σ : St} {F : Hp} {cs : Cs} {ta tb : TE} {as : TA} {H : Hp} {D : Ends} {a b : TS}
theorem vp_con {v : V} : VP (tC v) σ F cs v := fun _ _ _ _ _ q => q
/-- the left side of a compare, stepped over directly -/
theorem s_ifL {r : R2} (h : ta σ H fun x H1 => tIfS (tTest (tOp r (tC x) tb)) a b D σ H1) : tIfS (tTest (tOp r ta tb)) a b D σ H := h
/-- a method of what was just made -/
theorem o_methN {C : Addr} {m : Str} {sp : Sp} {E : XK} {Q : VK} (h : ta σ H fun x H1 => ∃ a dx fs, x = .ref a ∧ H1 a = some (.ins C dx fs) ∧ fs.lookup m = none ∧ as σ H1 fun vs H2 => sp (x :: (vs ++ [])) H2 Q E) : tMeth C m sp [] E ta as σ H Q := h
theorem o_methN2 {l1 l2 : Cs} {x C dx : Addr} {fs : List (Str × V)} {m : Str} {sp : Sp} {E : XK} {Q : VK} (s : Sta F (l1 ++ (x, .ins C dx fs) :: l2) H) (hl : fs.lookup m = none)
    (h : as σ H fun vs H2 => sp (.ref x :: (vs ++ [])) H2 Q E) : ∃ a dx fs, V.ref x = .ref a ∧ H a = some (.ins C dx fs) ∧ fs.lookup m = none ∧ as σ H fun vs H2 => sp (V.ref x :: (vs ++ [])) H2 Q E := ⟨x, dx, fs, rfl, s.getAt, hl, h⟩
end
end Bw

namespace L2
open PySem PySem.Spec PyProof.Rows
/-! a dict whose keys are pairs of an int and a bool and whose values are lists -/
abbrev Kb := Int × Bool
def bn (b : Bool) : Int := if b = true then 1 else 0
def lk (k : Kb) : List Leaf := [.num k.1, .num (bn k.2)]
theorem lk_inj {k j : Kb} (h : lk k = lk j) : k = j := by
  obtain ⟨a, b⟩ := k; obtain ⟨c, d⟩ := j
  unfold lk at h
  injection h with h1 h2
  injection h1 with h1
  injection h2 with h2 _
  injection h2 with h2
  dsimp only at h1 h2
  subst h1
  cases b <;> cases d <;> first | rfl | (exact absurd h2 (by decide))
def kHash (w : World) (k : Kb) : Int := reduceHash (Builtin.Tuple.tupleHashOf ((lk k).map fun l => l.key.hash w))
def dlE (w : World) (x : Kb × Addr × Addr) : DictEntry := ⟨kHash w x.1, .ref x.2.1, .ref x.2.2⟩
def dlO (a : Addr) (xs : List (Kb × Addr × Addr)) : HO := .ext fun h => xs.length ≤ 1000 ∧ (a == sysModules) = false ∧ (xs.map (·.1)).Nodup ∧ ∃ o es ep, h.get? a = some o ∧ o.ExactDict ∧ o.data = .dict es ep ∧ ∀ w, es.toList = xs.map (dlE w)
def dlX (xs : List (Kb × Addr × Addr)) : List (List Leaf × Addr × Value) := xs.map fun x => (lk x.1, x.2.1, .ref x.2.2)
def kbV (k : Kb) : List V := [.int k.1, .bl k.2]
def lnAt (xs : List (Kb × Addr × Addr)) (k : Kb) : Option (Addr × Addr) := (xs.find? fun x => decide (x.1 = k)).map (·.2)
def putB (xs : List (Kb × Addr × Addr)) (k : Kb) (b q : Addr) : List (Kb × Addr × Addr) := if (lnAt xs k).isSome = true then xs.map (fun x => if x.1 = k then (x.1, x.2.1, q) else x) else xs ++ [(k, b, q)]
theorem lnAt_key (k : Kb) : ∀ xs : List (Kb × Addr × Addr), atKey (dlX xs) (lk k) = (lnAt xs k).map fun p => (p.1, Value.ref p.2)
  | [] => rfl
  | x :: xs => by
    have ih := lnAt_key k xs
    unfold atKey lnAt dlX at *
    rw [List.map_cons, List.find?_cons, List.find?_cons]
    by_cases e : x.1 = k
    · rw [decide_eq_true e, decide_eq_true (congrArg lk e)]; rfl
    · rw [decide_eq_false e, decide_eq_false (fun z => e (lk_inj z))]; exact ih
theorem putB_key (k : Kb) (b q : Addr) (xs : List (Kb × Addr × Addr)) : storedH (dlX xs) (lk k) b (.ref q) = dlX (putB xs k b q) := by
  unfold storedH putB
  rw [lnAt_key, Option.isSome_map]
  by_cases e : (lnAt xs k).isSome = true
  · rw [if_pos e, if_pos e]
    unfold dlX
    rw [List.map_map, List.map_map]
    refine List.map_congr_left fun x _ => ?_
    show putAt (lk k) (.ref q) (lk x.1, x.2.1, .ref x.2.2) = (fun x : Kb × Addr × Addr => (lk x.1, x.2.1, Value.ref x.2.2)) (if x.1 = k then (x.1, x.2.1, q) else x)
    unfold putAt
    by_cases z : x.1 = k
    · rw [if_pos z, if_pos (congrArg lk z)]
    · rw [if_neg z, if_neg (fun y => z (lk_inj y))]
  · rw [if_neg e, if_neg e]
    unfold dlX
    rw [List.map_append]; rfl
theorem putB_len (xs : List (Kb × Addr × Addr)) (k : Kb) (b q : Addr) : (putB xs k b q).length ≤ xs.length + 1 := by
  unfold putB
  split
  · rw [List.length_map]; omega
  · rw [List.length_append, List.length_cons, List.length_nil]; omega
section
variable {P : Program} {w : World} {K : PySem.W.Frag} {H : Hp} {h : Heap} {a b : Addr} {xs : List (Kb × Addr × Addr)} {k : Kb}
theorem kt_of {X : Cx} {pins : List (Addr × Obj)} {σ : St} {s : Shared} (I : Inv X pins σ H s) (e : SqT X.K H b (kbV k)) : (tupleKind (leafKind X.prog X.w)).is s.heap (lk k) b := by
  obtain ⟨its, r, ⟨o, h1, h2, n, h3⟩, _⟩ := I.tuple e
  refine ⟨o, its.toArray, n, h1, h2, h3, ?_⟩
  unfold kbV at r
  cases r with
  | cons r1 r =>
    cases r with
    | cons r2 r =>
      cases r
      obtain ⟨t, rfl⟩ := r1
      obtain rfl := r2
      refine .cons (leaf_int _ _) (.cons ?_ .nil)
      cases k.2
      · exact leaf_false
      · exact leaf_true
theorem dl_of {X : Cx} {pins : List (Addr × Obj)} {σ : St} {s : Shared} (I : Inv X pins σ H s) (e : H a = some (dlO a xs)) (hk : ∀ x ∈ xs, SqT X.K H x.2.1 (kbV x.1)) : xs.length ≤ 1000 ∧ (a == sysModules) = false ∧ s.heap.DictOfH (tupleKind (leafKind X.prog X.w)) a (dlX xs) := by
  obtain ⟨⟨z, hd, nd, o, es, ep, h1, h2, h3, h4⟩, _⟩ := (show ObjOk X.prog X.w H s.heap a (dlO a xs) from I.hok a _ e)
  refine ⟨z, hd, o, es, ep, h1, h2, h3, ?_, ?_, ?_⟩
  · rw [h4 X.w]; unfold dlX; rw [List.map_map]; rfl
  · intro x hx
    obtain ⟨y, hy, rfl⟩ := List.mem_map.mp hx
    exact kt_of I (hk y hy)
  · unfold dlX
    rw [List.map_map]
    rw [List.nodup_iff_pairwise_ne, List.pairwise_map] at nd ⊢
    exact nd.imp fun n e => n (lk_inj e)
theorem dl_new {H' : Hp} {h' : Heap} (z : xs.length ≤ 1000) (hd : (a == sysModules) = false) (dd : h'.DictOfH (tupleKind (leafKind P w)) a (dlX xs)) : ObjOk P w H' h' a (dlO a xs) := by
  obtain ⟨o, es, ep, h1, h2, h3, h4, _, h5⟩ := dd
  refine ⟨⟨z, hd, ?_, o, es, ep, h1, h2, h3, fun w' => ?_⟩, ⟨o, h1⟩, ?_⟩
  · unfold dlX at h5
    rw [List.map_map] at h5
    rw [List.nodup_iff_pairwise_ne, List.pairwise_map] at h5 ⊢
    exact h5.imp fun n e => n (congrArg lk e)
  · rw [h4]; unfold dlX; rw [List.map_map]; rfl
  · rintro g1 g2 ⟨z1, z2, z3, o1, es1, ep1, y1, y2, y3, y4⟩ kk
    exact ⟨z1, z2, z3, o1, es1, ep1, kk _ y1, y2, y3, y4⟩
theorem dl_empty (h : Heap) (hb : sysModules < h.objs.size) : ObjOk P w H (h.push { cls := .type "dict", data := .dict #[] }) h.objs.size (dlO h.objs.size []) := by
  have eb : (h.push { cls := .type "dict", data := .dict #[] }).get? h.objs.size = some { cls := .type "dict", data := .dict #[] } := Heap.get?_push_size _ rfl
  refine ⟨⟨by simp, ?_, by simp, _, _, _, eb, ⟨rfl, rfl, rfl⟩, rfl, fun w => rfl⟩, ⟨_, eb⟩, ?_⟩
  · exact decide_eq_false (fun z => Nat.lt_irrefl _ (z ▸ hb))
  · rintro g1 g2 ⟨z1, z2, z3, o1, es1, ep1, y1, y2, y3, y4⟩ kk
    exact ⟨z1, z2, z3, o1, es1, ep1, kk _ y1, y2, y3, y4⟩
end
/-- {} -/
def tDNewL : TE := fun _ H Q => ∀ p, H p = none → Q (.ref p) (upd H p (dlO p []))
theorem pe_dnewL {X : Cx} {pos : Pos} : PE X (.Dict [] [] pos) tDNewL := ⟨fun pins s σ H Q I h =>
  wpAny_Dict_empty ⟨.ref s.heap.objs.size, _, I.laid (a := s.heap.objs.size) (o := dlO s.heap.objs.size []) (t' := s.toks) (fun _ _ q => Heap.get?_push_of_some _ q) (Nat.le_refl _) (dl_empty s.heap I.big), rfl, h _ (I.hok.fresh (Nat.le_refl _))⟩⟩
/-- the dict at a, the key at b -/
def DlAt (K : PySem.W.Frag) (H : Hp) (a : Addr) (xs : List (Kb × Addr × Addr)) (y : V) (k : Kb) (b : Addr) : Prop := H a = some (dlO a xs) ∧ (∀ x ∈ xs, SqT K H x.2.1 (kbV x.1)) ∧ y = .ref b ∧ SqT K H b (kbV k) ∧ xs.length < 1000
/-- d.get(k, x) -/
def tGetL (K : PySem.W.Frag) (td tk tn : TE) : TE := fun σ H Q => td σ H fun x H1 => ∃ a xs0, x = .ref a ∧ H1 a = some (dlO a xs0) ∧ tk σ H1 fun y H2 => tn σ H2 fun z H3 => ∃ xs k b q, z = .ref q ∧ DlAt K H3 a xs y k b ∧ Q (.ref (((lnAt xs k).map (·.2)).getD q)) H3
/-- d.setdefault(k, x) -/
def tSetdL (K : PySem.W.Frag) (td tk tn : TE) : TE := fun σ H Q => td σ H fun x H1 => ∃ a xs0, x = .ref a ∧ H1 a = some (dlO a xs0) ∧ tk σ H1 fun y H2 => tn σ H2 fun z H3 => ∃ xs k b q, z = .ref q ∧ DlAt K H3 a xs y k b ∧
  (∀ r, lnAt xs k = some r → Q (.ref r.2) H3) ∧ (lnAt xs k = none → Q (.ref q) (upd H3 a (dlO a (xs ++ [(k, b, q)]))))
/-- d[k] = v -/
def sPutL (K : PySem.W.Frag) (td tk tv : TE) : TS := fun D σ H => tv σ H fun v H1 => td σ H1 fun x H2 => tk σ H2 fun y H3 => ∃ a xs k b q, x = .ref a ∧ v = .ref q ∧ DlAt K H3 a xs y k b ∧ D.nx σ (upd H3 a (dlO a (putB xs k b q)))
section
variable {X : Cx} {o i e f value : Expr} {td tk tn tv : TE} {apos cpos pos pos' : Pos}
theorem dl_typ {pins : List (Addr × Obj)} {σ : St} {H : Hp} {s : Shared} {a : Addr} {xs : List (Kb × Addr × Addr)} (I : Inv X pins σ H s) (d : H a = some (dlO a xs)) : s.TypeIs (.ref a) "dict" ∧ (∀ b, Value.ref a = .ref b → ∃ ob, s.heap.get? b = some ob ∧ ob.dict = none) := by
  obtain ⟨⟨z, hd, nd, o, es, ep, h1, h2, h3, h4⟩, _⟩ := (show ObjOk X.prog X.w H s.heap a (dlO a xs) from I.hok a _ d)
  refine ⟨⟨o, h1, h2.1⟩, fun b e => ?_⟩
  cases e
  exact ⟨o, h1, h2.2.1⟩
theorem pe_getL (hu : X.A.units + 1 < cLine) (ho : PE X o td) (he : PE X e tk) (hf : PE X f tn) (m : M2 X o "get" apos e f cpos) : PE X (.Call (.Attribute o "get" apos) [e, f] [] cpos) (tGetL X.K td tk tn) := by
  refine ⟨fun pins s σ H Q I h => ?_⟩
  refine wpAny_Call_method m.base m.few m.line PySem.F.plainAttrs_dict PySem.F.slot_dict_get PySem.F.type_dict_get (thn (ho.run pins s σ H _ I h) fun u s1 ⟨x, H1, I1, rx, a, xs0, ex, d, q1⟩ => ?_)
  subst ex
  obtain rfl : u = Value.ref a := rx
  obtain ⟨t1, t2⟩ := dl_typ I1 d
  refine ⟨t1, t2, ?_⟩
  rw [m.trees]
  refine Calls.callWith_builtin rfl (Calls.evalArgs_plain (Calls.spliced_cons (thn (he.run pins s1 σ H1 _ I1 q1) fun iv s2 ⟨y, H2, I2, ry, q2⟩ =>
    Calls.spliced_cons (thn (hf.run pins s2 σ H2 _ I2 q2) fun fv s3 ⟨z, H3, I3, rz, xs, k, b, q, ez, ⟨d3, hks, ey, hk, _⟩, q3⟩ => Calls.spliced_nil ?_))))
  subst ey ez
  cases (show iv = Value.ref b from ry)
  cases (show fv = Value.ref q from rz)
  obtain ⟨_, hd, dd⟩ := dl_of I3 d3 hks
  refine call_meetsIn PySem.F.slot_dict_get dd.typeIs PySem.F.entry_dict_get (PySem.F.args_dict_get_3 _ _ _) (meetsH_dict_get_default (tupleKind (leafKind X.prog X.w)) a b hd (.ref q)) ⟨tupleKind_room_in1 hu, lk k, dlX xs, kt_of I3 hk, dd, ?_⟩
  refine ⟨_, H3, I3.tok _, ?_, q3⟩
  rw [lnAt_key]
  cases lnAt xs k <;> rfl
theorem pe_setdL (hu : X.A.units + 1 < cLine) (ho : PE X o td) (he : PE X e tk) (hf : PE X f tn) (m : M2 X o "setdefault" apos e f cpos) : PE X (.Call (.Attribute o "setdefault" apos) [e, f] [] cpos) (tSetdL X.K td tk tn) := by
  refine ⟨fun pins s σ H Q I h => ?_⟩
  refine wpAny_Call_method m.base m.few m.line PySem.F.plainAttrs_dict PySem.F.slot_dict_setdefault PySem.F.type_dict_setdefault (thn (ho.run pins s σ H _ I h) fun u s1 ⟨x, H1, I1, rx, a, xs0, ex, d, q1⟩ => ?_)
  subst ex
  obtain rfl : u = Value.ref a := rx
  obtain ⟨t1, t2⟩ := dl_typ I1 d
  refine ⟨t1, t2, ?_⟩
  rw [m.trees]
  refine Calls.callWith_builtin rfl (Calls.evalArgs_plain (Calls.spliced_cons (thn (he.run pins s1 σ H1 _ I1 q1) fun iv s2 ⟨y, H2, I2, ry, q2⟩ =>
    Calls.spliced_cons (thn (hf.run pins s2 σ H2 _ I2 q2) fun fv s3 ⟨z, H3, I3, rz, xs, k, b, q, ez, ⟨d3, hks, ey, hk, hl⟩, w1, w2⟩ => Calls.spliced_nil ?_))))
  subst ey ez
  cases (show iv = Value.ref b from ry)
  cases (show fv = Value.ref q from rz)
  obtain ⟨_, hd, dd⟩ := dl_of I3 d3 hks
  have hz : (dlX xs).length ≤ sizeLine := by unfold dlX; rw [List.length_map]; exact Nat.le_trans (Nat.le_of_lt hl) (by decide)
  refine call_setdefault_heap (hsz := hz) (knd := tupleKind (leafKind X.prog X.w)) (tupleKind_room_in1 hu) (kt_of I3 hk) hd dd (fun p hp => ?_) fun hn h' dd' hs => ?_
  · rw [lnAt_key] at hp
    cases hv : lnAt xs k with
    | none => rw [hv] at hp; cases hp
    | some r =>
      rw [hv] at hp
      cases hp
      exact ⟨.ref r.2, H3, I3.tok _, rfl, w1 r hv⟩
  · rw [lnAt_key] at hn
    have hn' : lnAt xs k = none := by cases hv : lnAt xs k with
      | none => rfl
      | some r => rw [hv] at hn; cases hn
    have e2 : dlX (xs ++ [(k, b, q)]) = storedH (dlX xs) (lk k) b (.ref q) := by
      rw [putB_key]; unfold putB; rw [hn']; rfl
    rw [← e2] at dd'
    refine ⟨.ref q, _, d_write (t' := _) I3 (by rw [d3]; exact True.intro) hs (let ⟨q, _, _, hq, _⟩ := dd'; ⟨q, hq⟩) (dl_new (by rw [List.length_append]; simp; omega) hd dd'), rfl, w2 hn'⟩
theorem ps_putL (hu : X.A.units + 1 < cLine) (ho : PE X o td) (hi : PE X i tk) (hv : PE X value tv) (hs : swapsWith value (some (.Subscript o i pos')) pos.line X.env = pure false) : PS X (.Assign [.Subscript o i pos'] value pos) (sPutL X.K td tk tv) := by
  refine ⟨fun pins s σ H D I h => ?_⟩
  refine wpAny_Assign_Subscript (thn (hv.run pins s σ H _ I h) fun v s1 ⟨x, H1, I1, r1, q1⟩ => thn (ho.run pins s1 σ H1 _ I1 q1) fun u s2 ⟨y, H2, I2, r2, q2⟩ => thn (hi.run pins s2 σ H2 _ I2 q2) fun iv s3 ⟨z, H3, I3, r3, a, xs, k, b, q, ey, ex, ⟨d3, hks, ez, hk, hl⟩, q3⟩ => ?_) hs
  subst ey ez ex
  cases (show u = Value.ref a from r2)
  cases (show iv = Value.ref b from r3)
  cases (show v = Value.ref q from r1)
  obtain ⟨_, hd, dd⟩ := dl_of I3 d3 hks
  have hz : (dlX xs).length ≤ sizeLine := by unfold dlX; rw [List.length_map]; exact Nat.le_trans (Nat.le_of_lt hl) (by decide)
  refine wpAny_setItem_heap (hsz := hz) (knd := tupleKind (leafKind X.prog X.w)) (tupleKind_room_in1 hu) (kt_of I3 hk) dd fun h' dd' hs => ?_
  rw [putB_key] at dd'
  have := putB_len xs k b q
  exact ⟨σ, _, d_write I3 (by rw [d3]; exact True.intro) hs (let ⟨q, _, _, hq, _⟩ := dd'; ⟨q, hq⟩) (dl_new (by omega) hd dd'), q3⟩
end
end L2
namespace Bw
open PySem L2
/-- a line: key, the key's tuple, the list, what it holds -/
abbrev Ln := Kb × Addr × Addr × List Int
def lnD (x : Ln) : Kb × Addr × Addr := (x.1, x.2.1, x.2.2.1)
def lnC (x : Ln) : Addr × HO := (x.2.2.1, .lst (x.2.2.2.map V.int))
def lnM (x : Ln) : Kb × List Int := (x.1, x.2.2.2)
def lnsD (xs : List Ln) : List (Kb × Addr × Addr) := xs.map lnD
def lnsC (xs : List Ln) : Cs := xs.map lnC
def lnsM (xs : List Ln) : List (Kb × List Int) := xs.map lnM
def lnNo (xs : List Ln) (k : Kb) : List Ln := xs.filter fun x => decide (x.1 ≠ k)
structure LnOk (K : PySem.W.Frag) (F : Hp) (xs : List Ln) : Prop where
  nd : (xs.map (·.1)).Nodup
  ks : ∀ x ∈ xs, SqT K F x.2.1 (kbV x.1)
theorem LnOk.gr {K : PySem.W.Frag} {F F' : Hp} {xs : List Ln} (g : Gr F F') (h : LnOk K F xs) : LnOk K F' xs := ⟨h.nd, fun x hx => gr_T g (h.ks x hx)⟩
theorem LnOk.nil {K : PySem.W.Frag} {F : Hp} : LnOk K F [] := ⟨by simp, fun x hx => nomatch hx⟩
def getL (m : List (Kb × List Int)) (k : Kb) : List Int := ((m.find? fun x => decide (x.1 = k)).map (·.2)).getD []
def putL (m : List (Kb × List Int)) (k : Kb) (l : List Int) : List (Kb × List Int) := if (m.any fun x => decide (x.1 = k)) = true then m.map (fun x => if x.1 = k then (x.1, l) else x) else m ++ [(k, l)]
def addLM (m : List (Kb × List Int)) (k : Kb) (n : Int) : Option (List (Kb × List Int)) := if m.length < 1000 ∧ (getL m k).length < 100000 then some (putL m k (getL m k ++ [n])) else none
def getLM (m : List (Kb × List Int)) (k : Kb) : Option (List Int) := if m.length < 1000 then some (getL m k) else none
def putLM (m : List (Kb × List Int)) (k : Kb) (l : List Int) : Option (List (Kb × List Int)) := if m.length < 1000 then some (putL m k l) else none
/-- the key is there once, or not at all -/
theorem ln_split (k : Kb) : ∀ xs : List Ln, (xs.map (·.1)).Nodup → (∀ x ∈ xs, x.1 ≠ k) ∨ ∃ ys x zs, xs = ys ++ x :: zs ∧ x.1 = k ∧ (∀ y ∈ ys, y.1 ≠ k) ∧ ∀ z ∈ zs, z.1 ≠ k
  | [], _ => .inl fun x hx => nomatch hx
  | x :: xs, nd => by
    rw [List.map_cons, List.nodup_cons] at nd
    by_cases e : x.1 = k
    · refine .inr ⟨[], x, xs, rfl, e, (fun _ h => nomatch h), fun z hz c => nd.1 ?_⟩
      rw [e, ← c]; exact List.mem_map.mpr ⟨z, hz, rfl⟩
    · rcases ln_split k xs nd.2 with h | ⟨ys, y, zs, rfl, h1, h2, h3⟩
      · refine .inl fun y hy => ?_
        rcases List.mem_cons.mp hy with rfl | hy
        · exact e
        · exact h y hy
      · refine .inr ⟨x :: ys, y, zs, rfl, h1, fun z hz => ?_, h3⟩
        rcases List.mem_cons.mp hz with rfl | hz
        · exact e
        · exact h2 z hz
section
variable {k : Kb} {ys zs xs : List Ln} {x : Ln}
theorem find_no {α : Type} {p : α → Bool} {l : List α} (h : ∀ x ∈ l, p x = false) : l.find? p = none := List.find?_eq_none.mpr fun x hx => by rw [h x hx]; exact Bool.false_ne_true
theorem find_mid {α : Type} {p : α → Bool} {l m : List α} {x : α} (h : ∀ y ∈ l, p y = false) (hx : p x = true) : (l ++ x :: m).find? p = some x := by
  rw [List.find?_append, find_no h]; simp [List.find?_cons, hx]
theorem ln_no (h : ∀ x ∈ xs, x.1 ≠ k) : lnAt (lnsD xs) k = none ∧ getL (lnsM xs) k = [] ∧ ((lnsM xs).any fun x => decide (x.1 = k)) = false ∧ lnNo xs k = xs := by
  refine ⟨?_, ?_, ?_, ?_⟩
  · unfold lnAt lnsD; rw [find_no]; · rfl
    intro x hx; obtain ⟨y, hy, rfl⟩ := List.mem_map.mp hx; exact decide_eq_false (h y hy)
  · unfold getL lnsM; rw [find_no]; · rfl
    intro x hx; obtain ⟨y, hy, rfl⟩ := List.mem_map.mp hx; exact decide_eq_false (h y hy)
  · unfold lnsM; rw [List.any_eq_false]; intro x hx; obtain ⟨y, hy, rfl⟩ := List.mem_map.mp hx; rw [show decide ((lnM y).1 = k) = false from decide_eq_false (h y hy)]; exact Bool.false_ne_true
  · unfold lnNo; rw [List.filter_eq_self]; intro x hx; exact decide_eq_true (h x hx)
theorem ln_at (hx : x.1 = k) (hy : ∀ y ∈ ys, y.1 ≠ k) (hz : ∀ z ∈ zs, z.1 ≠ k) : lnAt (lnsD (ys ++ x :: zs)) k = some (x.2.1, x.2.2.1) ∧ getL (lnsM (ys ++ x :: zs)) k = x.2.2.2 ∧ ((lnsM (ys ++ x :: zs)).any fun x => decide (x.1 = k)) = true ∧ lnNo (ys ++ x :: zs) k = ys ++ zs := by
  refine ⟨?_, ?_, ?_, ?_⟩
  · unfold lnAt lnsD; rw [List.map_append, List.map_cons, find_mid]; · rfl
    · intro x hx; obtain ⟨y, h, rfl⟩ := List.mem_map.mp hx; exact decide_eq_false (hy y h)
    · exact decide_eq_true hx
  · unfold getL lnsM; rw [List.map_append, List.map_cons, find_mid]; · rfl
    · intro x hx; obtain ⟨y, h, rfl⟩ := List.mem_map.mp hx; exact decide_eq_false (hy y h)
    · exact decide_eq_true hx
  · unfold lnsM; rw [List.any_eq_true]; exact ⟨lnM x, List.mem_map.mpr ⟨x, mem_mid, rfl⟩, decide_eq_true hx⟩
  · unfold lnNo; rw [List.filter_append, List.filter_cons_of_neg (by simp [hx]), List.filter_eq_self.mpr (fun y h => decide_eq_true (hy y h)), List.filter_eq_self.mpr (fun y h => decide_eq_true (hz y h))]
theorem map_no {α β : Type} [DecidableEq β] (f : α → α) (g : α → β) {k : β} {l : List α} (h : ∀ x ∈ l, g x ≠ k) : l.map (fun x => if g x = k then f x else x) = l := by
  conv => rhs; rw [← List.map_id l]
  exact List.map_congr_left fun x hx => by rw [if_neg (h x hx)]; rfl
theorem ln_put {q : Addr} {b : Addr} {l : List Int} (hx : x.1 = k) (hy : ∀ y ∈ ys, y.1 ≠ k) (hz : ∀ z ∈ zs, z.1 ≠ k) : putB (lnsD (ys ++ x :: zs)) k b q = lnsD (ys ++ (k, x.2.1, q, l) :: zs) ∧ putL (lnsM (ys ++ x :: zs)) k l = lnsM (ys ++ (k, x.2.1, q, l) :: zs) := by
  obtain ⟨h1, _, h3, _⟩ := ln_at hx hy hz
  refine ⟨?_, ?_⟩
  · unfold putB; rw [h1, if_pos (by rfl)]
    unfold lnsD
    rw [List.map_append, List.map_cons, List.map_append, List.map_cons, List.map_append, List.map_cons]
    rw [map_no (fun x : Kb × Addr × Addr => (x.1, x.2.1, q)) (·.1) (k := k), map_no (fun x : Kb × Addr × Addr => (x.1, x.2.1, q)) (·.1) (k := k)]
    · rw [if_pos (show (lnD x).1 = k from hx)]; subst hx; rfl
    · intro z h; obtain ⟨y, h', rfl⟩ := List.mem_map.mp h; exact hz y h'
    · intro z h; obtain ⟨y, h', rfl⟩ := List.mem_map.mp h; exact hy y h'
  · unfold putL; rw [h3, if_pos rfl]
    unfold lnsM
    rw [List.map_append, List.map_cons, List.map_append, List.map_cons, List.map_append, List.map_cons]
    rw [map_no (fun x : Kb × List Int => (x.1, l)) (·.1) (k := k), map_no (fun x : Kb × List Int => (x.1, l)) (·.1) (k := k)]
    · rw [if_pos (show (lnM x).1 = k from hx)]; subst hx; rfl
    · intro z h; obtain ⟨y, h', rfl⟩ := List.mem_map.mp h; exact hz y h'
    · intro z h; obtain ⟨y, h', rfl⟩ := List.mem_map.mp h; exact hy y h'
theorem ln_new {q : Addr} {b : Addr} {l : List Int} (h : ∀ x ∈ xs, x.1 ≠ k) : putB (lnsD xs) k b q = lnsD (xs ++ [(k, b, q, l)]) ∧ putL (lnsM xs) k l = lnsM (xs ++ [(k, b, q, l)]) := by
  obtain ⟨h1, _, h3, _⟩ := ln_no h
  refine ⟨?_, ?_⟩
  · unfold putB; rw [h1, if_neg (by simp)]; unfold lnsD; rw [List.map_append]; rfl
  · unfold putL; rw [h3, if_neg (by simp)]; unfold lnsM; rw [List.map_append]; rfl
theorem lnOk_new {K : PySem.W.Frag} {F : Hp} {q b : Addr} {l : List Int} (h : LnOk K F xs) (hn : ∀ x ∈ xs, x.1 ≠ k) (hb : SqT K F b (kbV k)) : LnOk K F (xs ++ [(k, b, q, l)]) := by
  refine ⟨?_, fun x hx => ?_⟩
  · rw [List.map_append, List.nodup_append]
    refine ⟨h.nd, by simp, ?_⟩
    intro a ha c hc e
    obtain ⟨y, hy, rfl⟩ := List.mem_map.mp ha
    simp only [List.map_cons, List.map_nil, List.mem_singleton] at hc
    exact hn y hy (e.trans hc)
  · rcases List.mem_append.mp hx with hx | hx
    · exact h.ks x hx
    · rw [List.mem_singleton] at hx; subst hx; exact hb
theorem lnOk_put {K : PySem.W.Frag} {F : Hp} {q : Addr} {l : List Int} (h : LnOk K F (ys ++ x :: zs)) (hx : x.1 = k) : LnOk K F (ys ++ (k, x.2.1, q, l) :: zs) := by
  subst hx
  refine ⟨?_, fun z hz => ?_⟩
  · have := h.nd; rw [List.map_append, List.map_cons] at this ⊢; exact this
  · rcases List.mem_append.mp hz with hz | hz
    · exact h.ks z (List.mem_append_left _ hz)
    · rcases List.mem_cons.mp hz with rfl | hz
      · exact h.ks x mem_mid
      · exact h.ks z (List.mem_append_right _ (List.mem_cons_of_mem _ hz))
end
section
variable {K : PySem.W.Frag} {σ : St} {F : Hp} {cs : Cs} {td tk tv tx : TE} {nx bk ct : St → Hp → Prop} {rt : VK} {H : Hp} {l1 l2 : Cs} {pl : Addr} {xs : List Ln} {m m' : List (Kb × List Int)} {k : Kb} {n : Int}
theorem o_dnewL {Q : VK} (s : Sta F cs H) (q : ∀ p H2, Sta F ((p, dlO p (lnsD [])) :: cs) H2 → Q (.ref p) H2) : tDNewL σ H Q := fun p hp => q p _ (s.cell hp)
theorem kt_dt {F : Hp} {v : V} (h : Dt K F v (eT2 eI eB k)) : ∃ b, v = .ref b ∧ SqT K F b (kbV k) := by
  obtain ⟨a, vs, rfl, ht, hd⟩ := h.toTup
  obtain ⟨u, w, rfl, h1, h2⟩ := hd.two
  obtain rfl := h1.toInt
  obtain rfl := h2.toBl
  exact ⟨a, rfl, ht⟩
/-- self.f.setdefault(k, []).append(n) -/
theorem s_addL {hd : Addr × HO} (s : Sta F (l1 ++ (pl, dlO pl (lnsD xs)) :: (l2 ++ (lnsC xs ++ cs))) H) (ok : LnOk K F xs) (e : lnsM xs = m) (hp : VP td σ F (l1 ++ (pl, dlO pl (lnsD xs)) :: (l2 ++ (lnsC xs ++ cs))) (.ref pl))
    (hk : EvD K tk σ F (l1 ++ (pl, dlO pl (lnsD xs)) :: (l2 ++ (lnsC xs ++ cs))) (eT2 eI eB k) (l1 ++ (pl, dlO pl (lnsD xs)) :: (l2 ++ (lnsC xs ++ cs)))) (hm : hd ∈ l1 ++ l2) (hx : ∀ cc, hd ∈ cc → VP tx σ F cc (.int n)) (k1 : addLM m k n = some m')
    (q : ∀ xs' F2 H2, Gr F F2 → Sta F2 (l1 ++ (pl, dlO pl (lnsD xs')) :: (l2 ++ (lnsC xs' ++ cs))) H2 → LnOk K F2 xs' → lnsM xs' = m' → nx σ H2) :
    tDrop (tBM K "list" rAppend (tSetdL K td tk (tLst tNil)) (tCons tx tNil)) ⟨nx, rt, bk, ct⟩ σ H := by
  subst e
  unfold addLM at k1
  split at k1
  · rename_i hz
    obtain ⟨hz1, hz2⟩ := hz
    have k1 := Option.some.inj k1
    have hlen : (lnsD xs).length < 1000 := by have := hz1; unfold lnsM at this; rw [List.length_map] at this; unfold lnsD; rw [List.length_map]; exact this
    refine hp F H Gr.rfl s _ ⟨pl, lnsD xs, rfl, s.getAt, ?_⟩
    refine hk F H Gr.rfl s _ fun v F2 H2 g2 s2 hv => ?_
    obtain ⟨b, rfl, hb⟩ := kt_dt hv
    have ok2 := ok.gr g2
    show List.length [] ≤ sizeLine ∧ _
    refine ⟨Nat.zero_le _, fun p hp => ?_⟩
    have s3 := s2.cell (o := .lst []) hp
    have hbD : DlAt K (upd H2 p (.lst [])) pl (lnsD xs) (.ref b) k b := by
      refine ⟨s3.has _ (List.mem_cons_of_mem _ mem_mid), fun x hx => ?_, rfl, gr_T s3.fr hb, hlen⟩
      obtain ⟨y, hy, rfl⟩ := List.mem_map.mp hx
      exact gr_T s3.fr (ok2.ks y hy)
    refine ⟨lnsD xs, k, b, p, rfl, hbD, ?_, ?_⟩
    · rcases ln_split k xs ok.nd with hn | ⟨ys, x, zs, rfl, hx1, hy, hz⟩
      · intro r hr; rw [(ln_no hn).1] at hr; cases hr
      · obtain ⟨a1, a2, a3, a4⟩ := ln_at hx1 hy hz
        intro r hr
        rw [a1] at hr
        cases hr
        have s4 : Sta F2 ((l1 ++ (pl, dlO pl (lnsD (ys ++ x :: zs))) :: (l2 ++ (lnsC ys))) ++ (x.2.2.1, .lst (x.2.2.2.map V.int)) :: (lnsC zs ++ cs)) (upd H2 p (.lst [])) := by
          have := sb_drop _ _ s3
          simp only [lnsC, List.map_append, List.map_cons, List.append_assoc, List.cons_append] at this ⊢
          exact this
        refine ⟨.inl ⟨rfl, _, .inl (.inl s4.getAt)⟩, ?_⟩
        have hh : hd ∈ (l1 ++ (pl, dlO pl (lnsD (ys ++ x :: zs))) :: (l2 ++ (lnsC ys))) ++ (x.2.2.1, .lst (x.2.2.2.map V.int)) :: (lnsC zs ++ cs) := by
          rcases List.mem_append.mp hm with h | h <;> simp [h]
        refine hx _ hh F2 _ g2 s4 _ ?_
        refine ⟨_, _, _, rfl, rfl, s4.getAt, ?_, ?_⟩
        · rw [List.length_map]; rw [a2] at hz2; exact Nat.lt_of_lt_of_le hz2 (by decide)
        · refine q (ys ++ (k, x.2.1, x.2.2.1, x.2.2.2 ++ [n]) :: zs) F2 _ g2 ?_ (lnOk_put ok2 hx1) ?_
          · have := s4.putAt (o' := .lst (x.2.2.2.map V.int ++ [.int n]))
            have e2 : lnsD (ys ++ (k, x.2.1, x.2.2.1, x.2.2.2 ++ [n]) :: zs) = lnsD (ys ++ x :: zs) := by
              unfold lnsD; rw [List.map_append, List.map_append, List.map_cons, List.map_cons]; subst hx1; rfl
            rw [e2]
            simp only [lnsC, List.map_append, List.map_cons, List.append_assoc, List.cons_append, lnC, List.map_nil] at this ⊢
            exact this
          · rw [← k1, a2]; exact (ln_put hx1 hy hz (b := b)).2.symm
    · intro hn
      rcases ln_split k xs ok.nd with hno | ⟨ys, x, zs, rfl, hx1, hy, hz⟩
      · obtain ⟨a1, a2, a3, a4⟩ := ln_no hno
        have s4 := (s3.putAt (l1 := (p, .lst []) :: l1) (o' := dlO pl (lnsD xs ++ [(k, b, p)])))
        refine ⟨.inl ⟨rfl, _, .inl (.inl (s4.has _ List.mem_cons_self))⟩, ?_⟩
        have hh : hd ∈ ((p, HO.lst []) :: l1) ++ (pl, dlO pl (lnsD xs ++ [(k, b, p)])) :: (l2 ++ (lnsC xs ++ cs)) := by
          rcases List.mem_append.mp hm with h | h <;> simp [h]
        refine hx _ hh F2 _ g2 s4 _ ?_
        refine ⟨_, _, _, rfl, rfl, s4.has _ List.mem_cons_self, by decide, ?_⟩
        refine q (xs ++ [(k, b, p, [n])]) F2 _ g2 ?_ (lnOk_new ok2 hno hb) ?_
        · have s5 := Sta.put (o' := .lst [.int n]) (show Sta F2 ((p, .lst []) :: (l1 ++ (pl, dlO pl (lnsD xs ++ [(k, b, p)])) :: (l2 ++ (lnsC xs ++ cs)))) _ from s4)
          have e2 : lnsD (xs ++ [(k, b, p, [n])]) = lnsD xs ++ [(k, b, p)] := by unfold lnsD; rw [List.map_append]; rfl
          have e3 : lnsC (xs ++ [(k, b, p, [n])]) = lnsC xs ++ [(p, .lst [.int n])] := by unfold lnsC; rw [List.map_append]; rfl
          rw [e2, e3]
          refine s5.perm ?_
          have e4 : l1 ++ (pl, dlO pl (lnsD xs ++ [(k, b, p)])) :: (l2 ++ (lnsC xs ++ [(p, .lst [.int n])] ++ cs)) = (l1 ++ (pl, dlO pl (lnsD xs ++ [(k, b, p)])) :: (l2 ++ lnsC xs)) ++ (p, .lst [.int n]) :: cs := by simp
          rw [e4]
          refine List.Perm.trans ?_ List.perm_middle.symm
          refine List.Perm.cons _ ?_
          simp
        · rw [← k1, a2]; exact (ln_new hno (b := b) (q := p)).2.symm
      · rw [(ln_at hx1 hy hz).1] at hn; cases hn
  · cases k1
/-- x = self.f.get(k, []): the list is read, its place is open -/
theorem s_getL {i : Nat} (s : Sta F (l1 ++ (pl, dlO pl (lnsD xs)) :: (l2 ++ (lnsC xs ++ cs))) H) (ok : LnOk K F xs) (e : lnsM xs = m) (hp : VP td σ F (l1 ++ (pl, dlO pl (lnsD xs)) :: (l2 ++ (lnsC xs ++ cs))) (.ref pl))
    (hk : EvD K tk σ F (l1 ++ (pl, dlO pl (lnsD xs)) :: (l2 ++ (lnsC xs ++ cs))) (eT2 eI eB k) (l1 ++ (pl, dlO pl (lnsD xs)) :: (l2 ++ (lnsC xs ++ cs)))) (k1 : getLM m k = some l)
    (q : ∀ p F2 H2, Gr F F2 → Sta F2 (l1 ++ (pl, dlO pl (lnsD xs)) :: (l2 ++ (lnsC (lnNo xs k) ++ cs))) H2 → Dt K F2 (.ref p) (eL eI l) → nx (σ.set i (some (.ref p))) H2) :
    tAsg (tGetL K td tk (tLst tNil)) (gName i) ⟨nx, rt, bk, ct⟩ σ H := by
  subst e
  unfold getLM at k1
  split at k1
  · rename_i hz1
    obtain rfl := Option.some.inj k1
    have hlen : (lnsD xs).length < 1000 := by have := hz1; unfold lnsM at this; rw [List.length_map] at this; unfold lnsD; rw [List.length_map]; exact this
    refine hp F H Gr.rfl s _ ⟨pl, lnsD xs, rfl, s.getAt, ?_⟩
    refine hk F H Gr.rfl s _ fun v F2 H2 g2 s2 hv => ?_
    obtain ⟨b, rfl, hb⟩ := kt_dt hv
    have ok2 := ok.gr g2
    show List.length [] ≤ sizeLine ∧ _
    refine ⟨Nat.zero_le _, fun p hp => ?_⟩
    have s3 := s2.cell (o := .lst []) hp
    have hbD : DlAt K (upd H2 p (.lst [])) pl (lnsD xs) (.ref b) k b := by
      refine ⟨s3.has _ (List.mem_cons_of_mem _ mem_mid), fun x hx => ?_, rfl, gr_T s3.fr hb, hlen⟩
      obtain ⟨y, hy, rfl⟩ := List.mem_map.mp hx
      exact gr_T s3.fr (ok2.ks y hy)
    refine ⟨lnsD xs, k, b, p, rfl, hbD, ?_⟩
    rcases ln_split k xs ok.nd with hno | ⟨ys, x, zs, rfl, hx1, hy, hz⟩
    · obtain ⟨a1, a2, a3, a4⟩ := ln_no hno
      rw [a1]
      refine q p _ _ (g2.tr s3.gfr) (by rw [a4]; exact s3.froze) ?_
      rw [a2]
      exact .lst (.inl (.inl upd_same)) .nil
    · obtain ⟨a1, a2, a3, a4⟩ := ln_at hx1 hy hz
      rw [a1]
      have s4 : Sta F2 ((l1 ++ (pl, dlO pl (lnsD (ys ++ x :: zs))) :: (l2 ++ (lnsC ys))) ++ (x.2.2.1, .lst (x.2.2.2.map V.int)) :: (lnsC zs ++ cs)) (upd H2 p (.lst [])) := by
        have := sb_drop _ _ s3
        simp only [lnsC, List.map_append, List.map_cons, List.append_assoc, List.cons_append] at this ⊢
        exact this
      refine q x.2.2.1 _ _ (g2.tr (Gr.new (o := .lst (x.2.2.2.map V.int)) s4.freeAt)) ?_ ?_
      · have := s4.frozeAt
        rw [a4]
        simp only [lnsC, List.map_append, List.append_assoc, List.cons_append] at this ⊢
        exact this
      · rw [a2]
        exact .lst (.inl (.inl upd_same)) (Dts.of_ints _)
  · cases k1
/-- self.f[k] = a new list: the open place is filled -/
theorem s_putL {l : List Int} (s : Sta F (l1 ++ (pl, dlO pl (lnsD xs)) :: (l2 ++ (lnsC (lnNo xs k) ++ cs))) H) (ok : LnOk K F xs) (e : lnsM xs = m)
    (hv : EvC K tv σ F (l1 ++ (pl, dlO pl (lnsD xs)) :: (l2 ++ (lnsC (lnNo xs k) ++ cs))) (l.map eI) (l1 ++ (pl, dlO pl (lnsD xs)) :: (l2 ++ (lnsC (lnNo xs k) ++ cs))))
    (hp : ∀ c, VP td σ F (c :: (l1 ++ (pl, dlO pl (lnsD xs)) :: (l2 ++ (lnsC (lnNo xs k) ++ cs)))) (.ref pl))
    (hk : ∀ p us, EvD K tk σ F ((p, .lst us) :: (l1 ++ (pl, dlO pl (lnsD xs)) :: (l2 ++ (lnsC (lnNo xs k) ++ cs)))) (eT2 eI eB k) ((p, .lst us) :: (l1 ++ (pl, dlO pl (lnsD xs)) :: (l2 ++ (lnsC (lnNo xs k) ++ cs))))) (k1 : putLM m k l = some m')
    (q : ∀ xs' F2 H2, Gr F F2 → Sta F2 (l1 ++ (pl, dlO pl (lnsD xs')) :: (l2 ++ (lnsC xs' ++ cs))) H2 → LnOk K F2 xs' → lnsM xs' = m' → nx σ H2) :
    sPutL K td tk tv ⟨nx, rt, bk, ct⟩ σ H := by
  subst e
  unfold putLM at k1
  split at k1
  · rename_i hz1
    have k1 := Option.some.inj k1
    have hlen : (lnsD xs).length < 1000 := by have := hz1; unfold lnsM at this; rw [List.length_map] at this; unfold lnsD; rw [List.length_map]; exact this
    refine hv F H Gr.rfl s _ fun p us F2 H2 g2 s2 hu => ?_
    obtain rfl := Dts.ints hu
    refine hp _ F2 H2 g2 s2 _ ?_
    refine hk p _ F2 H2 g2 s2 _ fun v F3 H3 g3 s3 hv3 => ?_
    obtain ⟨b, rfl, hb⟩ := kt_dt hv3
    have ok3 := ok.gr (g2.tr g3)
    refine ⟨pl, lnsD xs, k, b, p, rfl, rfl, ⟨s3.has _ (List.mem_cons_of_mem _ mem_mid), fun x hx => ?_, rfl, gr_T s3.fr hb, hlen⟩, ?_⟩
    · obtain ⟨y, hy, rfl⟩ := List.mem_map.mp hx
      exact gr_T s3.fr (ok3.ks y hy)
    rcases ln_split k xs ok.nd with hno | ⟨ys, x, zs, rfl, hx1, hy, hz⟩
    · obtain ⟨a1, a2, a3, a4⟩ := ln_no hno
      rw [a4] at s3
      obtain ⟨p1, p2⟩ := ln_new hno (b := b) (q := p) (l := l)
      rw [p1]
      refine q (xs ++ [(k, b, p, l)]) F3 _ (g2.tr g3) ?_ (lnOk_new ok3 hno hb) (p2.symm.trans k1)
      have s4 := (s3.putAt (l1 := (p, .lst (l.map V.int)) :: l1) (o' := dlO pl (lnsD (xs ++ [(k, b, p, l)]))))
      have e3 : lnsC (xs ++ [(k, b, p, l)]) = lnsC xs ++ [(p, .lst (l.map V.int))] := by unfold lnsC; rw [List.map_append]; rfl
      rw [e3]
      refine s4.perm ?_
      have e4 : l1 ++ (pl, dlO pl (lnsD (xs ++ [(k, b, p, l)]))) :: (l2 ++ (lnsC xs ++ [(p, .lst (l.map V.int))] ++ cs)) = (l1 ++ (pl, dlO pl (lnsD (xs ++ [(k, b, p, l)]))) :: (l2 ++ lnsC xs)) ++ (p, .lst (l.map V.int)) :: cs := by simp
      rw [e4]
      refine List.Perm.trans ?_ List.perm_middle.symm
      refine List.Perm.cons _ ?_
      simp
    · obtain ⟨a1, a2, a3, a4⟩ := ln_at hx1 hy hz
      rw [a4] at s3
      obtain ⟨p1, p2⟩ := ln_put hx1 hy hz (b := b) (q := p) (l := l)
      rw [p1]
      refine q (ys ++ (k, x.2.1, p, l) :: zs) F3 _ (g2.tr g3) ?_ (lnOk_put ok3 hx1) (p2.symm.trans k1)
      have s4 := (s3.putAt (l1 := (p, .lst (l.map V.int)) :: l1) (o' := dlO pl (lnsD (ys ++ (k, x.2.1, p, l) :: zs))))
      refine s4.perm ?_
      have e3 : lnsC (ys ++ (k, x.2.1, p, l) :: zs) = lnsC ys ++ (p, .lst (l.map V.int)) :: lnsC zs := by unfold lnsC; rw [List.map_append]; rfl
      have e5 : lnsC (ys ++ zs) = lnsC ys ++ lnsC zs := by unfold lnsC; rw [List.map_append]
      rw [e3, e5]
      have e4 : l1 ++ (pl, dlO pl (lnsD (ys ++ (k, x.2.1, p, l) :: zs))) :: (l2 ++ (lnsC ys ++ (p, .lst (l.map V.int)) :: lnsC zs ++ cs)) = (l1 ++ (pl, dlO pl (lnsD (ys ++ (k, x.2.1, p, l) :: zs))) :: (l2 ++ lnsC ys)) ++ (p, .lst (l.map V.int)) :: (lnsC zs ++ cs) := by simp
      rw [e4]
      refine List.Perm.trans ?_ List.perm_middle.symm
      refine List.Perm.cons _ ?_
      simp
  · cases k1
/-- the lists go behind other cells, and back -/
theorem sta_seg {sg : Cs} (s : Sta F (l1 ++ (sg ++ (l2 ++ cs))) H) : Sta F (l1 ++ (l2 ++ (sg ++ cs))) H := by
  refine s.perm (List.Perm.append_left l1 ?_)
  rw [← List.append_assoc, ← List.append_assoc]
  exact List.Perm.append_right cs List.perm_append_comm
end
end Bw

namespace PySem
section
variable {prog : Program} {w : World} {A : Around} {R : Result → Shared → Prop} {I : Addr} {fp wr : List Addr} {n : Nat} {P : Nat → Value → Prop} {St : Nat → Heap → Prop}
/-- the loop of max, whatever its keywords say -/
theorem mx_loop (kw : List (Str × Value)) (W : Walks prog w A.in1 I fp wr n P St) (bt : Nat → Nat → Bool) (cm : CmpOf prog w A.in1 .Gt P bt) (S : Addr) (nf : S ∉ fp) :
    ∀ (k j : Nat) (s : Shared) (z : Value) (c : Nat), n - (j + 1) = k → j + 1 ≤ n → St (j + 1) s.heap → P (argBest bt j) z → s.heap.get? S = some { cls := .type "list", dict := none, data := .seq #[z, z] c, slots := #[] } →
    (∀ v h' tk, P (argBest bt (n - 1)) v → (∀ b o, b ∉ wr → b ≠ S → s.heap.get? b = some o → h'.get? b = some o) → R (.ok (.ret v)) { s with heap := h', toks := tk }) → codeAny (model prog w) A (.builtin "max.loop" ⟨[.ref I, .none, .ref S], kw⟩) R s := by
  have nw : S ∉ wr := fun h => nf (W.sub _ h)
  have en : (toString "max" ++ toString ".loop" : String) = "max.loop" := by decide
  intro k; induction k with
  | zero =>
    intro j s z c ek lj st pb eS fin
    have ej : j + 1 = n := by omega
    refine codeAny_builtin F.entry_max_loop ?_; rw [Around.under_plainId F.plain_max_loop _]
    show wpAny _ A.in1 (seqItems? (.ref S) >>= _) _ _ s; refine wpAny_bind (wpAny_seqItems eS rfl ?_)
    show wpAny _ A.in1 (tryCatch (pyNext (.ref I)) _ >>= _) _ _ s; refine wpAny_bind (wpAny_tryCatch (W.done s _ _ (ej ▸ st) fun h' tk kp => ?_))
    have eS' := kp S _ nw eS
    show wpAny _ A.in1 (updateSeq S (fun _ => #[]) >>= _) _ _ _; refine wpAny_bind ?_
    refine wpAny_updateSeq eS' rfl (wpAny_bind (wpAny_letGo (wpAny_pure ?_))); refine fin z _ tk (by rw [← ej]; exact pb) fun b o n1 n2 e => (Heap.get?_update_other _ _ (Ne.symm n2)).trans (kp b o n1 e)
  | succ k ih =>
    intro j s z c ek lj st pb eS fin
    have lt : j + 1 < n := by omega
    refine codeAny_builtin F.entry_max_loop ?_; rw [Around.under_plainId F.plain_max_loop _]
    show wpAny _ A.in1 (seqItems? (.ref S) >>= _) _ _ s; refine wpAny_bind (wpAny_seqItems eS rfl ?_)
    show wpAny _ A.in1 (tryCatch (pyNext (.ref I)) _ >>= _) _ _ s; refine wpAny_bind (wpAny_tryCatch (W.item (j + 1) s _ _ lt st fun v h' tk hv st' kp => ?_))
    have eS' := kp S _ nw eS
    show wpAny _ A.in1 (tryCatch (holding [v, v] (richCompare .Gt v z >>= _)) _ >>= _) _ _ _; refine wpAny_bind (wpAny_tryCatch (wpAny_holding (wpAny_bind (cm (j + 1) (argBest bt j) v z _ _ _ hv pb ?_))))
    refine wpAny_bind (wpAny_holding (wpAny_truthy_bool ?_)); refine wpAny_bind (wpAny_letGo (wpAny_pure ?_))
    cases hb : bt (j + 1) (argBest bt j) with
    | true =>
      simp only [if_true]; refine wpAny_bind ?_; refine wpAny_updateSeq eS' rfl (wpAny_bind (wpAny_letGo ?_)); rw [en]
      refine wpAny_pure ⟨plainId_quiet F.plain_max_loop _, ih (j + 1) _ v _ (by omega) lt (W.frame _ _ _ st' fun b n1 o e => ?_) (by simp only [argBest, hb, if_true]; exact hv) (Heap.get?_update_self _ eS' rfl) fun v' h'' tk'' hv' kp' => ?_⟩
      · exact (Heap.get?_update_other _ _ (fun h : S = b => nf (by rw [h]; exact n1))).trans e
      · exact fin v' h'' tk'' hv' fun b o n1 n2 e => kp' b o n1 n2 ((Heap.get?_update_other _ _ (Ne.symm n2)).trans (kp b o n1 e))
    | false =>
      simp only [Bool.false_eq_true, if_false]; refine wpAny_bind (wpAny_letGo ?_); rw [en]
      refine wpAny_pure ⟨plainId_quiet F.plain_max_loop _, ih (j + 1) _ z c (by omega) lt st' (by simp only [argBest, hb, Bool.false_eq_true, if_false]; exact pb) eS' fun v' h'' tk'' hv' kp' => ?_⟩
      exact fin v' h'' tk'' hv' fun b o n1 n2 e => kp' b o n1 n2 (kp b o n1 e)
theorem mx_first (kw : List (Str × Value)) (W : Walks prog w A.in1 I fp wr n P St) (bt : Nat → Nat → Bool) (cm : CmpOf prog w A.in1 .Gt P bt) (S : Addr) (nf : S ∉ fp) (pn : 0 < n) {s : Shared} {c : Nat} (st : St 0 s.heap)
    (eS : s.heap.get? S = some { cls := .type "list", dict := none, data := .seq #[] c, slots := #[] })
    (fin : ∀ v h' tk, P (argBest bt (n - 1)) v → (∀ b o, b ∉ wr → b ≠ S → s.heap.get? b = some o → h'.get? b = some o) → R (.ok (.ret v)) { s with heap := h', toks := tk }) : codeAny (model prog w) A (.builtin "max.loop" ⟨[.ref I, .none, .ref S], kw⟩) R s := by
  have nw : S ∉ wr := fun h => nf (W.sub _ h)
  have en : (toString "max" ++ toString ".loop" : String) = "max.loop" := by decide
  refine codeAny_builtin F.entry_max_loop ?_; rw [Around.under_plainId F.plain_max_loop _]
  show wpAny _ A.in1 (seqItems? (.ref S) >>= _) _ _ s; refine wpAny_bind (wpAny_seqItems eS rfl ?_)
  show wpAny _ A.in1 (tryCatch (pyNext (.ref I)) _ >>= _) _ _ s; refine wpAny_bind (wpAny_tryCatch (W.item 0 s _ _ pn st fun v h' tk hv st' kp => ?_))
  have eS' := kp S _ nw eS
  show wpAny _ A.in1 (updateSeq S (fun _ => #[v, v]) >>= _) _ _ _; refine wpAny_bind ?_
  refine wpAny_updateSeq eS' rfl ?_; rw [en]
  refine wpAny_pure ⟨plainId_quiet F.plain_max_loop _, mx_loop kw W bt cm S nf _ 0 _ v _ rfl pn (W.frame _ _ _ st' fun b n1 o e => ?_) hv (Heap.get?_update_self _ eS' rfl) fun v' h'' tk'' hv' kp' => ?_⟩
  · exact (Heap.get?_update_other _ _ (fun h : S = b => nf (by rw [h]; exact n1))).trans e
  · exact fin v' h'' tk'' hv' fun b o n1 n2 e => kp' b o n1 n2 ((Heap.get?_update_other _ _ (Ne.symm n2)).trans (kp b o n1 e))
/-- nothing to walk: the default -/
theorem mx_none (nm : Str) (d : Value) (W : Walks prog w A.in1 I fp wr n P St) (S : Addr) (nf : S ∉ fp) (pn : n = 0) {s : Shared} {c : Nat} (st : St 0 s.heap)
    (eS : s.heap.get? S = some { cls := .type "list", dict := none, data := .seq #[] c, slots := #[] })
    (fin : ∀ h' tk, (∀ b o, b ∉ wr → s.heap.get? b = some o → h'.get? b = some o) → R (.ok (.ret d)) { s with heap := h', toks := tk }) : codeAny (model prog w) A (.builtin "max.loop" ⟨[.ref I, .none, .ref S], [(nm, d)]⟩) R s := by
  refine codeAny_builtin F.entry_max_loop ?_; rw [Around.under_plainId F.plain_max_loop _]
  show wpAny _ A.in1 (seqItems? (.ref S) >>= _) _ _ s; refine wpAny_bind (wpAny_seqItems eS rfl ?_)
  show wpAny _ A.in1 (tryCatch (pyNext (.ref I)) _ >>= _) _ _ s; refine wpAny_bind (wpAny_tryCatch (W.done s _ _ (pn ▸ st) fun h' tk kp => ?_))
  show wpAny _ A.in1 (rule _ >>= _) _ _ _
  exact wpAny_bind (wpAny_rule (wpAny_pure (fin h' tk kp)))
end
section
variable {prog : Program} {w : World} {A : Around} {E : Value → Shared → Prop} {s : Shared} {l : Addr}
theorem args_maxd (x d : Value) : argsOk "max" ⟨[x], [(Str.ofString "default", d)]⟩ := by unfold argsOk; kernel_rfl
theorem fun_kw {id : String} {b : Builtin} {args : List Value} {kw : List (Str × Value)} {Q : Value → Shared → Prop} (hk : builtinKind id = none) (hp : plainId id = true) (hb : entryFor table id = some b) (ha : argsOk id ⟨args, kw⟩)
    (hc : wpAny (model prog w) A.in1 (b ⟨args, kw⟩) (fun fin s' => match fin with
      | .done f => (match (Except.ok f : Result) with | .ok (.ret v) => Q v s' | .ok _ => False | .error e => E e s')
      | .again c' => c'.quiet = true ∧ codeAny (model prog w) A c' (fun r s' => match r with | .ok (.ret v) => Q v s' | .ok _ => False | .error e => E e s') s') E s) : wpAny (model prog w) A (call (.builtin id) args kw) Q E s := by
  refine wpAny_call (codeAny_call_builtin hp hb ?_); simp only [checkBuiltinCall, hk]
  cases hg : Manifest.signature? id with
  | none => exact wpAny_pure hc
  | some sig =>
    have ha' : Bind.checkArgs id sig ⟨args, kw⟩ = pure () := by simpa only [argsOk, hg] using ha
    simp only [ha']; exact wpAny_pure hc
theorem call_maxd {x d : Value} {Q : Value → Shared → Prop}
    (h : wpAny (model prog w) A.in1 (pyIter x) (fun it s₂ => ∃ I fp wr n P St bt, it = .ref I ∧ Walks prog w A.in1 I fp wr n P St ∧ St 0 s₂.heap ∧ (∀ b ∈ fp, b < s₂.heap.objs.size) ∧ CmpOf prog w A.in1 .Gt P bt ∧
      (0 < n → ∀ v h' tk, P (argBest bt (n - 1)) v → (∀ b o, b ∉ wr → s₂.heap.get? b = some o → h'.get? b = some o) → Q v { s₂ with heap := h', toks := tk }) ∧
      (n = 0 → ∀ h' tk, (∀ b o, b ∉ wr → s₂.heap.get? b = some o → h'.get? b = some o) → Q d { s₂ with heap := h', toks := tk })) E s) :
    wpAny (model prog w) A (call (.builtin "max") [x] [(Str.ofString "default", d)]) Q E s := by
  have en : (toString "max" ++ toString ".loop" : String) = "max.loop" := by decide
  refine fun_kw F.kind_max F.plain_max F.entry_max (args_maxd _ _) ?_
  show wpAny _ A.in1 (Builtin.Builtins.bindParams "max" ["key", "default"] 0 ⟨[], [(Str.ofString "default", d)]⟩ >>= _) _ _ s
  refine wpAny_bind (wpAny_of_eq (show Builtin.Builtins.bindParams "max" ["key", "default"] 0 ⟨[], [(Str.ofString "default", d)]⟩ = pure [none, some d] from rfl) ?_)
  refine wpAny_bind (wpAny_pure ?_); refine wpAny_bind (wpAny_mono h (fun it s₂ h₂ => ?_) fun _ _ e => e)
  obtain ⟨I, fp, wr, n, P, St, bt, rfl, W, st, hfp, cm, q1, q2⟩ := h₂
  refine wpAny_bind (wpAny_newObj_type ?_)
  have nf : s₂.heap.objs.size ∉ fp := fun hm => Nat.lt_irrefl _ (hfp _ hm)
  rw [en]
  rcases Nat.eq_zero_or_pos n with pn | pn
  · refine wpAny_pure ⟨plainId_quiet F.plain_max_loop _, mx_none _ d W s₂.heap.objs.size nf pn (W.frame _ _ _ st fun b _ o e => Heap.get?_push_of_some _ e) (Heap.get?_push_size _ rfl) fun h' tk hk => ?_⟩
    exact q2 pn h' tk fun b o n1 e => hk b o n1 (Heap.get?_push_of_some _ e)
  · refine wpAny_pure ⟨plainId_quiet F.plain_max_loop _, mx_first _ W bt cm s₂.heap.objs.size nf pn (W.frame _ _ _ st fun b _ o e => Heap.get?_push_of_some _ e) (Heap.get?_push_size _ rfl) fun v h' tk hP hk => ?_⟩
    exact q1 pn v h' tk hP fun b o n1 e => hk b o n1 (Nat.ne_of_lt (Heap.lt_size e)) (Heap.get?_push_of_some _ e)
end
end PySem

namespace L2
open PySem PySem.Spec PyProof.Rows
/-- max(l, default = d), ints -/
def rMaxD (K : PySem.W.Frag) : List V → List V → Hp → VK → Prop := fun vs zs H Q => ∃ (a : Addr) (ns : List Int) (d : V), vs = [.ref a] ∧ zs = [d] ∧ SqL K H a (ns.map V.int) ∧ (ns = [] → Q d H) ∧ (ns ≠ [] → ∀ m ∈ ns, (∀ b, b ∈ ns → b ≤ m) → Q (.int m) H)
theorem ck_maxd {X : Cx} (hc : X.calm = true) : CallRK X (.builtin "max") ["default"] (rMaxD X.K) := by
  intro pins s σ H vs zs us ws Q I r1 r2 h
  obtain ⟨a, ns, d, rfl, rfl, hs, q1, q2⟩ := h
  obtain ⟨its, rv, hl, _⟩ := I.list hs
  rw [Vals.ref1 r1]
  obtain ⟨u, rfl, ru⟩ := r2.one
  obtain ⟨xs, e⟩ := rv.ints.allInts.items
  have hn : numsOf (intItems xs).toList = ns := by rw [← e]; exact rv.ints.numsOf
  rw [nums_intItems] at hn
  have hl2 := hl.isList
  rw [e] at hl2
  refine call_maxd (iter_intList hl2 fun s₂ e2 st hfp hlI => ?_)
  subst e2
  refine ⟨_, _, _, _, _, _, _, rfl, Walks.list (A := X.A.in1) (I.ok.hd hc) _ a hlI (intItems xs), st, hfp, CmpOf.ints_gt (numAt xs) (fun _ _ => intItems_at), ?_, ?_⟩
  · intro pn v h' tk hP hk
    have hk2 := old_kept hk
    have hsz : 0 < xs.size := by simpa [intItems] using pn
    have hP2 : (intItems xs)[argBest (fun i j => decide (numAt xs i > numAt xs j)) (xs.size - 1)]? = some v := by simpa [intItems] using hP
    obtain ⟨t, rfl⟩ := intItems_at hP2
    obtain ⟨h1, h2⟩ := argBest_gt (numAt xs) (xs.size - 1)
    refine ⟨.int _, H, I.kept hk2, ⟨_, rfl⟩, q2 ?_ _ ?_ ?_⟩
    · rw [← hn]; intro z; have e9 := congrArg List.length z; rw [List.length_map, Array.length_toList, List.length_nil] at e9; exact Nat.lt_irrefl _ (e9 ▸ hsz)
    · rw [← hn, numAt_eq]; exact PySem.getD_mem (by rw [List.length_map, Array.length_toList]; omega)
    · intro b hb
      rw [← hn] at hb
      obtain ⟨j, hj, rfl⟩ := mem_getD hb
      rw [List.length_map, Array.length_toList] at hj
      rw [← numAt_eq]; exact h2 j (by omega)
  · intro pn h' tk hk
    have hk2 := old_kept hk
    have hsz : xs.size = 0 := by simpa [intItems] using pn
    refine ⟨d, H, I.kept hk2, ru, q1 ?_⟩
    rw [← hn]; simp at hsz; simp [hsz]
end L2
namespace Bw
open PySem L2
theorem staE {F H : Hp} {c c' : Cs} (e : c = c') (s : Sta F c H) : Sta F c' H := e ▸ s
theorem sb_dropM {t l cs : Cs} : Sb (t ++ (l ++ cs)) (t ++ cs) := fun F H s => by
  have sub : (t ++ cs).Sublist (t ++ (l ++ cs)) := List.Sublist.append_left (List.sublist_append_right l cs) t
  exact ⟨s.fr, fun p hp => s.sep p (sub.subset hp), fun p hp => s.has p (sub.subset hp), (sub.map (·.1)).nodup s.nd⟩
def maxD (xs : List Int) (d : Int) : Option Int := match xs with
  | [] => some d
  | _ => maxL xs
section
variable {K : PySem.W.Frag} {σ : St} {F : Hp} {cs cs1 cs2 : Cs} {as tk : TA}
theorem d_maxD {xs : List Int} {d m : Int} (h : EvDs K as σ F cs [eL eI xs] cs1) (h2 : EvDs K tk σ F cs1 [.int d] cs2) (hm : maxD xs d = some m) : EvD K (tCKw (rMaxD K) as tk) σ F cs (.int m) cs2 := fun F1 H1 g1 s Q q =>
  h F1 H1 g1 s _ fun vs F2 H2 g2 s2 hv => h2 F2 H2 (g1.tr g2) s2 _ fun zs F3 H3 g3 s3 hz => by
    obtain ⟨v, rfl, k⟩ := hv.one
    obtain ⟨p, ys, rfl, hl, hd⟩ := k.toLst
    obtain rfl := Dts.ints hd
    obtain ⟨z, rfl, kz⟩ := hz.one
    obtain rfl := kz.toInt
    refine ⟨p, xs, _, rfl, rfl, gr_L s3.fr (gr_L g3 hl), fun e => ?_, fun e b hb1 hb2 => ?_⟩
    · subst e
      cases hm
      exact q _ F3 H3 (g2.tr g3) s3 (.int _)
    · have e1 : maxL xs = some m := by
        cases xs with
        | nil => exact absurd rfl e
        | cons x xs => exact hm
      have n12 : m ∈ xs ∧ ∀ b ∈ xs, b ≤ m := by
        cases xs with
        | nil => exact absurd rfl e
        | cons x xs =>
          obtain rfl := sm e1
          obtain ⟨a1, a2, a3⟩ := foldl_max xs x
          refine ⟨?_, fun b hb => ?_⟩
          · rcases a1 with h | h
            · rw [h]; exact List.mem_cons_self
            · exact List.mem_cons_of_mem _ h
          · rcases List.mem_cons.mp hb with rfl | hb
            · exact a2
            · exact a3 b hb
      obtain ⟨n1, n2⟩ := n12
      have : b = m := Int.le_antisymm (n2 b hb1) (hb2 m n1)
      subst this
      exact q _ F3 H3 (g2.tr g3) s3 (.int _)
end
end Bw

namespace L2
open PySem PySem.Spec PyProof.Rows
/-- a op1 b op2 c op3 d -/
def tChain3 (r r' r'' : R2) (ta tb tc td : TE) : TE := fun σ H Q => ta σ H fun x H1 => tb σ H1 fun y H2 => r x y H2 fun z H3 => ∃ k, z = .bl k ∧
  (if k = true then tc σ H3 fun w' H4 => r' y w' H4 fun z' H5 => ∃ k', z' = .bl k' ∧ (if k' = true then td σ H5 fun v H6 => r'' w' v H6 Q else Q (.bl false) H5) else Q (.bl false) H3)
section
variable {X : Cx} {a b c d : Expr} {ta tb tc td : TE} {pos : Pos}
theorem pe_chain3 {op op' op'' : CmpOp} {r r' r'' : R2} (ho : OpR X (compareOp op) r) (ho' : OpR X (compareOp op') r') (h3 : OpR X (compareOp op'') r'') (ha : PE X a ta) (hb : PE X b tb) (hc : PE X c tc) (hd : PE X d td)
    (hm : lastMarks [op, op', op''] [b, c, d] = false := by with_unfolding_all rfl) : PE X (.Compare a [op, op', op''] [b, c, d] pos) (tChain3 r r' r'' ta tb tc td) := by
  refine ⟨fun pins s σ H Q I h => ?_⟩
  refine Compare_chain (thn (ha.run pins s σ H _ I h) fun v s1 ⟨x, H1, I1, r1, q1⟩ => chain_link (thn (hb.run pins s1 σ H1 _ I1 q1) fun u s2 ⟨y, H2, I2, r2, q2⟩ => thn (ho pins s2 σ H2 x y v u _ I2 r1 r2 q2) fun e s3 ⟨z, H3, I3, r3, k, ek, q3⟩ => ?_)) hm
  subst ek; cases r3; refine wpAny_truthy_bool ?_
  cases k with
  | false => exact ite_ff ⟨.bl false, H3, I3, rfl, q3⟩
  | true =>
    refine ite_tt (chain_link (thn (hc.run pins s3 σ H3 _ I3 q3) fun w' s4 ⟨z', H4, I4, r4, q4⟩ => thn (ho' pins s4 σ H4 y z' u w' _ I4 r2 r4 q4) fun e' s5 ⟨z2, H5, I5, r5, k2, ek2, q5⟩ => ?_))
    subst ek2; cases r5; refine wpAny_truthy_bool ?_
    cases k2 with
    | false => exact ite_ff ⟨.bl false, H5, I5, rfl, q5⟩
    | true => exact ite_tt (chain_last (thn (hd.run pins s5 σ H5 _ I5 q5) fun v' s6 ⟨z3, H6, I6, r6, q6⟩ => h3 pins s6 σ H6 z' z3 w' v' Q I6 r4 r6 q6))
theorem pt_chain3 {op op' op'' : CmpOp} {r r' r'' : R2} (ho : OpR X (compareOp op) r) (ho' : OpR X (compareOp op') r') (h3 : OpR X (compareOp op'') r'') (ha : PE X a ta) (hb : PE X b tb) (hc : PE X c tc) (hd : PE X d td)
    (hm : lastMarks [op, op', op''] [b, c, d] = false := by with_unfolding_all rfl) : PT X (.Compare a [op, op', op''] [b, c, d] pos) (tTest (tChain3 r r' r'' ta tb tc td)) := by
  refine ⟨fun pins s σ H Q I h => ?_⟩
  refine isTrue_chain (thn (ha.run pins s σ H _ I h) fun v s1 ⟨x, H1, I1, r1, q1⟩ => test_link (thn (hb.run pins s1 σ H1 _ I1 q1) fun u s2 ⟨y, H2, I2, r2, q2⟩ => thn (ho pins s2 σ H2 x y v u _ I2 r1 r2 q2) fun e s3 ⟨z, H3, I3, r3, k, ek, q3⟩ => ?_)) hm
  subst ek; cases r3; refine wpAny_truthy_bool ?_
  cases k with
  | false => obtain ⟨k', e', q'⟩ := q3; cases e'; exact ite_ff ⟨H3, I3, q'⟩
  | true =>
    refine ite_tt (test_link (thn (hc.run pins s3 σ H3 _ I3 q3) fun w' s4 ⟨z', H4, I4, r4, q4⟩ => thn (ho' pins s4 σ H4 y z' u w' _ I4 r2 r4 q4) fun e' s5 ⟨z2, H5, I5, r5, k2, ek2, q5⟩ => ?_))
    subst ek2; cases r5; refine wpAny_truthy_bool ?_
    cases k2 with
    | false => obtain ⟨k', e', q'⟩ := q5; cases e'; exact ite_ff ⟨H5, I5, q'⟩
    | true =>
      refine ite_tt (test_last (thn (hd.run pins s5 σ H5 _ I5 q5) fun v' s6 ⟨z3, H6, I6, r6, q6⟩ => thn (h3 pins s6 σ H6 z' z3 w' v' _ I6 r4 r6 q6) fun e' s7 ⟨z4, H7, I7, r7, k4, ek4, q7⟩ => ?_))
      subst ek4; cases r7; exact wpAny_truthy_bool ⟨H7, I7, q7⟩
end
end L2
namespace Bw
open PySem L2
section
variable {K : PySem.W.Frag} {σ : St} {F : Hp} {cs cs1 : Cs} {ta tb tc td : TE} {a b c d : Int}
theorem d_chain3 {g g' g'' : Int → Int → Bool} (ha : EvD K ta σ F cs (.int a) cs) (hb : EvD K tb σ F cs (.int b) cs) (hc : EvD K tc σ F cs (.int c) cs) (hd : EvD K td σ F cs (.int d) cs) : EvD K (tChain3 (rI0 fun i j => .bl (g i j)) (rI0 fun i j => .bl (g' i j)) (rI0 fun i j => .bl (g'' i j)) ta tb tc td) σ F cs (.bool (g a b && (g' b c && g'' c d))) cs := fun F1 H1 g1 s Q q =>
  ha F1 H1 g1 s _ fun v F2 H2 g2 s2 h2 => hb F2 H2 (g1.tr g2) s2 _ fun w F3 H3 g3 s3 h3 => by
    cases h2.toInt; cases h3.toInt
    refine ⟨a, b, rfl, rfl, g a b, rfl, ?_⟩
    cases e : g a b with
    | false => rw [if_neg (by decide)]; exact q _ F3 H3 (g2.tr g3) s3 (by show Dt K F3 (.bl false) (.bool (g a b && (g' b c && g'' c d))); rw [e]; exact .bl _)
    | true =>
      rw [if_pos rfl]
      refine hc F3 H3 ((g1.tr g2).tr g3) s3 _ fun u F4 H4 g4 s4 h4 => ?_
      cases h4.toInt
      refine ⟨b, c, rfl, rfl, g' b c, rfl, ?_⟩
      cases e2 : g' b c with
      | false => rw [if_neg (by decide)]; exact q _ F4 H4 ((g2.tr g3).tr g4) s4 (by show Dt K F4 (.bl false) (.bool (g a b && (g' b c && g'' c d))); rw [e, e2]; exact .bl _)
      | true =>
        rw [if_pos rfl]
        refine hd F4 H4 (((g1.tr g2).tr g3).tr g4) s4 _ fun x F5 H5 g5 s5 h5 => ?_
        cases h5.toInt
        exact ⟨c, d, rfl, rfl, q _ F5 H5 (((g2.tr g3).tr g4).tr g5) s5 (by show Dt K F5 (.bl (g'' c d)) (.bool (g a b && (g' b c && g'' c d))); rw [e, e2]; exact .bl _)⟩
end
end Bw
namespace Bw
open PySem L2
/-- what is asked first raises -/
theorem s_cutX {K : PySem.W.Frag} {σ : St} {F H : Hp} {cs cs1 : Cs} {te : TE} {W : WX} {Q : VK} {c : Str × PyData} (s : Sta F cs H) (h : EvX K te W σ F cs (.ex c) cs1) (qx : ∀ d F2 H2, Gr F F2 → Sta F2 cs1 H2 → Xd K F2 c d → W (.ref (He.ga K c.1)) d σ H2) : te σ H Q :=
  h F H .rfl s Q (fun d hd => nomatch hd) fun c' hc d F2 H2 g2 s2 xd => by cases hc; exact qx d F2 H2 g2 s2 xd
end Bw

namespace L2
open PySem PySem.Spec PyProof.Rows
/-! list(range(a, b, c)), c above 0 -/
def rz3 (a b c : Int) : Nat := if a < b then ((b - a - 1) / c + 1).toNat else 0
theorem rz3_size {a b c : Int} (h : 0 < c) : Builtin.Range.rangeSize a b c = (rz3 a b c : Int) := by
  unfold Builtin.Range.rangeSize rz3
  rw [if_pos h]
  split
  · rename_i q
    have := Int.ediv_nonneg (a := b - a - 1) (b := c) (by omega) (by omega)
    omega
  · rfl
theorem rz3_small {a b c : Int} (h : 0 < c) (h1 : c < 1073741824) (ha : -(2 ^ 61) ≤ a) (ha' : a < 2 ^ 61) (hb : -(2 ^ 61) ≤ b) (hb' : b < 2 ^ 61) : Builtin.Range.small a b c = true := by
  have e := rz3_size (a := a) (b := b) h
  unfold Builtin.Range.small
  rw [e]
  unfold rz3
  have dv : a < b → 0 ≤ (b - a - 1) / c ∧ (b - a - 1) / c ≤ b - a - 1 := fun q => ⟨Int.ediv_nonneg (by omega) (by omega), Int.ediv_le_self _ (by omega)⟩
  have dm : a < b → (b - a - 1) / c * c ≤ b - a - 1 := fun q => Int.ediv_mul_le _ (by omega)
  simp only [Builtin.Range.rangeFitsLong, Bool.and_eq_true, Bool.or_eq_true, decide_eq_true_eq, beq_iff_eq, show c > 0 from h, if_true]
  split
  · rename_i q
    have := dv q
    have := dm q
    generalize (b - a - 1) / c = d at *
    have e1 : (((d + 1).toNat : Nat) : Int) = d + 1 := by omega
    rw [e1]
    refine ⟨?_, ?_⟩ <;> (try omega) <;> (try (refine ⟨?_, ?_⟩ <;> (try omega)))
  · simp; omega
def rg3V (a c : Int) (n : Nat) : List V := (List.range n).map fun i => V.int (a + (i : Nat) * c)
theorem vals_rg3 {a c : Int} {n : Nat} {acc : Array Value} (h : ItemsOf (fun i v => ∃ t, v = .int (a + i * c) t) acc n) : Vals (rg3V a c n) acc.toList := by
  have e : acc.toList.length = n := by rw [Array.length_toList]; exact h.1
  unfold rg3V
  rw [← e]
  refine vals_of_get acc.toList _ fun j u hj => ?_
  obtain ⟨t, rfl⟩ := h.2 j u (by rw [← hj, Array.getElem?_toList])
  exact ⟨t, rfl⟩
def Rg3Ok (a b c : Int) : Prop := 0 < c ∧ c < 1073741824 ∧ -(2 ^ 61) ≤ a ∧ a < 2 ^ 61 ∧ -(2 ^ 61) ≤ b ∧ b < 2 ^ 61 ∧ rz3 a b c ≤ 100000
def tLstRg3 (t : TA) : TE := fun σ H Q => t σ H fun vs H1 => ∃ a b c, vs = [.int a, .int b, .int c] ∧ Rg3Ok a b c ∧ ∀ q, H1 q = none → Q (.ref q) (upd H1 q (.lst (rg3V a c (rz3 a b c))))
section
variable {X : Cx} {a b c : Expr} {ta : TA} {p pos p' pos' : Pos}
theorem pe_listRg3 (hc : X.calm = true) (hg : Gl X "list") (hm : X.mg "list" = none) (hg' : Gl X "range") (hm' : X.mg "range" = none) (ha : PA X [a, b, c] ta)
    (hs : starEach [a, b, c] X.env = (false, eval a X.env) :: starEach [b, c] X.env := by rfl) (hpl : (backTo pos' (starEach [b, c] X.env)).any (·.1) = false := by rfl)
    (na : starEach [.Call (.Name "range" p') [a, b, c] [] pos'] X.env = (false, eval (.Call (.Name "range" p') [a, b, c] [] pos') X.env) :: starEach [] X.env := by rfl) :
    PE X (.Call (.Name "list" p) [.Call (.Name "range" p') [a, b, c] [] pos'] [] pos) (tLstRg3 ta) := by
  refine ⟨fun pins s σ H Q I h => ?_⟩
  refine Call_ (ld_blt I hg hm boot_list (PyProof.Rows.callWith_type1 (args_cons ?_ na) na))
  refine Call_ (ld_blt I hg' hm' boot_range (PyProof.Rows.callWith_type1 (thn (ha.run pos' pins s σ H _ I h) fun us s1 ⟨vs, H1, I1, r1, q1⟩ => ?_) hs hpl))
  obtain ⟨i, j, k, e, ⟨c0, c1, c2, c3, c4, c5, c6⟩, q⟩ := q1
  subst e
  cases r1 with
  | cons r rr =>
    cases rr with
    | cons r' rr =>
      cases rr with
      | cons r'' rr =>
        cases rr
        obtain ⟨t, rfl⟩ := r
        obtain ⟨t', rfl⟩ := r'
        obtain ⟨t'', rfl⟩ := r''
        refine call_range_3 (by omega) ?_ (.inl (PyProof.noPylong_small (by omega)))
        have I2 : Inv X pins σ H1 { s1 with heap := s1.heap.push { cls := .type "range", data := .fields #[.int i t, .int j t', .int k t''] } } := I1.kept (t' := s1.toks) fun b o e => Heap.get?_push_of_some _ e
        refine args_nil ?_
        refine call_list_range (n := rz3 i j k) (I2.ok.hd hc) (IsRange.new ..) (rz3_small c0 c1 c2 c3 c4 c5) (rz3_size c0) (by omega) fun h' tk acc c' hk e' hi => ?_
        refine ⟨.ref _, upd H1 _ (.lst (rg3V i k (rz3 i j k))), I2.laid hk (Nat.le_refl _) (show ObjOk X.prog X.w _ _ _ (.lst (rg3V i k (rz3 i j k))) from ⟨?_, acc.toList, c', vals_rg3 hi, ?_⟩), rfl, q _ (I2.hok.fresh (Nat.le_refl _))⟩
        · unfold rg3V; rw [List.length_map, List.length_range, sizeLine_eq]; omega
        · rw [Array.toArray_toList]; exact e'
end
end L2
namespace Bw
open PySem L2
def rng3L (a b c : Int) : List Int := (List.range (rz3 a b c)).map fun (i : Nat) => a + (i : Int) * c
def rng3M (a b c : Int) : Option (List Int) := if 0 < c ∧ c < 1073741824 ∧ -(2 ^ 61) ≤ a ∧ a < 2 ^ 61 ∧ -(2 ^ 61) ≤ b ∧ b < 2 ^ 61 ∧ rz3 a b c ≤ 100000 then some (rng3L a b c) else none
section
variable {K : PySem.W.Frag} {σ : St} {F : Hp} {cs cs1 : Cs} {as : TA} {a b c : Int} {xs : List Int}
theorem c_rng3 (h : EvDs K as σ F cs [.int a, .int b, .int c] cs1) (k : rng3M a b c = some xs) : EvC K (tLstRg3 as) σ F cs (xs.map eI) cs1 := fun F1 H1 g1 s Q q =>
  h F1 H1 g1 s _ fun vs F2 H2 g2 s2 hv => by
    unfold rng3M at k
    split at k
    · rename_i w
      obtain rfl := Option.some.inj k
      obtain ⟨x, y, z, rfl, h1, h2, h3⟩ := hv.three
      cases h1.toInt; cases h2.toInt; cases h3.toInt
      refine ⟨a, b, c, rfl, w, fun p hp => ?_⟩
      have e : rg3V a c (rz3 a b c) = (rng3L a b c).map V.int := by unfold rg3V rng3L; rw [List.map_map]; rfl
      rw [e]
      exact q p _ F2 _ g2 (s2.cell hp) (Dts.of_ints _)
    · cases k
end
end Bw

namespace Bw
open PySem L2
/-! dict(a list of pairs), an owned one -/
def mkD {κ ν : Type} [DecidableEq κ] (xs : List (κ × ν)) : List (κ × ν) := xs.foldl (fun d p => putKV d p.1 p.2) []
theorem merge_kv {ν : Type} {vf : ν → V} : ∀ (xs d : List (Str × ν)), mergeK (kvE kS vf d) (kvE kS vf xs) = kvE kS vf (xs.foldl (fun d p => putKV d p.1 p.2) d)
  | [], d => rfl
  | x :: xs, d => by
    show mergeK (putK (kvE kS vf d) (kS x.1) (vf x.2)) (kvE kS vf xs) = _
    rw [put_kv inj_S]
    exact merge_kv xs _
section
variable {K : PySem.W.Frag} {σ : St} {F : Hp} {cs cs1 : Cs} {as : TA} {H : Hp}
theorem o_dictP {ν : Type} {ev : ν → PyData} {vf : ν → V} {xs D : List (Str × ν)} {Q : VK} (hv : ∀ F v x, Dt K F v (ev x) → v = vf x) (s : Sta F cs H) (h : EvDs K as σ F cs [eL (eT2 eS ev) xs] cs1) (hm : mkD xs = D)
    (q : ∀ p F2 H2, Gr F F2 → Sta F2 ((p, .dK (kvE kS vf D)) :: cs1) H2 → Q (.ref p) H2) : tCB (rDictP K) as σ H Q :=
  h F H .rfl s _ fun v F2 H2 g2 s2 h2 => by
    obtain ⟨v, rfl, k⟩ := h2.one
    obtain ⟨p, ys, rfl, hl, hd⟩ := k.toLst
    obtain ⟨ps, rfl, hp⟩ := dts_pairs hv s2.fr hd
    refine ⟨p, ps, _, rfl, gr_L s2.fr hl, hp, fun l nl => q _ _ _ g2 ?_⟩
    have e : mergeK [] (kvE kS vf xs) = kvE kS vf D := by rw [← hm]; exact merge_kv xs []
    rw [e]
    exact s2.cell nl
end
end Bw

namespace Bw
open PySem L2
/-! rows: a list of pairs of a number and a list of texts, whose lists are young -/
abbrev Rw := Addr × Addr × Int × List Str
def rwL (rs : List Rw) : List V := rs.map fun r => .ref r.1
def rwC (rs : List Rw) : Cs := rs.map fun r => (r.2.1, .lst (r.2.2.2.map V.str))
def rwM (rs : List Rw) : List (Int × List Str) := rs.map fun r => (r.2.2.1, r.2.2.2)
abbrev eRw : Int × List Str → PyData := eT2 eI (eL eS)
structure RwY (K : PySem.W.Frag) (F0 F : Hp) (rs : List Rw) : Prop where
  t : ∀ r ∈ rs, SqT K F r.1 [.int r.2.2.1, .ref r.2.1]
  q : ∀ r ∈ rs, F r.2.1 = some (.lst (r.2.2.2.map V.str))
  y : ∀ r ∈ rs, F0 r.2.1 = none
  n : (rs.map fun r => r.2.1).Nodup
def Rz (K : PySem.W.Frag) (F0 F : Hp) (us : List V) (xs : List (Int × List Str)) : Prop := ∃ rs, us = rwL rs ∧ rwM rs = xs ∧ RwY K F0 F rs
def Fz (K : PySem.W.Frag) (F0 F : Hp) (v : V) (xs : List (Int × List Str)) : Prop := ∃ p rs, v = .ref p ∧ F p = some (.lst (rwL rs)) ∧ F0 p = none ∧ rwM rs = xs ∧ RwY K F0 F rs ∧ p ∉ rs.map fun r => r.2.1
section
variable {K : PySem.W.Frag} {σ : St} {F0 F F' F2 : Hp} {cs cs1 : Cs} {us : List V} {xs ys : List (Int × List Str)} {rs : List Rw} {H : Hp}
theorem RwY.gr (g : Gr F F') (h : RwY K F0 F rs) : RwY K F0 F' rs := ⟨fun r hr => gr_T g (h.t r hr), fun r hr => g _ _ (h.q r hr), h.y, h.n⟩
theorem Rz.gr (g : Gr F F') (h : Rz K F0 F us xs) : Rz K F0 F' us xs := let ⟨rs, a, b, c⟩ := h; ⟨rs, a, b, c.gr g⟩
theorem Fz.gr {v : V} (g : Gr F F') (h : Fz K F0 F v xs) : Fz K F0 F' v xs := let ⟨p, rs, a, b, c, d, e, f⟩ := h; ⟨p, rs, a, g _ _ b, c, d, e.gr g, f⟩
theorem of_strs : ∀ ns : List Str, Dts K F (ns.map V.str) (ns.map eS)
  | [] => .nil
  | n :: ns => .cons (.str n) (of_strs ns)
theorem RwY.dts : ∀ {rs : List Rw}, RwY K F0 F rs → Dts K F (rwL rs) ((rwM rs).map eRw)
  | [], _ => .nil
  | r :: rs, h => .cons (.tup (h.t r List.mem_cons_self) (.cons (.int _) (.cons (.lst (.inl (.inl (h.q r List.mem_cons_self))) (of_strs _)) .nil)))
      (RwY.dts ⟨fun z hz => h.t z (List.mem_cons_of_mem _ hz), fun z hz => h.q z (List.mem_cons_of_mem _ hz), fun z hz => h.y z (List.mem_cons_of_mem _ hz), (List.nodup_cons.mp h.n).2⟩)
theorem Rz.dts (h : Rz K F0 F us xs) : Dts K F us (xs.map eRw) := by
  obtain ⟨rs, rfl, rfl, h⟩ := h; exact h.dts
theorem Fz.dt {v : V} (h : Fz K F0 F v xs) : Dt K F v (eL eRw xs) := by
  obtain ⟨p, rs, rfl, b, _, rfl, h, _⟩ := h; exact .lst (.inl (.inl b)) h.dts
theorem rz_nil (h : Dts K F us (([] : List (Int × List Str)).map eRw)) : Rz K F0 F us [] := by
  obtain rfl := Dts.no h; exact ⟨[], rfl, rfl, fun _ h => (by cases h), fun _ h => (by cases h), fun _ h => (by cases h), List.nodup_nil⟩
theorem Rz.len (h : Rz K F0 F us xs) : us.length = xs.length := by
  obtain ⟨rs, rfl, rfl, _⟩ := h; unfold rwL rwM; rw [List.length_map, List.length_map]
theorem Rz.snoc {t q : Addr} {i : Int} {ns : List Str} (h : Rz K F0 F us xs) (g0 : Gr F0 F) (g : Gr F F') (hT : SqT K F' t [.int i, .ref q]) (hq : F' q = some (.lst (ns.map V.str))) (hn : F q = none) : Rz K F0 F' (us ++ [.ref t]) (xs ++ [(i, ns)]) := by
  obtain ⟨rs, rfl, rfl, h⟩ := h
  have n0 : F0 q = none := by
    cases e : F0 q with
    | none => rfl
    | some o => rw [g0 _ _ e] at hn; cases hn
  refine ⟨rs ++ [(t, q, i, ns)], by unfold rwL; rw [List.map_append]; rfl, by unfold rwM; rw [List.map_append]; rfl, ?_, ?_, ?_, ?_⟩
  · intro r hr
    rcases List.mem_append.mp hr with hr | hr
    · exact gr_T g (h.t r hr)
    · rw [List.mem_singleton.mp hr]; exact hT
  · intro r hr
    rcases List.mem_append.mp hr with hr | hr
    · exact g _ _ (h.q r hr)
    · rw [List.mem_singleton.mp hr]; exact hq
  · intro r hr
    rcases List.mem_append.mp hr with hr | hr
    · exact h.y r hr
    · rw [List.mem_singleton.mp hr]; exact n0
  · rw [List.map_append]
    refine List.nodup_append.mpr ⟨h.n, by simp, fun a ha b hb => ?_⟩
    obtain ⟨r, hr, rfl⟩ := List.mem_map.mp ha
    have hb : b = q := by simpa using hb
    intro z
    have := h.q r hr
    rw [z, hb, hn] at this; cases this
/-- found.append((i, a new list)) -/
theorem s_appRz {l1 l2 : Cs} {i : Nat} {p : Addr} {ta tb : TE} {k : Int} {ns : List Str} {nx bk ct : St → Hp → Prop} {rt : VK} (s : Sta F (l1 ++ (p, .lst us) :: l2) H) (hz : Rz K F0 F us xs) (g0 : Gr F0 F) (hi : σ[i]? = some (some (.ref p)))
    (ha : EvD K ta σ F (l1 ++ (p, .lst us) :: l2) (eI k) (l1 ++ (p, .lst us) :: l2)) (hb : EvC K tb σ F (l1 ++ (p, .lst us) :: l2) (ns.map eS) (l1 ++ (p, .lst us) :: l2)) (hm : appM xs (k, ns) = some ys)
    (q : ∀ us2 F2 H2, Gr F F2 → Sta F2 (l1 ++ (p, .lst us2) :: l2) H2 → Rz K F0 F2 us2 ys → nx σ H2) : tDrop (tBM K "list" rAppend (tVar i) (tCons (tTup (tCons ta (tCons tb tNil))) tNil)) ⟨nx, rt, bk, ct⟩ σ H := by
  obtain ⟨hl, rfl⟩ := appM_some hm
  refine ⟨.ref p, hi, .inl ⟨rfl, _, .inl (.inl s.getAt)⟩, ?_⟩
  refine ha F H .rfl s _ fun v F2 H2 g2 s2 hv => ?_
  obtain rfl := hv.toInt
  refine hb F2 H2 g2 s2 _ fun y vs F3 H3 g3 s3 h3 => ?_
  obtain rfl := Dts.strs h3
  refine ⟨by show 2 ≤ sizeLine; unfold sizeLine; omega, fun t ht => ?_⟩
  have hn3 : F3 y = none := s3.sep _ List.mem_cons_self
  have s4 := s3.froze
  have s5 := s4.lay (p := t) (o := .tup [.int k, .ref y]) ht
  have g5 : Gr (upd F3 y (.lst (ns.map V.str))) (upd (upd F3 y (.lst (ns.map V.str))) t (.tup [.int k, .ref y])) := Gr.new (s4.fr.back ht)
  have gF : Gr F3 (upd (upd F3 y (.lst (ns.map V.str))) t (.tup [.int k, .ref y])) := (Gr.new hn3).tr g5
  refine ⟨p, us, .ref t, rfl, rfl, s5.getAt, szl (by rw [hz.len]; exact hl), q _ _ _ ((g2.tr g3).tr gF) s5.putAt ?_⟩
  have hz3 := hz.gr (g2.tr g3)
  exact hz3.snoc (g0.tr (g2.tr g3)) gF (.inl (.inl upd_same)) (g5 _ _ upd_same) hn3
/-- return found -/
theorem s_retZ {l1 l2 : Cs} {p : Addr} {te : TE} {nx bk ct : St → Hp → Prop} {rt : VK} (s : Sta F (l1 ++ (p, .lst us) :: l2) H) (hv : VP te σ F (l1 ++ (p, .lst us) :: l2) (.ref p)) (hz : Rz K F0 F us xs) (g0 : Gr F0 F)
    (q : ∀ F2, Gr F F2 → Sta F2 (l1 ++ l2) H → Fz K F0 F2 (.ref p) xs → rt (.ref p) H) : tRet te ⟨nx, rt, bk, ct⟩ σ H := by
  refine hv F H .rfl s _ ?_
  have hn := s.freeAt
  have n0 : F0 p = none := by
    cases e : F0 p with
    | none => rfl
    | some o => rw [g0 _ _ e] at hn; cases hn
  obtain ⟨rs, rfl, rfl, h⟩ := hz
  refine q _ (Gr.new hn) s.frozeAt ⟨p, rs, rfl, upd_same, n0, rfl, h.gr (Gr.new hn), fun m => ?_⟩
  obtain ⟨r, hr, e⟩ := List.mem_map.mp m
  have := h.q r hr
  rw [e, hn] at this; cases this
/-- a def that tells such rows -/
def spZ (K : PySem.W.Frag) {α : Type} (A : α → List PyData) (f : α → Option (List (Int × List Str))) : Sp := fun vs H Q _ => ∃ F cs x y, Dts K F vs (A x) ∧ Sta F cs H ∧ f x = some y ∧ ∀ v F2 H2, Gr F F2 → Sta F2 cs H2 → Fz K F F2 v y → Q v H2
theorem d_callZ {α : Type} {as : TA} {A : α → List PyData} {f : α → Option (List (Int × List Str))} {x : α} {y : List (Int × List Str)} {E : XK} (h : EvDs K as σ F cs (A x) cs1) (hf : f x = some y) : EvD K (tCall (spZ K A f) [] E as) σ F cs (eL eRw y) cs1 := fun F1 H1 g1 s Q q =>
  h F1 H1 g1 s _ fun vs F2 H2 g2 s2 h2 => ⟨F2, cs1, x, y, by rw [List.append_nil]; exact h2, s2, hf, fun v F3 H3 g3 s3 h3 => q v F3 H3 (g2.tr g3) s3 h3.dt⟩
theorem s_setZ {α : Type} {as : TA} {A : α → List PyData} {f : α → Option (List (Int × List Str))} {x : α} {y : List (Int × List Str)} {E : XK} {g : TG} {nx bk ct : St → Hp → Prop} {rt : VK} (s : Sta F cs H) (h : EvDs K as σ F cs (A x) cs1) (hf : f x = some y)
    (q : ∀ v F1 F2 H2, Gr F F1 → Gr F1 F2 → Sta F2 cs1 H2 → Fz K F1 F2 v y → g v σ H2 nx) : tAsg (tCall (spZ K A f) [] E as) g ⟨nx, rt, bk, ct⟩ σ H :=
  h F H .rfl s _ fun vs F2 H2 g2 s2 h2 => ⟨F2, cs1, x, y, by rw [List.append_nil]; exact h2, s2, hf, fun v F3 H3 g3 s3 h3 => q v F2 F3 H3 g2 g3 s3 h3⟩
/-! thawing -/
def cutS (F : Hp) (qs : List Addr) : Hp := fun a => if a ∈ qs then none else F a
theorem cutS_in {qs : List Addr} {a : Addr} (h : a ∈ qs) : cutS F qs a = none := if_pos h
theorem cutS_out {qs : List Addr} {a : Addr} (h : a ∉ qs) : cutS F qs a = F a := if_neg h
theorem thaw {F1 F3 : Hp} {v : V} {l : Cs} (hz : Fz K F1 F2 v xs) (g : Gr F2 F3) (g1 : Gr F1 F3) (s : Sta F3 (l ++ cs) H) : ∃ p rs F4, v = .ref p ∧ rwM rs = xs ∧ Gr F1 F4 ∧ Sta F4 ((p, .lst (rwL rs)) :: (rwC rs ++ (l ++ cs))) H ∧ ∀ r ∈ rs, SqT K F4 r.1 [.int r.2.2.1, .ref r.2.1] := by
  obtain ⟨p, rs, rfl, hp, n1, rfl, h, np⟩ := hz
  have hp3 := g _ _ hp
  have h3 := h.gr g
  let qs := p :: rs.map fun r => r.2.1
  have mq : ∀ c ∈ (p, HO.lst (rwL rs)) :: rwC rs, c.1 ∈ qs ∧ F3 c.1 = some c.2 := fun c hc => by
    rcases List.mem_cons.mp hc with rfl | hc
    · exact ⟨List.mem_cons_self, hp3⟩
    · obtain ⟨r, hr, rfl⟩ := List.mem_map.mp hc
      exact ⟨List.mem_cons_of_mem _ (List.mem_map.mpr ⟨r, hr, rfl⟩), h3.q r hr⟩
  have so : ∀ a ∈ qs, ∃ ys, F3 a = some (.lst ys) := fun a ha => by
    rcases List.mem_cons.mp ha with rfl | ha
    · exact ⟨_, hp3⟩
    · obtain ⟨r, hr, rfl⟩ := List.mem_map.mp ha; exact ⟨_, h3.q r hr⟩
  have q1 : ∀ a ∈ qs, F1 a = none := fun a ha => by
    rcases List.mem_cons.mp ha with rfl | ha
    · exact n1
    · obtain ⟨r, hr, rfl⟩ := List.mem_map.mp ha; exact h.y r hr
  refine ⟨p, rs, cutS F3 qs, rfl, rfl, fun a o e => ?_, ⟨fun a o e => ?_, fun c hc => ?_, fun c hc => ?_, ?_⟩, fun r hr => ?_⟩
  · rw [cutS_out fun m => by rw [q1 a m] at e; cases e]; exact g1 _ _ e
  · by_cases m : a ∈ qs
    · rw [cutS_in m] at e; cases e
    · rw [cutS_out m] at e; exact s.fr _ _ e
  · rw [← List.cons_append] at hc
    rcases List.mem_append.mp hc with hc | hc
    · exact cutS_in (mq c hc).1
    · by_cases m : c.1 ∈ qs
      · exact cutS_in m
      · rw [cutS_out m]; exact s.sep c hc
  · rw [← List.cons_append] at hc
    rcases List.mem_append.mp hc with hc | hc
    · exact s.fr _ _ (mq c hc).2
    · exact s.has c hc
  · rw [← List.cons_append, List.map_append]
    refine List.nodup_append.mpr ⟨?_, s.nd, fun a ha b hb z => ?_⟩
    · have e : ((p, HO.lst (rwL rs)) :: rwC rs).map (fun x => x.1) = qs := by
        show p :: (rwC rs).map (fun x => x.1) = p :: rs.map fun r => r.2.1
        unfold rwC; rw [List.map_map]; rfl
      rw [e]
      exact List.nodup_cons.mpr ⟨np, h.n⟩
    · obtain ⟨c, hc, rfl⟩ := List.mem_map.mp ha
      obtain ⟨d, hd, rfl⟩ := List.mem_map.mp hb
      have k1 := (mq c hc).2
      have k2 := s.sep d hd
      rw [z, k2] at k1; cases k1
  · rcases h3.t r hr with (k | ⟨ob, k⟩) | k
    · refine .inl (.inl ?_)
      rw [cutS_out fun m => by obtain ⟨ys, e⟩ := so _ m; rw [e] at k; cases k]; exact k
    · refine .inl (.inr ⟨ob, ?_⟩)
      rw [cutS_out fun m => by obtain ⟨ys, e⟩ := so _ m; rw [e] at k; cases k]; exact k
    · exact .inr k
end
end Bw

namespace Bw
open PySem L2
/-! for over rows whose lists are handed to the body -/
theorem rwM_get {rs : List Rw} {i : Nat} (h : i < rs.length) : (rwM rs).drop i = (rs[i].2.2.1, rs[i].2.2.2) :: (rwM rs).drop (i + 1) := by
  unfold rwM
  rw [← List.map_drop, ← List.map_drop, List.drop_eq_getElem_cons h, List.map_cons]
theorem s_forRw {K : PySem.W.Frag} {σ : St} {F : Hp} {H : Hp} {nx bk ct : St → Hp → Prop} {rt : VK} {S R : Type} {g : TG} {tb : TS} {ti : TE} {p : Addr} {rs : List Rw} {c0 : Cs} {xs : List (Int × List Str)} (st : S → Hp → St → Cs → Prop) {body : S → Int × List Str → Option (Fl S R)} {s0 : S} {r : Fl S R}
    (s : Sta F ((p, .lst (rwL rs)) :: (rwC rs ++ c0)) H) (hv : VP ti σ F ((p, .lst (rwL rs)) :: (rwC rs ++ c0)) (.ref p)) (ht : ∀ r ∈ rs, SqT K F r.1 [.int r.2.2.1, .ref r.2.1]) (he : rwM rs = xs)
    (h0 : ∀ F', Gr F F' → st s0 F' σ c0) (hm : forF body xs s0 = some r)
    (done : ∀ z F1 σ1 c1 H1, r = .nx z ∨ r = .br z → Gr F F1 → Sta F1 ((p, .lst (rwL rs)) :: c1) H1 → st z F1 σ1 c1 → nx σ1 H1)
    (turn : ∀ i ns a b F1 σ1 c1 H1 t q (sg : Cs) (N B : St → Hp → Prop), Gr F F1 → st a F1 σ1 c1 → Sta F1 ((q, .lst (ns.map V.str)) :: (p, .lst (rwL rs)) :: (sg ++ c1)) H1 → SqT K F1 t [.int i, .ref q] → body a (i, ns) = some b →
      (∀ z F4 σ4 c4 H4, b = .nx z → Gr F1 F4 → Sta F4 ((p, .lst (rwL rs)) :: (sg ++ c4)) H4 → st z F4 σ4 c4 → N σ4 H4) →
      (∀ z F4 σ4 c4 H4, b = .br z → Gr F1 F4 → Sta F4 ((p, .lst (rwL rs)) :: (sg ++ c4)) H4 → st z F4 σ4 c4 → B σ4 H4) → (∀ z, b = .rt z → r = .rt z) →
      g (.ref t) σ1 H1 fun σ2 H2 => tb ⟨N, rt, B, N⟩ σ2 H2) : tFor (iList K ti) g tb ⟨nx, rt, bk, ct⟩ σ H := by
  subst he
  have sq : ∀ {F1 : Hp} {c : Cs} {H1 : Hp}, Sta F1 ((p, .lst (rwL rs)) :: c) H1 → SqL K H1 p (rwL rs) := fun s1 => .inl (.inl (s1.has _ List.mem_cons_self))
  have lr : (rwL rs).length = rs.length := by unfold rwL; rw [List.length_map]
  refine hv F H .rfl s _ ⟨p, rfl, ⟨_, sq s⟩, ?_⟩
  refine ⟨fun i m σ1 H1 => m = rs.length - i ∧ i ≤ rs.length ∧ ∃ a F1 c1, Gr F F1 ∧ Sta F1 ((p, .lst (rwL rs)) :: (rwC (rs.drop i) ++ c1)) H1 ∧ st a F1 σ1 c1 ∧ forF body ((rwM rs).drop i) a = some r, ⟨rs.length, by simp, Nat.zero_le _, s0, F, c0, .rfl, by simpa using s, h0 F .rfl, by simpa using hm⟩, ?_⟩
  rintro i m σ1 H1 ⟨rfl, hi, a, F1, c1, g1, s1, ha, hr⟩
  by_cases hlt : i < rs.length
  · rw [rwM_get hlt] at hr
    obtain ⟨b, hb, hr⟩ := bnd (show (body a _).bind _ = some r from hr)
    have ed : rs.drop i = rs[i] :: rs.drop (i + 1) := List.drop_eq_getElem_cons hlt
    have hl2 : (rwL rs)[i]? = some (.ref rs[i].1) := by unfold rwL; rw [List.getElem?_map, List.getElem?_eq_getElem hlt]; rfl
    refine .inr ⟨⟨_, _, sq s1, hl2⟩, fun σ2 H2 => ∃ z F3 c3, b = .nx z ∧ Gr F F3 ∧ Sta F3 ((p, .lst (rwL rs)) :: (rwC (rs.drop (i + 1)) ++ c3)) H2 ∧ st z F3 σ2 c3, fun σ' H' ⟨z, F3, c3, e3, g3, s3, h3⟩ => ⟨rs.length - (i + 1), by omega, rfl, hlt, z, F3, c3, g3, s3, h3, by subst e3; exact hr⟩, fun x H' y => ?_⟩
    obtain ⟨rfl, y⟩ := y
    have := y _ (sq s1)
    rw [hl2] at this
    obtain rfl := Option.some.inj this
    have s2 : Sta F1 ((rs[i].2.1, .lst (rs[i].2.2.2.map V.str)) :: (p, .lst (rwL rs)) :: (rwC (rs.drop (i + 1)) ++ c1)) H' := by
      rw [ed] at s1
      exact s1.perm (List.Perm.swap _ _ _)
    refine turn rs[i].2.2.1 rs[i].2.2.2 a b F1 σ1 c1 H' rs[i].1 rs[i].2.1 (rwC (rs.drop (i + 1))) _ _ g1 ha s2 (gr_T g1 (ht _ (List.getElem_mem hlt))) hb (fun z F4 σ4 c4 H4 e4 g4 s4 h4 => ⟨z, F4, c4, e4, g1.tr g4, s4, h4⟩) (fun z F4 σ4 c4 H4 e4 g4 s4 h4 => ?_) (fun z e => ?_)
    · subst e4
      exact done z F4 σ4 c4 H4 (.inr (Option.some.inj hr).symm) (g1.tr g4) (sb_dropM (t := [(p, .lst (rwL rs))]) _ _ s4) h4
    · subst e
      exact (Option.some.inj hr).symm
  · have e : i = rs.length := by omega
    subst e
    rw [show (rwM rs).drop rs.length = [] by rw [List.drop_eq_nil_of_le]; unfold rwM; rw [List.length_map]; exact Nat.le_refl _] at hr
    cases hr
    rw [List.drop_length] at s1
    exact .inl ⟨⟨_, sq s1, by rw [lr]; exact Nat.le_refl _⟩, done a F1 σ1 c1 H1 (.inl rfl) g1 s1 ha⟩
theorem rz_of {K : PySem.W.Frag} {F0 F : Hp} {us : List V} {xs : List (Int × List Str)} (e : [] = xs) (h : Dts K F us (xs.map eRw)) : Rz K F0 F us xs := by subst e; exact rz_nil h
theorem perm_seg {sg l cs : Cs} : (sg ++ (l ++ cs)).Perm (l ++ (sg ++ cs)) := by
  rw [← List.append_assoc, ← List.append_assoc]
  exact List.Perm.append_right _ List.perm_append_comm
theorem s_setZN {K : PySem.W.Frag} {σ : St} {F : Hp} {H : Hp} {cs cs1 : Cs} {α : Type} {as : TA} {A : α → List PyData} {f : α → Option (List (Int × List Str))} {x : α} {y : List (Int × List Str)} {E : XK} {i : Nat} {σ' : V → St} {nx bk ct : St → Hp → Prop} {rt : VK} (s : Sta F cs H) (h : EvDs K as σ F cs (A x) cs1) (hf : f x = some y) (hσ : ∀ v, σ.set i (some v) = σ' v)
    (q : ∀ v F1 F2 H2, Gr F F1 → Gr F1 F2 → Sta F2 cs1 H2 → Fz K F1 F2 v y → nx (σ' v) H2) : tAsg (tCall (spZ K A f) [] E as) (gName i) ⟨nx, rt, bk, ct⟩ σ H := s_setZ s h hf fun v F1 F2 H2 g1 g2 s2 hz => by
  show nx (σ.set i (some v)) H2
  rw [hσ]; exact q v F1 F2 H2 g1 g2 s2 hz
/-- rows.append(..), and they are not needed any more -/
def roomM {α : Type} (xs : List α) : Option Unit := if xs.length < 100000 then some () else none
theorem s_spoil {K : PySem.W.Frag} {σ : St} {F : Hp} {H : Hp} {nx bk ct : St → Hp → Prop} {rt : VK} {te : TE} {d : PyData} {l1 l2 : Cs} {i : Nat} {p : Addr} {rs : List Rw} {xs : List (Int × List Str)} (s : Sta F (l1 ++ (p, .lst (rwL rs)) :: l2) H) (he : rwM rs = xs) (hi : σ[i]? = some (some (.ref p)))
    (h : EvD K te σ F (l1 ++ (p, .lst (rwL rs)) :: l2) d (l1 ++ (p, .lst (rwL rs)) :: l2)) (hl : roomM xs = some ()) (q : ∀ F2 H2, Gr F F2 → Sta F2 (l1 ++ l2) H2 → nx σ H2) : tDrop (tBM K "list" rAppend (tVar i) (tCons te tNil)) ⟨nx, rt, bk, ct⟩ σ H := by
  subst he
  refine s_app s hi h ?_ fun v F2 H2 g2 s2 _ => q F2 H2 g2 ?_
  · unfold roomM rwM at hl
    rw [List.length_map] at hl
    unfold rwL; rw [List.length_map]
    split at hl
    · assumption
    · cases hl
  · exact sb_dropM (t := l1) (l := [(p, _)]) _ _ s2
end Bw

namespace Bw
open PySem L2
/-! mirrors over a heap of one's own: no types, no owners -/
inductive MV where
  | d (x : PyData)
  | r (i : Nat)
  | x (e : Xe)
inductive MO where
  | lst (xs : List MV)
  | tup (xs : List MV)
  | dct (kvs : List (Key × MV))
  | fdc (kvs : List (Key × MV))
  | ins (c : Str) (fs : List (Str × MV))
abbrev LH := List MO
abbrev Env := List (Option MV)
def Vr (K : PySem.W.Frag) (F : Hp) (ρ : List Addr) (v : V) : MV → Prop
  | .d x => Dt K F v x
  | .r i => ∃ a, ρ[i]? = some a ∧ v = .ref a
  | .x e => ∃ a d, v = .ref a ∧ F a = some (ExK (He.ga K e.1) d a) ∧ Xd K F e d
abbrev Vrs (K : PySem.W.Frag) (F : Hp) (ρ : List Addr) : List V → List MV → Prop := Paired (Vr K F ρ)
def KR {κ : Type} (K : PySem.W.Frag) (F : Hp) (ρ : List Addr) : List (κ × V) → List (κ × MV) → Prop := Paired fun p q => p.1 = q.1 ∧ Vr K F ρ p.2 q.2
def OR (K : PySem.W.Frag) (F : Hp) (ρ : List Addr) : Option V → Option MV → Prop
  | some v, some x => Vr K F ρ v x
  | none, none => True
  | _, _ => False
abbrev EnvR (K : PySem.W.Frag) (F : Hp) (ρ : List Addr) : St → Env → Prop := Paired (OR K F ρ)
def isF : MO → Bool
  | .fdc _ => true
  | _ => false
def Ob (K : PySem.W.Frag) (F : Hp) (ρ : List Addr) (H : Hp) (a : Addr) : MO → Prop
  | .lst xs => ∃ us, H a = some (.lst us) ∧ Vrs K F ρ us xs
  | .tup xs => ∃ us, H a = some (.tup us) ∧ Vrs K F ρ us xs
  | .dct kvs => ∃ us, H a = some (.dK us) ∧ KR K F ρ us kvs
  | .fdc kvs => ∃ us od, F a = some (.frz od (.dK us)) ∧ KR K F ρ us kvs
  | .ins c fs => ∃ dx us, H a = some (.ins (He.ga K c) dx us) ∧ KR K F ρ us fs
structure Sm (K : PySem.W.Frag) (F : Hp) (ρ : List Addr) (lh : LH) (cs : Cs) (H : Hp) : Prop where
  fr : Gr F H
  len : ρ.length = lh.length
  sep : ∀ (i : Nat) (o : MO) (a : Addr), lh[i]? = some o → ρ[i]? = some a → isF o = false → F a = none
  nd : ρ.Nodup
  has : ∀ (i : Nat) (o : MO) (a : Addr), lh[i]? = some o → ρ[i]? = some a → Ob K F ρ H a o
  cst : ∀ p ∈ cs, F p.1 = none ∧ p.1 ∉ ρ ∧ H p.1 = some p.2
  cnd : (cs.map (·.1)).Nodup
section
variable {K : PySem.W.Frag} {F F' : Hp} {ρ ρ' : List Addr} {lh lh' : LH} {cs : Cs} {H H' : Hp}
theorem pre_rfl {α : Type} {l : List α} : l <+: l := List.prefix_refl l
theorem pre_app {α : Type} {l m : List α} : l <+: l ++ m := ⟨m, rfl⟩
theorem pre_get {α : Type} {l l' : List α} {i : Nat} {a : α} (p : l <+: l') (h : l[i]? = some a) : l'[i]? = some a := by
  obtain ⟨t, rfl⟩ := p
  rw [List.getElem?_append_left (List.getElem?_eq_some_iff.mp h).1]; exact h
theorem Vr.up {v : V} {x : MV} (g : Gr F F') (p : ρ <+: ρ') (h : Vr K F ρ v x) : Vr K F' ρ' v x := by
  cases x with
  | d x => exact Dt.gr g h
  | r i => obtain ⟨a, h1, h2⟩ := h; exact ⟨a, pre_get p h1, h2⟩
  | x e => obtain ⟨a, d, h1, h2, h3⟩ := h; exact ⟨a, d, h1, g _ _ h2, h3.gr g⟩
theorem paired_up {α β : Type} {R S : α → β → Prop} (f : ∀ a b, R a b → S a b) : ∀ {l : List α} {m : List β}, Paired R l m → Paired S l m
  | _, _, .nil => .nil
  | _, _, .cons h t => .cons (f _ _ h) (paired_up f t)
theorem Vrs.up {vs : List V} {xs : List MV} (g : Gr F F') (p : ρ <+: ρ') (h : Vrs K F ρ vs xs) : Vrs K F' ρ' vs xs := paired_up (fun _ _ h => Vr.up g p h) h
theorem KR.up {κ : Type} {vs : List (κ × V)} {xs : List (κ × MV)} (g : Gr F F') (p : ρ <+: ρ') (h : KR K F ρ vs xs) : KR K F' ρ' vs xs := paired_up (fun _ _ h => ⟨h.1, h.2.up g p⟩) h
theorem OR.up {o : Option V} {x : Option MV} (g : Gr F F') (p : ρ <+: ρ') (h : OR K F ρ o x) : OR K F' ρ' o x := by
  cases o <;> cases x
  · trivial
  · exact h
  · exact h
  · exact Vr.up g p h
theorem EnvR.up {σ : St} {env : Env} (g : Gr F F') (p : ρ <+: ρ') (h : EnvR K F ρ σ env) : EnvR K F' ρ' σ env := paired_up (fun _ _ h => OR.up g p h) h
theorem Ob.up {a : Addr} {o : MO} (g : Gr F F') (p : ρ <+: ρ') (e : H' a = H a) (h : Ob K F ρ H a o) : Ob K F' ρ' H' a o := by
  cases o with
  | lst xs => obtain ⟨us, h1, h2⟩ := h; exact ⟨us, e.trans h1, h2.up g p⟩
  | tup xs => obtain ⟨us, h1, h2⟩ := h; exact ⟨us, e.trans h1, h2.up g p⟩
  | dct xs => obtain ⟨us, h1, h2⟩ := h; exact ⟨us, e.trans h1, h2.up g p⟩
  | fdc xs => obtain ⟨us, od, h1, h2⟩ := h; exact ⟨us, od, g _ _ h1, h2.up g p⟩
  | ins c fs => obtain ⟨dx, us, h1, h2⟩ := h; exact ⟨dx, us, e.trans h1, h2.up g p⟩
theorem Ob.some {a : Addr} {o : MO} (gf : Gr F H) (h : Ob K F ρ H a o) : ∃ u, H a = some u := by
  cases o with
  | lst xs => obtain ⟨us, h1, h2⟩ := h; exact ⟨_, h1⟩
  | tup xs => obtain ⟨us, h1, h2⟩ := h; exact ⟨_, h1⟩
  | dct xs => obtain ⟨us, h1, h2⟩ := h; exact ⟨_, h1⟩
  | fdc xs => obtain ⟨us, od, h1, h2⟩ := h; exact ⟨_, gf _ _ h1⟩
  | ins c fs => obtain ⟨dx, us, h1, h2⟩ := h; exact ⟨_, h1⟩
theorem Sm.at {i : Nat} {o : MO} (s : Sm K F ρ lh cs H) (h : lh[i]? = some o) : ∃ a, ρ[i]? = some a ∧ Ob K F ρ H a o := by
  have hl := (List.getElem?_eq_some_iff.mp h).1
  have : i < ρ.length := by rw [s.len]; exact hl
  exact ⟨ρ[i], List.getElem?_eq_getElem this, s.has i o _ h (List.getElem?_eq_getElem this)⟩
theorem Sm.live {a : Addr} (s : Sm K F ρ lh cs H) (h : a ∈ ρ) : ∃ u, H a = some u := by
  obtain ⟨i, hi, e⟩ := List.getElem_of_mem h
  have hl : i < lh.length := by rw [← s.len]; exact hi
  exact (s.has i lh[i] a (List.getElem?_eq_getElem hl) (by rw [List.getElem?_eq_getElem hi, e])).some s.fr
theorem Sm.fresh {p : Addr} (s : Sm K F ρ lh cs H) (hp : H p = none) : F p = none ∧ p ∉ ρ ∧ ∀ c ∈ cs, c.1 ≠ p := by
  refine ⟨s.fr.back hp, fun hm => ?_, fun c hc z => ?_⟩
  · obtain ⟨u, hu⟩ := s.live hm; rw [hp] at hu; cases hu
  · have := (s.cst c hc).2.2; rw [z, hp] at this; cases this
theorem Sm.new {p : Addr} {o : MO} (s : Sm K F ρ lh cs H) (g : Gr H H') (hp : H p = none) (ho : Ob K F (ρ ++ [p]) H' p o) : Sm K F (ρ ++ [p]) (lh ++ [o]) cs H' where
  fr := s.fr.tr g
  len := by rw [List.length_append, List.length_append, s.len]; rfl
  sep := fun i m a h1 h2 hf => by
    by_cases hi : i < lh.length
    · rw [List.getElem?_append_left hi] at h1
      rw [List.getElem?_append_left (by rw [s.len]; exact hi)] at h2
      exact s.sep i m a h1 h2 hf
    · rw [List.getElem?_append_right (by rw [s.len]; exact Nat.le_of_not_lt hi)] at h2
      cases List.mem_singleton.mp (List.mem_of_getElem? h2); exact s.fr.back hp
  nd := by
    refine List.nodup_append.mpr ⟨s.nd, by simp, fun a ha b hb => ?_⟩
    cases List.mem_singleton.mp hb
    obtain ⟨u, hu⟩ := s.live ha
    exact ne_of_none hu hp
  has := fun i m a h1 h2 => by
    by_cases hi : i < lh.length
    · rw [List.getElem?_append_left hi] at h1
      rw [List.getElem?_append_left (by rw [s.len]; exact hi)] at h2
      obtain ⟨u, hu⟩ := (s.has i m a h1 h2).some s.fr
      exact (s.has i m a h1 h2).up .rfl pre_app ((g a u hu).trans hu.symm)
    · rw [List.getElem?_append_right (Nat.le_of_not_lt hi)] at h1
      rw [List.getElem?_append_right (by rw [s.len]; exact Nat.le_of_not_lt hi)] at h2
      have h3 := (List.getElem?_eq_some_iff.mp h1).1
      have e : i - lh.length = 0 := by simp at h3; omega
      rw [e] at h1
      rw [s.len, e] at h2
      simp at h1 h2
      subst h1 h2
      exact ho
  cst := fun c hc => by
    obtain ⟨h1, h2, h3⟩ := s.cst c hc
    refine ⟨h1, fun hm => ?_, g _ _ h3⟩
    rcases List.mem_append.mp hm with h | h
    · exact h2 h
    · exact (s.fresh hp).2.2 c hc (List.mem_singleton.mp h)
  cnd := s.cnd
theorem gr_new {p : Addr} {u : HO} (hp : H p = none) : Gr H (upd H p u) := Gr.new hp
theorem Sm.put {i : Nat} {a : Addr} {u : HO} {o o0 : MO} (s : Sm K F ρ lh cs H) (h0 : lh[i]? = some o0) (hf : isF o0 = false) (hi : ρ[i]? = some a) (ho : Ob K F ρ (upd H a u) a o) : Sm K F ρ (lh.set i o) cs (upd H a u) where
  fr := fun b w e => by
    have q : b ≠ a := fun z => by have := s.sep i o0 a h0 hi hf; subst z; rw [e] at this; cases this
    rw [upd_ne q]; exact s.fr b w e
  len := by rw [List.length_set]; exact s.len
  sep := fun j m b h1 h2 hm => by
    by_cases hj : j = i
    · subst hj; rw [hi] at h2; cases h2; exact s.sep j o0 _ h0 hi hf
    · rw [List.getElem?_set_ne (Ne.symm hj)] at h1; exact s.sep j m b h1 h2 hm
  nd := s.nd
  has := fun j m b h1 h2 => by
    by_cases hj : j = i
    · subst hj
      rw [hi] at h2; cases h2
      have : j < lh.length := by rw [← s.len]; exact (List.getElem?_eq_some_iff.mp hi).1
      rw [List.getElem?_set_self this] at h1
      cases h1; exact ho
    · rw [List.getElem?_set_ne (Ne.symm hj)] at h1
      have q : b ≠ a := fun z => by
        subst z
        have l1 := (List.getElem?_eq_some_iff.mp hi).1
        have l2 := (List.getElem?_eq_some_iff.mp h2).1
        have e1 := (List.getElem?_eq_some_iff.mp hi).2
        have e2 := (List.getElem?_eq_some_iff.mp h2).2
        exact hj ((List.getElem_inj s.nd).mp (e2.trans e1.symm))
      exact (s.has j m b h1 h2).up .rfl pre_rfl (upd_ne q)
  cst := fun c hc => by
    obtain ⟨h1, h2, h3⟩ := s.cst c hc
    have q : c.1 ≠ a := fun z => h2 (by rw [z]; exact List.mem_of_getElem? hi)
    exact ⟨h1, h2, by rw [upd_ne q]; exact h3⟩
  cnd := s.cnd
theorem Sm.lay {p : Addr} {u : HO} (s : Sm K F ρ lh cs H) (hp : H p = none) : Sm K (upd F p u) ρ lh cs (upd H p u) where
  fr := fun a w e => by
    by_cases q : a = p
    · subst q; rw [upd_same] at e ⊢; exact e
    · rw [upd_ne q] at e ⊢; exact s.fr a w e
  len := s.len
  sep := fun i m a h1 h2 hm => by
    obtain ⟨w, hw⟩ := s.live (List.mem_of_getElem? h2)
    rw [upd_ne (ne_of_none hw hp)]; exact s.sep i m a h1 h2 hm
  nd := s.nd
  has := fun i o a h1 h2 => by
    obtain ⟨w, hw⟩ := (s.has i o a h1 h2).some s.fr
    exact (s.has i o a h1 h2).up (Gr.new (s.fr.back hp)) pre_rfl (upd_ne (ne_of_none hw hp))
  cst := fun c hc => by
    obtain ⟨h1, h2, h3⟩ := s.cst c hc
    have q := (s.fresh hp).2.2 c hc
    exact ⟨by rw [upd_ne q]; exact h1, h2, by rw [upd_ne q]; exact h3⟩
  cnd := s.cnd
theorem Sm.layG {p : Addr} {u : HO} (s : Sm K F ρ lh cs H) (hp : H p = none) : Gr F (upd F p u) := Gr.new (s.fr.back hp)
/-- a cell of nobody's -/
theorem Sm.cell {p : Addr} {u : HO} (s : Sm K F ρ lh cs H) (hp : H p = none) : Sm K F ρ lh ((p, u) :: cs) (upd H p u) where
  fr := fun a w e => by rw [upd_ne (ne_of_none (s.fr a w e) hp)]; exact s.fr a w e
  len := s.len
  sep := s.sep
  nd := s.nd
  has := fun i o a h1 h2 => by
    obtain ⟨w, hw⟩ := (s.has i o a h1 h2).some s.fr
    exact (s.has i o a h1 h2).up .rfl pre_rfl (upd_ne (ne_of_none hw hp))
  cst := fun c hc => by
    rcases List.mem_cons.mp hc with rfl | hc
    · exact ⟨(s.fresh hp).1, (s.fresh hp).2.1, upd_same⟩
    · obtain ⟨h1, h2, h3⟩ := s.cst c hc
      exact ⟨h1, h2, by rw [upd_ne ((s.fresh hp).2.2 c hc)]; exact h3⟩
  cnd := by
    rw [List.map_cons, List.nodup_cons]
    refine ⟨fun hm => ?_, s.cnd⟩
    obtain ⟨c, hc, e⟩ := List.mem_map.mp hm
    exact (s.fresh hp).2.2 c hc e
theorem Sm.cput {p : Addr} {u w : HO} (s : Sm K F ρ lh ((p, u) :: cs) H) : Sm K F ρ lh ((p, w) :: cs) (upd H p w) := by
  obtain ⟨k1, k2, k3⟩ := s.cst (p, u) List.mem_cons_self
  have nd := s.cnd
  rw [List.map_cons, List.nodup_cons] at nd
  refine ⟨fun a z e => ?_, s.len, s.sep, s.nd, fun i o a h1 h2 => ?_, fun c hc => ?_, ?_⟩
  · have q : a ≠ p := fun y => by rw [y, k1] at e; cases e
    rw [upd_ne q]; exact s.fr a z e
  · have q : a ≠ p := fun y => k2 (by rw [← y]; exact List.mem_of_getElem? h2)
    exact (s.has i o a h1 h2).up .rfl pre_rfl (upd_ne q)
  · rcases List.mem_cons.mp hc with rfl | hc
    · exact ⟨k1, k2, upd_same⟩
    · obtain ⟨h1, h2, h3⟩ := s.cst c (List.mem_cons_of_mem _ hc)
      have q : c.1 ≠ p := fun z => nd.1 (List.mem_map.mpr ⟨c, hc, z⟩)
      exact ⟨h1, h2, by rw [upd_ne q]; exact h3⟩
  · rw [List.map_cons, List.nodup_cons]; exact nd
theorem Sm.chas {p : Addr} {u : HO} (s : Sm K F ρ lh ((p, u) :: cs) H) : H p = some u := (s.cst (p, u) List.mem_cons_self).2.2
/-- the cell is data from now on -/
theorem Sm.cdat {p : Addr} {u : HO} (s : Sm K F ρ lh ((p, u) :: cs) H) : Sm K (upd F p u) ρ lh cs H := by
  obtain ⟨k1, k2, k3⟩ := s.cst (p, u) List.mem_cons_self
  have nd := s.cnd
  rw [List.map_cons, List.nodup_cons] at nd
  refine ⟨fun a z e => ?_, s.len, fun i m a h1 h2 hm => ?_, s.nd, fun i o a h1 h2 => ?_, fun c hc => ?_, nd.2⟩
  · by_cases q : a = p
    · subst q; rw [upd_same] at e; cases e; exact k3
    · rw [upd_ne q] at e; exact s.fr a z e
  · have q : a ≠ p := fun y => k2 (by rw [← y]; exact List.mem_of_getElem? h2)
    rw [upd_ne q]; exact s.sep i m a h1 h2 hm
  · exact (s.has i o a h1 h2).up (Gr.new k1) pre_rfl rfl
  · obtain ⟨h1, h2, h3⟩ := s.cst c (List.mem_cons_of_mem _ hc)
    have q : c.1 ≠ p := fun z => nd.1 (List.mem_map.mpr ⟨c, hc, z⟩)
    exact ⟨by rw [upd_ne q]; exact h1, h2, h3⟩
theorem Sm.cdatG {p : Addr} {u : HO} (s : Sm K F ρ lh ((p, u) :: cs) H) : Gr F (upd F p u) := Gr.new (s.cst (p, u) List.mem_cons_self).1
/-- the cell is an object from now on -/
theorem Sm.cobj {p : Addr} {u : HO} {o : MO} (s : Sm K F ρ lh ((p, u) :: cs) H) (ho : Ob K F (ρ ++ [p]) H p o) : Sm K F (ρ ++ [p]) (lh ++ [o]) cs H := by
  obtain ⟨k1, k2, k3⟩ := s.cst (p, u) List.mem_cons_self
  have nd := s.cnd
  rw [List.map_cons, List.nodup_cons] at nd
  refine ⟨s.fr, ?_, fun i m a h1 h2 hm => ?_, ?_, fun i m a h1 h2 => ?_, fun c hc => ?_, nd.2⟩
  · rw [List.length_append, List.length_append, s.len]; rfl
  · by_cases hi : i < lh.length
    · rw [List.getElem?_append_left hi] at h1
      rw [List.getElem?_append_left (by rw [s.len]; exact hi)] at h2
      exact s.sep i m a h1 h2 hm
    · rw [List.getElem?_append_right (by rw [s.len]; exact Nat.le_of_not_lt hi)] at h2
      cases List.mem_singleton.mp (List.mem_of_getElem? h2); exact k1
  · refine List.nodup_append.mpr ⟨s.nd, by simp, fun a ha b hb => ?_⟩
    cases List.mem_singleton.mp hb
    intro z; subst z; exact k2 ha
  · by_cases hi : i < lh.length
    · rw [List.getElem?_append_left hi] at h1
      rw [List.getElem?_append_left (by rw [s.len]; exact hi)] at h2
      exact (s.has i m a h1 h2).up .rfl pre_app rfl
    · rw [List.getElem?_append_right (Nat.le_of_not_lt hi)] at h1
      rw [List.getElem?_append_right (by rw [s.len]; exact Nat.le_of_not_lt hi)] at h2
      have h3 := (List.getElem?_eq_some_iff.mp h1).1
      have e : i - lh.length = 0 := by simp at h3; omega
      rw [e] at h1
      rw [s.len, e] at h2
      simp at h1 h2
      subst h1 h2
      exact ho
  · obtain ⟨h1, h2, h3⟩ := s.cst c (List.mem_cons_of_mem _ hc)
    refine ⟨h1, fun hm => ?_, h3⟩
    rcases List.mem_append.mp hm with h | h
    · exact h2 h
    · exact nd.1 (List.mem_map.mpr ⟨c, hc, List.mem_singleton.mp h⟩)
/-- the objects as cells -/
def cellsOf (F : Hp) (ρ : List Addr) (H : Hp) : Cs := ρ.filterMap fun a => match F a with
  | none => (H a).map fun o => (a, o)
  | some _ => none
theorem cells_mem {p : Addr × HO} (h : p ∈ cellsOf F ρ H) : p.1 ∈ ρ ∧ H p.1 = some p.2 ∧ F p.1 = none := by
  unfold cellsOf at h
  obtain ⟨a, ha, e⟩ := List.mem_filterMap.mp h
  cases hf : F a with
  | some w => rw [hf] at e; cases e
  | none =>
    rw [hf] at e
    cases hu : H a with
    | none => rw [hu] at e; cases e
    | some u => rw [hu] at e; cases e; exact ⟨ha, hu, hf⟩
theorem cells_in {a : Addr} {u : HO} (ha : a ∈ ρ) (hu : H a = some u) (hf : F a = none) : (a, u) ∈ cellsOf F ρ H := List.mem_filterMap.mpr ⟨a, ha, by rw [hf]; dsimp only; rw [hu]; rfl⟩
theorem cells_sub : ∀ {ρ : List Addr}, ((cellsOf F ρ H).map (·.1)).Sublist ρ
  | [] => List.Sublist.slnil
  | a :: ρ => by
    have ih := cells_sub (ρ := ρ)
    unfold cellsOf at ih ⊢
    rw [List.filterMap_cons]
    split
    · exact ih.cons _
    · rename_i b hb
      have : b.1 = a := by
        split at hb
        · obtain ⟨o, _, rfl⟩ := Option.map_eq_some_iff.mp hb; rfl
        · cases hb
      rw [List.map_cons, this]
      exact ih.cons_cons _
theorem Sm.sta (s : Sm K F ρ lh cs H) : Sta F (cellsOf F ρ H ++ cs) H where
  fr := s.fr
  sep := fun p hp => by
    rcases List.mem_append.mp hp with hp | hp
    · exact (cells_mem hp).2.2
    · exact (s.cst p hp).1
  has := fun p hp => by
    rcases List.mem_append.mp hp with hp | hp
    · exact (cells_mem hp).2.1
    · exact (s.cst p hp).2.2
  nd := by
    rw [List.map_append]
    refine List.nodup_append.mpr ⟨s.nd.sublist cells_sub, s.cnd, fun a ha b hb z => ?_⟩
    obtain ⟨c, hc, e⟩ := List.mem_map.mp hb
    exact (s.cst c hc).2.1 (by rw [e, ← z]; exact cells_sub.mem ha)
theorem Sm.same (s : Sm K F ρ lh cs H) (g : Gr F F') (t : Sta F' (cellsOf F ρ H ++ cs) H') {a : Addr} (ha : a ∈ ρ) : H' a = H a := by
  obtain ⟨u, hu⟩ := s.live ha
  cases hf : F a with
  | none => exact (t.has _ (List.mem_append_left _ (cells_in ha hu hf))).trans hu.symm
  | some w => rw [t.fr _ _ (g _ _ hf), s.fr _ _ hf]
theorem Sm.back (s : Sm K F ρ lh cs H) (g : Gr F F') (t : Sta F' (cellsOf F ρ H ++ cs) H') : Sm K F' ρ lh cs H' where
  fr := t.fr
  len := s.len
  sep := fun i m a h1 h2 hm => by
    obtain ⟨u, hu⟩ := s.live (List.mem_of_getElem? h2)
    exact t.sep _ (List.mem_append_left _ (cells_in (List.mem_of_getElem? h2) hu (s.sep i m a h1 h2 hm)))
  nd := s.nd
  has := fun i o a h1 h2 => (s.has i o a h1 h2).up g pre_rfl (s.same g t (List.mem_of_getElem? h2))
  cst := fun p hp => ⟨t.sep _ (List.mem_append_right _ hp), (s.cst p hp).2.1, t.has _ (List.mem_append_right _ hp)⟩
  cnd := s.cnd
end
/-! readings -/
abbrev MR (α : Type) := Option (Rs α × LH)
abbrev ME := Env → LH → MR MV
abbrev MT := Env → LH → MR Bool
abbrev MA := Env → LH → MR (List MV)
inductive Fw where
  | nx | br | ct
  | rt (v : MV)
  | ex (e : Xe)
abbrev MS := Env → LH → Option (Fw × Env × LH)
def mB {α β : Type} (m : MR α) (k : α → LH → MR β) : MR β := match m with
  | some (.ok v, lh) => k v lh
  | some (.ex e, lh) => some (.ex e, lh)
  | none => none
/-- what is wanted behind an expression -/
def PoE {α υ : Type} (R : Hp → List Addr → υ → α → Prop) (K : PySem.W.Frag) (W : WX) (F : Hp) (ρ : List Addr) (σ : St) (r : Rs α) (lh : LH) (cs : Cs) (Q : υ → Hp → Prop) : Prop :=
  ∀ F' ρ' H', Gr F F' → ρ <+: ρ' → Sm K F' ρ' lh cs H' → (∀ v u, r = .ok v → R F' ρ' u v → Q u H') ∧ (∀ e d, r = .ex e → Xd K F' e d → W (.ref (He.ga K e.1)) d σ H')
def SoG {α υ : Type} (R : Hp → List Addr → υ → α → Prop) (K : PySem.W.Frag) (W : WX) (t : St → Hp → (υ → Hp → Prop) → Prop) (m : Env → LH → MR α) : Prop :=
  ∀ σ env F ρ lh cs H r lh' Q, EnvR K F ρ σ env → Sm K F ρ lh cs H → m env lh = some (r, lh') → PoE R K W F ρ σ r lh' cs Q → t σ H Q
abbrev rV (K : PySem.W.Frag) : Hp → List Addr → V → MV → Prop := fun F ρ u v => Vr K F ρ u v
abbrev rVs (K : PySem.W.Frag) : Hp → List Addr → List V → List MV → Prop := fun F ρ u v => Vrs K F ρ u v
abbrev rBo : Hp → List Addr → Bool → Bool → Prop := fun _ _ u v => u = v
abbrev SoE (K : PySem.W.Frag) (W : WX) (t : TE) (m : ME) : Prop := SoG (rV K) K W t m
abbrev SoT (K : PySem.W.Frag) (W : WX) (t : TT) (m : MT) : Prop := SoG rBo K W t m
abbrev SoA (K : PySem.W.Frag) (W : WX) (t : TA) (m : MA) : Prop := SoG (rVs K) K W t m
def PoS (K : PySem.W.Frag) (W : WX) (F : Hp) (ρ : List Addr) (fl : Fw) (env : Env) (lh : LH) (cs : Cs) (D : Ends) : Prop :=
  ∀ F' ρ' H' σ', Gr F F' → ρ <+: ρ' → Sm K F' ρ' lh cs H' → EnvR K F' ρ' σ' env → match fl with
    | .nx => D.nx σ' H'
    | .br => D.bk σ' H'
    | .ct => D.ct σ' H'
    | .rt v => ∀ u, Vr K F' ρ' u v → D.rt u H'
    | .ex e => ∀ d, Xd K F' e d → W (.ref (He.ga K e.1)) d σ' H'
def SoS (K : PySem.W.Frag) (W : WX) (t : TS) (m : MS) : Prop :=
  ∀ σ env F ρ lh cs H fl env' lh' D, EnvR K F ρ σ env → Sm K F ρ lh cs H → m env lh = some (fl, env', lh') → PoS K W F ρ fl env' lh' cs D → t D σ H
section
variable {K : PySem.W.Frag} {W : WX} {F F' : Hp} {ρ ρ' : List Addr} {lh lh' : LH} {cs : Cs} {H H' : Hp}
theorem PoE.up {α υ : Type} {R : Hp → List Addr → υ → α → Prop} {σ : St} {r : Rs α} {Q : υ → Hp → Prop} (g : Gr F F') (p : ρ <+: ρ') (h : PoE R K W F ρ σ r lh cs Q) : PoE R K W F' ρ' σ r lh cs Q := fun F1 ρ1 H1 g1 p1 s => h F1 ρ1 H1 (g.tr g1) (p.trans p1) s
theorem PoS.up {fl : Fw} {env : Env} {D : Ends} (g : Gr F F') (p : ρ <+: ρ') (h : PoS K W F ρ fl env lh cs D) : PoS K W F' ρ' fl env lh cs D := fun F1 ρ1 H1 σ1 g1 p1 s e => h F1 ρ1 H1 σ1 (g.tr g1) (p.trans p1) s e
theorem mB_some {α β : Type} {m : MR α} {k : α → LH → MR β} {r : Rs β} (h : mB m k = some (r, lh)) : (∃ v lh1, m = some (.ok v, lh1) ∧ k v lh1 = some (r, lh)) ∨ ∃ e, m = some (.ex e, lh) ∧ r = .ex e := by
  unfold mB at h
  split at h
  · exact .inl ⟨_, _, rfl, h⟩
  · cases h; exact .inr ⟨_, rfl, rfl⟩
  · cases h
/-- a step, then another one -/
theorem SoG.bind {α β υ ω : Type} {R : Hp → List Addr → υ → α → Prop} {S : Hp → List Addr → ω → β → Prop} {t : St → Hp → (υ → Hp → Prop) → Prop} {m : Env → LH → MR α} {k : α → LH → MR β} {σ : St} {env : Env} {r : Rs β} {Q : ω → Hp → Prop} {Q1 : υ → Hp → Prop}
    (h : SoG R K W t m) (he : EnvR K F ρ σ env) (s : Sm K F ρ lh cs H) (e : mB (m env lh) k = some (r, lh')) (q : PoE S K W F ρ σ r lh' cs Q)
    (n : ∀ v lh1 F1 ρ1 H1 u, k v lh1 = some (r, lh') → Gr F F1 → ρ <+: ρ1 → Sm K F1 ρ1 lh1 cs H1 → R F1 ρ1 u v → Q1 u H1) : t σ H Q1 := by
  rcases mB_some e with ⟨v, lh1, e1, e2⟩ | ⟨x, e1, rfl⟩
  · exact h σ env F ρ lh cs H _ _ _ he s e1 fun F1 ρ1 H1 g1 p1 s1 => ⟨fun v' u z hr => by cases z; exact n _ lh1 F1 ρ1 H1 u e2 g1 p1 s1 hr, fun _ _ z => nomatch z⟩
  · exact h σ env F ρ lh cs H _ _ _ he s e1 fun F1 ρ1 H1 g1 p1 s1 => ⟨(fun _ _ z => nomatch z), fun e d z hx => by cases z; exact (q F1 ρ1 H1 g1 p1 s1).2 _ d rfl hx⟩
end
end Bw

namespace Bw
open PySem L2
/-! judgements by mirrors -/
def tG {α υ : Type} (R : Hp → List Addr → υ → α → Prop) (K : PySem.W.Frag) (W : WX) (m : Env → LH → MR α) : St → Hp → (υ → Hp → Prop) → Prop := fun σ H Q =>
  ∃ env F ρ lh cs r lh', EnvR K F ρ σ env ∧ Sm K F ρ lh cs H ∧ m env lh = some (r, lh') ∧ PoE R K W F ρ σ r lh' cs Q
def tGS (K : PySem.W.Frag) (W : WX) (m : MS) : TS := fun D σ H =>
  ∃ env F ρ lh cs fl env' lh', EnvR K F ρ σ env ∧ Sm K F ρ lh cs H ∧ m env lh = some (fl, env', lh') ∧ PoS K W F ρ fl env' lh' cs D
def UE (X : Cx) (W : WX) (e : Expr) (m : ME) : Prop := PE X e (tG (rV X.K) X.K W m)
def UT (X : Cx) (W : WX) (e : Expr) (m : MT) : Prop := PT X e (tG rBo X.K W m)
def UA (X : Cx) (W : WX) (es : List Expr) (m : MA) : Prop := PA X es (tG (rVs X.K) X.K W m)
def US (X : Cx) (W : WX) (st : Stmt) (m : MS) : Prop := PS X st (tGS X.K W m)
def UB (X : Cx) (W : WX) (sts : List Stmt) (m : MS) : Prop := PSs X sts (tGS X.K W m)
section
variable {X : Cx} {W : WX} {K : PySem.W.Frag}
theorem sog {α υ : Type} {R : Hp → List Addr → υ → α → Prop} {m : Env → LH → MR α} : SoG R K W (tG R K W m) m := fun _ env F ρ lh cs _ r lh' _ he s e q => ⟨env, F, ρ, lh, cs, r, lh', he, s, e, q⟩
theorem sos {m : MS} : SoS K W (tGS K W m) m := fun _ env F ρ lh cs _ fl env' lh' _ he s e q => ⟨env, F, ρ, lh, cs, fl, env', lh', he, s, e, q⟩
theorem ue_of {e : Expr} {t : TE} {m : ME} (h : PE X e t) (k : SoE X.K W t m) : UE X W e m := ⟨fun pins s σ H Q I ⟨env, F, ρ, lh, cs, r, lh', he, sm, e, q⟩ => h.run pins s σ H Q I (k σ env F ρ lh cs H r lh' Q he sm e q)⟩
theorem ut_of {e : Expr} {t : TT} {m : MT} (h : PT X e t) (k : SoT X.K W t m) : UT X W e m := ⟨fun pins s σ H Q I ⟨env, F, ρ, lh, cs, r, lh', he, sm, e, q⟩ => h.run pins s σ H Q I (k σ env F ρ lh cs H r lh' Q he sm e q)⟩
theorem ua_of {e : List Expr} {t : TA} {m : MA} (h : PA X e t) (k : SoA X.K W t m) : UA X W e m := ⟨fun pos pins s σ H Q I ⟨env, F, ρ, lh, cs, r, lh', he, sm, e, q⟩ => h.run pos pins s σ H Q I (k σ env F ρ lh cs H r lh' Q he sm e q)⟩
theorem us_of {e : Stmt} {t : TS} {m : MS} (h : PS X e t) (k : SoS X.K W t m) : US X W e m := ⟨fun pins s σ H D I ⟨env, F, ρ, lh, cs, fl, env', lh', he, sm, e, q⟩ => h.run pins s σ H D I (k σ env F ρ lh cs H fl env' lh' D he sm e q)⟩
theorem ub_of {e : List Stmt} {t : TS} {m : MS} (h : PSs X e t) (k : SoS X.K W t m) : UB X W e m := ⟨fun pins s σ H D I ⟨env, F, ρ, lh, cs, fl, env', lh', he, sm, e, q⟩ => h.run pins s σ H D I (k σ env F ρ lh cs H fl env' lh' D he sm e q)⟩
end
/-- the end of a step -/
theorem PoE.fin {α υ : Type} {R : Hp → List Addr → υ → α → Prop} {K : PySem.W.Frag} {W : WX} {F : Hp} {ρ : List Addr} {lh : LH} {cs : Cs} {H : Hp} {σ : St} {v : α} {u : υ} {Q : υ → Hp → Prop} (q : PoE R K W F ρ σ (.ok v) lh cs Q) (s : Sm K F ρ lh cs H) (h : R F ρ u v) : Q u H := (q F ρ H .rfl pre_rfl s).1 v u rfl h
/-- what a value's taker wants -/
def Fi (K : PySem.W.Frag) (F : Hp) (ρ : List Addr) (lh : LH) (cs : Cs) (z : MV) (Q : VK) : Prop := ∀ F' ρ' H' v, Gr F F' → ρ <+: ρ' → Sm K F' ρ' lh cs H' → Vr K F' ρ' v z → Q v H'
theorem Fi.d {K : PySem.W.Frag} {F : Hp} {ρ : List Addr} {lh : LH} {cs : Cs} {H : Hp} {z : MV} {v : V} {Q : VK} (q : Fi K F ρ lh cs z Q) (s : Sm K F ρ lh cs H) (h : Vr K F ρ v z) : Q v H := q F ρ H v .rfl pre_rfl s h
theorem PoE.toFin {K : PySem.W.Frag} {W : WX} {F F1 : Hp} {ρ ρ1 : List Addr} {lh : LH} {cs : Cs} {σ : St} {z : MV} {Q : VK} (q : PoE (rV K) K W F ρ σ (.ok z) lh cs Q) (g : Gr F F1) (p : ρ <+: ρ1) : Fi K F1 ρ1 lh cs z Q := fun F' ρ' H' v g' p' s h => (q F' ρ' H' (g.tr g') (p.trans p') s).1 z v rfl h
abbrev G1 := MV → LH → Option (MV × LH)
abbrev G2 := MV → MV → LH → Option (MV × LH)
abbrev GN := List MV → LH → Option (MV × LH)
def Rel1 (K : PySem.W.Frag) (r : V → Hp → VK → Prop) (g : G1) : Prop := ∀ F ρ lh cs H x a z lh' Q, Sm K F ρ lh cs H → Vr K F ρ x a → g a lh = some (z, lh') → Fi K F ρ lh' cs z Q → r x H Q
def Rel2 (K : PySem.W.Frag) (r : R2) (g : G2) : Prop := ∀ F ρ lh cs H x y a b z lh' Q, Sm K F ρ lh cs H → Vr K F ρ x a → Vr K F ρ y b → g a b lh = some (z, lh') → Fi K F ρ lh' cs z Q → r x y H Q
def RelN (K : PySem.W.Frag) (r : List V → Hp → VK → Prop) (g : GN) : Prop := ∀ F ρ lh cs H xs as z lh' Q, Sm K F ρ lh cs H → Vrs K F ρ xs as → g as lh = some (z, lh') → Fi K F ρ lh' cs z Q → r xs H Q
def RelM (K : PySem.W.Frag) (r : V → List V → Hp → VK → Prop) (g : MV → GN) : Prop := ∀ F ρ lh cs H x a xs as z lh' Q, Sm K F ρ lh cs H → Vr K F ρ x a → Vrs K F ρ xs as → g a as lh = some (z, lh') → Fi K F ρ lh' cs z Q → r x xs H Q
def alt1 (f g : G1) : G1 := fun a lh => match f a lh with | some z => some z | none => g a lh
def alt2 (f g : G2) : G2 := fun a b lh => match f a b lh with | some z => some z | none => g a b lh
def altN (f g : GN) : GN := fun as lh => match f as lh with | some z => some z | none => g as lh
def altM (f g : MV → GN) : MV → GN := fun a as lh => match f a as lh with | some z => some z | none => g a as lh
theorem Rel1.or {K : PySem.W.Frag} {r r' : V → Hp → VK → Prop} {f g : G1} (h : Rel1 K r f) (h' : Rel1 K r' g) : Rel1 K (fun x H Q => r x H Q ∨ r' x H Q) (alt1 f g) := fun F ρ lh cs H x a z lh' Q s hx e q => by
  unfold alt1 at e
  cases k : f a lh with
  | some w => rw [k] at e; cases e; exact .inl (h F ρ lh cs H x a _ _ Q s hx k q)
  | none => rw [k] at e; exact .inr (h' F ρ lh cs H x a _ _ Q s hx e q)
theorem Rel2.or {K : PySem.W.Frag} {r r' : R2} {f g : G2} (h : Rel2 K r f) (h' : Rel2 K r' g) : Rel2 K (fun x y H Q => r x y H Q ∨ r' x y H Q) (alt2 f g) := fun F ρ lh cs H x y a b z lh' Q s hx hy e q => by
  unfold alt2 at e
  cases k : f a b lh with
  | some w => rw [k] at e; cases e; exact .inl (h F ρ lh cs H x y a b _ _ Q s hx hy k q)
  | none => rw [k] at e; exact .inr (h' F ρ lh cs H x y a b _ _ Q s hx hy e q)
theorem RelN.or {K : PySem.W.Frag} {r r' : List V → Hp → VK → Prop} {f g : GN} (h : RelN K r f) (h' : RelN K r' g) : RelN K (fun xs H Q => r xs H Q ∨ r' xs H Q) (altN f g) := fun F ρ lh cs H xs as z lh' Q s hx e q => by
  unfold altN at e
  cases k : f as lh with
  | some w => rw [k] at e; cases e; exact .inl (h F ρ lh cs H xs as _ _ Q s hx k q)
  | none => rw [k] at e; exact .inr (h' F ρ lh cs H xs as _ _ Q s hx e q)
theorem RelM.or {K : PySem.W.Frag} {r r' : V → List V → Hp → VK → Prop} {f g : MV → GN} (h : RelM K r f) (h' : RelM K r' g) : RelM K (fun x xs H Q => r x xs H Q ∨ r' x xs H Q) (altM f g) := fun F ρ lh cs H x a xs as z lh' Q s hx hxs e q => by
  unfold altM at e
  cases k : f a as lh with
  | some w => rw [k] at e; cases e; exact .inl (h F ρ lh cs H x a xs as _ _ Q s hx hxs k q)
  | none => rw [k] at e; exact .inr (h' F ρ lh cs H x a xs as _ _ Q s hx hxs e q)
theorem CallR.or {X : Cx} {f : Value} {r r' : List V → Hp → VK → Prop} (h : CallR X f r) (h' : CallR X f r') : CallR X f (fun xs H Q => r xs H Q ∨ r' xs H Q) := by
  intro pins s σ H xs us Q I rs q
  rcases q with q | q
  · exact h pins s σ H xs us Q I rs q
  · exact h' pins s σ H xs us Q I rs q
/-! mirrors -/
def mO (o : Option (MV × LH)) : MR MV := match o with
  | some (z, lh) => some (.ok z, lh)
  | none => none
theorem mO_some {o : Option (MV × LH)} {r : Rs MV} {lh : LH} (h : mO o = some (r, lh)) : ∃ z, o = some (z, lh) ∧ r = .ok z := by
  unfold mO at h
  split at h
  · cases h; exact ⟨_, rfl, rfl⟩
  · cases h
def mVar (i : Nat) : ME := fun env lh => match env[i]? with
  | some (some v) => some (.ok v, lh)
  | _ => none
def mC (d : PyData) : ME := fun _ lh => some (.ok (.d d), lh)
def mOp1 (g : G1) (a : ME) : ME := fun env lh => mB (a env lh) fun x lh1 => mO (g x lh1)
def mOp2 (g : G2) (a b : ME) : ME := fun env lh => mB (a env lh) fun x lh1 => mB (b env lh1) fun y lh2 => mO (g x y lh2)
def mNil : MA := fun _ lh => some (.ok [], lh)
def mCons (a : ME) (t : MA) : MA := fun env lh => mB (a env lh) fun x lh1 => mB (t env lh1) fun xs lh2 => some (.ok (x :: xs), lh2)
def mCB (g : GN) (t : MA) : ME := fun env lh => mB (t env lh) fun xs lh1 => mO (g xs lh1)
def mMt (g : MV → GN) (o : ME) (t : MA) : ME := fun env lh => mB (o env lh) fun x lh1 => mB (t env lh1) fun xs lh2 => mO (g x xs lh2)
def mCall (f : List MV → LH → MR MV) (t : MA) : ME := fun env lh => mB (t env lh) f
def mMeth (f : List MV → LH → MR MV) (o : ME) (t : MA) : ME := fun env lh => mB (o env lh) fun x lh1 => mB (t env lh1) fun xs lh2 => f (x :: xs) lh2
@[simp] def vB : MV → Option Bool
  | .d (.bool b) => some b
  | _ => none
@[simp] def vI : MV → Option Int
  | .d (.int i) => some i
  | _ => none
@[simp] def vS : MV → Option Str
  | .d (.str i) => some i
  | _ => none
def mRB (o : Option Bool) (lh : LH) : MR Bool := match o with
  | some b => some (.ok b, lh)
  | none => none
def mTest (a : ME) : MT := fun env lh => mB (a env lh) fun x lh1 => mRB (vB x) lh1
def mAndV (a b : ME) : ME := fun env lh => mB (a env lh) fun x lh1 => match vB x with
  | some true => b env lh1
  | some false => some (.ok (.d (.bool false)), lh1)
  | none => none
def mOrV (a b : ME) : ME := fun env lh => mB (a env lh) fun x lh1 => match vB x with
  | some false => b env lh1
  | some true => some (.ok (.d (.bool true)), lh1)
  | none => none
def mNotV (a : ME) : ME := fun env lh => mB (a env lh) fun x lh1 => match vB x with
  | some c => some (.ok (.d (.bool (!c))), lh1)
  | none => none
def mIfE (c : MT) (a b : ME) : ME := fun env lh => mB (c env lh) fun k lh1 => if k = true then a env lh1 else b env lh1
section
variable {K : PySem.W.Frag} {W : WX} {ta tb te to : TE} {ma mb mo : ME} {as : TA} {mas : MA} {F : Hp} {ρ : List Addr} {u : V}
theorem vB_vr {x : MV} {b : Bool} (e : vB x = some b) (h : Vr K F ρ u x) : u = .bl b := by
  unfold vB at e
  split at e
  · cases e; exact Dt.toBl h
  · cases e
theorem vI_vr {x : MV} {i : Int} (e : vI x = some i) (h : Vr K F ρ u x) : u = .int i := by
  unfold vI at e
  split at e
  · cases e; exact Dt.toInt h
  · cases e
theorem vS_vr {x : MV} {i : Str} (e : vS x = some i) (h : Vr K F ρ u x) : u = .str i := by
  unfold vS at e
  split at e
  · cases e; exact Dt.toStr h
  · cases e
theorem env_get {σ : St} {env : Env} : ∀ {i : Nat} {x : MV}, EnvR K F ρ σ env → env[i]? = some (some x) → ∃ v, σ[i]? = some (some v) ∧ Vr K F ρ v x := by
  intro i
  intro x h
  induction h generalizing i with
  | nil => intro e; simp at e
  | cons r t ih =>
    rename_i a b l1 l2
    intro e
    cases i with
    | zero =>
      simp at e
      subst e
      cases a with
      | none => exact False.elim r
      | some v => exact ⟨v, by simp, r⟩
    | succ i =>
      obtain ⟨v, h1, h2⟩ := ih (i := i) (by simpa using e)
      exact ⟨v, by simpa using h1, h2⟩
theorem env_set {v : V} {x : MV} (h : Vr K F ρ v x) : ∀ {σ : St} {env : Env} (i : Nat), EnvR K F ρ σ env → EnvR K F ρ (σ.set i (some v)) (env.set i (some x))
  | _, _, _, .nil => .nil
  | _, _, 0, .cons _ t => .cons h t
  | _, _, i + 1, .cons q t => .cons q (env_set h i t)
theorem env_del : ∀ {σ : St} {env : Env} (i : Nat), EnvR K F ρ σ env → EnvR K F ρ (σ.set i none) (env.set i none)
  | _, _, _, .nil => .nil
  | _, _, 0, .cons _ t => .cons True.intro t
  | _, _, i + 1, .cons q t => .cons q (env_del i t)
theorem so_var {i : Nat} : SoE K W (tVar i) (mVar i) := fun σ env F ρ lh cs H r lh' Q he s e q => by
  unfold mVar at e
  split at e
  · rename_i v hv
    cases e
    obtain ⟨w, h1, h2⟩ := env_get he hv
    exact ⟨w, h1, q.fin s h2⟩
  · cases e
theorem so_c {v : V} {d : PyData} (h : ∀ F, Dt K F v d) : SoE K W (tC v) (mC d) := fun σ env F ρ lh cs H r lh' Q he s e q => by
  unfold mC at e
  cases e
  exact q.fin s (h F)
theorem so_op1 {r : V → Hp → VK → Prop} {g : G1} (hr : Rel1 K r g) (ha : SoE K W ta ma) : SoE K W (tUn r ta) (mOp1 g ma) := fun σ env F ρ lh cs H rr lh' Q he s e q => by
  show ta σ H fun x H1 => r x H1 Q
  exact SoG.bind ha he s e q fun x lh1 F1 ρ1 H1 u e1 g1 p1 s1 hx => by
    obtain ⟨z, h1, rfl⟩ := mO_some e1
    exact hr F1 ρ1 lh1 cs H1 u x z _ Q s1 hx h1 (q.toFin g1 p1)
theorem so_op2 {r : R2} {g : G2} (hr : Rel2 K r g) (ha : SoE K W ta ma) (hb : SoE K W tb mb) : SoE K W (tOp r ta tb) (mOp2 g ma mb) := fun σ env F ρ lh cs H rr lh' Q he s e q => by
  show ta σ H fun x H1 => tb σ H1 fun y H2 => r x y H2 Q
  exact SoG.bind ha he s e q fun x lh1 F1 ρ1 H1 u e1 g1 p1 s1 hx => SoG.bind hb (he.up g1 p1) s1 e1 (q.up g1 p1) fun y lh2 F2 ρ2 H2 w e2 g2 p2 s2 hy => by
    obtain ⟨z, h1, rfl⟩ := mO_some e2
    exact hr F2 ρ2 lh2 cs H2 u w x y z _ Q s2 (Vr.up g2 p2 hx) hy h1 (q.toFin (g1.tr g2) (p1.trans p2))
theorem so_nil : SoA K W tNil mNil := fun σ env F ρ lh cs H r lh' Q he s e q => by
  unfold mNil at e; cases e; exact q.fin s .nil
theorem so_cons (ha : SoE K W ta ma) (ht : SoA K W as mas) : SoA K W (tCons ta as) (mCons ma mas) := fun σ env F ρ lh cs H r lh' Q he s e q => by
  show ta σ H fun x H1 => as σ H1 fun xs H2 => Q (x :: xs) H2
  exact SoG.bind ha he s e q fun x lh1 F1 ρ1 H1 u e1 g1 p1 s1 hx => SoG.bind ht (he.up g1 p1) s1 e1 (q.up g1 p1) fun xs lh2 F2 ρ2 H2 us e2 g2 p2 s2 hxs => by
    cases e2
    exact (q F2 ρ2 H2 (g1.tr g2) (p1.trans p2) s2).1 _ (u :: us) rfl (.cons (Vr.up g2 p2 hx) hxs)
theorem so_cb {r : List V → Hp → VK → Prop} {g : GN} (hr : RelN K r g) (ha : SoA K W as mas) : SoE K W (tCB r as) (mCB g mas) := fun σ env F ρ lh cs H rr lh' Q he s e q => by
  show as σ H fun vs H1 => r vs H1 Q
  exact SoG.bind ha he s e q fun x lh1 F1 ρ1 H1 u e1 g1 p1 s1 hx => by
    obtain ⟨z, h1, rfl⟩ := mO_some e1
    exact hr F1 ρ1 lh1 cs H1 u x z _ Q s1 hx h1 (q.toFin g1 p1)
theorem so_test (ha : SoE K W ta ma) : SoT K W (tB ta) (mTest ma) := fun σ env F ρ lh cs H rr lh' Q he s e q => by
  show ta σ H fun x H1 => ∃ c, x = .bl c ∧ Q c H1
  exact SoG.bind ha he s e q fun x lh1 F1 ρ1 H1 u e1 g1 p1 s1 hx => by
    unfold mRB at e1
    split at e1
    · rename_i b hb
      cases e1
      exact ⟨b, vB_vr hb hx, (q F1 ρ1 H1 g1 p1 s1).1 b b rfl rfl⟩
    · cases e1
theorem so_and (ha : SoE K W ta ma) (hb : SoE K W tb mb) : SoE K W (tAndV ta tb) (mAndV ma mb) := fun σ env F ρ lh cs H rr lh' Q he s e q => by
  show ta σ H fun x H1 => ∃ c, x = .bl c ∧ (if c = true then tb σ H1 Q else Q (.bl false) H1)
  exact SoG.bind ha he s e q fun x lh1 F1 ρ1 H1 u e1 g1 p1 s1 hx => by
    split at e1
    · rename_i hb1
      exact ⟨true, vB_vr hb1 hx, hb σ env F1 ρ1 lh1 cs H1 _ _ Q (he.up g1 p1) s1 e1 (q.up g1 p1)⟩
    · rename_i hb1
      cases e1
      exact ⟨false, vB_vr hb1 hx, (q F1 ρ1 H1 g1 p1 s1).1 _ _ rfl (.bl false)⟩
    · cases e1
theorem so_or (ha : SoE K W ta ma) (hb : SoE K W tb mb) : SoE K W (tOrV ta tb) (mOrV ma mb) := fun σ env F ρ lh cs H rr lh' Q he s e q => by
  show ta σ H fun x H1 => ∃ c, x = .bl c ∧ (if c = true then Q (.bl true) H1 else tb σ H1 Q)
  exact SoG.bind ha he s e q fun x lh1 F1 ρ1 H1 u e1 g1 p1 s1 hx => by
    split at e1
    · rename_i hb1
      exact ⟨false, vB_vr hb1 hx, hb σ env F1 ρ1 lh1 cs H1 _ _ Q (he.up g1 p1) s1 e1 (q.up g1 p1)⟩
    · rename_i hb1
      cases e1
      exact ⟨true, vB_vr hb1 hx, (q F1 ρ1 H1 g1 p1 s1).1 _ _ rfl (.bl true)⟩
    · cases e1
theorem so_not (ha : SoE K W ta ma) : SoE K W (tNotV ta) (mNotV ma) := fun σ env F ρ lh cs H rr lh' Q he s e q => by
  show ta σ H fun x H1 => ∃ c, x = .bl c ∧ Q (.bl (!c)) H1
  exact SoG.bind ha he s e q fun x lh1 F1 ρ1 H1 u e1 g1 p1 s1 hx => by
    split at e1
    · rename_i c hb1
      cases e1
      exact ⟨c, vB_vr hb1 hx, (q F1 ρ1 H1 g1 p1 s1).1 _ _ rfl (.bl _)⟩
    · cases e1
theorem so_ife {tc : TT} {mc : MT} (hc : SoT K W tc mc) (ha : SoE K W ta ma) (hb : SoE K W tb mb) : SoE K W (tIf tc ta tb) (mIfE mc ma mb) := fun σ env F ρ lh cs H rr lh' Q he s e q => by
  show tc σ H fun c H1 => if c = true then ta σ H1 Q else tb σ H1 Q
  exact SoG.bind hc he s e q fun k lh1 F1 ρ1 H1 u e1 g1 p1 s1 hx => by
    cases hx
    split at e1
    · rw [if_pos ‹_›]; exact ha σ env F1 ρ1 lh1 cs H1 _ _ Q (he.up g1 p1) s1 e1 (q.up g1 p1)
    · rw [if_neg ‹_›]; exact hb σ env F1 ρ1 lh1 cs H1 _ _ Q (he.up g1 p1) s1 e1 (q.up g1 p1)
end
/-! a def's promise -/
def spU (K : PySem.W.Frag) (n : Nat) (f : List MV → LH → MR MV) : Sp := fun vs H Q E => ∃ F ρ lh cs xs r lh', xs.length = n ∧ Sm K F ρ lh cs H ∧ Vrs K F ρ vs xs ∧ f xs lh = some (r, lh') ∧
  ∀ F' ρ' H', Gr F F' → ρ <+: ρ' → Sm K F' ρ' lh' cs H' → (∀ z v, r = .ok z → Vr K F' ρ' v z → Q v H') ∧ ∀ e d, r = .ex e → Xd K F' e d → E (.ref (He.ga K e.1)) d H'
section
variable {K : PySem.W.Frag} {W : WX} {ta tb te to : TE} {ma mb mo : ME} {as : TA} {mas : MA}
theorem vrs_len {F : Hp} {ρ : List Addr} {vs : List V} {xs : List MV} (h : Vrs K F ρ vs xs) : vs.length = xs.length := Paired.length h
def lenIs {α : Type} (n : Nat) (f : List MV → LH → MR α) : List MV → LH → MR α := fun xs lh => if xs.length = n then f xs lh else none
theorem lenIs_some {α : Type} {n : Nat} {f : List MV → LH → MR α} {xs : List MV} {lh : LH} {r : Rs α × LH} (h : lenIs n f xs lh = some r) : xs.length = n ∧ f xs lh = some r := by
  unfold lenIs at h; split at h
  · exact ⟨‹_›, h⟩
  · cases h
theorem so_call {n : Nat} {f : List MV → LH → MR MV} (hf : ∀ xs lh r, f xs lh = some r → xs.length = n) (ha : SoA K W as mas) : SoE K W (tCallS (spU K n f) (WE W) as) (mCall f mas) := fun σ env F ρ lh cs H rr lh' Q he s e q => by
  show as σ H fun vs H1 => spU K n f vs H1 Q (WE W σ)
  exact SoG.bind ha he s e q fun xs lh1 F1 ρ1 H1 us e1 g1 p1 s1 hx => ⟨F1, ρ1, lh1, cs, xs, rr, lh', hf _ _ _ e1, s1, hx, e1, fun F2 ρ2 H2 g2 p2 s2 => ⟨fun z v hz hv => (q F2 ρ2 H2 (g1.tr g2) (p1.trans p2) s2).1 z v hz hv, fun e d hz hd => (q F2 ρ2 H2 (g1.tr g2) (p1.trans p2) s2).2 e d hz hd⟩⟩
end
end Bw

namespace Bw
open PySem L2
/-! what a value holds, to the ground -/
def oAll {α β : Type} (f : α → Option β) : List α → Option (List β)
  | [] => some []
  | x :: xs => match f x with
    | none => none
    | some y => (oAll f xs).map (y :: ·)
def rd : Nat → LH → MV → Option PyData
  | _, _, .d x => some x
  | n + 1, lh, .r i => match lh[i]? with
    | some (.lst xs) => (oAll (rd n lh) xs).map .list
    | some (.tup xs) => (oAll (rd n lh) xs).map .tuple
    | some (.dct _) => some (.dict [])
    | _ => none
  | _, _, _ => none
def rdA (lh : LH) (x : MV) : Option PyData := rd 8 lh x
@[simp] theorem rd_d (n : Nat) (lh : LH) (x : PyData) : rd n lh (.d x) = some x := by cases n <;> rfl
@[simp] theorem rdA_d (lh : LH) (x : PyData) : rdA lh (.d x) = some x := rfl
@[simp] theorem rdA_r (lh : LH) (i : Nat) : rdA lh (.r i) = match lh[i]? with
    | some (.lst xs) => (oAll (rd 7 lh) xs).map .list
    | some (.tup xs) => (oAll (rd 7 lh) xs).map .tuple
    | some (.dct _) => some (.dict [])
    | _ => none := rfl
@[simp] theorem oAll_d (n : Nat) (lh : LH) : ∀ ds : List PyData, oAll (rd n lh) (ds.map MV.d) = some ds
  | [] => rfl
  | d :: ds => by rw [List.map_cons, oAll, rd_d, oAll_d n lh ds]; rfl
theorem oAll_len {α β : Type} {f : α → Option β} : ∀ {xs : List α} {ys : List β}, oAll f xs = some ys → ys.length = xs.length
  | [], _, h => by cases h; rfl
  | x :: xs, ys, h => by
    unfold oAll at h
    split at h
    · cases h
    · obtain ⟨zs, h1, rfl⟩ := Option.map_eq_some_iff.mp h
      simp [oAll_len h1]
section
variable {K : PySem.W.Frag} {F : Hp} {ρ : List Addr} {lh : LH} {cs : Cs} {H : Hp}
theorem oAll_ok {n : Nat} (ih : ∀ {v : V} {x : MV} {d : PyData}, Vr K F ρ v x → rd n lh x = some d → Dt K H v d) : ∀ {vs : List V} {xs : List MV} {ds : List PyData}, Vrs K F ρ vs xs → oAll (rd n lh) xs = some ds → Dts K H vs ds
  | _, _, _, .nil, h => by cases h; exact .nil
  | _, _, ds, .cons r t, h => by
    unfold oAll at h
    split at h
    · cases h
    · rename_i y hy
      obtain ⟨zs, h1, rfl⟩ := Option.map_eq_some_iff.mp h
      exact .cons (ih r hy) (oAll_ok ih t h1)
theorem rd_ok (s : Sm K F ρ lh cs H) : ∀ (n : Nat) {v : V} {x : MV} {d : PyData}, Vr K F ρ v x → rd n lh x = some d → Dt K H v d
  | n, v, .d x, d, h, e => by rw [rd_d] at e; cases e; exact Dt.gr s.fr h
  | 0, v, .r i, d, h, e => by cases e
  | n + 1, v, .r i, d, h, e => by
    unfold rd at e
    obtain ⟨a, h1, rfl⟩ := h
    split at e
    · rename_i xs hx
      obtain ⟨ds, h2, rfl⟩ := Option.map_eq_some_iff.mp e
      obtain ⟨a', h3, us, h4, h5⟩ := s.at hx
      rw [h1] at h3; cases h3
      exact .lst (SqL.of h4) (oAll_ok (rd_ok s n) h5 h2)
    · rename_i xs hx
      obtain ⟨ds, h2, rfl⟩ := Option.map_eq_some_iff.mp e
      obtain ⟨a', h3, us, h4, h5⟩ := s.at hx
      rw [h1] at h3; cases h3
      exact .tup (SqT.of h4) (oAll_ok (rd_ok s n) h5 h2)
    · rename_i xs hx
      cases e
      obtain ⟨a', h3, us, h4, h5⟩ := s.at hx
      rw [h1] at h3; cases h3
      exact .dct h4
    · cases e
  | n, v, .x e', d, h, e => by cases n <;> cases e
theorem rds_ok (s : Sm K F ρ lh cs H) {vs : List V} {xs : List MV} {ds : List PyData} (h : Vrs K F ρ vs xs) (e : oAll (rdA lh) xs = some ds) : Dts K H vs ds := oAll_ok (n := 8) (rd_ok s 8) h e
theorem Sm.grow {H' : Hp} (s : Sm K F ρ lh cs H) (g : Gr H H') : Sm K F ρ lh cs H' where
  fr := s.fr.tr g
  len := s.len
  sep := s.sep
  nd := s.nd
  has := fun i o a h1 h2 => by
    obtain ⟨u, hu⟩ := (s.has i o a h1 h2).some s.fr
    exact (s.has i o a h1 h2).up .rfl pre_rfl ((g a u hu).trans hu.symm)
  cst := fun c hc => ⟨(s.cst c hc).1, (s.cst c hc).2.1, g _ _ (s.cst c hc).2.2⟩
  cnd := s.cnd
theorem sta_self : Sta H [] H := ⟨Gr.rfl, fun _ h => absurd h (by simp), fun _ h => absurd h (by simp), List.nodup_nil⟩
def sc : PyData → Bool
  | .none => true
  | .bool _ => true
  | .int _ => true
  | .str _ => true
  | _ => false
theorem sc_dt {F' : Hp} {v : V} {d : PyData} (h : sc d = true) (k : Dt K F v d) : Dt K F' v d := by
  cases k with
  | non => exact .non
  | bl b => exact .bl b
  | int i => exact .int i
  | str x => exact .str x
  | lst _ _ => cases h
  | tup _ _ => cases h
  | dct _ => cases h
theorem Fi.sc {lh : LH} {H2 : Hp} {F2 : Hp} {d : PyData} {v : V} {Q : VK} (q : Fi K F ρ lh cs (.d d) Q) (s : Sm K F ρ lh cs H) (g : Gr H H2) (hs : sc d = true) (hv : Dt K F2 v d) : Q v H2 := q.d (s.grow g) (sc_dt hs hv)
/-! pure steps -/
def ret (o : Option PyData) (lh : LH) : Option (MV × LH) := match o with
  | some z => if sc z = true then some (.d z, lh) else none
  | none => none
def pu1 (f : PyData → Option PyData) : G1 := fun a lh => match rdA lh a with
  | some x => ret (f x) lh
  | none => none
def pu2 (f : PyData → PyData → Option PyData) : G2 := fun a b lh => match rdA lh a, rdA lh b with
  | some x, some y => ret (f x y) lh
  | _, _ => none
def puN (f : List PyData → Option PyData) : GN := fun as lh => match oAll (rdA lh) as with
  | some xs => ret (f xs) lh
  | none => none
def puM (f : PyData → List PyData → Option PyData) : MV → GN := fun a as lh => match rdA lh a, oAll (rdA lh) as with
  | some x, some xs => ret (f x xs) lh
  | _, _ => none
theorem ret_some {o : Option PyData} {lh lh' : LH} {z : MV} (h : ret o lh = some (z, lh')) : ∃ d, o = some d ∧ sc d = true ∧ z = .d d ∧ lh' = lh := by
  unfold ret at h
  split at h
  · split at h
    · cases h; exact ⟨_, rfl, ‹_›, rfl, rfl⟩
    · cases h
  · cases h
end
abbrev Dv1 (K : PySem.W.Frag) (r : V → Hp → VK → Prop) (f : PyData → Option PyData) : Prop := ∀ dx dz, f dx = some dz → ∀ ta σ F cs, EvD K ta σ F cs dx cs → EvD K (tUn r ta) σ F cs dz cs
abbrev Dv2 (K : PySem.W.Frag) (r : R2) (f : PyData → PyData → Option PyData) : Prop := ∀ dx dy dz, f dx dy = some dz → ∀ ta tb σ F cs, EvD K ta σ F cs dx cs → EvD K tb σ F cs dy cs → EvD K (tOp r ta tb) σ F cs dz cs
abbrev DvN (K : PySem.W.Frag) (r : List V → Hp → VK → Prop) (f : List PyData → Option PyData) : Prop := ∀ ds dz, f ds = some dz → ∀ ta σ F cs, EvDs K ta σ F cs ds cs → EvD K (tCB r ta) σ F cs dz cs
section
variable {K : PySem.W.Frag}
theorem dc {F : Hp} {cs : Cs} {σ : St} {v : V} {d : PyData} (h : Dt K F v d) : EvD K (tC v) σ F cs d cs := fun F1 H1 g s Q q => q v F1 H1 .rfl s (h.gr g)
def tAs (vs : List V) : TA := fun _ H Q => Q vs H
theorem dcs {F : Hp} {cs : Cs} {σ : St} {v : List V} {d : List PyData} (h : Dts K F v d) : EvDs K (tAs v) σ F cs d cs := fun F1 H1 g s Q q => q v F1 H1 .rfl s (h.gr g)
theorem rel1_of {r : V → Hp → VK → Prop} {f : PyData → Option PyData} (h : Dv1 K r f) : Rel1 K r (pu1 f) := fun F ρ lh cs H x a z lh' Q s hx e q => by
  unfold pu1 at e
  split at e
  · rename_i dx hdx
    obtain ⟨dz, h1, h2, rfl, rfl⟩ := ret_some e
    exact h dx dz h1 (tC x) [] H [] (dc (rd_ok s 8 hx hdx)) H H .rfl sta_self Q fun v F2 H2 g s2 hv => q.sc s (g.tr s2.fr) h2 hv
  · cases e
theorem rel2_of {r : R2} {f : PyData → PyData → Option PyData} (h : Dv2 K r f) : Rel2 K r (pu2 f) := fun F ρ lh cs H x y a b z lh' Q s hx hy e q => by
  unfold pu2 at e
  split at e
  · rename_i dx dy hdx hdy
    obtain ⟨dz, h1, h2, rfl, rfl⟩ := ret_some e
    exact h dx dy dz h1 (tC x) (tC y) [] H [] (dc (rd_ok s 8 hx hdx)) (dc (rd_ok s 8 hy hdy)) H H .rfl sta_self Q fun v F2 H2 g s2 hv => q.sc s (g.tr s2.fr) h2 hv
  · cases e
theorem relN_of {r : List V → Hp → VK → Prop} {f : List PyData → Option PyData} (h : DvN K r f) : RelN K r (puN f) := fun F ρ lh cs H x a z lh' Q s hx e q => by
  unfold puN at e
  split at e
  · rename_i dx hdx
    obtain ⟨dz, h1, h2, rfl, rfl⟩ := ret_some e
    exact h dx dz h1 (tAs x) [] H [] (dcs (rds_ok s hx hdx)) H H .rfl sta_self Q fun v F2 H2 g s2 hv => q.sc s (g.tr s2.fr) h2 hv
  · cases e
/-! numbers and texts -/
def addP : PyData → PyData → Option PyData
  | .int a, .int b => some (.int (a + b))
  | _, _ => none
def catP : PyData → PyData → Option PyData
  | .str a, .str b => (scatM a b).map .str
  | _, _ => none
def subP : PyData → PyData → Option PyData
  | .int a, .int b => some (.int (a - b))
  | _, _ => none
def mulP : PyData → PyData → Option PyData
  | .int a, .int b => (mulM a b).map .int
  | _, _ => none
def srepP : PyData → PyData → Option PyData
  | .str a, .int b => (srepM a b).map .str
  | _, _ => none
def modP : PyData → PyData → Option PyData
  | .int a, .int b => (modM a b).map .int
  | _, _ => none
def fdivP : PyData → PyData → Option PyData
  | .int a, .int b => (fdivM a b).map .int
  | _, _ => none
def powP : PyData → PyData → Option PyData
  | .int a, .int b => (powM a b).map .int
  | _, _ => none
def ltP : PyData → PyData → Option PyData
  | .int a, .int b => some (.bool (decide (a < b)))
  | _, _ => none
def leP : PyData → PyData → Option PyData
  | .int a, .int b => some (.bool (decide (a ≤ b)))
  | _, _ => none
def gtP : PyData → PyData → Option PyData
  | .int a, .int b => some (.bool (decide (b < a)))
  | _, _ => none
def geP : PyData → PyData → Option PyData
  | .int a, .int b => some (.bool (decide (b ≤ a)))
  | _, _ => none
def negP : PyData → Option PyData
  | .int a => some (.int (-a))
  | _ => none
/-- == of two of one flat kind -/
def eqSP : PyData → PyData → Option PyData
  | .int a, .int b => some (.bool (decide (a = b)))
  | .str a, .str b => some (.bool (decide (a = b)))
  | .bool a, .bool b => some (.bool (decide (a = b)))
  | .none, .int _ => some (.bool false)
  | .int _, .none => some (.bool false)
  | .none, .none => some (.bool true)
  | .none, .str _ => some (.bool false)
  | .str _, .none => some (.bool false)
  | _, _ => none
def eqDP (x y : PyData) : Option PyData := if SeqAt.shaped x = true ∧ SeqAt.shaped y = true then some (.bool (PyData.eqv x y)) else none
def notP : PyData → PyData
  | .bool b => .bool (!b)
  | d => d
theorem dv_add : Dv2 K (rI0 fun i j => .int (i + j)) addP := fun dx dy dz e ta tb σ F cs h1 h2 => by
  unfold addP at e; split at e
  · cases e; exact d_add h1 h2
  · cases e
theorem dv_sub : Dv2 K (rI0 fun i j => .int (i - j)) subP := fun dx dy dz e ta tb σ F cs h1 h2 => by
  unfold subP at e; split at e
  · cases e; exact d_sub h1 h2
  · cases e
theorem dv_cat : Dv2 K (fun x y H Q => ∃ i j, x = .str i ∧ y = .str j ∧ i.length + j.length ≤ sizeLine ∧ Q (.str (i ++ j)) H) catP := fun dx dy dz e ta tb σ F cs h1 h2 => by
  unfold catP at e; split at e
  · obtain ⟨z, h3, rfl⟩ := Option.map_eq_some_iff.mp e; exact d_scat h1 h2 h3
  · cases e
theorem dv_mul : Dv2 K (rI CMul fun i j => .int (i * j)) mulP := fun dx dy dz e ta tb σ F cs h1 h2 => by
  unfold mulP at e; split at e
  · obtain ⟨z, h3, rfl⟩ := Option.map_eq_some_iff.mp e; exact d_mul h1 h2 h3
  · cases e
theorem dv_mod : Dv2 K (rI (fun _ j => 0 < j) fun i j => .int (i % j)) modP := fun dx dy dz e ta tb σ F cs h1 h2 => by
  unfold modP at e; split at e
  · obtain ⟨z, h3, rfl⟩ := Option.map_eq_some_iff.mp e; exact d_mod h1 h2 h3
  · cases e
theorem dv_fdiv : Dv2 K (rI CDiv fun i j => .int (i / j)) fdivP := fun dx dy dz e ta tb σ F cs h1 h2 => by
  unfold fdivP at e; split at e
  · obtain ⟨z, h3, rfl⟩ := Option.map_eq_some_iff.mp e; exact d_fdiv h1 h2 h3
  · cases e
theorem dv_pow : Dv2 K (rI CPow fun i j => .int (i ^ j.toNat)) powP := fun dx dy dz e ta tb σ F cs h1 h2 => by
  unfold powP at e; split at e
  · obtain ⟨z, h3, rfl⟩ := Option.map_eq_some_iff.mp e; exact d_pow h1 h2 h3
  · cases e
theorem dv_lt : Dv2 K (rI0 fun i j => .bl (decide (i < j))) ltP := fun dx dy dz e ta tb σ F cs h1 h2 => by
  unfold ltP at e; split at e
  · cases e; exact d_lt h1 h2
  · cases e
theorem dv_le : Dv2 K (rI0 fun i j => .bl (decide (i ≤ j))) leP := fun dx dy dz e ta tb σ F cs h1 h2 => by
  unfold leP at e; split at e
  · cases e; exact d_le h1 h2
  · cases e
theorem dv_gt : Dv2 K (rI0 fun i j => .bl (decide (j < i))) gtP := fun dx dy dz e ta tb σ F cs h1 h2 => by
  unfold gtP at e; split at e
  · cases e; exact d_gt h1 h2
  · cases e
theorem dv_ge : Dv2 K (rI0 fun i j => .bl (decide (j ≤ i))) geP := fun dx dy dz e ta tb σ F cs h1 h2 => by
  unfold geP at e; split at e
  · cases e; exact d_ge h1 h2
  · cases e
theorem dv_neg : Dv1 K (rU fun i => .int (-i)) negP := fun dx dz e ta σ F cs h1 => by
  unfold negP at e; split at e
  · cases e; exact d_neg h1
  · cases e
theorem d_flat {ta tb : TE} {σ : St} {F : Hp} {cs : Cs} {d e : PyData} {v w : V} {r : R2} {z : V} {dz : PyData} (hd : ∀ F v', Dt K F v' d → v' = v) (he : ∀ F v', Dt K F v' e → v' = w) (hr : ∀ H Q, Q z H → r v w H Q) (hz : ∀ F, Dt K F z dz) (ha : EvD K ta σ F cs d cs) (hb : EvD K tb σ F cs e cs) : EvD K (tOp r ta tb) σ F cs dz cs :=
  d_op ha hb fun x y F2 H2 hx hy s _ Q q => by
    cases hd _ _ hx; cases he _ _ hy
    exact hr _ _ (q _ F2 H2 .rfl s (hz _))
theorem dv_eqS : Dv2 K rEq eqSP := fun dx dy dz e ta tb σ F cs h1 h2 => by
  unfold eqSP at e; split at e
  · cases e; exact d_eqI h1 h2
  · cases e; exact d_eqS h1 h2
  · cases e; exact d_eqB h1 h2
  · cases e; exact d_flat (fun _ _ h => h.toNon) (fun _ _ h => h.toInt) (fun _ _ q => ⟨rfl, q⟩) (fun _ => .bl false) h1 h2
  · cases e; exact d_flat (fun _ _ h => h.toInt) (fun _ _ h => h.toNon) (fun _ _ q => ⟨rfl, q⟩) (fun _ => .bl false) h1 h2
  · cases e; exact d_flat (fun _ _ h => h.toNon) (fun _ _ h => h.toNon) (fun _ _ q => ⟨rfl, q⟩) (fun _ => .bl true) h1 h2
  · cases e; exact d_flat (fun _ _ h => h.toNon) (fun _ _ h => h.toStr) (fun _ _ q => ⟨rfl, q⟩) (fun _ => .bl false) h1 h2
  · cases e; exact d_flat (fun _ _ h => h.toStr) (fun _ _ h => h.toNon) (fun _ _ q => ⟨rfl, q⟩) (fun _ => .bl false) h1 h2
  · cases e
theorem dv_neS : Dv2 K rNe (fun x y => (eqSP x y).map notP) := fun dx dy dz e ta tb σ F cs h1 h2 => by
  obtain ⟨w, e2, rfl⟩ := Option.map_eq_some_iff.mp e
  clear e
  unfold eqSP at e2; split at e2
  · cases e2; exact d_neI h1 h2
  · cases e2; exact d_neS h1 h2
  · cases e2; exact d_neB h1 h2
  · cases e2; exact d_flat (fun _ _ h => h.toNon) (fun _ _ h => h.toInt) (fun _ _ q => ⟨rfl, q⟩) (fun _ => .bl true) h1 h2
  · cases e2; exact d_flat (fun _ _ h => h.toInt) (fun _ _ h => h.toNon) (fun _ _ q => ⟨rfl, q⟩) (fun _ => .bl true) h1 h2
  · cases e2; exact d_flat (fun _ _ h => h.toNon) (fun _ _ h => h.toNon) (fun _ _ q => ⟨rfl, q⟩) (fun _ => .bl false) h1 h2
  · cases e2; exact d_flat (fun _ _ h => h.toNon) (fun _ _ h => h.toStr) (fun _ _ q => ⟨rfl, q⟩) (fun _ => .bl true) h1 h2
  · cases e2; exact d_flat (fun _ _ h => h.toStr) (fun _ _ h => h.toNon) (fun _ _ q => ⟨rfl, q⟩) (fun _ => .bl true) h1 h2
  · cases e2
theorem dv_eqD : Dv2 K (rEqD K) eqDP := fun dx dy dz e ta tb σ F cs h1 h2 => by
  unfold eqDP at e; split at e
  · cases e; exact d_eqD h1 h2 (And.left ‹_›) (And.right ‹_›)
  · cases e
theorem dv_neD : Dv2 K (rNeD K) (fun x y => (eqDP x y).map notP) := fun dx dy dz e ta tb σ F cs h1 h2 => by
  obtain ⟨w, e2, rfl⟩ := Option.map_eq_some_iff.mp e
  clear e
  unfold eqDP at e2; split at e2
  · cases e2; exact d_neD h1 h2 (And.left ‹_›) (And.right ‹_›)
  · cases e2
end
def eqP (x y : PyData) : Option PyData := match eqSP x y with
  | some z => some z
  | none => eqDP x y
def rEqU (K : PySem.W.Frag) : R2 := fun x y H Q => rEq x y H Q ∨ rEqD K x y H Q
def rNeU (K : PySem.W.Frag) : R2 := fun x y H Q => rNe x y H Q ∨ rNeD K x y H Q
theorem op_eqU {X : Cx} (hu : X.A.units + 64 < cLine) : OpR X (compareOp .Eq) (rEqU X.K) := op_eq.or (op_eqD hu)
theorem op_neU {X : Cx} (hu : X.A.units + 64 < cLine) : OpR X (compareOp .NotEq) (rNeU X.K) := op_ne.or (op_neD hu)
end Bw

namespace Bw
open PySem L2
/-! sequences, new things -/
def szB (n : Nat) : Bool := decide (n ≤ 100000)
theorem szB_of {n : Nat} (h : n ≤ 100000) : szB n = true := decide_eq_true h
theorem szB_le {n : Nat} (h : szB n = true) : n ≤ sizeLine := sz (of_decide_eq_true h)
theorem szB_lt {n m : Nat} (h : szB n = true) (k : m ≤ n) : m ≤ sizeLine := Nat.le_trans k (szB_le h)
theorem szB_l1 {n : Nat} (h : szB (n + 1) = true) : n < sizeLine := szB_le h
@[simp] def vD : MV → Option PyData
  | .d x => some x
  | _ => none
@[simp] theorem oAll_vD : ∀ ds : List PyData, oAll vD (ds.map MV.d) = some ds
  | [] => rfl
  | d :: ds => by rw [List.map_cons, oAll, vD]; dsimp only; rw [oAll_vD ds]; rfl
def newL (h : Bool) (xs : List MV) (lh : LH) : Option (MV × LH) := if szB xs.length = true then (if h = true then some (.r lh.length, lh ++ [.lst xs]) else match oAll vD xs with
    | some ds => some (.d (.list ds), lh)
    | none => none) else none
def newT (xs : List MV) (lh : LH) : Option (MV × LH) := if szB xs.length = true then (match oAll vD xs with
    | some ds => some (.d (.tuple ds), lh)
    | none => some (.r lh.length, lh ++ [.tup xs])) else none
def sqL (lh : LH) : MV → Option (List MV)
  | .d (.list ds) => some (ds.map .d)
  | .r i => match lh[i]? with
    | some (.lst xs) => some xs
    | _ => none
  | _ => none
def sqT (lh : LH) : MV → Option (List MV)
  | .d (.tuple ds) => some (ds.map .d)
  | .r i => match lh[i]? with
    | some (.tup xs) => some xs
    | _ => none
  | _ => none
def dcO (lh : LH) : MV → Option (List (Key × MV))
  | .r i => match lh[i]? with
    | some (.dct kvs) => some kvs
    | some (.fdc kvs) => some kvs
    | _ => none
  | _ => none
@[simp] def keyO : MV → Option Key
  | .d (.int i) => some (.inl i)
  | .d (.str s) => some (.inr s)
  | _ => none
def valM {κ ν : Type} [DecidableEq κ] (kvs : List (κ × ν)) (k : κ) : Option ν := (kvs.find? fun kv => decide (kv.1 = k)).map (·.2)
def putN {κ ν : Type} [DecidableEq κ] (kvs : List (κ × ν)) (k : κ) (v : ν) : List (κ × ν) := if (kvs.any fun kv => decide (kv.1 = k)) = true then kvs.map (fun kv => if kv.1 = k then (kv.1, v) else kv) else kvs ++ [(k, v)]
def dropN {κ ν : Type} [DecidableEq κ] (kvs : List (κ × ν)) (k : κ) : List (κ × ν) := kvs.filter fun kv => decide (kv.1 ≠ k)
section
variable {K : PySem.W.Frag} {W : WX} {F : Hp} {ρ : List Addr} {lh lh' : LH} {cs : Cs} {H : Hp} {us : List V} {xs : List MV} {z : MV} {Q : VK} {u : V}
theorem vrs_dts : ∀ {us : List V} {xs : List MV} {ds : List PyData}, Vrs K F ρ us xs → oAll vD xs = some ds → Dts K F us ds
  | _, _, _, .nil, h => by cases h; exact .nil
  | _, x :: xs, ds, .cons r t, h => by
    cases x with
    | d y =>
      unfold oAll at h
      dsimp only [vD] at h
      obtain ⟨zs, h1, rfl⟩ := Option.map_eq_some_iff.mp h
      exact .cons r (vrs_dts t h1)
    | r i => cases h
    | x e => cases h
theorem dts_vrs : ∀ {us : List V} {ds : List PyData}, Dts K F us ds → Vrs K F ρ us (ds.map .d)
  | _, _, .nil => .nil
  | _, _, .cons h t => .cons h (dts_vrs t)
theorem get_new {p : Addr} (s : Sm K F ρ lh cs H) : (ρ ++ [p])[lh.length]? = some p := by rw [← s.len]; simp
theorem newL_ok {h : Bool} (s : Sm K F ρ lh cs H) (hv : Vrs K F ρ us xs) (e : newL h xs lh = some (z, lh')) (q : Fi K F ρ lh' cs z Q) : us.length ≤ sizeLine ∧ ∀ p, H p = none → Q (.ref p) (upd H p (.lst us)) := by
  unfold newL at e
  split at e
  · rename_i hz
    refine ⟨by rw [vrs_len hv]; exact szB_le hz, fun p hp => ?_⟩
    split at e
    · cases e
      exact q _ _ _ _ .rfl pre_app (s.new (gr_new hp) hp ⟨us, upd_same, hv.up .rfl pre_app⟩) ⟨p, get_new s, rfl⟩
    · split at e
      · rename_i ds hds
        cases e
        exact q _ _ _ _ (s.layG hp) pre_rfl (s.lay hp) (.lst (.inl (.inl upd_same)) ((vrs_dts hv hds).gr (s.layG hp)))
      · cases e
  · cases e
theorem newT_ok (s : Sm K F ρ lh cs H) (hv : Vrs K F ρ us xs) (e : newT xs lh = some (z, lh')) (q : Fi K F ρ lh' cs z Q) : us.length ≤ sizeLine ∧ ∀ p, H p = none → Q (.ref p) (upd H p (.tup us)) := by
  unfold newT at e
  split at e
  · rename_i hz
    refine ⟨by rw [vrs_len hv]; exact szB_le hz, fun p hp => ?_⟩
    split at e
    · rename_i ds hds
      cases e
      exact q _ _ _ _ (s.layG hp) pre_rfl (s.lay hp) (.tup (.inl (.inl upd_same)) ((vrs_dts hv hds).gr (s.layG hp)))
    · cases e
      exact q _ _ _ _ .rfl pre_app (s.new (gr_new hp) hp ⟨us, upd_same, hv.up .rfl pre_app⟩) ⟨p, get_new s, rfl⟩
  · cases e
theorem sqL_ok {x : MV} (s : Sm K F ρ lh cs H) (h : Vr K F ρ u x) (e : sqL lh x = some xs) : ∃ a us, u = .ref a ∧ SqL K H a us ∧ Vrs K F ρ us xs := by
  unfold sqL at e
  split at e
  · cases e
    obtain ⟨a, vs, rfl, h1, h2⟩ := Dt.toLst h
    exact ⟨a, vs, rfl, gr_L s.fr h1, dts_vrs h2⟩
  · obtain ⟨a, h1, rfl⟩ := h
    split at e
    · rename_i ys hy
      cases e
      obtain ⟨a', h3, us, h4, h5⟩ := s.at hy
      rw [h1] at h3; cases h3
      exact ⟨a, us, rfl, SqL.of h4, h5⟩
    · cases e
  · cases e
theorem sqT_ok {x : MV} (s : Sm K F ρ lh cs H) (h : Vr K F ρ u x) (e : sqT lh x = some xs) : ∃ a us, u = .ref a ∧ SqT K H a us ∧ Vrs K F ρ us xs := by
  unfold sqT at e
  split at e
  · cases e
    obtain ⟨a, vs, rfl, h1, h2⟩ := Dt.toTup h
    exact ⟨a, vs, rfl, gr_T s.fr h1, dts_vrs h2⟩
  · obtain ⟨a, h1, rfl⟩ := h
    split at e
    · rename_i ys hy
      cases e
      obtain ⟨a', h3, us, h4, h5⟩ := s.at hy
      rw [h1] at h3; cases h3
      exact ⟨a, us, rfl, SqT.of h4, h5⟩
    · cases e
  · cases e
theorem dcO_ok {x : MV} {kvs : List (Key × MV)} (s : Sm K F ρ lh cs H) (h : Vr K F ρ u x) (e : dcO lh x = some kvs) : ∃ a us, u = .ref a ∧ Rd H a (.dK us) ∧ KR K F ρ us kvs := by
  unfold dcO at e
  split at e
  · obtain ⟨a, h1, rfl⟩ := h
    split at e
    · rename_i ys hy
      cases e
      obtain ⟨a', h3, us, h4, h5⟩ := s.at hy
      rw [h1] at h3; cases h3
      exact ⟨a, us, rfl, .inl h4, h5⟩
    · rename_i ys hy
      cases e
      obtain ⟨a', h3, us, od, h4, h5⟩ := s.at hy
      rw [h1] at h3; cases h3
      exact ⟨a, us, rfl, .inr ⟨od, s.fr _ _ h4⟩, h5⟩
    · cases e
  · cases e
theorem keyO_ok {x : MV} {k : Key} (h : Vr K F ρ u x) (e : keyO x = some k) : u = kV k := by
  unfold keyO at e
  split at e
  · cases e; exact Dt.toInt h
  · cases e; exact Dt.toStr h
  · cases e
theorem vrs_get : ∀ {us : List V} {xs : List MV} {i : Nat} {x : MV}, Vrs K F ρ us xs → xs[i]? = some x → ∃ v, us[i]? = some v ∧ Vr K F ρ v x
  | _, _, _, _, .nil, e => by simp at e
  | _, _, 0, _, .cons h _, e => by simp at e; subst e; exact ⟨_, rfl, h⟩
  | _, _, i + 1, x, .cons _ t, e => by
    obtain ⟨v, h1, h2⟩ := vrs_get (i := i) (x := x) t (by simpa using e)
    exact ⟨v, by simpa using h1, h2⟩
theorem vrs_app : ∀ {us ws : List V} {xs ys : List MV}, Vrs K F ρ us xs → Vrs K F ρ ws ys → Vrs K F ρ (us ++ ws) (xs ++ ys)
  | _, _, _, _, .nil, s => s
  | _, _, _, _, .cons h t, s => .cons h (vrs_app t s)
theorem vrs_drop : ∀ {us : List V} {xs : List MV} (n : Nat), Vrs K F ρ us xs → Vrs K F ρ (us.drop n) (xs.drop n)
  | _, _, 0, h => h
  | _, _, _ + 1, .nil => .nil
  | _, _, n + 1, .cons _ t => vrs_drop n t
theorem vrs_take : ∀ {us : List V} {xs : List MV} (n : Nat), Vrs K F ρ us xs → Vrs K F ρ (us.take n) (xs.take n)
  | _, _, 0, _ => .nil
  | _, _, _ + 1, .nil => .nil
  | _, _, n + 1, .cons h t => .cons h (vrs_take n t)
theorem vrs_set : ∀ {us : List V} {xs : List MV} {v : V} {x : MV} (n : Nat), Vrs K F ρ us xs → Vr K F ρ v x → Vrs K F ρ (us.set n v) (xs.set n x)
  | _, _, _, _, _, .nil, _ => .nil
  | _, _, _, _, 0, .cons _ t, k => .cons k t
  | _, _, _, _, n + 1, .cons h t, k => .cons h (vrs_set n t k)
theorem vrs_rev {us : List V} {xs : List MV} (h : Vrs K F ρ us xs) : Vrs K F ρ us.reverse xs.reverse := by
  induction h with
  | nil => exact .nil
  | cons r t ih => rw [List.reverse_cons, List.reverse_cons]; exact vrs_app ih (.cons r .nil)
theorem vrs_rep {us : List V} {xs : List MV} (h : Vrs K F ρ us xs) : ∀ n : Nat, Vrs K F ρ (List.replicate n us).flatten (List.replicate n xs).flatten
  | 0 => .nil
  | n + 1 => by rw [List.replicate_succ, List.replicate_succ, List.flatten_cons, List.flatten_cons]; exact vrs_app h (vrs_rep h n)
theorem vrs_erase : ∀ {us : List V} {xs : List MV} (n : Nat), Vrs K F ρ us xs → Vrs K F ρ (us.eraseIdx n) (xs.eraseIdx n)
  | _, _, _, .nil => .nil
  | _, _, 0, .cons _ t => t
  | _, _, n + 1, .cons h t => .cons h (vrs_erase n t)
section
variable {κ : Type} [DecidableEq κ]
theorem kr_val {vs : List (κ × V)} {kvs : List (κ × MV)} {k : κ} : ∀ {vs : List (κ × V)} {kvs : List (κ × MV)}, KR K F ρ vs kvs → (∀ x, valM kvs k = some x → ∃ v, valV vs k = some v ∧ Vr K F ρ v x) ∧ (valM kvs k = none → valV vs k = none)
  | _, _, .nil => ⟨fun x h => (by cases h), fun _ => rfl⟩
  | (a, v) :: vs, (b, x) :: kvs, .cons h t => by
    obtain ⟨h1, h2⟩ := h
    dsimp only at h1 h2
    subst h1
    obtain ⟨i1, i2⟩ := kr_val (k := k) (vs := vs) (kvs := kvs) t
    unfold valM valV at i1 i2 ⊢
    by_cases q : a = k
    · simp [q, h2]
    · simp only [List.find?_cons, q, decide_false]; exact ⟨i1, i2⟩
theorem kr_any {k : κ} : ∀ {vs : List (κ × V)} {kvs : List (κ × MV)}, KR K F ρ vs kvs → (vs.any fun kv => decide (kv.1 = k)) = kvs.any fun kv => decide (kv.1 = k)
  | _, _, .nil => rfl
  | (a, v) :: vs, (b, x) :: kvs, .cons h t => by
    obtain ⟨h1, h2⟩ := h
    dsimp only at h1 h2
    subst h1
    simp only [List.any_cons, kr_any (k := k) t]
theorem kr_map {k : κ} {w : V} {y : MV} (hw : Vr K F ρ w y) : ∀ {vs : List (κ × V)} {kvs : List (κ × MV)}, KR K F ρ vs kvs → KR K F ρ (vs.map fun kv => if kv.1 = k then (kv.1, w) else kv) (kvs.map fun kv => if kv.1 = k then (kv.1, y) else kv)
  | _, _, .nil => .nil
  | (a, v) :: vs, (b, x) :: kvs, .cons h t => by
    obtain ⟨h1, h2⟩ := h
    dsimp only at h1 h2
    subst h1
    refine .cons ?_ (kr_map hw t)
    by_cases q : a = k
    · simp [q, hw]
    · simp [q, h2]
theorem kr_app : ∀ {vs ws : List (κ × V)} {xs ys : List (κ × MV)}, KR K F ρ vs xs → KR K F ρ ws ys → KR K F ρ (vs ++ ws) (xs ++ ys)
  | _, _, _, _, .nil, s => s
  | _, _, _, _, .cons h t, s => .cons h (kr_app t s)
theorem kr_put {k : κ} {w : V} {y : MV} {vs : List (κ × V)} {kvs : List (κ × MV)} (h : KR K F ρ vs kvs) (hw : Vr K F ρ w y) : KR K F ρ (putK vs k w) (putN kvs k y) := by
  unfold putK putN
  rw [kr_any h]
  split
  · exact kr_map hw h
  · exact kr_app h (.cons ⟨rfl, hw⟩ .nil)
theorem kr_len {vs : List (κ × V)} {kvs : List (κ × MV)} (h : KR K F ρ vs kvs) : vs.length = kvs.length := Paired.length h
theorem kr_drop {k : κ} : ∀ {vs : List (κ × V)} {kvs : List (κ × MV)}, KR K F ρ vs kvs → KR K F ρ (dropK vs k) (dropN kvs k)
  | _, _, .nil => .nil
  | (a, v) :: vs, (b, x) :: kvs, .cons h t => by
    obtain ⟨h1, h2⟩ := h
    dsimp only at h1 h2
    subst h1
    have ih := kr_drop (k := k) t
    unfold dropK dropN at ih ⊢
    by_cases q : a = k
    · simpa [q] using ih
    · simp only [q, ne_eq, not_false_eq_true, decide_true, List.filter_cons_of_pos]
      exact .cons ⟨rfl, h2⟩ ih
end
/-! readings of items -/
def ixL : G2 := fun a b lh => match sqL lh a, vI b with
  | some xs, some i => (atI xs i).map fun z => (z, lh)
  | _, _ => none
def ixT : G2 := fun a b lh => match sqT lh a, vI b with
  | some xs, some i => (atI xs i).map fun z => (z, lh)
  | _, _ => none
def ixC : G2 := fun a b lh => match vS a, vI b with
  | some x, some i => (ixS x i).map fun z => (.d (.str z), lh)
  | _, _ => none
def ixK : G2 := fun a b lh => match dcO lh a, keyO b with
  | some kvs, some k => (valM kvs k).map fun z => (z, lh)
  | _, _ => none
def rIxDi : R2 := fun x y H Q => ∃ a v, x = .ref a ∧ DGet H a y (some v) ∧ Q v H
theorem vrs_at {us : List V} {xs : List MV} {i : Int} {x : MV} (h : Vrs K F ρ us xs) (e : atI xs i = some x) : ∃ v, atI us i = some v ∧ Vr K F ρ v x := by
  unfold atI at e ⊢
  rw [vrs_len h]
  cases k : ixN xs.length i with
  | none => rw [k] at e; cases e
  | some j => rw [k] at e; exact vrs_get h e
theorem rel_ixL : Rel2 K (rIxL K) ixL := fun F ρ lh cs H x y a b z lh' Q s hx hy e q => by
  unfold ixL at e
  split at e
  · rename_i xs i h1 h2
    obtain ⟨w, h3, e⟩ := Option.map_eq_some_iff.mp e
    cases e
    obtain ⟨p, us, rfl, k1, k2⟩ := sqL_ok s hx h1
    obtain ⟨v, k3, k4⟩ := vrs_at k2 h3
    exact ⟨p, us, i, v, rfl, vI_vr h2 hy, k1, k3, q.d s k4⟩
  · cases e
theorem rel_ixT : Rel2 K (rIxT K) ixT := fun F ρ lh cs H x y a b z lh' Q s hx hy e q => by
  unfold ixT at e
  split at e
  · rename_i xs i h1 h2
    obtain ⟨w, h3, e⟩ := Option.map_eq_some_iff.mp e
    cases e
    obtain ⟨p, us, rfl, k1, k2⟩ := sqT_ok s hx h1
    obtain ⟨v, k3, k4⟩ := vrs_at k2 h3
    exact ⟨p, us, i, v, rfl, vI_vr h2 hy, k1, k3, q.d s k4⟩
  · cases e
theorem rel_ixC : Rel2 K rIxS ixC := fun F ρ lh cs H x y a b z lh' Q s hx hy e q => by
  unfold ixC at e
  split at e
  · rename_i xs i h1 h2
    obtain ⟨w, h3, e⟩ := Option.map_eq_some_iff.mp e
    cases e
    obtain ⟨k1, c, k2, rfl⟩ := ixS_some h3
    exact ⟨xs, i, c, vS_vr h1 hx, vI_vr h2 hy, sz k1, k2, q.d s (.str _)⟩
  · cases e
theorem rel_ixK : Rel2 K rIxDi ixK := fun F ρ lh cs H x y a b z lh' Q s hx hy e q => by
  unfold ixK at e
  split at e
  · rename_i kvs k h1 h2
    obtain ⟨w, h3, e⟩ := Option.map_eq_some_iff.mp e
    cases e
    obtain ⟨p, us, rfl, k1, k2⟩ := dcO_ok s hx h1
    obtain ⟨v, k3, k4⟩ := (kr_val (vs := us) (kvs := kvs) k2).1 _ h3
    exact ⟨p, v, rfl, .inl ⟨us, k, k1, keyO_ok hy h2, k3.symm⟩, q.d s k4⟩
  · cases e
end
def rIxU (K : PySem.W.Frag) : R2 := fun x y H Q => rIxL K x y H Q ∨ rIxT K x y H Q ∨ rIxS x y H Q ∨ rIxDi x y H Q
def ixU : G2 := alt2 ixL (alt2 ixT (alt2 ixC ixK))
theorem rel_ixU {K : PySem.W.Frag} : Rel2 K (rIxU K) ixU := rel_ixL.or (rel_ixT.or (rel_ixC.or rel_ixK))
section
open PySem.Spec PyProof.Rows
theorem ix_di {X : Cx} (hu : X.A.units + 1 < cLine) : IxR X rIxDi := by
  intro value slice pins s σ H x y v u Q I rx ry h hs
  obtain ⟨a, w, rfl, g, q⟩ := h
  obtain rfl : v = Value.ref a := rx
  exact tail_any (dict_typeIs I g) PySem.F.slot_dict_getitem.lookup (d_getItem hu I g ry fun w' s3 I3 rw' => ⟨w, H, I3, rw', q⟩) hs
end
theorem ix_u {X : Cx} (hu : X.A.units + 1 < cLine) : IxR X (rIxU X.K) := ix_list.or (ix_tup.or (ix_str.or (ix_di hu)))
end Bw

namespace Bw
open PySem L2
/-! statements -/
def mSkip : MS := fun env lh => some (.nx, env, lh)
def mSeq (a b : MS) : MS := fun env lh => match a env lh with
  | some (.nx, e1, l1) => b e1 l1
  | r => r
def mK {α : Type} (m : MR α) (env : Env) (k : α → LH → Option (Fw × Env × LH)) : Option (Fw × Env × LH) := match m with
  | some (.ok v, l) => k v l
  | some (.ex e, l) => some (.ex e, env, l)
  | none => none
def mDrop (a : ME) : MS := fun env lh => mK (a env lh) env fun _ l => some (.nx, env, l)
def mRet (a : ME) : MS := fun env lh => mK (a env lh) env fun v l => some (.rt v, env, l)
def mRetN : MS := fun env lh => some (.rt (.d .none), env, lh)
def mIfS (c : MT) (a b : MS) : MS := fun env lh => mK (c env lh) env fun k l => if k = true then a env l else b env l
abbrev MTg := MV → Env → LH → Option Env
def mAsg (a : ME) (g : MTg) : MS := fun env lh => mK (a env lh) env fun v l => match g v env l with
  | some e => some (.nx, e, l)
  | none => none
@[simp] def gNm (i : Nat) : MTg := fun v env _ => some (env.set i (some v))
@[simp] def gNms : List Nat → List MV → Env → Option Env
  | [], [], env => some env
  | i :: is, v :: vs, env => gNms is vs (env.set i (some v))
  | _, _, _ => none
@[simp] def gTp (is : List Nat) : MTg := fun v env lh => match sqT lh v with
  | some xs => gNms is xs env
  | none => none
def SoTg (K : PySem.W.Frag) (g : TG) (mg : MTg) : Prop := ∀ v z σ env env' F ρ lh cs H (Q : St → Hp → Prop), EnvR K F ρ σ env → Sm K F ρ lh cs H → Vr K F ρ v z → mg z env lh = some env' → (∀ σ', EnvR K F ρ σ' env' → Q σ' H) → g v σ H Q
def gCs : List Nat → TGs
  | [] => gNil
  | i :: is => gCons (gName i) (gCs is)
section
variable {K : PySem.W.Frag} {W : WX} {ta te : TE} {ma : ME} {t u : TS} {m n : MS}
theorem mK_some {α : Type} {x : MR α} {env : Env} {k : α → LH → Option (Fw × Env × LH)} {r : Fw × Env × LH} (h : mK x env k = some r) : (∃ v l, x = some (.ok v, l) ∧ k v l = some r) ∨ ∃ e l, x = some (.ex e, l) ∧ r = (.ex e, env, l) := by
  unfold mK at h
  split at h
  · exact .inl ⟨_, _, rfl, h⟩
  · cases h; exact .inr ⟨_, _, rfl, rfl⟩
  · cases h
/-- an expression, then the rest of a statement -/
theorem SoG.stm {α υ : Type} {R : Hp → List Addr → υ → α → Prop} {t : St → Hp → (υ → Hp → Prop) → Prop} {m : Env → LH → MR α} {k : α → LH → Option (Fw × Env × LH)} {σ : St} {env env' : Env} {F : Hp} {ρ : List Addr} {lh lh' : LH} {cs : Cs} {H : Hp} {fl : Fw} {D : Ends} {Q1 : υ → Hp → Prop}
    (h : SoG R K W t m) (he : EnvR K F ρ σ env) (s : Sm K F ρ lh cs H) (e : mK (m env lh) env k = some (fl, env', lh')) (q : PoS K W F ρ fl env' lh' cs D)
    (n : ∀ v lh1 F1 ρ1 H1 u, k v lh1 = some (fl, env', lh') → Gr F F1 → ρ <+: ρ1 → Sm K F1 ρ1 lh1 cs H1 → R F1 ρ1 u v → Q1 u H1) : t σ H Q1 := by
  rcases mK_some e with ⟨v, lh1, e1, e2⟩ | ⟨x, l, e1, e2⟩
  · exact h σ env F ρ lh cs H _ _ _ he s e1 fun F1 ρ1 H1 g1 p1 s1 => ⟨fun v' u z hr => by cases z; exact n _ lh1 F1 ρ1 H1 u e2 g1 p1 s1 hr, fun _ _ z => nomatch z⟩
  · cases e2
    exact h σ env F ρ lh cs H _ _ _ he s e1 fun F1 ρ1 H1 g1 p1 s1 => ⟨(fun _ _ z => nomatch z), fun e d z hx => by cases z; exact q F1 ρ1 H1 σ g1 p1 s1 (he.up g1 p1) d hx⟩
theorem so_skip : SoS K W tNext mSkip := fun σ env F ρ lh cs H fl env' lh' D he s e q => by
  cases e; exact q F ρ H σ .rfl pre_rfl s he
theorem so_seq (h1 : SoS K W t m) (h2 : SoS K W u n) : SoS K W (tSeq t u) (mSeq m n) := fun σ env F ρ lh cs H fl env' lh' D he s e q => by
  unfold mSeq at e
  split at e
  · rename_i e1 l1 h
    exact h1 σ env F ρ lh cs H _ _ _ _ he s h fun F1 ρ1 H1 σ1 g1 p1 s1 he1 => h2 σ1 e1 F1 ρ1 l1 cs H1 fl env' lh' D he1 s1 e (q.up g1 p1)
  · rename_i r hne
    have k : fl ≠ .nx := fun z => by subst z; exact hne _ _ e
    refine h1 σ env F ρ lh cs H _ _ _ _ he s e fun F1 ρ1 H1 σ1 g1 p1 s1 he1 => ?_
    have q1 := q F1 ρ1 H1 σ1 g1 p1 s1 he1
    cases fl with
    | nx => exact absurd rfl k
    | br => exact q1
    | ct => exact q1
    | rt v => exact q1
    | ex e => exact q1
theorem so_drop (ha : SoE K W ta ma) : SoS K W (tDrop ta) (mDrop ma) := fun σ env F ρ lh cs H fl env' lh' D he s e q => by
  show ta σ H fun _ H1 => D.nx σ H1
  exact SoG.stm ha he s e q fun v lh1 F1 ρ1 H1 u e1 g1 p1 s1 hx => by cases e1; exact q F1 ρ1 H1 σ g1 p1 s1 (he.up g1 p1)
theorem so_ret (ha : SoE K W ta ma) : SoS K W (tRet ta) (mRet ma) := fun σ env F ρ lh cs H fl env' lh' D he s e q => by
  show ta σ H D.rt
  exact SoG.stm ha he s e q fun v lh1 F1 ρ1 H1 u e1 g1 p1 s1 hx => by cases e1; exact q F1 ρ1 H1 σ g1 p1 s1 (he.up g1 p1) u hx
theorem so_retN : SoS K W tRetN mRetN := fun σ env F ρ lh cs H fl env' lh' D he s e q => by
  cases e; exact q F ρ H σ .rfl pre_rfl s he .non .non
theorem so_if {tc : TT} {mc : MT} (hc : SoT K W tc mc) (h1 : SoS K W t m) (h2 : SoS K W u n) : SoS K W (tIfS tc t u) (mIfS mc m n) := fun σ env F ρ lh cs H fl env' lh' D he s e q => by
  show tc σ H fun b H1 => if b = true then t D σ H1 else u D σ H1
  exact SoG.stm hc he s e q fun b lh1 F1 ρ1 H1 w e1 g1 p1 s1 hx => by
    cases hx
    split at e1
    · rw [if_pos ‹_›]; exact h1 σ env F1 ρ1 lh1 cs H1 _ _ _ D (he.up g1 p1) s1 e1 (q.up g1 p1)
    · rw [if_neg ‹_›]; exact h2 σ env F1 ρ1 lh1 cs H1 _ _ _ D (he.up g1 p1) s1 e1 (q.up g1 p1)
theorem so_asg {g : TG} {mg : MTg} (ha : SoE K W ta ma) (hg : SoTg K g mg) : SoS K W (tAsg ta g) (mAsg ma mg) := fun σ env F ρ lh cs H fl env' lh' D he s e q => by
  show ta σ H fun x H1 => g x σ H1 D.nx
  exact SoG.stm ha he s e q fun v lh1 F1 ρ1 H1 w e1 g1 p1 s1 hx => by
    split at e1
    · rename_i e2 h2
      cases e1
      exact hg w v σ env _ F1 ρ1 _ cs H1 _ (he.up g1 p1) s1 hx h2 fun σ' he' => q F1 ρ1 H1 σ' g1 p1 s1 he'
    · cases e1
theorem sg_nm {i : Nat} : SoTg K (gName i) (gNm i) := fun v z σ env env' F ρ lh cs H Q he s hv e q => by
  cases e; exact q _ (env_set hv i he)
theorem sg_nms : ∀ (is : List Nat) (vs : List V) (zs : List MV) (σ : St) (env env' : Env) (F : Hp) (ρ : List Addr) (H : Hp) (Q : St → Hp → Prop), EnvR K F ρ σ env → Vrs K F ρ vs zs → gNms is zs env = some env' → (∀ σ', EnvR K F ρ σ' env' → Q σ' H) → gCs is vs σ H Q
  | [], _, [], σ, env, env', F, ρ, H, Q, he, .nil, e, q => by cases e; exact ⟨rfl, q _ he⟩
  | [], _, z :: zs, σ, env, env', F, ρ, H, Q, he, .cons _ _, e, q => by cases e
  | i :: is, _, [], σ, env, env', F, ρ, H, Q, he, .nil, e, q => by cases e
  | i :: is, v :: vs, z :: zs, σ, env, env', F, ρ, H, Q, he, .cons h t, e, q => ⟨v, vs, rfl, sg_nms is vs zs _ _ env' F ρ H Q (env_set h i he) t e q⟩
theorem gNms_len : ∀ {is : List Nat} {zs : List MV} {env env' : Env}, gNms is zs env = some env' → zs.length = is.length
  | [], [], _, _, _ => rfl
  | [], _ :: _, _, _, e => by cases e
  | _ :: _, [], _, _, e => by cases e
  | i :: is, z :: zs, env, env', e => by rw [List.length_cons, List.length_cons, gNms_len (is := is) (zs := zs) e]
theorem sg_tp {is : List Nat} {k : Nat} (hk : is.length = k) : SoTg K (gTup K k (gCs is)) (gTp is) := fun v z σ env env' F ρ lh cs H Q he s hv e q => by
  unfold gTp at e
  split at e
  · rename_i xs h1
    obtain ⟨a, us, rfl, k1, k2⟩ := sqT_ok s hv h1
    exact ⟨a, us, rfl, k1, by rw [vrs_len k2, gNms_len e, hk], sg_nms is us xs σ env env' F ρ H Q he k2 e q⟩
  · cases e
end
/-! fields -/
def putG {ν : Type} (f : Str) (v : ν) : List (Str × ν) → List (Str × ν)
  | [] => [(f, v)]
  | (g, x) :: r => if g = f then (g, v) :: r else (g, x) :: putG f v r
def lookG {ν : Type} (f : Str) : List (Str × ν) → Option ν
  | [] => none
  | (g, x) :: r => if g = f then some x else lookG f r
structure ClsF (K : PySem.W.Frag) (c f : Str) : Prop where
  cl : Cls K (He.ga K c)
  no : NoAttr K (He.ga K c) f
def fld1 (cl : List Str) (f : Str) : G1 := fun x lh => match x with
  | .r i => match lh[i]? with
    | some (.ins c fs) => if c ∈ cl then (lookG f fs).map fun z => (z, lh) else none
    | _ => none
  | _ => none
def setF (cl : List Str) (f : Str) (x y : MV) (lh : LH) : Option LH := match x with
  | .r i => match lh[i]? with
    | some (.ins c fs) => if c ∈ cl ∧ fs.length < 100 then some (lh.set i (.ins c (putG f y fs))) else none
    | _ => none
  | _ => none
def mFld (cl : List Str) (f : Str) (o : ME) : ME := mOp1 (fld1 cl f) o
def mFldSet (cl : List Str) (f : Str) (o a : ME) : MS := fun env lh => mK (a env lh) env fun y l1 => mK (o env l1) env fun x l2 => match setF cl f x y l2 with
  | some l3 => some (.nx, env, l3)
  | none => none
def fldC (cl : List Str) (f : Str) (x : MV) (lh : LH) : Option (Str × MV) := match x with
  | .r i => match lh[i]? with
    | some (.ins c fs) => if c ∈ cl then (lookG f fs).map fun z => (c, z) else none
    | _ => none
  | _ => none
def mFldAug (cl : List Str) (f : Str) (g : G2) (o a : ME) : MS := fun env lh => mK (o env lh) env fun x l1 => match fldC cl f x l1 with
  | some (c, w) => mK (a env l1) env fun y l2 => match g w y l2 with
    | some (z, l3) => match setF [c] f x z l3 with
      | some l4 => some (.nx, env, l4)
      | none => none
    | none => none
  | none => none
section
variable {K : PySem.W.Frag} {W : WX} {ta te : TE} {ma me : ME}
theorem kr_look {F : Hp} {ρ : List Addr} {f : Str} : ∀ {us : List (Str × V)} {fs : List (Str × MV)}, KR K F ρ us fs → (∀ x, lookG f fs = some x → ∃ v, us.lookup f = some v ∧ Vr K F ρ v x) ∧ (lookG f fs = none → us.lookup f = none)
  | _, _, .nil => ⟨fun x h => (by cases h), fun _ => rfl⟩
  | (a, v) :: us, (b, x) :: fs, .cons h t => by
    obtain ⟨h1, h2⟩ := h
    dsimp only at h1 h2
    subst h1
    obtain ⟨i1, i2⟩ := kr_look (f := f) t
    by_cases q : a = f
    · subst q; simp [lookG, h2]
    · have q' : ¬ f = a := fun z => q z.symm
      have : (f == a) = false := by simp [q']
      simp only [lookG, q, if_false, List.lookup_cons, this]
      exact ⟨i1, i2⟩
theorem kr_putF {F : Hp} {ρ : List Addr} {f : Str} {w : V} {y : MV} (hw : Vr K F ρ w y) : ∀ {us : List (Str × V)} {fs : List (Str × MV)}, KR K F ρ us fs → KR K F ρ (putF f w us) (putG f y fs)
  | _, _, .nil => .cons ⟨rfl, hw⟩ .nil
  | (a, v) :: us, (b, x) :: fs, .cons h t => by
    obtain ⟨h1, h2⟩ := h
    dsimp only at h1 h2
    subst h1
    by_cases q : a = f
    · simp only [putF, putG, q, if_true]; exact .cons ⟨rfl, hw⟩ t
    · simp only [putF, putG, q, if_false]; exact .cons ⟨rfl, h2⟩ (kr_putF hw t)
theorem fld1_ok {F : Hp} {ρ : List Addr} {lh lh' : LH} {cs : Cs} {H : Hp} {cl : List Str} {f : Str} {u : V} {x z : MV} (hc : ∀ c ∈ cl, ClsF K c f) (s : Sm K F ρ lh cs H) (h : Vr K F ρ u x) (e : fld1 cl f x lh = some (z, lh')) : lh' = lh ∧ ∃ a C dx fs v, u = .ref a ∧ H a = some (.ins C dx fs) ∧ Cls K C ∧ NoAttr K C f ∧ fs.lookup f = some v ∧ Vr K F ρ v z := by
  unfold fld1 at e
  split at e
  · rename_i i
    obtain ⟨a, h1, rfl⟩ := h
    split at e
    · rename_i c fs hi
      split at e
      · rename_i hm
        obtain ⟨w, h2, e⟩ := Option.map_eq_some_iff.mp e
        cases e
        obtain ⟨a', h3, dx, us, h4, h5⟩ := s.at hi
        rw [h1] at h3; cases h3
        obtain ⟨v, k1, k2⟩ := (kr_look h5).1 _ h2
        exact ⟨rfl, a, _, dx, us, v, rfl, h4, (hc c hm).cl, (hc c hm).no, k1, k2⟩
      · cases e
    · cases e
  · cases e
theorem fldC_ok {F : Hp} {ρ : List Addr} {lh : LH} {cs : Cs} {H : Hp} {cl : List Str} {f c : Str} {u : V} {x z : MV} (hc : ∀ c ∈ cl, ClsF K c f) (s : Sm K F ρ lh cs H) (h : Vr K F ρ u x) (e : fldC cl f x lh = some (c, z)) : c ∈ cl ∧ ∃ a dx fs v, u = .ref a ∧ H a = some (.ins (He.ga K c) dx fs) ∧ Cls K (He.ga K c) ∧ NoAttr K (He.ga K c) f ∧ fs.lookup f = some v ∧ Vr K F ρ v z := by
  unfold fldC at e
  split at e
  · rename_i i
    obtain ⟨a, h1, rfl⟩ := h
    split at e
    · rename_i c fs hi
      split at e
      · rename_i hm
        obtain ⟨w, h2, e⟩ := Option.map_eq_some_iff.mp e
        cases e
        obtain ⟨a', h3, dx, us, h4, h5⟩ := s.at hi
        rw [h1] at h3; cases h3
        obtain ⟨v, k1, k2⟩ := (kr_look h5).1 _ h2
        exact ⟨hm, a, dx, us, v, rfl, h4, (hc c hm).cl, (hc c hm).no, k1, k2⟩
      · cases e
    · cases e
  · cases e
theorem so_fld {cl : List Str} {f : Str} (hc : ∀ c ∈ cl, ClsF K c f) (ha : SoE K W ta ma) : SoE K W (tFld K ta f) (mFld cl f ma) := so_op1 (r := fun x H1 Q => ∃ a C dx fs v, x = .ref a ∧ H1 a = some (.ins C dx fs) ∧ Cls K C ∧ NoAttr K C f ∧ fs.lookup f = some v ∧ Q v H1) (fun F ρ lh cs H x a z lh' Q s hx e q => by
  obtain ⟨rfl, p, C, dx, fs, v, rfl, k1, k2, k3, k4, k5⟩ := fld1_ok hc s hx e
  exact ⟨p, C, dx, fs, v, rfl, k1, k2, k3, k4, q.d s k5⟩) ha
theorem setF_ok {F : Hp} {ρ : List Addr} {lh lh' : LH} {cs : Cs} {H : Hp} {cl : List Str} {f : Str} {u w : V} {x y : MV} (hc : ∀ c ∈ cl, ClsF K c f) (s : Sm K F ρ lh cs H) (h : Vr K F ρ u x) (hw : Vr K F ρ w y) (e : setF cl f x y lh = some lh') :
    ∃ a C dx fs, u = .ref a ∧ H a = some (.ins C dx fs) ∧ Cls K C ∧ NoAttr K C f ∧ fs.length < 1000 ∧ Sm K F ρ lh' cs (upd H a (.ins C dx (putF f w fs))) ∧ ∃ c ∈ cl, C = He.ga K c := by
  unfold setF at e
  split at e
  · rename_i i
    obtain ⟨a, h1, rfl⟩ := h
    split at e
    · rename_i c fs hi
      split at e
      · rename_i hm
        cases e
        obtain ⟨a', h3, dx, us, h4, h5⟩ := s.at hi
        rw [h1] at h3; cases h3
        exact ⟨a, _, dx, us, rfl, h4, (hc c hm.1).cl, (hc c hm.1).no, by rw [show us.length = fs.length from Paired.length h5]; omega, s.put hi rfl h1 ⟨dx, _, upd_same, kr_putF hw h5⟩, c, hm.1, rfl⟩
      · cases e
    · cases e
  · cases e
theorem so_fset {cl : List Str} {f : Str} (hc : ∀ c ∈ cl, ClsF K c f) (ho : SoE K W ta ma) (he : SoE K W te me) : SoS K W (sFld K ta te f) (mFldSet cl f ma me) := fun σ env F ρ lh cs H fl env' lh' D hen s e q => by
  show te σ H fun y H1 => ta σ H1 fun x H2 => ∃ a C dx fs, x = .ref a ∧ H2 a = some (.ins C dx fs) ∧ Cls K C ∧ NoAttr K C f ∧ fs.length < 1000 ∧ D.nx σ (upd H2 a (.ins C dx (putF f y fs)))
  exact SoG.stm he hen s e q fun y lh1 F1 ρ1 H1 w e1 g1 p1 s1 hy => SoG.stm ho (hen.up g1 p1) s1 e1 (q.up g1 p1) fun x lh2 F2 ρ2 H2 u e2 g2 p2 s2 hx => by
    split at e2
    · rename_i l3 h3
      cases e2
      obtain ⟨a, C, dx, fs, rfl, k1, k2, k3, k4, k5, _⟩ := setF_ok hc s2 hx (Vr.up g2 p2 hy) h3
      exact ⟨a, C, dx, fs, rfl, k1, k2, k3, k4, q F2 ρ2 _ σ (g1.tr g2) (p1.trans p2) k5 (hen.up (g1.tr g2) (p1.trans p2))⟩
    · cases e2
theorem so_faug {cl : List Str} {f : Str} {g : G2} {r : R2} (hc : ∀ c ∈ cl, ClsF K c f) (hr : Rel2 K r g) (ho : SoE K W ta ma) (he : SoE K W te me) : SoS K W (sFldAug K ta te r f) (mFldAug cl f g ma me) := fun σ env F ρ lh cs H fl env' lh' D hen s e q => by
  show ta σ H fun x H1 => ∃ a C dx fs v, x = .ref a ∧ H1 a = some (.ins C dx fs) ∧ Cls K C ∧ NoAttr K C f ∧ fs.lookup f = some v ∧
    te σ H1 fun y H2 => r v y H2 fun z H3 => ∃ dx' fs', H3 a = some (.ins C dx' fs') ∧ fs'.length < 1000 ∧ D.nx σ (upd H3 a (.ins C dx' (putF f z fs')))
  exact SoG.stm ho hen s e q fun x lh1 F1 ρ1 H1 u e1 g1 p1 s1 hx => by
    split at e1
    · rename_i c w h1
      obtain ⟨hm, a, dx, fs, v, rfl, k1, k2, k3, k4, k5⟩ := fldC_ok hc s1 hx h1
      refine ⟨a, _, dx, fs, v, rfl, k1, k2, k3, k4, ?_⟩
      exact SoG.stm he (hen.up g1 p1) s1 e1 (q.up g1 p1) fun y lh2 F2 ρ2 H2 y' e2 g2 p2 s2 hy => by
        split at e2
        · rename_i z l3 h3
          refine hr F2 ρ2 lh2 cs H2 v y' w y z _ _ s2 (Vr.up g2 p2 k5) hy h3 fun F3 ρ3 H3 zz g3 p3 s3 hz => ?_
          split at e2
          · rename_i l4 h4
            cases e2
            obtain ⟨a2, C2, dx2, fs2, e5, j1, j2, j3, j4, j5, c2, j6, rfl⟩ := setF_ok (cl := [c]) (fun d hd => by cases List.mem_singleton.mp hd; exact hc c hm) s3 (Vr.up (g2.tr g3) (p2.trans p3) hx) hz h4
            cases List.mem_singleton.mp j6
            cases e5
            exact ⟨dx2, fs2, j1, j4, q F3 ρ3 _ σ (g1.tr (g2.tr g3)) (p1.trans (p2.trans p3)) j5 (hen.up (g1.tr (g2.tr g3)) (p1.trans (p2.trans p3)))⟩
          · cases e2
        · cases e2
    · cases e1
end
end Bw

namespace Bw
open PySem L2
/-! what is walked -/
inductive ItD where
  | seq (x : MV)
  | tup (x : MV)
  | rng (lo : Int) (n : Nat)
  | rgc (lo c : Int) (n : Nat)
  | enm (x : MV)
  | zip (x y : MV)
  | zpt (x y : MV)
  | chr (s : Str)
  | keys (i : Nat)
  | its (i : Nat)
@[simp] def keyD : Key → MV
  | .inl i => .d (.int i)
  | .inr s => .d (.str s)
def fdO (i : Nat) (lh : LH) : Option (List (Key × MV)) := match lh[i]? with
  | some (.fdc kvs) => some kvs
  | _ => none
def nxO {α : Type} (o : Option α) (k : α → Option (MV × LH)) : Option (Option (MV × LH)) := match o with
  | none => some none
  | some a => match k a with
    | some z => some (some z)
    | none => none
def ItD.get : ItD → Nat → LH → Option (Option (MV × LH))
  | .seq x, i, lh => match sqL lh x with
    | some xs => nxO xs[i]? fun z => some (z, lh)
    | none => none
  | .tup x, i, lh => match sqT lh x with
    | some xs => nxO xs[i]? fun z => some (z, lh)
    | none => none
  | .rng lo n, i, lh => some (if i < n then some (.d (.int (lo + (i : Nat))), lh) else none)
  | .rgc lo c n, i, lh => some (if i < n then some (.d (.int (lo + (i : Nat) * c)), lh) else none)
  | .enm x, i, lh => match sqL lh x with
    | some xs => nxO xs[i]? fun z => newT [.d (.int (i : Nat)), z] lh
    | none => none
  | .zip x y, i, lh => match sqL lh x, sqL lh y with
    | some xs, some ys => match xs[i]?, ys[i]? with
      | some a, some b => nxO (some ()) fun _ => newT [a, b] lh
      | _, _ => some none
    | _, _ => none
  | .zpt x y, i, lh => match sqT lh x, sqT lh y with
    | some xs, some ys => match xs[i]?, ys[i]? with
      | some a, some b => nxO (some ()) fun _ => newT [a, b] lh
      | _, _ => some none
    | _, _ => none
  | .chr s, i, lh => some ((s.cps[i]?).map fun c => (.d (.str ⟨#[c]⟩), lh))
  | .keys j, i, lh => match fdO j lh with
    | some kvs => nxO kvs[i]? fun p => some (keyD p.1, lh)
    | none => none
  | .its j, i, lh => match fdO j lh with
    | some kvs => nxO kvs[i]? fun p => newT [keyD p.1, p.2] lh
    | none => none
def ItD.cap (lh : LH) : ItD → Nat
  | .seq x => ((sqL lh x).getD []).length
  | .tup x => ((sqT lh x).getD []).length
  | .rng _ n => n
  | .rgc _ _ n => n
  | .enm x => ((sqL lh x).getD []).length
  | .zip x _ => ((sqL lh x).getD []).length
  | .zpt x _ => ((sqT lh x).getD []).length
  | .chr s => s.cps.size
  | .keys i => ((fdO i lh).getD []).length
  | .its i => ((fdO i lh).getD []).length
structure RelIt (K : PySem.W.Frag) (F : Hp) (ρ : List Addr) (J : It) (d : ItD) : Prop where
  stop : ∀ F' ρ' lh cs H i, Gr F F' → ρ <+: ρ' → Sm K F' ρ' lh cs H → d.get i lh = some none → J.stop i H
  go : ∀ F' ρ' lh cs H i z lh', Gr F F' → ρ <+: ρ' → Sm K F' ρ' lh cs H → d.get i lh = some (some (z, lh')) → J.go i H ∧ ∀ x H', J.yld i H x H' → ∃ F2 ρ2, Gr F' F2 ∧ ρ' <+: ρ2 ∧ Sm K F2 ρ2 lh' cs H' ∧ Vr K F2 ρ2 x z
theorem RelIt.up {K : PySem.W.Frag} {F F' : Hp} {ρ ρ' : List Addr} {J : It} {d : ItD} (g : Gr F F') (p : ρ <+: ρ') (h : RelIt K F ρ J d) : RelIt K F' ρ' J d :=
  ⟨fun F1 ρ1 lh cs H i g1 p1 => h.stop F1 ρ1 lh cs H i (g.tr g1) (p.trans p1), fun F1 ρ1 lh cs H i z lh' g1 p1 => h.go F1 ρ1 lh cs H i z lh' (g.tr g1) (p.trans p1)⟩
abbrev MI := Env → LH → MR ItD
abbrev rIt (K : PySem.W.Frag) : Hp → List Addr → It → ItD → Prop := fun F ρ J d => RelIt K F ρ J d
def UI (X : Cx) (W : WX) (tg iter : Expr) (m : MI) : Prop := PI X tg iter (tG (rIt X.K) X.K W m)
abbrev SoI (K : PySem.W.Frag) (W : WX) (t : TI) (m : MI) : Prop := SoG (rIt K) K W t m
theorem ui_of {X : Cx} {W : WX} {tg e : Expr} {t : TI} {m : MI} (h : PI X tg e t) (k : SoI X.K W t m) : UI X W tg e m := ⟨fun pins s σ H Q I ⟨env, F, ρ, lh, cs, r, lh', he, sm, e, q⟩ => h.run pins s σ H Q I (k σ env F ρ lh cs H r lh' Q he sm e q)⟩
theorem nxO_none {α : Type} {o : Option α} {k : α → Option (MV × LH)} (h : nxO o k = some none) : o = none := by
  unfold nxO at h
  split at h
  · rfl
  · split at h <;> cases h
theorem nxO_some {α : Type} {o : Option α} {k : α → Option (MV × LH)} {z : MV × LH} (h : nxO o k = some (some z)) : ∃ a, o = some a ∧ k a = some z := by
  unfold nxO at h
  split at h
  · cases h
  · split at h
    · cases h; exact ⟨_, rfl, ‹_›⟩
    · cases h
section
variable {K : PySem.W.Frag} {F : Hp} {ρ : List Addr} {lh lh' : LH} {cs : Cs} {H : Hp} {us : List V} {xs : List MV} {z : MV} {u : V}
/-- a new tuple that comes by itself -/
theorem newT_at {T : Addr} (s : Sm K F ρ lh cs H) (hv : Vrs K F ρ us xs) (e : newT xs lh = some (z, lh')) (hT : H T = none) : ∃ F2 ρ2, Gr F F2 ∧ ρ <+: ρ2 ∧ Sm K F2 ρ2 lh' cs (upd H T (.tup us)) ∧ Vr K F2 ρ2 (.ref T) z :=
  (newT_ok s hv e (Q := fun v H' => ∃ F2 ρ2, Gr F F2 ∧ ρ <+: ρ2 ∧ Sm K F2 ρ2 lh' cs H' ∧ Vr K F2 ρ2 v z) fun F' ρ' H' v g p s' h => ⟨F', ρ', g, p, s', h⟩).2 T hT
theorem relit_seq {a : Addr} {x : MV} (h : Vr K F ρ (.ref a) x) : RelIt K F ρ (Itl K a) (.seq x) := by
  refine ⟨fun F' ρ' lh cs H i g p s e => ?_, fun F' ρ' lh cs H i z lh' g p s e => ?_⟩
  · dsimp only [ItD.get] at e
    split at e
    · rename_i xs hx
      obtain ⟨b, us, q, k1, k2⟩ := sqL_ok s (Vr.up g p h) hx
      cases q
      exact ⟨us, k1, by rw [vrs_len k2]; exact List.getElem?_eq_none_iff.mp (nxO_none e)⟩
    · cases e
  · dsimp only [ItD.get] at e
    split at e
    · rename_i xs hx
      obtain ⟨b, us, q, k1, k2⟩ := sqL_ok s (Vr.up g p h) hx
      cases q
      obtain ⟨w, h1, h2⟩ := nxO_some e
      cases h2
      obtain ⟨v, k3, k4⟩ := vrs_get k2 h1
      refine ⟨⟨us, v, k1, k3⟩, fun y H' hy => ?_⟩
      obtain ⟨rfl, hy⟩ := hy
      have := hy us k1
      rw [k3] at this; cases this
      exact ⟨F', ρ', .rfl, pre_rfl, s, k4⟩
    · cases e
theorem relit_tup {a : Addr} {x : MV} (h : Vr K F ρ (.ref a) x) : RelIt K F ρ (Itt K a) (.tup x) := by
  refine ⟨fun F' ρ' lh cs H i g p s e => ?_, fun F' ρ' lh cs H i z lh' g p s e => ?_⟩
  · dsimp only [ItD.get] at e
    split at e
    · rename_i xs hx
      obtain ⟨b, us, q, k1, k2⟩ := sqT_ok s (Vr.up g p h) hx
      cases q
      exact ⟨us, k1, by rw [vrs_len k2]; exact List.getElem?_eq_none_iff.mp (nxO_none e)⟩
    · cases e
  · dsimp only [ItD.get] at e
    split at e
    · rename_i xs hx
      obtain ⟨b, us, q, k1, k2⟩ := sqT_ok s (Vr.up g p h) hx
      cases q
      obtain ⟨w, h1, h2⟩ := nxO_some e
      cases h2
      obtain ⟨v, k3, k4⟩ := vrs_get k2 h1
      refine ⟨⟨us, v, k1, k3⟩, fun y H' hy => ?_⟩
      obtain ⟨rfl, hy⟩ := hy
      have := hy us k1
      rw [k3] at this; cases this
      exact ⟨F', ρ', .rfl, pre_rfl, s, k4⟩
    · cases e
theorem relit_rng {lo : Int} {n : Nat} : RelIt K F ρ (Itr lo n) (.rng lo n) := by
  refine ⟨fun F' ρ' lh cs H i g p s e => ?_, fun F' ρ' lh cs H i z lh' g p s e => ?_⟩
  · dsimp only [ItD.get] at e
    split at e
    · cases e
    · exact Nat.le_of_not_lt ‹_›
  · dsimp only [ItD.get] at e
    split at e
    · cases e
      exact ⟨‹_›, fun x H' ⟨h1, h2⟩ => ⟨F', ρ', .rfl, pre_rfl, by rw [h1]; exact s, by rw [h2]; exact .int _⟩⟩
    · cases e
theorem relit_rgc {lo c : Int} {n : Nat} : RelIt K F ρ (Itc lo c n) (.rgc lo c n) := by
  refine ⟨fun F' ρ' lh cs H i g p s e => ?_, fun F' ρ' lh cs H i z lh' g p s e => ?_⟩
  · dsimp only [ItD.get] at e
    split at e
    · cases e
    · exact Nat.le_of_not_lt ‹_›
  · dsimp only [ItD.get] at e
    split at e
    · cases e
      exact ⟨‹_›, fun x H' ⟨h1, h2⟩ => ⟨F', ρ', .rfl, pre_rfl, by rw [h1]; exact s, by rw [h2]; exact .int _⟩⟩
    · cases e
theorem relit_chr {x : Str} : RelIt K F ρ (Its x) (.chr x) := by
  refine ⟨fun F' ρ' lh cs H i g p s e => ?_, fun F' ρ' lh cs H i z lh' g p s e => ?_⟩
  · dsimp only [ItD.get] at e
    have e := Option.some.inj e
    rw [Option.map_eq_none_iff] at e
    exact Array.getElem?_eq_none_iff.mp e
  · dsimp only [ItD.get] at e
    have e := Option.some.inj e
    obtain ⟨c, h1, h2⟩ := Option.map_eq_some_iff.mp e
    cases h2
    refine ⟨(Array.getElem?_eq_some_iff.mp h1).1, fun y H' hy => ?_⟩
    obtain ⟨rfl, c', h3, rfl⟩ := hy
    rw [h1] at h3; cases h3
    exact ⟨F', ρ', .rfl, pre_rfl, s, .str _⟩
theorem relit_enm {a : Addr} {x : MV} (h : Vr K F ρ (.ref a) x) : RelIt K F ρ (Ite K a) (.enm x) := by
  refine ⟨fun F' ρ' lh cs H i g p s e => ?_, fun F' ρ' lh cs H i z lh' g p s e => ?_⟩
  · dsimp only [ItD.get] at e
    split at e
    · rename_i xs hx
      obtain ⟨b, us, q, k1, k2⟩ := sqL_ok s (Vr.up g p h) hx
      cases q
      exact ⟨us, k1, by rw [vrs_len k2]; exact List.getElem?_eq_none_iff.mp (nxO_none e)⟩
    · cases e
  · dsimp only [ItD.get] at e
    split at e
    · rename_i xs hx
      obtain ⟨b, us, q, k1, k2⟩ := sqL_ok s (Vr.up g p h) hx
      cases q
      obtain ⟨w, h1, h2⟩ := nxO_some e
      obtain ⟨v, k3, k4⟩ := vrs_get k2 h1
      refine ⟨⟨us, v, k1, k3⟩, fun y H' hy => ?_⟩
      obtain ⟨T, x', rfl, hT, rfl, hy⟩ := hy
      have := hy us k1
      rw [k3] at this; cases this
      exact newT_at s (.cons (show Vr K F' ρ' (V.int (i : Nat)) (.d (.int (i : Nat))) from Dt.int _) (.cons k4 .nil)) h2 hT
    · cases e
theorem relit_zip {a b : Addr} {x y : MV} (h : Vr K F ρ (.ref a) x) (h' : Vr K F ρ (.ref b) y) : RelIt K F ρ (Itz K a b) (.zip x y) := by
  refine ⟨fun F' ρ' lh cs H i g p s e => ?_, fun F' ρ' lh cs H i z lh' g p s e => ?_⟩
  · dsimp only [ItD.get] at e
    split at e
    · rename_i xs ys hx hy
      obtain ⟨a', us, q, k1, k2⟩ := sqL_ok s (Vr.up g p h) hx
      cases q
      obtain ⟨b', ws, q, j1, j2⟩ := sqL_ok s (Vr.up g p h') hy
      cases q
      refine ⟨us, ws, k1, j1, ?_⟩
      split at e
      · exact absurd (nxO_none e) (by simp)
      · rename_i hn
        rw [vrs_len k2, vrs_len j2]
        cases q1 : xs[i]? with
        | none => exact .inl (List.getElem?_eq_none_iff.mp q1)
        | some c => cases q2 : ys[i]? with
          | none => exact .inr (List.getElem?_eq_none_iff.mp q2)
          | some d => exact absurd q2 (hn c d q1)
    · cases e
  · dsimp only [ItD.get] at e
    split at e
    · rename_i xs ys hx hy
      obtain ⟨a', us, q, k1, k2⟩ := sqL_ok s (Vr.up g p h) hx
      cases q
      obtain ⟨b', ws, q, j1, j2⟩ := sqL_ok s (Vr.up g p h') hy
      cases q
      split at e
      · rename_i c d q1 q2
        obtain ⟨_, _, h2⟩ := nxO_some e
        obtain ⟨v, k3, k4⟩ := vrs_get k2 q1
        obtain ⟨w, j3, j4⟩ := vrs_get j2 q2
        refine ⟨⟨us, ws, v, w, k1, j1, k3, j3⟩, fun y H' hy => ?_⟩
        obtain ⟨T, x', y', rfl, hT, rfl, h3, h4⟩ := hy
        have e1 := h3 us k1
        have e2 := h4 ws j1
        rw [k3] at e1; cases e1
        rw [j3] at e2; cases e2
        exact newT_at s (.cons k4 (.cons j4 .nil)) h2 hT
      · cases e
    · cases e
theorem relit_zpt {a b : Addr} {x y : MV} (h : Vr K F ρ (.ref a) x) (h' : Vr K F ρ (.ref b) y) : RelIt K F ρ (RZ.ItzT K a b) (.zpt x y) := by
  refine ⟨fun F' ρ' lh cs H i g p s e => ?_, fun F' ρ' lh cs H i z lh' g p s e => ?_⟩
  · dsimp only [ItD.get] at e
    split at e
    · rename_i xs ys hx hy
      obtain ⟨a', us, q, k1, k2⟩ := sqT_ok s (Vr.up g p h) hx
      cases q
      obtain ⟨b', ws, q, j1, j2⟩ := sqT_ok s (Vr.up g p h') hy
      cases q
      refine ⟨us, ws, k1, j1, ?_⟩
      split at e
      · exact absurd (nxO_none e) (by simp)
      · rename_i hn
        rw [vrs_len k2, vrs_len j2]
        cases q1 : xs[i]? with
        | none => exact .inl (List.getElem?_eq_none_iff.mp q1)
        | some c => cases q2 : ys[i]? with
          | none => exact .inr (List.getElem?_eq_none_iff.mp q2)
          | some d => exact absurd q2 (hn c d q1)
    · cases e
  · dsimp only [ItD.get] at e
    split at e
    · rename_i xs ys hx hy
      obtain ⟨a', us, q, k1, k2⟩ := sqT_ok s (Vr.up g p h) hx
      cases q
      obtain ⟨b', ws, q, j1, j2⟩ := sqT_ok s (Vr.up g p h') hy
      cases q
      split at e
      · rename_i c d q1 q2
        obtain ⟨_, _, h2⟩ := nxO_some e
        obtain ⟨v, k3, k4⟩ := vrs_get k2 q1
        obtain ⟨w, j3, j4⟩ := vrs_get j2 q2
        refine ⟨⟨us, ws, v, w, k1, j1, k3, j3⟩, fun y H' hy => ?_⟩
        obtain ⟨T, x', y', rfl, hT, rfl, h3, h4⟩ := hy
        have e1 := h3 us k1
        have e2 := h4 ws j1
        rw [k3] at e1; cases e1
        rw [j3] at e2; cases e2
        exact newT_at s (.cons k4 (.cons j4 .nil)) h2 hT
      · cases e
    · cases e
/-- the iterators of list and tuple, of two kinds -/
def iSeq (x : MV) (lh : LH) : Option ItD := match sqL lh x with
  | some _ => some (.seq x)
  | none => match sqT lh x with
    | some _ => some (.tup x)
    | none => none
def mRD {α : Type} (o : Option α) (lh : LH) : MR α := match o with
  | some b => some (.ok b, lh)
  | none => none
def mItSeq (a : ME) : MI := fun env lh => mB (a env lh) fun x lh1 => mRD (iSeq x lh1) lh1
theorem so_itSeq {W : WX} {ta : TE} {ma : ME} (ha : SoE K W ta ma) : SoI K W (fun σ H R => iList K ta σ H R ∨ iTup K ta σ H R) (mItSeq ma) := fun σ env F ρ lh cs H r lh' R he s e q => by
  rcases mB_some e with ⟨x, lh1, e1, e2⟩ | ⟨x, e1, rfl⟩
  · unfold mRD iSeq at e2
    cases q1 : sqL lh1 x with
    | some xs =>
      rw [q1] at e2
      cases e2
      refine .inl (ha σ env F ρ lh cs H _ _ _ he s e1 fun F1 ρ1 H1 g1 p1 s1 => ⟨fun x' u hx hv => ?_, fun _ _ h => nomatch h⟩)
      cases hx
      obtain ⟨a, us, rfl, k1, k2⟩ := sqL_ok s1 hv q1
      exact ⟨a, rfl, ⟨us, k1⟩, (q F1 ρ1 H1 g1 p1 s1).1 _ _ rfl (relit_seq hv)⟩
    | none =>
      rw [q1] at e2
      dsimp only at e2
      cases q2 : sqT lh1 x with
      | some xs =>
        rw [q2] at e2
        cases e2
        refine .inr (ha σ env F ρ lh cs H _ _ _ he s e1 fun F1 ρ1 H1 g1 p1 s1 => ⟨fun x' u hx hv => ?_, fun _ _ h => nomatch h⟩)
        cases hx
        obtain ⟨a, us, rfl, k1, k2⟩ := sqT_ok s1 hv q2
        exact ⟨a, rfl, ⟨us, k1⟩, (q F1 ρ1 H1 g1 p1 s1).1 _ _ rfl (relit_tup hv)⟩
      | none => rw [q2] at e2; cases e2
  · exact .inl (ha σ env F ρ lh cs H _ _ _ he s e1 fun F1 ρ1 H1 g1 p1 s1 => ⟨fun x' u hx hv => (nomatch hx), fun e d h hd => by cases h; exact (q F1 ρ1 H1 g1 p1 s1).2 _ d rfl hd⟩)
end
theorem PI.or {X : Cx} {tg e : Expr} {w w' : TI} (h : PI X tg e w) (h' : PI X tg e w') : PI X tg e (fun σ H R => w σ H R ∨ w' σ H R) := ⟨fun pins s σ H R I q => by
  rcases q with q | q
  · exact h.run pins s σ H R I q
  · exact h'.run pins s σ H R I q⟩
section
variable {K : PySem.W.Frag} {W : WX} {ta tb : TE} {ma mb : ME} {as : TA} {mas : MA}
@[simp] def bdI (i : Int) : Bool := decide (-(2 ^ 62) ≤ i ∧ i < 2 ^ 62)
def mRng1 (a : ME) : MI := fun env lh => mB (a env lh) fun x lh1 => match vI x with
  | some j => if bdI j = true then some (.ok (.rng 0 j.toNat), lh1) else none
  | none => none
def mRng2 (a b : ME) : MI := fun env lh => mB (a env lh) fun x lh1 => mB (b env lh1) fun y lh2 => match vI x, vI y with
  | some i, some j => if bdI i = true ∧ bdI j = true then some (.ok (.rng i (j - i).toNat), lh2) else none
  | _, _ => none
instance {i j c : Int} {n : Nat} : Decidable (RgC i j c n) := by unfold RgC; infer_instance
def mRng3 (a b c : ME) : MI := fun env lh => mB (a env lh) fun x lh1 => mB (b env lh1) fun y lh2 => mB (c env lh2) fun z lh3 => match vI x, vI y, vI z with
  | some i, some j, some k => if RgC i j k (rz3 i j k) then some (.ok (.rgc i k (rz3 i j k)), lh3) else none
  | _, _, _ => none
def mEnm (a : ME) : MI := fun env lh => mB (a env lh) fun x lh1 => match sqL lh1 x with
  | some _ => some (.ok (.enm x), lh1)
  | none => none
def mZip (a b : ME) : MI := fun env lh => mB (a env lh) fun x lh1 => mB (b env lh1) fun y lh2 => match sqL lh2 x, sqL lh2 y with
  | some _, some _ => some (.ok (.zip x y), lh2)
  | _, _ => match sqT lh2 x, sqT lh2 y with
    | some _, some _ => some (.ok (.zpt x y), lh2)
    | _, _ => none
def mChr (a : ME) : MI := fun env lh => mB (a env lh) fun x lh1 => match vS x with
  | some s => some (.ok (.chr s), lh1)
  | none => none
theorem so_rng1 (ha : SoE K W ta ma) : SoI K W (iRng1 (tCons ta tNil)) (mRng1 ma) := fun σ env F ρ lh cs H r lh' R he s e q => by
  show ta σ H fun x H1 => ∃ j : Int, [x] = [.int j] ∧ -(2 ^ 62) ≤ j ∧ j < 2 ^ 62 ∧ R (Itr 0 j.toNat) H1
  exact SoG.bind ha he s e q fun x lh1 F1 ρ1 H1 u e1 g1 p1 s1 hx => by
    split at e1
    · rename_i j hj
      split at e1
      · rename_i hb
        cases e1
        have hb := of_decide_eq_true hb
        exact ⟨j, by rw [vI_vr hj hx], hb.1, hb.2, (q F1 ρ1 H1 g1 p1 s1).1 _ _ rfl relit_rng⟩
      · cases e1
    · cases e1
theorem so_rng2 (ha : SoE K W ta ma) (hb : SoE K W tb mb) : SoI K W (iRng2 (tCons ta (tCons tb tNil))) (mRng2 ma mb) := fun σ env F ρ lh cs H r lh' R he s e q => by
  show ta σ H fun x H1 => tb σ H1 fun y H2 => ∃ i j : Int, [x, y] = [.int i, .int j] ∧ (-(2 ^ 62) ≤ i ∧ i < 2 ^ 62 ∧ -(2 ^ 62) ≤ j ∧ j < 2 ^ 62) ∧ R (Itr i (j - i).toNat) H2
  exact SoG.bind ha he s e q fun x lh1 F1 ρ1 H1 u e1 g1 p1 s1 hx => SoG.bind hb (he.up g1 p1) s1 e1 (q.up g1 p1) fun y lh2 F2 ρ2 H2 w e2 g2 p2 s2 hy => by
    split at e2
    · rename_i i j hi hj
      split at e2
      · rename_i hb
        cases e2
        have h1 := of_decide_eq_true hb.1
        have h2 := of_decide_eq_true hb.2
        exact ⟨i, j, by rw [vI_vr hi hx, vI_vr hj hy], ⟨h1.1, h1.2, h2.1, h2.2⟩, (q F2 ρ2 H2 (g1.tr g2) (p1.trans p2) s2).1 _ _ rfl relit_rng⟩
      · cases e2
    · cases e2
theorem so_enm (ha : SoE K W ta ma) : SoI K W (iEnum K (tCons ta tNil)) (mEnm ma) := fun σ env F ρ lh cs H r lh' R he s e q => by
  show ta σ H fun x H1 => ∃ a xs, [x] = [.ref a] ∧ SqL K H1 a xs ∧ R (Ite K a) H1
  exact SoG.bind ha he s e q fun x lh1 F1 ρ1 H1 u e1 g1 p1 s1 hx => by
    split at e1
    · rename_i xs hxs
      cases e1
      obtain ⟨a, us, rfl, k1, k2⟩ := sqL_ok s1 hx hxs
      exact ⟨a, us, rfl, k1, (q F1 ρ1 H1 g1 p1 s1).1 _ _ rfl (relit_enm hx)⟩
    · cases e1
theorem so_zip (ha : SoE K W ta ma) (hb : SoE K W tb mb) : SoI K W (RZ.iZipA K (tCons ta (tCons tb tNil))) (mZip ma mb) := fun σ env F ρ lh cs H r lh' R he s e q => by
  show ta σ H fun x H1 => tb σ H1 fun y H2 => ∃ a b xs ys, [x, y] = [.ref a, .ref b] ∧ ((SqL K H2 a xs ∧ SqL K H2 b ys ∧ R (Itz K a b) H2) ∨ (SqT K H2 a xs ∧ SqT K H2 b ys ∧ R (RZ.ItzT K a b) H2))
  exact SoG.bind ha he s e q fun x lh1 F1 ρ1 H1 u e1 g1 p1 s1 hx => SoG.bind hb (he.up g1 p1) s1 e1 (q.up g1 p1) fun y lh2 F2 ρ2 H2 w e2 g2 p2 s2 hy => by
    have hx2 := Vr.up g2 p2 hx
    split at e2
    · rename_i xs ys h1 h2
      cases e2
      obtain ⟨a, us, rfl, k1, k2⟩ := sqL_ok s2 hx2 h1
      obtain ⟨b, ws, rfl, j1, j2⟩ := sqL_ok s2 hy h2
      exact ⟨a, b, us, ws, rfl, .inl ⟨k1, j1, (q F2 ρ2 H2 (g1.tr g2) (p1.trans p2) s2).1 _ _ rfl (relit_zip hx2 hy)⟩⟩
    · split at e2
      · rename_i xs ys h1 h2
        cases e2
        obtain ⟨a, us, rfl, k1, k2⟩ := sqT_ok s2 hx2 h1
        obtain ⟨b, ws, rfl, j1, j2⟩ := sqT_ok s2 hy h2
        exact ⟨a, b, us, ws, rfl, .inr ⟨k1, j1, (q F2 ρ2 H2 (g1.tr g2) (p1.trans p2) s2).1 _ _ rfl (relit_zpt hx2 hy)⟩⟩
      · cases e2
theorem so_chr (ha : SoE K W ta ma) : SoI K W (iStr ta) (mChr ma) := fun σ env F ρ lh cs H r lh' R he s e q => by
  show ta σ H fun v H1 => ∃ x, v = .str x ∧ R (Its x) H1
  exact SoG.bind ha he s e q fun x lh1 F1 ρ1 H1 u e1 g1 p1 s1 hx => by
    split at e1
    · rename_i xs hxs
      cases e1
      exact ⟨xs, vS_vr hxs hx, (q F1 ρ1 H1 g1 p1 s1).1 _ _ rfl relit_chr⟩
    · cases e1
end
/-! loops -/
def mGo (d : ItD) (tg : MTg) (body : MS) : Nat → Nat → Env → LH → Option (Fw × Env × LH)
  | 0, _, _, _ => none
  | n + 1, i, env, lh => match d.get i lh with
    | none => none
    | some none => some (.nx, env, lh)
    | some (some (z, lh1)) => match tg z env lh1 with
      | none => none
      | some env1 => match body env1 lh1 with
        | some (.nx, e2, l2) => mGo d tg body n (i + 1) e2 l2
        | some (.ct, e2, l2) => mGo d tg body n (i + 1) e2 l2
        | some (.br, e2, l2) => some (.nx, e2, l2)
        | r => r
def mFor (it : MI) (tg : MTg) (body : MS) : MS := fun env lh => mK (it env lh) env fun d l => mGo d tg body (d.cap l + 1) 0 env l
def mWh (c : MT) (body : MS) : Nat → Env → LH → Option (Fw × Env × LH)
  | 0, _, _ => none
  | n + 1, env, lh => mK (c env lh) env fun b l => if b = true then (match body env l with
      | some (.nx, e2, l2) => mWh c body n e2 l2
      | some (.ct, e2, l2) => mWh c body n e2 l2
      | some (.br, e2, l2) => some (.nx, e2, l2)
      | r => r) else some (.nx, env, l)
def mWhile (fu : Nat) (c : MT) (body : MS) : MS := fun env lh => mWh c body fu env lh
section
variable {K : PySem.W.Frag} {W : WX}
theorem so_for {wi : TI} {mi : MI} {g : TG} {mg : MTg} {tb : TS} {mb : MS} (hi : SoI K W wi mi) (hg : SoTg K g mg) (hb : SoS K W tb mb) : SoS K W (tFor wi g tb) (mFor mi mg mb) := fun σ env F ρ lh cs H fl env' lh' D he s e q => by
  show wi σ H _
  refine SoG.stm hi he s e q fun d lh1 F1 ρ1 H1 J e1 g1 p1 s1 hJ => ?_
  refine ⟨fun i m σ' H' => ∃ env1 F' ρ' l1, Gr F1 F' ∧ ρ1 <+: ρ' ∧ Sm K F' ρ' l1 cs H' ∧ EnvR K F' ρ' σ' env1 ∧ mGo d mg mb m i env1 l1 = some (fl, env', lh'), ⟨_, env, F1, ρ1, lh1, .rfl, pre_rfl, s1, he.up g1 p1, e1⟩, ?_⟩
  rintro i m σ2 H2 ⟨env2, F2, ρ2, l2, g2, p2, s2, he2, e2⟩
  cases m with
  | zero => cases e2
  | succ m =>
    unfold mGo at e2
    split at e2
    · cases e2
    · rename_i hn
      cases e2
      exact .inl ⟨hJ.stop F2 ρ2 _ cs H2 i g2 p2 s2 hn, q F2 ρ2 H2 σ2 (g1.tr g2) (p1.trans p2) s2 he2⟩
    · rename_i z l3 hn
      obtain ⟨k1, k2⟩ := hJ.go F2 ρ2 l2 cs H2 i z l3 g2 p2 s2 hn
      refine .inr ⟨k1, fun σ' H' => ∃ env1 F' ρ' l1, Gr F1 F' ∧ ρ1 <+: ρ' ∧ Sm K F' ρ' l1 cs H' ∧ EnvR K F' ρ' σ' env1 ∧ mGo d mg mb m (i + 1) env1 l1 = some (fl, env', lh'), fun σ' H' h => ⟨m, Nat.lt_succ_self m, h⟩, fun x H' hy => ?_⟩
      obtain ⟨F3, ρ3, g3, p3, s3, hv⟩ := k2 x H' hy
      split at e2
      · cases e2
      · rename_i env3 h3
        refine hg x z σ2 env2 env3 F3 ρ3 l3 cs H' _ (he2.up g3 p3) s3 hv h3 fun σ4 he4 => ?_
        have gg := g2.tr g3
        have pp := p2.trans p3
        split at e2
        · rename_i e5 l5 h5
          exact hb σ4 env3 F3 ρ3 l3 cs H' _ _ _ _ he4 s3 h5 fun F6 ρ6 H6 σ6 g6 p6 s6 he6 => ⟨_, F6, ρ6, _, gg.tr g6, pp.trans p6, s6, he6, e2⟩
        · rename_i e5 l5 h5
          exact hb σ4 env3 F3 ρ3 l3 cs H' _ _ _ _ he4 s3 h5 fun F6 ρ6 H6 σ6 g6 p6 s6 he6 => ⟨_, F6, ρ6, _, gg.tr g6, pp.trans p6, s6, he6, e2⟩
        · rename_i e5 l5 h5
          cases e2
          exact hb σ4 env3 F3 ρ3 l3 cs H' _ _ _ _ he4 s3 h5 fun F6 ρ6 H6 σ6 g6 p6 s6 he6 => q F6 ρ6 H6 σ6 (g1.tr (gg.tr g6)) (p1.trans (pp.trans p6)) s6 he6
        · rename_i r h1 h2 h4
          refine hb σ4 env3 F3 ρ3 l3 cs H' _ _ _ _ he4 s3 e2 fun F6 ρ6 H6 σ6 g6 p6 s6 he6 => ?_
          have q6 := q F6 ρ6 H6 σ6 (g1.tr (gg.tr g6)) (p1.trans (pp.trans p6)) s6 he6
          cases fl with
          | nx => exact absurd e2 (h1 _ _)
          | ct => exact absurd e2 (h2 _ _)
          | br => exact absurd e2 (h4 _ _)
          | rt v => exact q6
          | ex x => exact q6
theorem so_while {tc : TT} {mc : MT} {tb : TS} {mb : MS} {fu : Nat} (hc : SoT K W tc mc) (hb : SoS K W tb mb) : SoS K W (tWhile tc tb) (mWhile fu mc mb) := fun σ env F ρ lh cs H fl env' lh' D he s e q => by
  refine ⟨fun m σ' H' => ∃ env1 F' ρ' l1, Gr F F' ∧ ρ <+: ρ' ∧ Sm K F' ρ' l1 cs H' ∧ EnvR K F' ρ' σ' env1 ∧ mWh mc mb m env1 l1 = some (fl, env', lh'), ⟨_, env, F, ρ, lh, .rfl, pre_rfl, s, he, e⟩, ?_⟩
  rintro m σ2 H2 ⟨env2, F2, ρ2, l2, g2, p2, s2, he2, e2⟩
  cases m with
  | zero => cases e2
  | succ m =>
    unfold mWh at e2
    refine SoG.stm hc he2 s2 e2 (q.up g2 p2) fun b l3 F3 ρ3 H3 w e3 g3 p3 s3 hw => ?_
    cases hw
    split at e3
    · rename_i hb1
      rw [if_pos hb1]
      refine ⟨fun σ' H' => ∃ env1 F' ρ' l1, Gr F F' ∧ ρ <+: ρ' ∧ Sm K F' ρ' l1 cs H' ∧ EnvR K F' ρ' σ' env1 ∧ mWh mc mb m env1 l1 = some (fl, env', lh'), fun σ' H' h => ⟨m, Nat.lt_succ_self m, h⟩, ?_⟩
      have gg := g2.tr g3
      have pp := p2.trans p3
      have he4 := he2.up g3 p3
      split at e3
      · rename_i e5 l5 h5
        exact hb σ2 env2 F3 ρ3 l3 cs H3 _ _ _ _ he4 s3 h5 fun F6 ρ6 H6 σ6 g6 p6 s6 he6 => ⟨_, F6, ρ6, _, gg.tr g6, pp.trans p6, s6, he6, e3⟩
      · rename_i e5 l5 h5
        exact hb σ2 env2 F3 ρ3 l3 cs H3 _ _ _ _ he4 s3 h5 fun F6 ρ6 H6 σ6 g6 p6 s6 he6 => ⟨_, F6, ρ6, _, gg.tr g6, pp.trans p6, s6, he6, e3⟩
      · rename_i e5 l5 h5
        cases e3
        exact hb σ2 env2 F3 ρ3 l3 cs H3 _ _ _ _ he4 s3 h5 fun F6 ρ6 H6 σ6 g6 p6 s6 he6 => q F6 ρ6 H6 σ6 (gg.tr g6) (pp.trans p6) s6 he6
      · rename_i r h1 h2 h4
        refine hb σ2 env2 F3 ρ3 l3 cs H3 _ _ _ _ he4 s3 e3 fun F6 ρ6 H6 σ6 g6 p6 s6 he6 => ?_
        have q6 := q F6 ρ6 H6 σ6 (gg.tr g6) (pp.trans p6) s6 he6
        cases fl with
        | nx => exact absurd e3 (h1 _ _)
        | ct => exact absurd e3 (h2 _ _)
        | br => exact absurd e3 (h4 _ _)
        | rt v => exact q6
        | ex x => exact q6
    · rename_i hb1
      rw [if_neg hb1]
      cases e3
      exact q F3 ρ3 H3 σ2 (g2.tr g3) (p2.trans p3) s3 (he2.up g3 p3)
end
end Bw

namespace Bw
open PySem L2
/-! comprehensions -/
@[simp] def mwipe (env : Env) : List Nat → Env
  | [] => env
  | v :: vs => (mwipe env vs).set v none
theorem env_wipe {K : PySem.W.Frag} {F : Hp} {ρ : List Addr} {σ : St} {env : Env} (h : EnvR K F ρ σ env) : ∀ vs : List Nat, EnvR K F ρ (wipe σ vs) (mwipe env vs)
  | [] => h
  | v :: vs => env_del v (env_wipe h vs)
theorem wipe_set_in {x : Option V} : ∀ {vs : List Nat} {σ : St} {i : Nat}, i ∈ vs → wipe (σ.set i x) vs = wipe σ vs
  | [], _, _, h => by cases h
  | v :: vs, σ, i, h => by
    by_cases hi : i ∈ vs
    · unfold wipe; rw [wipe_set_in hi]
    · have e : i = v := by
        rcases List.mem_cons.mp h with e | e
        · exact e
        · exact absurd e hi
      have out : ∀ {ws : List Nat} {σ : St}, i ∉ ws → wipe (σ.set i x) ws = (wipe σ ws).set i x := by
        intro ws
        induction ws with
        | nil => intro σ _; rfl
        | cons w ws ih =>
          intro σ hn
          unfold wipe
          rw [ih (fun q => hn (List.mem_cons_of_mem _ q)), List.set_comm _ _ (fun q => hn (by rw [q]; exact List.mem_cons_self))]
      unfold wipe
      rw [out hi, ← e, List.set_set]
theorem wipe_wipe : ∀ (vs : List Nat) (σ : St), wipe (wipe σ vs) vs = wipe σ vs
  | vs, σ => by
    have aux : ∀ (ws : List Nat), (∀ v ∈ ws, v ∈ vs) → wipe (wipe σ ws) vs = wipe σ vs := by
      intro ws
      induction ws with
      | nil => intro _; rfl
      | cons w ws ih =>
        intro h
        show wipe ((wipe σ ws).set w none) vs = _
        rw [wipe_set_in (h w List.mem_cons_self)]
        exact ih fun v hv => h v (List.mem_cons_of_mem _ hv)
    exact aux vs fun _ h => h
/-- a target that stores in the comprehension's own slots -/
def SoTw (K : PySem.W.Frag) (vs : List Nat) (g : TG) (mg : MTg) : Prop := ∀ v z σ env env' F ρ lh cs H (Q : St → Hp → Prop), EnvR K F ρ σ env → Sm K F ρ lh cs H → Vr K F ρ v z → mg z env lh = some env' → (∀ σ', EnvR K F ρ σ' env' → wipe σ' vs = wipe σ vs → Q σ' H) → g v σ H Q
section
variable {K : PySem.W.Frag} {W : WX}
theorem sw_nm {i : Nat} {vs : List Nat} (hi : i ∈ vs) : SoTw K vs (gName i) (gNm i) := fun v z σ env env' F ρ lh cs H Q he s hv e q => by
  cases e; exact q _ (env_set hv i he) (wipe_set_in hi)
theorem sw_nms {vs : List Nat} : ∀ (is : List Nat) (us : List V) (zs : List MV) (σ : St) (env env' : Env) (F : Hp) (ρ : List Addr) (H : Hp) (Q : St → Hp → Prop), (∀ i ∈ is, i ∈ vs) → EnvR K F ρ σ env → Vrs K F ρ us zs → gNms is zs env = some env' → (∀ σ', EnvR K F ρ σ' env' → wipe σ' vs = wipe σ vs → Q σ' H) → gCs is us σ H Q
  | [], _, [], σ, env, env', F, ρ, H, Q, hi, he, .nil, e, q => by cases e; exact ⟨rfl, q _ he rfl⟩
  | [], _, z :: zs, σ, env, env', F, ρ, H, Q, hi, he, .cons _ _, e, q => by cases e
  | i :: is, _, [], σ, env, env', F, ρ, H, Q, hi, he, .nil, e, q => by cases e
  | i :: is, v :: us, z :: zs, σ, env, env', F, ρ, H, Q, hi, he, .cons h t, e, q => ⟨v, us, rfl, sw_nms is us zs _ _ env' F ρ H Q (fun j hj => hi j (List.mem_cons_of_mem _ hj)) (env_set h i he) t e fun σ' he' hw => q σ' he' (hw.trans (wipe_set_in (hi i List.mem_cons_self)))⟩
theorem sw_tp {is : List Nat} {k : Nat} {vs : List Nat} (hk : is.length = k) (hi : ∀ i ∈ is, i ∈ vs) : SoTw K vs (gTup K k (gCs is)) (gTp is) := fun v z σ env env' F ρ lh cs H Q he s hv e q => by
  unfold gTp at e
  split at e
  · rename_i xs h1
    obtain ⟨a, us, rfl, k1, k2⟩ := sqT_ok s hv h1
    exact ⟨a, us, rfl, k1, by rw [vrs_len k2, gNms_len e, hk], sw_nms is us xs σ env env' F ρ H Q hi he k2 e q⟩
  · cases e
def lcGo (d : ItD) (tg : MTg) (tt : MT) (elt : ME) (vs : List Nat) (env : Env) : Nat → Nat → LH → List MV → Option (LH × List MV)
  | 0, _, _, _ => none
  | n + 1, i, lh, acc => match d.get i lh with
    | none => none
    | some none => some (lh, acc)
    | some (some (z, l1)) => match tg z (mwipe env vs) l1 with
      | none => none
      | some e1 => match tt e1 l1 with
        | some (.ok true, l2) => match elt e1 l2 with
          | some (.ok y, l3) => if szB (acc.length + 1) = true then lcGo d tg tt elt vs env n (i + 1) l3 (acc ++ [y]) else none
          | _ => none
        | some (.ok false, l2) => lcGo d tg tt elt vs env n (i + 1) l2 acc
        | _ => none
def mLc (h : Bool) (it : MI) (tg : MTg) (tt : MT) (elt : ME) (vs : List Nat) : ME := fun env lh => mB (it env lh) fun d l => match lcGo d tg tt elt vs env (d.cap l + 1) 0 l [] with
  | some (l2, ys) => mO (newL h ys l2)
  | none => none
def mYes : MT := fun _ lh => some (.ok true, lh)
theorem so_yes : SoT K W tYes mYes := fun σ env F ρ lh cs H r lh' Q he s e q => by
  cases e; exact (q F ρ H .rfl pre_rfl s).1 _ _ rfl rfl
/-- the cell that was filled is the value -/
theorem newL_cell {F : Hp} {ρ : List Addr} {lh lh' : LH} {cs : Cs} {H : Hp} {D : Addr} {us : List V} {xs : List MV} {z : MV} {h : Bool} {Q : VK} (s : Sm K F ρ lh ((D, .lst us) :: cs) H) (hv : Vrs K F ρ us xs) (e : newL h xs lh = some (z, lh')) (q : Fi K F ρ lh' cs z Q) : Q (.ref D) H := by
  unfold newL at e
  split at e
  · split at e
    · cases e
      have s2 := s.cobj (o := .lst xs) ⟨us, s.chas, hv.up .rfl pre_app⟩
      refine q F (ρ ++ [D]) H (.ref D) .rfl pre_app s2 ⟨D, ?_, rfl⟩
      rw [← s.len]; simp
    · split at e
      · rename_i ds hds
        cases e
        exact q _ _ _ _ s.cdatG pre_rfl s.cdat (.lst (.inl (.inl upd_same)) ((vrs_dts hv hds).gr s.cdatG))
      · cases e
  · cases e
theorem so_lc {wi : TI} {mi : MI} {g : TG} {mg : MTg} {tt : TT} {mt : MT} {te : TE} {me : ME} {vs : List Nat} {h : Bool} {W1 : WX} (hi : SoI K W wi mi) (hg : SoTw K vs g mg) (ht : SoT K WF0 tt mt) (he' : SoE K WF0 te me) : SoE K W (tLc wi g tt te vs) (mLc h mi mg mt me vs) := fun σ env F ρ lh cs H r lh' Q he s e q => by
  show wi σ H _
  refine SoG.bind hi he s e q fun d lh1 F1 ρ1 H1 J e1 g1 p1 s1 hJ => ?_
  split at e1
  · rename_i l2 ys hl
    obtain ⟨z, hz, rfl⟩ := mO_some e1
    intro D hD
    refine ⟨fun i m H' => ∃ F' ρ' l1 us acc, Gr F1 F' ∧ ρ1 <+: ρ' ∧ Sm K F' ρ' l1 ((D, .lst us) :: cs) H' ∧ Vrs K F' ρ' us acc ∧ lcGo d mg mt me vs env m i l1 acc = some (l2, ys), ⟨_, F1, ρ1, lh1, [], [], .rfl, pre_rfl, s1.cell hD, .nil, hl⟩, ?_⟩
    rintro i m H2 ⟨F2, ρ2, l3, us, acc, g2, p2, s2, hv, e2⟩
    cases m with
    | zero => cases e2
    | succ m =>
      unfold lcGo at e2
      split at e2
      · cases e2
      · rename_i hn
        cases e2
        exact .inl ⟨hJ.stop F2 ρ2 _ _ H2 i g2 p2 s2 hn, newL_cell s2 hv hz (q.toFin (g1.tr g2) (p1.trans p2))⟩
      · rename_i w l4 hn
        obtain ⟨k1, k2⟩ := hJ.go F2 ρ2 l3 _ H2 i w l4 g2 p2 s2 hn
        refine .inr ⟨k1, fun H' => ∃ F' ρ' l1 us acc, Gr F1 F' ∧ ρ1 <+: ρ' ∧ Sm K F' ρ' l1 ((D, .lst us) :: cs) H' ∧ Vrs K F' ρ' us acc ∧ lcGo d mg mt me vs env m (i + 1) l1 acc = some (l2, ys), fun H' h => ⟨m, Nat.lt_succ_self m, h⟩, fun x H' hy => ?_⟩
        obtain ⟨F3, ρ3, g3, p3, s3, hv3⟩ := k2 x H' hy
        have he3 := (he.up (g1.tr (g2.tr g3)) (p1.trans (p2.trans p3)))
        split at e2
        · cases e2
        · rename_i env3 h3
          refine hg x w (wipe σ vs) (mwipe env vs) env3 F3 ρ3 l4 _ H' _ (env_wipe he3 vs) s3 hv3 h3 fun σ4 he4 hw => ⟨hw.trans (wipe_wipe vs σ), ?_⟩
          have gg := g2.tr g3
          have pp := p2.trans p3
          split at e2
          · rename_i l5 h5
            refine ht σ4 env3 F3 ρ3 l4 _ H' _ _ _ he4 s3 h5 fun F5 ρ5 H5 g5 p5 s5 => ⟨fun b b' hb hb' => ?_, fun _ _ z => nomatch z⟩
            cases hb
            cases hb'
            rw [if_pos rfl]
            split at e2
            · rename_i y l6 h6
              split at e2
              · rename_i hs
                refine he' σ4 env3 F5 ρ5 l5 _ H5 _ _ _ (he4.up g5 p5) s5 h6 fun F6 ρ6 H6 g6 p6 s6 => ⟨fun y' v hy' hv' => ?_, fun _ _ z => nomatch z⟩
                cases hy'
                have hv6 : Vrs K F6 ρ6 us acc := hv.up (g3.tr (g5.tr g6)) (p3.trans (p5.trans p6))
                refine ⟨us, s6.chas, by rw [vrs_len hv]; exact szB_l1 hs, F6, ρ6, l6, us ++ [v], acc ++ [y], gg.tr (g5.tr g6), pp.trans (p5.trans p6), s6.cput, vrs_app hv6 (.cons hv' .nil), e2⟩
              · cases e2
            · cases e2
          · rename_i l5 h5
            refine ht σ4 env3 F3 ρ3 l4 _ H' _ _ _ he4 s3 h5 fun F5 ρ5 H5 g5 p5 s5 => ⟨fun b b' hb hb' => ?_, fun _ _ z => nomatch z⟩
            cases hb
            cases hb'
            rw [if_neg (by simp)]
            exact ⟨F5, ρ5, l5, us, acc, gg.tr g5, pp.trans p5, s5, hv.up (g3.tr g5) (p3.trans p5), e2⟩
          · cases e2
  · cases e1
end
end Bw

namespace Bw
open PySem L2
/-! calls of methods, new instances -/
def mMake (c : Str) (f : List MV → LH → MR MV) (t : MA) : ME := fun env lh => mB (t env lh) fun xs lh1 => match f (.r lh1.length :: xs) (lh1 ++ [.ins c []]) with
  | some (.ok (.d .none), lh2) => some (.ok (.r lh1.length), lh2)
  | some (.ok _, _) => none
  | some (.ex e, lh2) => some (.ex e, lh2)
  | none => none
def mMeC (c m : Str) (f : List MV → LH → MR MV) (o : ME) (t : MA) : ME := fun env lh => mB (o env lh) fun x lh1 => match x with
  | .r i => match lh1[i]? with
    | some (.ins c' fs) => if c' = c ∧ lookG m fs = none then mB (t env lh1) fun xs lh2 => f (x :: xs) lh2 else none
    | _ => none
  | _ => none
section
variable {K : PySem.W.Frag} {W : WX} {ta te to : TE} {ma me mo : ME} {as : TA} {mas : MA}
theorem so_meC {n : Nat} {c m : Str} {f : List MV → LH → MR MV} (hf : ∀ xs lh r, f xs lh = some r → xs.length = n) (ho : SoE K W to mo) (ha : SoA K W as mas) : SoE K W (tMeE (He.ga K c) m (spU K n f) (WE W) to as) (mMeC c m f mo mas) := fun σ env F ρ lh cs H rr lh' Q he s e q => by
  show to σ H fun x H1 => ∃ a dx fs, x = .ref a ∧ H1 a = some (.ins (He.ga K c) dx fs) ∧ fs.lookup m = none ∧ as σ H1 fun vs H2 => spU K n f (x :: vs) H2 Q (WE W σ)
  exact SoG.bind ho he s e q fun x lh1 F1 ρ1 H1 u e1 g1 p1 s1 hx => by
    split at e1
    · rename_i i
      split at e1
      · rename_i c' fs hi
        split at e1
        · rename_i hc
          obtain ⟨rfl, hm⟩ := hc
          have hx' := hx
          obtain ⟨a, h1, rfl⟩ := hx
          obtain ⟨a', h3, dx, us, h4, h5⟩ := s1.at hi
          rw [h1] at h3; cases h3
          refine ⟨a, dx, us, rfl, h4, (kr_look h5).2 hm, ?_⟩
          exact SoG.bind ha (he.up g1 p1) s1 e1 (q.up g1 p1) fun xs lh2 F2 ρ2 H2 ws e2 g2 p2 s2 hxs => ⟨F2, ρ2, lh2, cs, .r i :: xs, rr, lh', hf _ _ _ e2, s2, .cons (Vr.up g2 p2 hx') hxs, e2, fun F3 ρ3 H3 g3 p3 s3 => ⟨fun z v hz hv => (q F3 ρ3 H3 (g1.tr (g2.tr g3)) (p1.trans (p2.trans p3)) s3).1 z v hz hv, fun e d hz hd => (q F3 ρ3 H3 (g1.tr (g2.tr g3)) (p1.trans (p2.trans p3)) s3).2 e d hz hd⟩⟩
        · cases e1
      · cases e1
    · cases e1
theorem so_make {n : Nat} {c : Str} {f : List MV → LH → MR MV} (hf : ∀ xs lh r, f xs lh = some r → xs.length = n) (ha : SoA K W as mas) : SoE K W (tMakeS (He.ga K c) (spU K n f) (WE W) as) (mMake c f mas) := fun σ env F ρ lh cs H rr lh' Q he s e q => by
  show as σ H fun vs H1 => ∀ x dx, H1 x = none → H1 dx = none → dx ≠ x → spU K n f (.ref x :: vs) (upd (upd H1 dx (.own x)) x (.ins (He.ga K c) dx [])) (fun v H2 => v = .non ∧ Q (.ref x) H2) (WE W σ)
  refine SoG.bind ha he s e q fun xs lh1 F1 ρ1 H1 us e1 g1 p1 s1 hxs x dx hx hd hne => ?_
  have gg : Gr H1 (upd (upd H1 dx (.own x)) x (.ins (He.ga K c) dx [])) := (gr_new hd).tr (gr_new (by rw [upd_ne (Ne.symm hne)]; exact hx))
  have s2 : Sm K F1 (ρ1 ++ [x]) (lh1 ++ [.ins c []]) cs (upd (upd H1 dx (.own x)) x (.ins (He.ga K c) dx [])) := s1.new gg hx ⟨dx, [], upd_same, .nil⟩
  have hv : Vr K F1 (ρ1 ++ [x]) (.ref x) (.r lh1.length) := ⟨x, get_new s1, rfl⟩
  split at e1
  · rename_i l2 h2
    cases e1
    refine ⟨F1, ρ1 ++ [x], _, cs, _, _, _, hf _ _ _ h2, s2, .cons hv (hxs.up .rfl pre_app), h2, fun F3 ρ3 H3 g3 p3 s3 => ⟨fun z v hz hv' => ?_, fun e d hz hd => (nomatch hz)⟩⟩
    cases hz
    exact ⟨Dt.toNon hv', (q F3 ρ3 H3 (g1.tr g3) (p1.trans (pre_app.trans p3)) s3).1 _ _ rfl (Vr.up g3 p3 hv)⟩
  · cases e1
  · rename_i x2 l2 h2
    cases e1
    refine ⟨F1, ρ1 ++ [x], _, cs, _, _, _, hf _ _ _ h2, s2, .cons hv (hxs.up .rfl pre_app), h2, fun F3 ρ3 H3 g3 p3 s3 => ⟨fun z v hz hv' => (nomatch hz), fun e d hz hd => ?_⟩⟩
    cases hz
    exact (q F3 ρ3 H3 (g1.tr g3) (p1.trans (pre_app.trans p3)) s3).2 _ d rfl hd
  · cases e1
end
/-! exceptions -/
def mRaise (c : Str) : MS := fun env lh => some (.ex (c, .none), env, lh)
def mRaiseF (c : Str) (a : ME) : MS := fun env lh => mK (a env lh) env fun x l => match x with
  | .d d => if fmB d = true then some (.ex (c, d), env, l) else none
  | _ => none
def mTry (cl : List Str) (b : MS) (hs : List (Str × MS)) (els : MS) : MS := fun env lh => match b env lh with
  | some (.ex e, e1, l1) => if e.1 ∈ cl then (match hs.find? fun h => subX e.1 h.1 with
    | some h => h.2 e1 l1
    | none => some (.ex e, e1, l1)) else none
  | some (.nx, e1, l1) => els e1 l1
  | r => r
def mTryK (cl : List Str) (i j : Nat) (b : MS) : MS := fun env lh => match b env lh with
  | some (.ex e, e1, l1) => if e.1 ∈ cl ∧ i < e1.length then some (.nx, (((e1.set i (some (.x e))).set j (some (.x e))).set i none), l1) else none
  | r => r
/-- what is known of the classes that are caught -/
structure XhF (K : PySem.W.Frag) (cl hs : List Str) : Prop where
  exm : ∀ c ∈ cl, ∀ d ∈ hs, PySem.W.exmOne K (.ref (He.ga K c)) (.ref (He.ga K d)) = some (subX c d)
section
variable {K : PySem.W.Frag} {W : WX} {ta te to : TE} {ma me mo : ME}
theorem so_raise {c : Str} (hc : fld c = none) : SoS K W (tRaiseX W (He.ga K c)) (mRaise c) := fun σ env F ρ lh cs H fl env' lh' D he s e q => by
  cases e
  exact q F ρ H σ .rfl pre_rfl s he none (by unfold Xd; rw [hc])
theorem so_raiseF {c f : Str} (hf : fld c = some f) (ha : SoE K W te ma) : SoS K W (tRaiseF K W c f te) (mRaiseF c ma) := fun σ env F ρ lh cs H fl env' lh' D he s e q => by
  show te σ H _
  refine SoG.stm ha he s e q fun v lh1 F1 ρ1 H2 u e1 g1 p1 s2 hv => ⟨Nat.le_of_ble_eq_true rfl, fun a ha => ?_⟩
  split at e1
  · rename_i d
    split at e1
    · rename_i hb
      cases e1
      refine ⟨a, u, rfl, upd_same, fmV_of hv hb, fun dx hx hn => ⟨rfl, dx, [(f, u)], upd_same, ?_, ?_, ?_⟩⟩
      · rw [upd_ne hn, upd_same]
      · rw [upd_ne hn] at hx; exact hx
      · rw [upd_ne hn] at hx
        have e : upd (del (upd (upd (upd H2 a (exo a (He.ga K c) none)) dx (exd dx [(f, u)])) a (exo a (He.ga K c) (some dx))) a) dx (.xd [(f, u)]) = upd H2 dx (.xd [(f, u)]) := by
          funext z
          by_cases hz : z = dx
          · rw [hz, upd_same, upd_same]
          · rw [upd_ne hz, upd_ne hz]
            by_cases hza : z = a
            · rw [hza, del_same, ha]
            · rw [del_ne hza, upd_ne hza, upd_ne hz, upd_ne hza]
        rw [e]
        refine q _ _ _ σ (g1.tr (s2.layG hx)) p1 (s2.lay hx) (he.up (g1.tr (s2.layG hx)) p1) (some dx) ?_
        unfold Xd
        rw [hf]
        exact ⟨dx, u, rfl, upd_same, hv.gr (s2.layG hx)⟩
    · cases e1
  · cases e1
def hsT (K : PySem.W.Frag) (W : WX) (hs : List (Str × MS)) : List (Value × (Addr → Value → Option Addr → TS)) := hs.map fun h => (.ref (He.ga K h.1), fun _ _ _ => tGS K W h.2)
theorem wmany_ok {cl : List Str} {Wout : WX} {D : Ends} {e : Xe} {d : Option Addr} {σ : St} {H : Hp} (he : e.1 ∈ cl) : ∀ {hs : List (Str × MS)}, XhF K cl (hs.map (·.1)) → (∀ h, (hs.find? fun h => subX e.1 h.1) = some h → tGS K W h.2 D σ H) → ((hs.find? fun h => subX e.1 h.1) = none → Wout (.ref (He.ga K e.1)) d σ H) → wMany K Wout D (hsT K W hs) (.ref (He.ga K e.1)) d σ H
  | [], _, _, h2 => h2 rfl
  | (c, m) :: hs, X, h1, h2 => by
    refine ⟨subX e.1 c, X.exm _ he c (by simp), fun hb a ha => ?_, fun hb => ?_⟩
    · exact h1 (c, m) (by rw [List.find?_cons]; simp only [hb])
    · refine wmany_ok he (hs := hs) ⟨fun c' hc' d hd => X.exm c' hc' d (List.mem_cons_of_mem _ hd)⟩ (fun h hh => h1 h ?_) fun hh => h2 ?_
      · rw [List.find?_cons]; simp only [hb]; exact hh
      · rw [List.find?_cons]; simp only [hb]; exact hh
theorem so_try {cl : List Str} {tb : WX → TS} {u : TS} {b els : MS} {hs : List (Str × MS)} (X : XhF K cl (hs.map (·.1))) (hb : ∀ W', SoS K W' (tb W') b) (hu : SoS K W u els) : SoS K W (fun D σ H => tb (wMany K W D (hsT K W hs)) { D with nx := u D } σ H) (mTry cl b hs els) := fun σ env F ρ lh cs H fl env' lh' D he s e q => by
  unfold mTry at e
  split at e
  · rename_i x e1 l1 h1
    split at e
    · rename_i hx
      refine hb _ σ env F ρ lh cs H _ _ _ _ he s h1 fun F1 ρ1 H1 σ1 g1 p1 s1 he1 d hd => ?_
      refine wmany_ok hx X (fun h hh => ?_) fun hh => ?_
      · rw [hh] at e
        exact ⟨e1, F1, ρ1, l1, cs, fl, env', lh', he1, s1, e, q.up g1 p1⟩
      · rw [hh] at e
        cases e
        exact q F1 ρ1 H1 σ1 g1 p1 s1 he1 d hd
    · cases e
  · rename_i e1 l1 h1
    exact hb _ σ env F ρ lh cs H _ _ _ _ he s h1 fun F1 ρ1 H1 σ1 g1 p1 s1 he1 => hu σ1 e1 F1 ρ1 l1 cs H1 fl env' lh' D he1 s1 e (q.up g1 p1)
  · rename_i r h1 h2
    refine hb _ σ env F ρ lh cs H _ _ _ _ he s e fun F1 ρ1 H1 σ1 g1 p1 s1 he1 => ?_
    have q1 := q F1 ρ1 H1 σ1 g1 p1 s1 he1
    cases fl with
    | nx => exact absurd e (h2 _ _)
    | ex x => exact absurd e (h1 _ _ _)
    | br => exact q1
    | ct => exact q1
    | rt v => exact q1
theorem set_set_get {σ : St} {i : Nat} {v : Option V} (h : i < σ.length) : (σ.set i v)[i]? = some v := by simp [h]
theorem so_tryK {cl : List Str} {i j : Nat} {b : MS} {tb : WX → TS} (X : XhF K cl ["CartError"]) (hall : ∀ c ∈ cl, subX c "CartError" = true) (hb : ∀ W', SoS K W' (tb W') b) : SoS K W (tTryK K i j W tb) (mTryK cl i j b) := fun σ env F ρ lh cs H fl env' lh' D he s e q => by
  unfold mTryK at e
  split at e
  · rename_i x e1 l1 h1
    split at e
    · rename_i hx
      cases e
      refine hb _ σ env F ρ lh cs H _ _ _ _ he s h1 fun F1 ρ1 H1 σ1 g1 p1 s1 he1 d hd => ?_
      refine ⟨true, by rw [X.exm _ hx.1 _ (by simp), hall _ hx.1], fun _ => ⟨_, rfl, fun a ha => ?_⟩, fun z => nomatch z⟩
      refine ⟨.ref a, set_set_get (by rw [show σ1.length = e1.length from Paired.length he1]; exact hx.2), ha, ?_⟩
      have g2 : Gr F1 (upd F1 a (ExK (He.ga K x.1) d a)) := s1.layG ha
      have hv : Vr K (upd F1 a (ExK (He.ga K x.1) d a)) ρ1 (.ref a) (.x x) := ⟨a, d, rfl, upd_same, hd.gr g2⟩
      exact q _ _ _ _ (g1.tr g2) p1 (s1.lay ha) (env_del i (env_set hv j (env_set hv i (he1.up g2 pre_rfl))))
    · cases e
  · rename_i r h1
    refine hb _ σ env F ρ lh cs H _ _ _ _ he s e fun F1 ρ1 H1 σ1 g1 p1 s1 he1 => ?_
    have q1 := q F1 ρ1 H1 σ1 g1 p1 s1 he1
    cases fl with
    | nx => exact q1
    | ex x => exact absurd e (h1 _ _ _)
    | br => exact q1
    | ct => exact q1
    | rt v => exact q1
end
/-! stores into lists and dicts -/
def setO (o i v : MV) (lh : LH) : Option LH := match o with
  | .r j => match lh[j]? with
    | some (.lst xs) => match vI i with
      | some k => (ixN xs.length k).map fun n => lh.set j (.lst (xs.set n v))
      | none => none
    | some (.dct kvs) => match keyO i with
      | some k => if szB (kvs.length + 1) = true then some (lh.set j (.dct (putN kvs k v))) else none
      | none => none
    | _ => none
  | _ => none
def rSetU : TSet := fun o i v H Q => rSetL o i v H Q ∨ ∃ a H4, o = .ref a ∧ DPut H a i v H4 ∧ Q H4
theorem set_u {X : Cx} (hu : X.A.units + 1 < cLine) : PSet X rSetU := by
  intro pins s σ H o i v ov iv u Q I ro ri rv h
  rcases h with h | ⟨a, H4, rfl, g, q⟩
  · exact set_list pins s σ H o i v ov iv u Q I ro ri rv h
  · obtain rfl : ov = Value.ref a := ro
    exact d_setItem hu I g ri rv fun s' I' => ⟨H4, I', q⟩
def rGetU (K : PySem.W.Frag) : V → V → Hp → VK → Prop := fun x y H Q => rIxL K x y H Q ∨ rIxDi x y H Q
theorem get_u {X : Cx} (hu : X.A.units + 1 < cLine) : PGet X (rGetU X.K) := by
  intro pins s σ H o i ov iv Q I ro ri h
  rcases h with h | ⟨a, w, rfl, g, q⟩
  · exact get_list pins s σ H o i ov iv Q I ro ri h
  · obtain rfl : ov = Value.ref a := ro
    exact d_getItem hu I g ri fun w' s' I' r' => ⟨w, H, I', r', q⟩
def mSub (o i a : ME) : MS := fun env lh => mK (a env lh) env fun v l1 => mK (o env l1) env fun x l2 => mK (i env l2) env fun y l3 => match setO x y v l3 with
  | some l4 => some (.nx, env, l4)
  | none => none
def mSubAug (g : G2) (o i a : ME) : MS := fun env lh => mK (o env lh) env fun x l1 => mK (i env l1) env fun y l2 => match alt2 ixL ixK x y l2 with
  | some (w, _) => mK (a env l2) env fun z l3 => match g w z l3 with
    | some (v, l4) => match setO x y v l4 with
      | some l5 => some (.nx, env, l5)
      | none => none
    | none => none
  | none => none
section
variable {K : PySem.W.Frag} {W : WX} {ta te to ti : TE} {ma me mo mi : ME}
theorem setO_ok {F : Hp} {ρ : List Addr} {lh lh' : LH} {cs : Cs} {H : Hp} {o i v : V} {x y z : MV} {Q : Hp → Prop} (s : Sm K F ρ lh cs H) (ho : Vr K F ρ o x) (hi : Vr K F ρ i y) (hv : Vr K F ρ v z) (e : setO x y z lh = some lh') (q : ∀ H', Sm K F ρ lh' cs H' → Q H') : rSetU o i v H Q := by
  unfold setO at e
  split at e
  · rename_i j
    obtain ⟨a, h1, rfl⟩ := ho
    split at e
    · rename_i xs hj
      split at e
      · rename_i k hk
        obtain ⟨n, h2, rfl⟩ := Option.map_eq_some_iff.mp e
        obtain ⟨a', h3, us, h4, h5⟩ := s.at hj
        rw [h1] at h3; cases h3
        exact .inl ⟨a, us, k, n, rfl, vI_vr hk hi, h4, by rw [vrs_len h5]; exact h2, q _ (s.put hj rfl h1 ⟨_, upd_same, vrs_set n h5 hv⟩)⟩
      · cases e
    · rename_i kvs hj
      split at e
      · rename_i k hk
        split at e
        · rename_i hs
          cases e
          obtain ⟨a', h3, us, h4, h5⟩ := s.at hj
          rw [h1] at h3; cases h3
          refine .inr ⟨a, _, rfl, .inl ⟨us, k, h4, keyO_ok hi hk, by rw [kr_len h5]; exact szB_l1 hs, rfl⟩, q _ (s.put hj rfl h1 ⟨_, upd_same, kr_put h5 hv⟩)⟩
        · cases e
      · cases e
    · cases e
  · cases e
theorem so_sub (ho : SoE K W to mo) (hi : SoE K W ti mi) (ha : SoE K W ta ma) : SoS K W (tAsg ta (gSub to ti rSetU)) (mSub mo mi ma) := fun σ env F ρ lh cs H fl env' lh' D he s e q => by
  show ta σ H fun v H1 => to σ H1 fun o H2 => ti σ H2 fun i H3 => rSetU o i v H3 fun H4 => D.nx σ H4
  exact SoG.stm ha he s e q fun v lh1 F1 ρ1 H1 u e1 g1 p1 s1 hv => SoG.stm ho (he.up g1 p1) s1 e1 (q.up g1 p1) fun x lh2 F2 ρ2 H2 w e2 g2 p2 s2 hx => SoG.stm hi (he.up (g1.tr g2) (p1.trans p2)) s2 e2 (q.up (g1.tr g2) (p1.trans p2)) fun y lh3 F3 ρ3 H3 w2 e3 g3 p3 s3 hy => by
    split at e3
    · rename_i l4 h4
      cases e3
      exact setO_ok s3 (Vr.up g3 p3 hx) hy (Vr.up (g2.tr g3) (p2.trans p3) hv) h4 fun H' s' => q F3 ρ3 H' σ (g1.tr (g2.tr g3)) (p1.trans (p2.trans p3)) s' (he.up (g1.tr (g2.tr g3)) (p1.trans (p2.trans p3)))
    · cases e3
theorem rel_getU : Rel2 K (rGetU K) (alt2 ixL ixK) := rel_ixL.or rel_ixK
theorem get_pure {x y z : MV} {lh lh' : LH} (h : alt2 ixL ixK x y lh = some (z, lh')) : lh' = lh := by
  unfold alt2 at h
  split at h
  · rename_i w hw
    cases h
    unfold ixL at hw
    split at hw
    · obtain ⟨_, _, e⟩ := Option.map_eq_some_iff.mp hw; cases e; rfl
    · cases hw
  · unfold ixK at h
    split at h
    · obtain ⟨_, _, e⟩ := Option.map_eq_some_iff.mp h; cases e; rfl
    · cases h
theorem so_subaug {g : G2} {r : R2} (hr : Rel2 K r g) (ho : SoE K W to mo) (hi : SoE K W ti mi) (ha : SoE K W ta ma) : SoS K W (tAugS to ti ta (rGetU K) r rSetU) (mSubAug g mo mi ma) := fun σ env F ρ lh cs H fl env' lh' D he s e q => by
  show to σ H fun o H1 => ti σ H1 fun i H2 => rGetU K o i H2 fun x H3 => ta σ H3 fun y H4 => r x y H4 fun z H5 => rSetU o i z H5 fun H6 => D.nx σ H6
  refine SoG.stm ho he s e q fun x lh1 F1 ρ1 H1 u e1 g1 p1 s1 hx => SoG.stm hi (he.up g1 p1) s1 e1 (q.up g1 p1) fun y lh2 F2 ρ2 H2 w e2 g2 p2 s2 hy => ?_
  split at e2
  · rename_i v0 l0 h0
    cases get_pure h0
    refine rel_getU F2 ρ2 _ cs H2 u w x y v0 _ _ s2 (Vr.up g2 p2 hx) hy h0 fun F3 ρ3 H3 v3 g3 p3 s3 hv3 => ?_
    exact SoG.stm ha (he.up (g1.tr (g2.tr g3)) (p1.trans (p2.trans p3))) s3 e2 (q.up (g1.tr (g2.tr g3)) (p1.trans (p2.trans p3))) fun z lh4 F4 ρ4 H4 w4 e4 g4 p4 s4 hz => by
      split at e4
      · rename_i v5 l5 h5
        refine hr F4 ρ4 _ cs H4 v3 w4 v0 z v5 _ _ s4 (Vr.up g4 p4 hv3) hz h5 fun F5 ρ5 H5 v6 g5 p5 s5 hv6 => ?_
        split at e4
        · rename_i l6 h6
          cases e4
          have G := g3.tr (g4.tr g5)
          have P := p3.trans (p4.trans p5)
          exact setO_ok s5 (Vr.up (g2.tr G) (p2.trans P) hx) (Vr.up G P hy) hv6 h6 fun H' s' => q F5 ρ5 H' σ (g1.tr (g2.tr G)) (p1.trans (p2.trans P)) s' (he.up (g1.tr (g2.tr G)) (p1.trans (p2.trans P)))
        · cases e4
      · cases e4
  · cases e2
end
end Bw

namespace Bw
open PySem L2
/-! displays -/
def mLst (h : Bool) (t : MA) : ME := fun env lh => mB (t env lh) fun xs l => mO (newL h xs l)
def mTup (t : MA) : ME := fun env lh => mB (t env lh) fun xs l => mO (newT xs l)
def mDict0 (h : Bool) : ME := fun _ lh => if h = true then some (.ok (.r lh.length), lh ++ [.dct []]) else some (.ok (.d (.dict [])), lh)
def mPairs : List (ME × ME) → Env → LH → MR (List (Key × MV))
  | [], _, lh => some (.ok [], lh)
  | (k, v) :: ps, env, lh => mB (k env lh) fun x l1 => match keyO x with
    | some kk => mB (v env l1) fun y l2 => mB (mPairs ps env l2) fun r l3 => some (.ok ((kk, y) :: r), l3)
    | none => none
def mrgN (kvs more : List (Key × MV)) : List (Key × MV) := more.foldl (fun acc kv => putN acc kv.1 kv.2) kvs
def mDisp (ps : List (ME × ME)) : ME := fun env lh => mB (mPairs ps env lh) fun kvs l => if kvs.length ≤ 15 then some (.ok (.r l.length), l ++ [.dct (mrgN [] kvs)]) else none
section
variable {K : PySem.W.Frag} {W : WX} {ta tb te to : TE} {ma mb me mo : ME} {as : TA} {mas : MA} {h : Bool}
theorem so_lst (ha : SoA K W as mas) : SoE K W (tLst as) (mLst h mas) := fun σ env F ρ lh cs H r lh' Q he s e q => by
  show as σ H fun xs H1 => xs.length ≤ sizeLine ∧ ∀ p, H1 p = none → Q (.ref p) (upd H1 p (.lst xs))
  exact SoG.bind ha he s e q fun x lh1 F1 ρ1 H1 u e1 g1 p1 s1 hx => by
    obtain ⟨z, h1, rfl⟩ := mO_some e1
    exact newL_ok s1 hx h1 (q.toFin g1 p1)
theorem so_tup (ha : SoA K W as mas) : SoE K W (tTup as) (mTup mas) := fun σ env F ρ lh cs H r lh' Q he s e q => by
  show as σ H fun xs H1 => xs.length ≤ sizeLine ∧ ∀ p, H1 p = none → Q (.ref p) (upd H1 p (.tup xs))
  exact SoG.bind ha he s e q fun x lh1 F1 ρ1 H1 u e1 g1 p1 s1 hx => by
    obtain ⟨z, h1, rfl⟩ := mO_some e1
    exact newT_ok s1 hx h1 (q.toFin g1 p1)
theorem newD_ok {F : Hp} {ρ : List Addr} {lh : LH} {cs : Cs} {H : Hp} {us : List (Key × V)} {kvs : List (Key × MV)} {Q : VK} (s : Sm K F ρ lh cs H) (hk : KR K F ρ us kvs) (q : Fi K F ρ (lh ++ [.dct kvs]) cs (.r lh.length) Q) : ∀ p, H p = none → Q (.ref p) (upd H p (.dK us)) := fun p hp =>
  q _ _ _ _ .rfl pre_app (s.new (gr_new hp) hp ⟨us, upd_same, hk.up .rfl pre_app⟩) ⟨p, get_new s, rfl⟩
theorem so_dict0 : SoE K W tDNewK (mDict0 h) := fun σ env F ρ lh cs H r lh' Q he s e q => by
  unfold mDict0 at e
  intro p hp
  split at e
  · cases e
    exact newD_ok s .nil (q.toFin .rfl pre_rfl) p hp
  · cases e
    exact (q _ _ _ (s.layG hp) pre_rfl (s.lay hp)).1 _ _ rfl (.dct upd_same)
theorem kr_mrg {F : Hp} {ρ : List Addr} : ∀ {more : List (Key × V)} {moreM : List (Key × MV)} {us : List (Key × V)} {kvs : List (Key × MV)}, KR K F ρ more moreM → KR K F ρ us kvs → KR K F ρ (mergeK us more) (mrgN kvs moreM)
  | _, _, _, _, .nil, k => k
  | (a, v) :: more, (b, x) :: moreM, us, kvs, .cons h t, k => by
    obtain ⟨h1, h2⟩ := h
    dsimp only at h1 h2
    subst h1
    exact kr_mrg (us := putK us a v) (kvs := putN kvs a x) t (kr_put k h2)
/-- the pairs of a display, while the new dict stands empty -/
theorem so_pairs : ∀ {trs : List (TE × TE)} {ps : List (ME × ME)}, Paired (fun a b => SoE K W a.1 b.1 ∧ SoE K W a.2 b.2) trs ps → SoG (fun F ρ (u : List (V × V)) (v : List (Key × MV)) => ∃ us, KR K F ρ us v ∧ u = us.map fun kv => (kV kv.1, kv.2)) K W (tPairs trs) (mPairs ps)
  | _, _, .nil => fun σ env F ρ lh cs H r lh' Q he s e q => by
    cases e; exact (q F ρ H .rfl pre_rfl s).1 _ _ rfl ⟨[], .nil, rfl⟩
  | (tk, tv) :: trs, (mk, mv) :: ps, .cons h t => fun σ env F ρ lh cs H r lh' Q he s e q => by
    show tk σ H fun x H1 => tv σ H1 fun y H2 => tPairs trs σ H2 fun ps H3 => Q ((x, y) :: ps) H3
    refine SoG.bind h.1 he s e q fun x lh1 F1 ρ1 H1 u e1 g1 p1 s1 hx => ?_
    split at e1
    · rename_i kk hk
      cases keyO_ok hx hk
      refine SoG.bind h.2 (he.up g1 p1) s1 e1 (q.up g1 p1) fun y lh2 F2 ρ2 H2 w e2 g2 p2 s2 hy => ?_
      refine SoG.bind (so_pairs t) (he.up (g1.tr g2) (p1.trans p2)) s2 e2 (q.up (g1.tr g2) (p1.trans p2)) fun zs lh3 F3 ρ3 H3 w3 e3 g3 p3 s3 hz => ?_
      cases e3
      obtain ⟨us, k1, rfl⟩ := hz
      exact (q F3 ρ3 H3 (g1.tr (g2.tr g3)) (p1.trans (p2.trans p3)) s3).1 _ _ rfl ⟨(kk, w) :: us, .cons ⟨rfl, Vr.up g3 p3 hy⟩ k1, rfl⟩
    · cases e1
theorem Sm.cdrop {F : Hp} {ρ : List Addr} {lh : LH} {c : Addr × HO} {cs : Cs} {H : Hp} (s : Sm K F ρ lh (c :: cs) H) : Sm K F ρ lh cs H :=
  ⟨s.fr, s.len, s.sep, s.nd, s.has, fun p hp => s.cst p (List.mem_cons_of_mem _ hp), by have := s.cnd; rw [List.map_cons, List.nodup_cons] at this; exact this.2⟩
theorem so_disp {trs : List (TE × TE)} {ps : List (ME × ME)} (hp : Paired (fun a b => SoE K W a.1 b.1 ∧ SoE K W a.2 b.2) trs ps) : SoE K W (tDisp trs) (mDisp ps) := fun σ env F ρ lh cs H r lh' Q he s e q => by
  intro p hpn
  -- the new dict as a cell
  have s0 := s.cell (u := .dK []) hpn
  rcases mB_some e with ⟨kvs, l, e1, e2⟩ | ⟨x, e1, rfl⟩
  · refine so_pairs hp σ env F ρ lh ((p, .dK []) :: cs) _ _ _ _ he s0 e1 fun F1 ρ1 H1 g1 p1 s1 => ⟨fun v u hv hu => ?_, fun _ _ z => nomatch z⟩
    cases hv
    obtain ⟨us, k1, rfl⟩ := hu
    split at e2
    · rename_i hl
      cases e2
      refine ⟨s1.chas, us, rfl, by rw [kr_len k1]; exact hl, ?_⟩
      have s2 : Sm K F1 ρ1 l ((p, .dK (mergeK [] us)) :: cs) (upd H1 p (.dK (mergeK [] us))) := s1.cput
      have s3 := s2.cobj (o := .dct (mrgN [] kvs)) ⟨mergeK [] us, s2.chas, (kr_mrg (us := []) (kvs := []) k1 .nil).up .rfl pre_app⟩
      exact (q F1 (ρ1 ++ [p]) _ g1 (p1.trans pre_app) s3).1 _ _ rfl ⟨p, by rw [← s2.len]; simp, rfl⟩
    · cases e2
  · exact so_pairs hp σ env F ρ lh ((p, .dK []) :: cs) _ _ _ _ he s0 e1 fun F1 ρ1 H1 g1 p1 s1 => ⟨fun v u hv hu => (nomatch hv), fun e d hz hd => by cases hz; exact (q F1 ρ1 H1 g1 p1 s1.cdrop).2 _ d rfl hd⟩
end
end Bw

namespace Bw
open PySem L2
/-! operators -/
def gCatL (h : Bool) : G2 := fun a b lh => match sqL lh a, sqL lh b with
  | some xs, some ys => newL h (xs ++ ys) lh
  | _, _ => none
def gRepL (h : Bool) : G2 := fun a b lh => match sqL lh a, vI b with
  | some xs, some k => if -(2 ^ 63) ≤ k ∧ k < 2 ^ 63 then newL h (List.replicate k.toNat xs).flatten lh else none
  | _, _ => none
def gCatT : G2 := fun a b lh => match sqT lh a, sqT lh b with
  | some xs, some ys => if xs = [] then some (b, lh) else if ys = [] then some (a, lh) else newT (xs ++ ys) lh
  | _, _ => none
def gAdd (h : Bool) : G2 := alt2 (pu2 addP) (alt2 (pu2 catP) (gCatL h))
def gSubt : G2 := pu2 subP
def gMul (h : Bool) : G2 := alt2 (pu2 mulP) (alt2 (pu2 srepP) (gRepL h))
def gMod : G2 := pu2 modP
def gFdiv : G2 := pu2 fdivP
def gPow : G2 := pu2 powP
def gLt : G2 := pu2 ltP
def gLe : G2 := pu2 leP
def gGt : G2 := pu2 gtP
def gGe : G2 := pu2 geP
def gNeg : G1 := pu1 negP
def gEq : G2 := alt2 (pu2 eqSP) (pu2 eqDP)
def gNe : G2 := alt2 (pu2 fun x y => (eqSP x y).map notP) (pu2 fun x y => (eqDP x y).map notP)
def rAddU (K : PySem.W.Frag) : R2 := fun x y H Q => rI0 (fun i j => .int (i + j)) x y H Q ∨ (∃ i j, x = .str i ∧ y = .str j ∧ i.length + j.length ≤ sizeLine ∧ Q (.str (i ++ j)) H) ∨ rCatS K x y H Q
def rMulU (K : PySem.W.Frag) : R2 := fun x y H Q => rI CMul (fun i j => .int (i * j)) x y H Q ∨ rSrep x y H Q ∨ rRepS K x y H Q
theorem op_addU {X : Cx} : OpR X (binaryOp .Add) (rAddU X.K) := op_add.or (op_add_str.or op_catS)
theorem op_mulU {X : Cx} : OpR X (binaryOp .Mult) (rMulU X.K) := op_mul.or (op_srep.or op_repS)
section
variable {K : PySem.W.Frag} {h : Bool}
theorem rel_catL : Rel2 K (rCatS K) (gCatL h) := fun F ρ lh cs H x y a b z lh' Q s hx hy e q => by
  unfold gCatL at e
  split at e
  · rename_i xs ys h1 h2
    obtain ⟨p, us, rfl, k1, k2⟩ := sqL_ok s hx h1
    obtain ⟨p', ws, rfl, j1, j2⟩ := sqL_ok s hy h2
    have n := newL_ok s (vrs_app k2 j2) e q
    exact ⟨p, p', us, ws, rfl, rfl, k1, j1, by rw [List.length_append] at n; exact n.1, n.2⟩
  · cases e
theorem rel_repL : Rel2 K (rRepS K) (gRepL h) := fun F ρ lh cs H x y a b z lh' Q s hx hy e q => by
  unfold gRepL at e
  split at e
  · rename_i xs k h1 h2
    split at e
    · rename_i hk
      obtain ⟨p, us, rfl, k1, k2⟩ := sqL_ok s hx h1
      have n := newL_ok s (vrs_rep k2 k.toNat) e q
      refine ⟨p, k, us, rfl, vI_vr h2 hy, k1, hk.1, hk.2, ?_, n.2⟩
      have := n.1
      rw [List.length_flatten, List.map_replicate, List.sum_replicate_nat, Nat.mul_comm] at this
      exact this
    · cases e
  · cases e
theorem dv_srep : Dv2 K rSrep srepP := fun dx dy dz e ta tb σ F cs h1 h2 => by
  unfold srepP at e; split at e
  · obtain ⟨z, h3, rfl⟩ := Option.map_eq_some_iff.mp e; exact d_srep h1 h2 h3
  · cases e
theorem rel_add : Rel2 K (rAddU K) (gAdd h) := (rel2_of dv_add).or ((rel2_of dv_cat).or rel_catL)
theorem rel_mul : Rel2 K (rMulU K) (gMul h) := (rel2_of dv_mul).or ((rel2_of dv_srep).or rel_repL)
theorem rel_sub : Rel2 K (rI0 fun i j => .int (i - j)) gSubt := rel2_of dv_sub
theorem rel_mod : Rel2 K (rI (fun _ j => 0 < j) fun i j => .int (i % j)) gMod := rel2_of dv_mod
theorem rel_fdiv : Rel2 K (rI CDiv fun i j => .int (i / j)) gFdiv := rel2_of dv_fdiv
theorem rel_pow : Rel2 K (rI CPow fun i j => .int (i ^ j.toNat)) gPow := rel2_of dv_pow
theorem rel_lt : Rel2 K (rI0 fun i j => .bl (decide (i < j))) gLt := rel2_of dv_lt
theorem rel_le : Rel2 K (rI0 fun i j => .bl (decide (i ≤ j))) gLe := rel2_of dv_le
theorem rel_gt : Rel2 K (rI0 fun i j => .bl (decide (j < i))) gGt := rel2_of dv_gt
theorem rel_ge : Rel2 K (rI0 fun i j => .bl (decide (j ≤ i))) gGe := rel2_of dv_ge
theorem rel_neg : Rel1 K (rU fun i => .int (-i)) gNeg := rel1_of dv_neg
theorem rel_eq : Rel2 K (rEqU K) gEq := (rel2_of dv_eqS).or (rel2_of dv_eqD)
theorem rel_ne : Rel2 K (rNeU K) gNe := (rel2_of dv_neS).or (rel2_of dv_neD)
end
/-! in -/
def gInS : G2 := pu2 fun x y => match x, y with
  | .str a, .str b => some (.bool (inS a b))
  | _, _ => none
def gInD : G2 := pu2 fun x y => match y with
  | .list ds => (inDM x ds).map .bool
  | _ => none
def gInK : G2 := fun a b lh => match keyO a, dcO lh b with
  | some k, some kvs => some (.d (.bool (valM kvs k).isSome), lh)
  | _, _ => none
def neg2 (g : G2) : G2 := fun a b lh => match g a b lh with
  | some (.d (.bool c), l) => some (.d (.bool (!c)), l)
  | _ => none
def gIn : G2 := alt2 gInS (alt2 gInD gInK)
def gNin : G2 := alt2 (neg2 gInS) (alt2 (neg2 gInD) (neg2 gInK))
def rInK : R2 := fun y x H Q => ∃ a o, x = .ref a ∧ DGet H a y o ∧ Q (.bl o.isSome) H
def rNinK : R2 := fun y x H Q => ∃ a o, x = .ref a ∧ DGet H a y o ∧ Q (.bl (!o.isSome)) H
abbrev rInTx : R2 := fun x y H Q => ∃ i j, x = .str i ∧ y = .str j ∧ Q (.bl (!(Builtin.Str.occurrences j i 0 j.length 1).isEmpty)) H
abbrev rNinTx : R2 := fun x y H Q => ∃ i j, x = .str i ∧ y = .str j ∧ Q (.bl (!(!(Builtin.Str.occurrences j i 0 j.length 1).isEmpty))) H
def rInU (K : PySem.W.Frag) : R2 := fun x y H Q => rInTx x y H Q ∨ rInD K x y H Q ∨ rInK x y H Q
def rNinU (K : PySem.W.Frag) : R2 := fun x y H Q => rNinTx x y H Q ∨ rNotInD K x y H Q ∨ rNinK x y H Q
theorem op_inK {X : Cx} (hu : X.A.units + 1 < cLine) : OpR X (compareOp .In) rInK := by
  intro pins s σ H x y v u Q I rx ry h
  obtain ⟨a, o, rfl, g, q⟩ := h
  obtain rfl : u = Value.ref a := ry
  exact d_in hu I g rx fun s' I' => ⟨.bl o.isSome, H, I', rfl, q⟩
theorem op_ninK {X : Cx} (hu : X.A.units + 1 < cLine) : OpR X (compareOp .NotIn) rNinK := by
  intro pins s σ H x y v u Q I rx ry h
  obtain ⟨a, o, rfl, g, q⟩ := h
  obtain rfl : u = Value.ref a := ry
  exact d_notIn hu I g rx fun s' I' => ⟨.bl (!o.isSome), H, I', rfl, q⟩
theorem op_inU {X : Cx} (hu : X.A.units + 65 < cLine) : OpR X (compareOp .In) (rInU X.K) := op_in_str.or ((op_inD hu).or (op_inK (by omega)))
theorem op_ninU {X : Cx} (hu : X.A.units + 65 < cLine) : OpR X (compareOp .NotIn) (rNinU X.K) := op_notin_str.or ((op_notInD hu).or (op_ninK (by omega)))
section
variable {K : PySem.W.Frag} {h : Bool}
theorem rel_inK : Rel2 K rInK gInK := fun F ρ lh cs H x y a b z lh' Q s hx hy e q => by
  unfold gInK at e
  split at e
  · rename_i k kvs h1 h2
    cases e
    obtain ⟨p, us, rfl, k1, k2⟩ := dcO_ok s hy h2
    refine ⟨p, valV us k, rfl, .inl ⟨us, k, k1, keyO_ok hx h1, rfl⟩, ?_⟩
    have : (valV us k).isSome = (valM kvs k).isSome := by
      obtain ⟨i1, i2⟩ := kr_val (vs := us) (kvs := kvs) (k := k) k2
      cases m : valM kvs k with
      | none => rw [i2 m]; rfl
      | some w => obtain ⟨v, e1, _⟩ := i1 w m; rw [e1]; rfl
    rw [this]
    exact q.d s (.bl _)
  · cases e
theorem dv_inS : Dv2 K rInTx (fun x y => match x, y with | .str a, .str b => some (.bool (inS a b)) | _, _ => none) := fun dx dy dz e ta tb σ F cs h1 h2 => by
  dsimp only at e; split at e
  · cases e; exact d_inS h1 h2
  · cases e
theorem dv_inD : Dv2 K (rInD K) (fun x y => match y with | .list ds => (inDM x ds).map .bool | _ => none) := fun dx dy dz e ta tb σ F cs h1 h2 => by
  dsimp only at e; split at e
  · obtain ⟨z, h3, rfl⟩ := Option.map_eq_some_iff.mp e; exact d_inDM h1 h2 h3
  · cases e
theorem rel_in : Rel2 K (rInU K) gIn := (rel2_of dv_inS).or ((rel2_of dv_inD).or rel_inK)
theorem neg2_some {g : G2} {a b : MV} {lh lh' : LH} {z : MV} (e : neg2 g a b lh = some (z, lh')) : ∃ c, g a b lh = some (.d (.bool c), lh') ∧ z = .d (.bool (!c)) := by
  unfold neg2 at e
  split at e
  · cases e; exact ⟨_, ‹_›, rfl⟩
  · cases e
theorem rel_ninS : Rel2 K rNinTx (neg2 gInS) := fun F ρ lh cs H x y a b z lh' Q s hx hy e q => by
  obtain ⟨c, e1, rfl⟩ := neg2_some e
  unfold gInS pu2 at e1
  split at e1
  · rename_i dx dy h1 h2
    obtain ⟨d, h3, h4, h5, rfl⟩ := ret_some e1
    cases h5
    dsimp only at h3
    split at h3
    · rename_i i j
      cases h3
      exact ⟨i, j, (rd_ok s 8 hx h1).toStr, (rd_ok s 8 hy h2).toStr, q.d s (.bl _)⟩
    · cases h3
  · cases e1
theorem rel_ninK : Rel2 K rNinK (neg2 gInK) := fun F ρ lh cs H x y a b z lh' Q s hx hy e q => by
  obtain ⟨c, e1, rfl⟩ := neg2_some e
  have := rel_inK (K := K) F ρ lh cs H x y a b _ lh' (fun v H' => v = .bl c ∧ H' = H ∧ lh' = lh) s hx hy e1
  unfold gInK at e1
  split at e1
  · rename_i k kvs h1 h2
    cases e1
    obtain ⟨p, us, rfl, k1, k2⟩ := dcO_ok s hy h2
    refine ⟨p, valV us k, rfl, .inl ⟨us, k, k1, keyO_ok hx h1, rfl⟩, ?_⟩
    have : (valV us k).isSome = (valM kvs k).isSome := by
      obtain ⟨i1, i2⟩ := kr_val (vs := us) (kvs := kvs) (k := k) k2
      cases m : valM kvs k with
      | none => rw [i2 m]; rfl
      | some w => obtain ⟨v, e1, _⟩ := i1 w m; rw [e1]; rfl
    rw [this]
    exact q.d s (.bl _)
  · cases e1
theorem rel_ninD : Rel2 K (rNotInD K) (neg2 gInD) := fun F ρ lh cs H x y a b z lh' Q s hx hy e q => by
  obtain ⟨c, e1, rfl⟩ := neg2_some e
  unfold gInD pu2 at e1
  split at e1
  · rename_i dx dy h1 h2
    obtain ⟨d, h3, h4, h5, rfl⟩ := ret_some e1
    cases h5
    dsimp only at h3
    split at h3
    · rename_i ds
      obtain ⟨b', h6, h7⟩ := Option.map_eq_some_iff.mp h3
      cases h7
      exact d_ninDM (K := K) (ta := tC x) (tb := tC y) (σ := []) (F := H) (cs := []) (dc (rd_ok s 8 hx h1)) (dc (rd_ok s 8 hy h2)) h6 H H .rfl sta_self Q fun v F2 H2 g s2 hv => q.sc s (g.tr s2.fr) rfl hv
    · cases h3
  · cases e1
theorem rel_nin : Rel2 K (rNinU K) gNin := rel_ninS.or (rel_ninD.or rel_ninK)
/-! is None -/
@[simp] def isNo : MV → Bool
  | .d .none => true
  | _ => false
@[simp] def gIsN : G1 := fun a lh => some (.d (.bool (isNo a)), lh)
@[simp] def gNisN : G1 := fun a lh => some (.d (.bool (!isNo a)), lh)
theorem isNo_ok {F : Hp} {ρ : List Addr} {v : V} {x : MV} (hx : Vr K F ρ v x) : decide (v = .non) = isNo x := by
  cases x with
  | d y =>
    have hx : Dt K F v y := hx
    cases hx <;> simp
  | r i => obtain ⟨a, _, rfl⟩ := hx; simp
  | x e => obtain ⟨a, d, rfl, _⟩ := hx; simp
theorem so_isN {W : WX} {ta : TE} {ma : ME} (ha : SoE K W ta ma) : SoE K W (tOp rIsN ta (tC .non)) (mOp1 gIsN ma) := so_op1 (r := fun x H Q => rIsN x .non H Q) (fun F ρ lh cs H x a z lh' Q s hx e q => by
  cases e; exact ⟨rfl, by rw [isNo_ok hx]; exact q.d s (.bl _)⟩) ha
theorem so_nisN {W : WX} {ta : TE} {ma : ME} (ha : SoE K W ta ma) : SoE K W (tOp rNotN ta (tC .non)) (mOp1 gNisN ma) := so_op1 (r := fun x H Q => rNotN x .non H Q) (fun F ρ lh cs H x a z lh' Q s hx e q => by
  cases e; exact ⟨rfl, by rw [isNo_ok hx]; exact q.d s (.bl _)⟩) ha
/-! isinstance -/
def gIsi (c : String) : G1 := pu1 fun d => some (.bool (isiD c d))
theorem so_isi {W : WX} {ta : TE} {ma : ME} {c : String} (hc : c ∈ isiK) (ha : SoE K W ta ma) : SoE K W (tCB (rIsi K) (tCons ta (tCons (tC (.ty c)) tNil))) (mOp1 (gIsi c) ma) := so_op1 (r := fun x H Q => rIsi K [x, .ty c] H Q) (fun F ρ lh cs H x a z lh' Q s hx e q => by
  unfold gIsi pu1 at e
  split at e
  · rename_i dx hdx
    obtain ⟨dz, h1, h2, rfl, rfl⟩ := ret_some e
    cases h1
    exact d_isiD (K := K) (σ := []) (F := H) (cs := []) hc (dc (rd_ok s 8 hx hdx)) H H .rfl sta_self Q fun v F2 H2 g s2 hv => q.sc s (g.tr s2.fr) h2 hv
  · cases e) ha
@[simp] def gIsiX (cl : List Str) (d : Str) : G1 := fun a lh => match a with
  | .d .none => some (.d (.bool false), lh)
  | .x e => if e.1 ∈ cl then some (.d (.bool (subX e.1 d)), lh) else none
  | _ => none
@[simp] def gIsiV (cl : List Str) : G1 := fun a lh => match a with
  | .d .none => some (.d (.bool false), lh)
  | .x e => if e.1 ∈ cl then some (.d (.bool true), lh) else none
  | _ => none
@[simp] def gIsiXT (cl : List Str) (ds : List Str) : G1 := fun a lh => match a with
  | .d .none => some (.d (.bool false), lh)
  | .x e => if e.1 ∈ cl then some (.d (.bool (ds.any fun d => subX e.1 d)), lh) else none
  | _ => none
/-- a kept exception, by the typed layer's words -/
theorem xv_of {F : Hp} {ρ : List Addr} {cl : List Str} {v : V} {e : Xe} (he : e.1 ∈ cl) (h : Vr K F ρ v (.x e)) : Xv K cl F v (some e) := by
  obtain ⟨a, d, rfl, h1, h2⟩ := h
  exact ⟨he, a, d, rfl, h1, h2⟩
theorem so_xn {cl ts : List Str} {W : WX} {ta : TE} {ma : ME} {r : V → Hp → VK → Prop} {t : TE} {f : Option Xe → Bool} {g : G1} (ht : ∀ σ H Q, (ta σ H fun x H1 => r x H1 Q) → t σ H Q)
    (hg : ∀ a lh z lh', g a lh = some (z, lh') → lh' = lh ∧ ((a = .d .none ∧ z = .d (.bool (f none))) ∨ ∃ e, a = .x e ∧ e.1 ∈ cl ∧ z = .d (.bool (f (some e)))))
    (hr : ∀ (F : Hp) (v : V) (o : Option Xe), Xv K cl F v o → ∀ (i : Nat) (σ : St) (cs : Cs), σ[i]? = some (some v) → EvD K (fun σ H Q => ∃ v, σ[i]? = some (some v) ∧ r v H Q) σ F cs (.bool (f o)) cs) (ha : SoE K W ta ma) : SoE K W t (mOp1 g ma) := fun σ env F ρ lh cs H rr lh' Q he s e q => by
  refine ht σ H Q ?_
  exact SoG.bind ha he s e q fun x lh1 F1 ρ1 H1 u e1 g1 p1 s1 hx => by
    obtain ⟨z, h1, rfl⟩ := mO_some e1
    obtain ⟨rfl, hz⟩ := hg _ _ _ _ h1
    have go : ∀ o, Xv K cl F1 u o → z = .d (.bool (f o)) → r u H1 Q := fun o ho hzz => by
      subst hzz
      obtain ⟨v, h2, h3⟩ := hr F1 u o ho 0 [some u] (cellsOf F1 ρ1 H1 ++ cs) rfl F1 H1 .rfl s1.sta Q fun v F2 H2 g2 s2 hv => (q F2 ρ1 H2 (g1.tr g2) p1 (s1.back g2 s2)).1 _ _ rfl hv
      simp at h2
      subst h2
      exact h3
    rcases hz with ⟨rfl, hz⟩ | ⟨e', rfl, hm, hz⟩
    · exact go none (Dt.toNon hx) hz
    · exact go (some e') (xv_of hm hx) hz
theorem so_isiX {cl ts : List Str} {W : WX} {ta : TE} {ma : ME} {d : Str} (X : XFc K cl ts) (hd : d ∈ ts) (ha : SoE K W ta ma) : SoE K W (tCB (rIsiX K) (tCons ta (tCons (tC (.ref (He.ga K d))) tNil))) (mOp1 (gIsiX cl d) ma) :=
  so_xn (ts := ts) (cl := cl) (r := fun x H Q => rIsiX K [x, .ref (He.ga K d)] H Q) (f := fun o => isX o d) (fun _ _ _ h => h) (fun a lh z lh' e => by
    unfold gIsiX at e
    split at e
    · cases e; exact ⟨rfl, .inl ⟨rfl, rfl⟩⟩
    · split at e
      · cases e; exact ⟨rfl, .inr ⟨_, rfl, ‹_›, rfl⟩⟩
      · cases e
    · cases e) (fun F v o ho i σ cs hi => d_isiX X hi ho hd) ha
theorem so_isiV {cl ts : List Str} {W : WX} {ta : TE} {ma : ME} (X : XFc K cl ts) (ha : SoE K W ta ma) : SoE K W (tCB (rIsiX K) (tCons ta (tCons (tC (.ty "ValueError")) tNil))) (mOp1 (gIsiV cl) ma) :=
  so_xn (ts := ts) (cl := cl) (r := fun x H Q => rIsiX K [x, .ty "ValueError"] H Q) (f := fun o => o.isSome) (fun _ _ _ h => h) (fun a lh z lh' e => by
    unfold gIsiV at e
    split at e
    · cases e; exact ⟨rfl, .inl ⟨rfl, rfl⟩⟩
    · split at e
      · cases e; exact ⟨rfl, .inr ⟨_, rfl, ‹_›, rfl⟩⟩
      · cases e
    · cases e) (fun F v o ho i σ cs hi => d_isiXV X hi ho) ha
theorem so_isiXT {cl ts ds : List Str} {W : WX} {ta : TE} {ma : ME} (X : XFc K cl ts) (hd : ∀ d ∈ ds, d ∈ ts) (hl : ds.length ≤ 100000) (ha : SoE K W ta ma) : SoE K W (tCB (rIsiXT K) (tCons ta (tCons (tTup (tAs (clsV K ds))) tNil))) (mOp1 (gIsiXT cl ds) ma) :=
  so_xn (ts := ts) (cl := cl) (r := fun x H Q => tTup (tAs (clsV K ds)) [] H fun w H2 => rIsiXT K [x, w] H2 Q) (f := fun o => anyX o ds) (fun _ _ _ h => h) (fun a lh z lh' e => by
    unfold gIsiXT at e
    split at e
    · cases e; exact ⟨rfl, .inl ⟨rfl, by unfold anyX isX; simp⟩⟩
    · split at e
      · cases e; exact ⟨rfl, .inr ⟨_, rfl, ‹_›, rfl⟩⟩
      · cases e
    · cases e) (fun F v o ho i σ cs hi => d_isiXT (K := K) (ta := tAs (clsV K ds)) X hi ho hd hl (fun H Q hq => hq)) ha
end
end Bw

namespace Bw
open PySem L2
/-! a dict that is walked -/
def Dn (F F' : Hp) : Prop := ∀ a o, F a = some o → (∀ od kvs, o ≠ .frz od (.dK kvs)) → F' a = some o
section
variable {K : PySem.W.Frag} {F F' : Hp} {ρ : List Addr}
mutual
theorem Dt.dn (g : Dn F F') : ∀ {v : V} {d : PyData}, Dt K F v d → Dt K F' v d
  | _, _, .non => .non
  | _, _, .bl b => .bl b
  | _, _, .int i => .int i
  | _, _, .str x => .str x
  | _, _, .lst h a => .lst (by
      rcases h with (h | ⟨o, h⟩) | h
      · exact .inl (.inl (g _ _ h fun _ _ z => nomatch z))
      · exact .inl (.inr ⟨o, g _ _ h fun _ _ z => nomatch z⟩)
      · exact .inr h) (Dts.dn g a)
  | _, _, .tup h a => .tup (by
      rcases h with (h | ⟨o, h⟩) | h
      · exact .inl (.inl (g _ _ h fun _ _ z => nomatch z))
      · exact .inl (.inr ⟨o, g _ _ h fun _ _ z => nomatch z⟩)
      · exact .inr h) (Dts.dn g a)
  | _, _, .dct h => .dct (g _ _ h fun _ _ z => nomatch z)
theorem Dts.dn (g : Dn F F') : ∀ {vs : List V} {ds : List PyData}, Dts K F vs ds → Dts K F' vs ds
  | _, _, .nil => .nil
  | _, _, .cons h t => .cons (Dt.dn g h) (Dts.dn g t)
end
theorem Xd.dn (g : Dn F F') {e : Xe} {d : Option Addr} (h : Xd K F e d) : Xd K F' e d := by
  unfold Xd at h ⊢
  split at h
  · exact h
  · obtain ⟨a, v, h1, h2, h3⟩ := h
    exact ⟨a, v, h1, g _ _ h2 (fun _ _ z => nomatch z), Dt.dn g h3⟩
theorem Vr.dn (g : Dn F F') {v : V} {x : MV} (h : Vr K F ρ v x) : Vr K F' ρ v x := by
  cases x with
  | d x => exact Dt.dn g h
  | r i => exact h
  | x e => obtain ⟨a, d, h1, h2, h3⟩ := h; exact ⟨a, d, h1, g _ _ h2 (fun _ _ z => by unfold ExK at z; cases z), h3.dn g⟩
theorem Vrs.dn (g : Dn F F') {vs : List V} {xs : List MV} (h : Vrs K F ρ vs xs) : Vrs K F' ρ vs xs := paired_up (fun _ _ h => Vr.dn g h) h
theorem KR.dn {κ : Type} (g : Dn F F') {vs : List (κ × V)} {xs : List (κ × MV)} (h : KR K F ρ vs xs) : KR K F' ρ vs xs := paired_up (fun _ _ h => ⟨h.1, Vr.dn g h.2⟩) h
theorem dn_cut {d : Addr} {od : Obj} {us : List (Key × V)} (h : F d = some (.frz od (.dK us))) : Dn F (cut F d) := fun a o e n => by
  have q : a ≠ d := fun z => by rw [z, h] at e; cases e; exact n _ _ rfl
  rw [cut_ne q]; exact e
theorem Sm.lock {lh : LH} {cs : Cs} {H : Hp} {i : Nat} {kvs : List (Key × MV)} {d : Addr} {us : List (Key × V)} (s : Sm K F ρ lh cs H) (hi : lh[i]? = some (.dct kvs)) (hd : ρ[i]? = some d) (hu : H d = some (.dK us)) (hk : KR K F ρ us kvs) (od : Obj) :
    Gr F (upd F d (.frz od (.dK us))) ∧ Sm K (upd F d (.frz od (.dK us))) ρ (lh.set i (.fdc kvs)) cs (upd H d (.frz od (.dK us))) := by
  have hf := s.sep i _ d hi hd rfl
  have g : Gr F (upd F d (.frz od (.dK us))) := Gr.new hf
  have nd : ∀ {j : Nat} {b : Addr}, j ≠ i → ρ[j]? = some b → b ≠ d := fun {j b} hj h2 z => by
    subst z
    have l1 := (List.getElem?_eq_some_iff.mp hd).1
    have l2 := (List.getElem?_eq_some_iff.mp h2).1
    have e1 := (List.getElem?_eq_some_iff.mp hd).2
    have e2 := (List.getElem?_eq_some_iff.mp h2).2
    exact hj ((List.getElem_inj s.nd).mp (e2.trans e1.symm))
  refine ⟨g, fun a w e => ?_, by rw [List.length_set]; exact s.len, fun j m b h1 h2 hm => ?_, s.nd, fun j m b h1 h2 => ?_, fun c hc => ?_, s.cnd⟩
  · by_cases q : a = d
    · subst q; rw [upd_same] at e ⊢; exact e
    · rw [upd_ne q] at e ⊢; exact s.fr a w e
  · by_cases hj : j = i
    · subst hj
      rw [List.getElem?_set_self (List.getElem?_eq_some_iff.mp hi).1] at h1
      cases h1; cases hm
    · rw [List.getElem?_set_ne (Ne.symm hj)] at h1
      rw [upd_ne (nd hj h2)]; exact s.sep j m b h1 h2 hm
  · by_cases hj : j = i
    · subst hj
      rw [hd] at h2; cases h2
      rw [List.getElem?_set_self (List.getElem?_eq_some_iff.mp hi).1] at h1
      cases h1
      exact ⟨us, od, upd_same, hk.up g pre_rfl⟩
    · rw [List.getElem?_set_ne (Ne.symm hj)] at h1
      exact (s.has j m b h1 h2).up g pre_rfl (upd_ne (nd hj h2))
  · obtain ⟨h1, h2, h3⟩ := s.cst c hc
    have q : c.1 ≠ d := fun z => h2 (by rw [z]; exact List.mem_of_getElem? hd)
    exact ⟨by rw [upd_ne q]; exact h1, h2, by rw [upd_ne q]; exact h3⟩
theorem Sm.unlock {lh : LH} {cs : Cs} {H : Hp} {i : Nat} {kvs : List (Key × MV)} {d : Addr} {us : List (Key × V)} {od : Obj} (s : Sm K F ρ lh cs H) (hi : lh[i]? = some (.fdc kvs)) (hd : ρ[i]? = some d) (hu : F d = some (.frz od (.dK us))) :
    KR K (cut F d) ρ us kvs ∧ Sm K (cut F d) ρ (lh.set i (.dct kvs)) cs (upd H d (.dK us)) := by
  have dn := dn_cut hu
  obtain ⟨us', od', h1, h2⟩ := s.has i _ d hi hd
  rw [hu] at h1
  cases h1
  have hk := h2.dn dn
  have nd : ∀ {j : Nat} {b : Addr}, j ≠ i → ρ[j]? = some b → b ≠ d := fun {j b} hj h2 z => by
    subst z
    have l1 := (List.getElem?_eq_some_iff.mp hd).1
    have l2 := (List.getElem?_eq_some_iff.mp h2).1
    have e1 := (List.getElem?_eq_some_iff.mp hd).2
    have e2 := (List.getElem?_eq_some_iff.mp h2).2
    exact hj ((List.getElem_inj s.nd).mp (e2.trans e1.symm))
  refine ⟨hk, fun a w e => ?_, by rw [List.length_set]; exact s.len, fun j m b h1 h2 hm => ?_, s.nd, fun j m b h1 h2 => ?_, fun c hc => ?_, s.cnd⟩
  · by_cases q : a = d
    · subst q; rw [cut_same] at e; cases e
    · rw [cut_ne q] at e; rw [upd_ne q]; exact s.fr a w e
  · by_cases hj : j = i
    · subst hj
      rw [hd] at h2; cases h2
      exact cut_same
    · rw [List.getElem?_set_ne (Ne.symm hj)] at h1
      rw [cut_ne (nd hj h2)]; exact s.sep j m b h1 h2 hm
  · by_cases hj : j = i
    · subst hj
      rw [hd] at h2; cases h2
      rw [List.getElem?_set_self (List.getElem?_eq_some_iff.mp hi).1] at h1
      cases h1
      exact ⟨us, upd_same, hk⟩
    · rw [List.getElem?_set_ne (Ne.symm hj)] at h1
      have nq := nd hj h2
      have o := s.has j m b h1 h2
      cases m with
      | lst xs => obtain ⟨us, h1, h2⟩ := o; exact ⟨us, by rw [upd_ne nq]; exact h1, h2.dn dn⟩
      | tup xs => obtain ⟨us, h1, h2⟩ := o; exact ⟨us, by rw [upd_ne nq]; exact h1, h2.dn dn⟩
      | dct xs => obtain ⟨us, h1, h2⟩ := o; exact ⟨us, by rw [upd_ne nq]; exact h1, h2.dn dn⟩
      | fdc xs => obtain ⟨us, od, h1, h2⟩ := o; exact ⟨us, od, by rw [cut_ne nq]; exact h1, h2.dn dn⟩
      | ins c fs => obtain ⟨dx, us, h1, h2⟩ := o; exact ⟨dx, us, by rw [upd_ne nq]; exact h1, h2.dn dn⟩
  · obtain ⟨h1, h2, h3⟩ := s.cst c hc
    have q : c.1 ≠ d := fun z => h2 (by rw [z]; exact List.mem_of_getElem? hd)
    exact ⟨by rw [cut_ne q]; exact h1, h2, by rw [upd_ne q]; exact h3⟩
def ixOf (m : ME) (env : Env) (lh : LH) : Option (Nat × List (Key × MV)) := match m env lh with
  | some (.ok (.r i), _) => match lh[i]? with
    | some (.dct kvs) => some (i, kvs)
    | _ => none
  | _ => none
def unlk {α : Type} (i : Nat) (r : α) (lh : LH) : Option (α × LH) := match lh[i]? with
  | some (.fdc kvs) => some (r, lh.set i (.dct kvs))
  | _ => none
def mLockE (de m : ME) : ME := fun env lh => match ixOf de env lh with
  | some (i, kvs) => match m env (lh.set i (.fdc kvs)) with
    | some (.ok r, l2) => unlk i (Rs.ok r) l2
    | _ => none
  | none => none
def mLockS (de : ME) (m : MS) : MS := fun env lh => match ixOf de env lh with
  | some (i, kvs) => match m env (lh.set i (.fdc kvs)) with
    | some (.ex _, _, _) => none
    | some (f, e, l2) => unlk i (f, e) l2 |>.map fun r => (r.1.1, r.1.2, r.2)
    | none => none
  | none => none
theorem ixOf_some {m : ME} {env : Env} {lh : LH} {i : Nat} {kvs : List (Key × MV)} (h : ixOf m env lh = some (i, kvs)) : lh[i]? = some (.dct kvs) := by
  unfold ixOf at h
  split at h
  · split at h
    · cases h; assumption
    · cases h
  · cases h
theorem unlk_some {α : Type} {i : Nat} {r : α} {lh : LH} {z : α × LH} (h : unlk i r lh = some z) : ∃ kvs, lh[i]? = some (.fdc kvs) ∧ z = (r, lh.set i (.dct kvs)) := by
  unfold unlk at h
  split at h
  · cases h; exact ⟨_, ‹_›, rfl⟩
  · cases h
theorem gr_cut2 {F F1 : Hp} {d : Addr} {o : HO} (h : F d = none) (g : Gr (upd F d o) F1) : Gr F (cut F1 d) := gr_cut h g
theorem so_lockE {W : WX} {t : TE} {de m : ME} (h : SoE K WF0 t m) : SoE K W (tLockE t) (mLockE de m) := fun σ env F ρ lh cs H r lh' Q he s e q => by
  unfold mLockE at e
  split at e
  · rename_i i kvs hi
    have hi := ixOf_some hi
    obtain ⟨d, hd, us, hu, hk⟩ := s.at hi
    split at e
    · rename_i r2 l2 h2
      obtain ⟨kvs2, h3, e⟩ := unlk_some e
      cases e
      refine ⟨d, _, hu, trivial, fun od => ?_⟩
      obtain ⟨g0, s0⟩ := s.lock hi hd hu hk od
      have hf := s.sep i _ d hi hd rfl
      have hd0 : (upd F d (.frz od (.dK us))) d = some (.frz od (.dK us)) := upd_same
      refine h σ env _ ρ _ cs _ _ _ _ (he.up g0 pre_rfl) s0 h2 fun F1 ρ1 H1 g1 p1 s1 => ⟨fun z v hz hv => ?_, fun e d hz hd => nomatch hz⟩
      · have hF1 := g1 _ _ hd0
        obtain ⟨_, s2⟩ := s1.unlock h3 (pre_get p1 hd) hF1
        exact ⟨s1.fr _ _ hF1, (q _ ρ1 _ (gr_cut2 hf g1) p1 s2).1 z v hz (Vr.dn (dn_cut hF1) hv)⟩
    · cases e
  · cases e
theorem so_lockS {W : WX} {t : TS} {de : ME} {m : MS} (h : SoS K W t m) : SoS K W (tLock t) (mLockS de m) := fun σ env F ρ lh cs H fl env' lh' D he s e q => by
  unfold mLockS at e
  split at e
  · rename_i i kvs hi
    have hi := ixOf_some hi
    obtain ⟨d, hd, us, hu, hk⟩ := s.at hi
    split at e
    · cases e
    · rename_i f e2 l2 hnx h2
      obtain ⟨z, h3, e⟩ := Option.map_eq_some_iff.mp e
      cases e
      obtain ⟨kvs2, h5, h4⟩ := unlk_some h3
      cases h4
      refine ⟨d, _, hu, trivial, fun od => ?_⟩
      obtain ⟨g0, s0⟩ := s.lock hi hd hu hk od
      have hf := s.sep i _ d hi hd rfl
      have hd0 : (upd F d (.frz od (.dK us))) d = some (.frz od (.dK us)) := upd_same
      refine h σ env _ ρ _ cs _ _ _ _ _ (he.up g0 pre_rfl) s0 h2 fun F1 ρ1 H1 σ1 g1 p1 s1 he1 => ?_
      have hF1 := g1 _ _ hd0
      obtain ⟨_, s2⟩ := s1.unlock h5 (pre_get p1 hd) hF1
      have he2 : EnvR K (cut F1 d) ρ1 σ1 e2 := paired_up (fun a b h => by
        cases a <;> cases b
        · trivial
        · exact h
        · exact h
        · exact Vr.dn (dn_cut hF1) h) he1
      have q1 := q _ ρ1 _ σ1 (gr_cut2 hf g1) p1 s2 he2
      cases f with
      | nx => exact ⟨s1.fr _ _ hF1, q1⟩
      | br => exact ⟨s1.fr _ _ hF1, q1⟩
      | ct => exact ⟨s1.fr _ _ hF1, q1⟩
      | rt v => exact fun u hv => ⟨s1.fr _ _ hF1, q1 u (Vr.dn (dn_cut hF1) hv)⟩
      | ex x => exact absurd rfl (hnx x)
    · cases e
  · cases e
end
end Bw

namespace Bw
open PySem L2
/-! dict walks -/
def mKeys (de : ME) : MI := fun env lh => mB (de env lh) fun x l => match x with
  | .r i => match fdO i l with
    | some _ => some (.ok (.keys i), l)
    | none => none
  | _ => none
def mIts (de : ME) : MI := fun env lh => mB (de env lh) fun x l => match x with
  | .r i => match fdO i l with
    | some _ => some (.ok (.its i), l)
    | none => none
  | _ => none
section
variable {K : PySem.W.Frag} {W : WX} {ta tb te to : TE} {ma mb me mo : ME} {as : TA} {mas : MA} {h : Bool}
theorem kr_get {κ : Type} {F : Hp} {ρ : List Addr} : ∀ {us : List (κ × V)} {kvs : List (κ × MV)} {i : Nat} {k : κ} {x : MV}, KR K F ρ us kvs → kvs[i]? = some (k, x) → ∃ v, us[i]? = some (k, v) ∧ Vr K F ρ v x
  | _, _, _, _, _, .nil, e => by simp at e
  | (a, v) :: _, (b, y) :: _, 0, k, x, .cons h _, e => by
    simp at e
    obtain ⟨rfl, rfl⟩ := e
    obtain ⟨h1, h2⟩ := h
    dsimp only at h1 h2
    subst h1
    exact ⟨v, rfl, h2⟩
  | _ :: us, _ :: kvs, i + 1, k, x, .cons _ t, e => by
    obtain ⟨v, h1, h2⟩ := kr_get (us := us) (kvs := kvs) (i := i) (k := k) (x := x) t (by simpa using e)
    exact ⟨v, by simpa using h1, h2⟩
theorem fdO_ok {F : Hp} {ρ : List Addr} {lh : LH} {cs : Cs} {H : Hp} {i : Nat} {kvs : List (Key × MV)} {a : Addr} (s : Sm K F ρ lh cs H) (hi : ρ[i]? = some a) (e : fdO i lh = some kvs) : ∃ od us, F a = some (.frz od (.dK us)) ∧ KR K F ρ us kvs := by
  unfold fdO at e
  split at e
  · rename_i ys hy
    cases e
    obtain ⟨us, od, h4, h5⟩ := s.has i _ a hy hi
    exact ⟨od, us, h4, h5⟩
  · cases e
theorem keyD_vr {F : Hp} {ρ : List Addr} (k : Key) : Vr K F ρ (kV k) (keyD k) := by
  cases k with
  | inl i => exact Dt.int i
  | inr s => exact Dt.str s
theorem relit_keys {F : Hp} {ρ : List Addr} {i : Nat} {a : Addr} {od : Obj} {us : List (Key × V)} (hi : ρ[i]? = some a) (hf : F a = some (.frz od (.dK us))) : RelIt K F ρ (Itk a od us) (.keys i) := by
  refine ⟨fun F' ρ' lh cs H j g p s e => ?_, fun F' ρ' lh cs H j z lh' g p s e => ?_⟩
  · dsimp only [ItD.get] at e
    split at e
    · rename_i kvs hk
      obtain ⟨od', us', k1, k2⟩ := fdO_ok s (pre_get p hi) hk
      rw [g _ _ hf] at k1; cases k1
      exact ⟨s.fr _ _ (g _ _ hf), by rw [show us.length = kvs.length from Paired.length k2]; exact List.getElem?_eq_none_iff.mp (nxO_none e)⟩
    · cases e
  · dsimp only [ItD.get] at e
    split at e
    · rename_i kvs hk
      obtain ⟨od', us', k1, k2⟩ := fdO_ok s (pre_get p hi) hk
      rw [g _ _ hf] at k1; cases k1
      obtain ⟨⟨k, x⟩, h1, h2⟩ := nxO_some e
      cases h2
      obtain ⟨v, k3, k4⟩ := kr_get k2 h1
      refine ⟨⟨s.fr _ _ (g _ _ hf), (List.getElem?_eq_some_iff.mp k3).1⟩, fun y H' hy => ?_⟩
      obtain ⟨rfl, k', v', h3, rfl⟩ := hy
      rw [k3] at h3; cases h3
      exact ⟨F', ρ', .rfl, pre_rfl, s, keyD_vr k⟩
    · cases e
theorem relit_its {F : Hp} {ρ : List Addr} {i : Nat} {a : Addr} {od : Obj} {us : List (Key × V)} (hi : ρ[i]? = some a) (hf : F a = some (.frz od (.dK us))) : RelIt K F ρ (Iti a od us) (.its i) := by
  refine ⟨fun F' ρ' lh cs H j g p s e => ?_, fun F' ρ' lh cs H j z lh' g p s e => ?_⟩
  · dsimp only [ItD.get] at e
    split at e
    · rename_i kvs hk
      obtain ⟨od', us', k1, k2⟩ := fdO_ok s (pre_get p hi) hk
      rw [g _ _ hf] at k1; cases k1
      exact ⟨s.fr _ _ (g _ _ hf), by rw [show us.length = kvs.length from Paired.length k2]; exact List.getElem?_eq_none_iff.mp (nxO_none e)⟩
    · cases e
  · dsimp only [ItD.get] at e
    split at e
    · rename_i kvs hk
      obtain ⟨od', us', k1, k2⟩ := fdO_ok s (pre_get p hi) hk
      rw [g _ _ hf] at k1; cases k1
      obtain ⟨⟨k, x⟩, h1, h2⟩ := nxO_some e
      obtain ⟨v, k3, k4⟩ := kr_get k2 h1
      refine ⟨⟨s.fr _ _ (g _ _ hf), (List.getElem?_eq_some_iff.mp k3).1⟩, fun y H' hy => ?_⟩
      obtain ⟨T, k', v', h3, rfl, hT, rfl⟩ := hy
      rw [k3] at h3; cases h3
      exact newT_at s (.cons (keyD_vr k) (.cons k4 .nil)) h2 hT
    · cases e
theorem so_keys (ha : SoE K W ta ma) : SoI K W (iKeys ta) (mKeys ma) := fun σ env F ρ lh cs H r lh' R he s e q => by
  show ta σ H _
  exact SoG.bind ha he s e q fun x lh1 F1 ρ1 H1 u e1 g1 p1 s1 hx => by
    split at e1
    · rename_i i
      split at e1
      · rename_i kvs hk
        cases e1
        obtain ⟨a, h1, rfl⟩ := hx
        obtain ⟨od, us, h2, h3⟩ := fdO_ok s1 h1 hk
        exact ⟨a, od, rfl, .inl ⟨us, s1.fr _ _ h2, (q F1 ρ1 H1 g1 p1 s1).1 _ _ rfl (relit_keys h1 h2)⟩⟩
      · cases e1
    · cases e1
theorem so_its (ha : SoE K W ta ma) : SoI K W (iItems ta) (mIts ma) := fun σ env F ρ lh cs H r lh' R he s e q => by
  show ta σ H _
  exact SoG.bind ha he s e q fun x lh1 F1 ρ1 H1 u e1 g1 p1 s1 hx => by
    split at e1
    · rename_i i
      split at e1
      · rename_i kvs hk
        cases e1
        obtain ⟨a, h1, rfl⟩ := hx
        obtain ⟨od, us, h2, h3⟩ := fdO_ok s1 h1 hk
        exact ⟨a, od, us, rfl, s1.fr _ _ h2, (q F1 ρ1 H1 g1 p1 s1).1 _ _ rfl (relit_its h1 h2)⟩
      · cases e1
    · cases e1
/-! builtins -/
def gLenK : GN := fun as lh => match as with
  | [.r i] => match lh[i]? with
    | some (.dct kvs) => some (.d (.int kvs.length), lh)
    | _ => none
  | _ => none
def gLenQ : GN := fun as lh => match as with
  | [x] => match sqL lh x with
    | some xs => some (.d (.int xs.length), lh)
    | none => match sqT lh x with
      | some xs => some (.d (.int xs.length), lh)
      | none => match vS x with
        | some s => (lenS s).map fun n => (.d (.int n), lh)
        | none => none
  | _ => none
def gLen : GN := altN gLenQ gLenK
def rLenU (K : PySem.W.Frag) : List V → Hp → VK → Prop := fun xs H Q => rLenG K xs H Q ∨ rLenD xs H Q
theorem rel_lenQ : RelN K (rLenG K) gLenQ := fun F ρ lh cs H xs as z lh' Q s hx e q => by
  unfold gLenQ at e
  split at e
  · rename_i x
    cases hx with
    | cons h t =>
      cases t
      split at e
      · rename_i ys hy
        cases e
        obtain ⟨a, us, rfl, k1, k2⟩ := sqL_ok s h hy
        exact ⟨_, _, rfl, .inl ⟨us, k1, rfl⟩, by rw [vrs_len k2]; exact q.d s (.int _)⟩
      · split at e
        · rename_i ys hy
          cases e
          obtain ⟨a, us, rfl, k1, k2⟩ := sqT_ok s h hy
          exact ⟨_, _, rfl, .inr ⟨us, k1, rfl⟩, by rw [vrs_len k2]; exact q.d s (.int _)⟩
        · split at e
          · rename_i y hy
            obtain ⟨n, h1, e⟩ := Option.map_eq_some_iff.mp e
            cases e
            obtain ⟨h2, rfl⟩ := lenS_some h1
            exact ⟨_, _, rfl, by rw [vS_vr hy h]; exact ⟨sz h2, rfl⟩, q.d s (.int _)⟩
          · cases e
  · cases e
theorem rel_lenK : RelN K rLenD gLenK := fun F ρ lh cs H xs as z lh' Q s hx e q => by
  unfold gLenK at e
  split at e
  · rename_i i
    cases hx with
    | cons h t =>
      cases t
      split at e
      · rename_i kvs hk
        cases e
        obtain ⟨a, h1, rfl⟩ := h
        obtain ⟨a', h3, us, h4, h5⟩ := s.at hk
        rw [h1] at h3; cases h3
        exact ⟨a, us, rfl, h4, by rw [kr_len h5]; exact q.d s (.int _)⟩
      · cases e
  · cases e
theorem rel_len : RelN K (rLenU K) gLen := rel_lenQ.or rel_lenK
theorem cr_lenU {X : Cx} : CallR X (.builtin "len") (rLenU X.K) := CallR.or cr_lenG call_lenD
def gList (h : Bool) : GN := fun as lh => match as with
  | [x] => match sqL lh x with
    | some xs => newL h xs lh
    | none => match sqT lh x with
      | some xs => newL h xs lh
      | none => none
  | _ => none
theorem rel_list : RelN K (rListS K) (gList h) := fun F ρ lh cs H xs as z lh' Q s hx e q => by
  unfold gList at e
  split at e
  · rename_i x
    cases hx with
    | cons hh t =>
      cases t
      split at e
      · rename_i ys hy
        obtain ⟨a, us, rfl, k1, k2⟩ := sqL_ok s hh hy
        exact ⟨a, us, rfl, .inl k1, (newL_ok s k2 e q).2⟩
      · split at e
        · rename_i ys hy
          obtain ⟨a, us, rfl, k1, k2⟩ := sqT_ok s hh hy
          exact ⟨a, us, rfl, .inr k1, (newL_ok s k2 e q).2⟩
        · cases e
  · cases e
def gTuple : GN := fun as lh => match as with
  | [x] => match sqL lh x with
    | some xs => newT xs lh
    | none => match sqT lh x with
      | some _ => some (x, lh)
      | none => none
  | _ => none
theorem rel_tuple : RelN K (rTupleL K) gTuple := fun F ρ lh cs H xs as z lh' Q s hx e q => by
  unfold gTuple at e
  split at e
  · rename_i x
    cases hx with
    | cons hh t =>
      cases t
      split at e
      · rename_i ys hy
        obtain ⟨a, us, rfl, k1, k2⟩ := sqL_ok s hh hy
        exact ⟨a, us, rfl, .inl ⟨k1, (newT_ok s k2 e q).2⟩⟩
      · split at e
        · rename_i ys hy
          cases e
          obtain ⟨a, us, rfl, k1, k2⟩ := sqT_ok s hh hy
          exact ⟨a, us, rfl, .inr ⟨k1, q.d s hh⟩⟩
        · cases e
  · cases e
/-- dict(pairs) -/
def pairO (lh : LH) (x : MV) : Option (Key × MV) := match sqT lh x with
  | some [k, v] => (keyO k).map fun kk => (kk, v)
  | _ => none
def gDictP : GN := fun as lh => match as with
  | [x] => match sqL lh x with
    | some xs => match oAll (pairO lh) xs with
      | some kvs => some (.r lh.length, lh ++ [.dct (mrgN [] kvs)])
      | none => none
    | none => none
  | _ => none
theorem pairs_ok {F : Hp} {ρ : List Addr} {lh : LH} {cs : Cs} {H : Hp} (s : Sm K F ρ lh cs H) : ∀ {us : List V} {xs : List MV} {kvs : List (Key × MV)}, Vrs K F ρ us xs → oAll (pairO lh) xs = some kvs → ∃ (ps : List Addr) (ks : List (Key × V)), us = ps.map V.ref ∧ Paired (fun p kv => SqT K H p [kV kv.1, kv.2]) ps ks ∧ KR K F ρ ks kvs
  | _, _, _, .nil, e => by cases e; exact ⟨[], [], rfl, .nil, .nil⟩
  | u :: us, x :: xs, kvs, .cons r t, e => by
    unfold oAll at e
    split at e
    · cases e
    · rename_i y hy
      obtain ⟨ks', h1, rfl⟩ := Option.map_eq_some_iff.mp e
      obtain ⟨ps, ks, rfl, h2, h3⟩ := pairs_ok s t h1
      unfold pairO at hy
      split at hy
      · rename_i k v hkv
        obtain ⟨kk, h4, rfl⟩ := Option.map_eq_some_iff.mp hy
        obtain ⟨a, ws, rfl, k1, k2⟩ := sqT_ok s r hkv
        cases k2 with
        | cons q1 q2 =>
          cases q2 with
          | cons q3 q4 =>
            cases q4
            cases keyO_ok q1 h4
            exact ⟨a :: ps, (kk, _) :: ks, rfl, .cons k1 h2, .cons ⟨rfl, q3⟩ h3⟩
      · cases hy
theorem rel_dictP : RelN K (rDictP K) gDictP := fun F ρ lh cs H xs as z lh' Q s hx e q => by
  unfold gDictP at e
  split at e
  · rename_i x
    cases hx with
    | cons hh t =>
      cases t
      split at e
      · rename_i ys hy
        split at e
        · rename_i kvs hk
          cases e
          obtain ⟨a, us, rfl, k1, k2⟩ := sqL_ok s hh hy
          obtain ⟨ps, ks, rfl, h2, h3⟩ := pairs_ok s k2 hk
          exact ⟨a, ps, ks, rfl, k1, h2, newD_ok s (kr_mrg h3 .nil) q⟩
        · cases e
      · cases e
  · cases e
/-! pure calls -/
def absP : List PyData → Option PyData
  | [.int a] => some (.int (absI a))
  | _ => none
def max2P : List PyData → Option PyData
  | [.int a, .int b] => some (.int (maxI a b))
  | _ => none
def min2P : List PyData → Option PyData
  | [.int a, .int b] => some (.int (minI a b))
  | _ => none
def intP : List PyData → Option PyData
  | [.int a] => some (.int a)
  | [.bool a] => some (.int (b2I a))
  | _ => none
def strP : List PyData → Option PyData
  | [.int a] => (strM a).map .str
  | _ => none
@[simp] def iAll : List PyData → Option (List Int)
  | [] => some []
  | .int a :: r => (iAll r).map (a :: ·)
  | _ => none
@[simp] def bAll : List PyData → Option (List Bool)
  | [] => some []
  | .bool a :: r => (bAll r).map (a :: ·)
  | _ => none
@[simp] def sAll : List PyData → Option (List Str)
  | [] => some []
  | .str a :: r => (sAll r).map (a :: ·)
  | _ => none
theorem iAll_eq : ∀ {ds : List PyData} {xs : List Int}, iAll ds = some xs → ds = xs.map eI
  | [], _, h => by cases h; rfl
  | .int a :: r, xs, h => by
    obtain ⟨ys, h1, rfl⟩ := Option.map_eq_some_iff.mp (show (iAll r).map (a :: ·) = some xs from h)
    rw [iAll_eq h1]; rfl
  | .none :: _, _, h => by cases h
  | .bool _ :: _, _, h => by cases h
  | .str _ :: _, _, h => by cases h
  | .list _ :: _, _, h => by cases h
  | .tuple _ :: _, _, h => by cases h
  | .dict _ :: _, _, h => by cases h
theorem bAll_eq : ∀ {ds : List PyData} {xs : List Bool}, bAll ds = some xs → ds = xs.map eB
  | [], _, h => by cases h; rfl
  | .bool a :: r, xs, h => by
    obtain ⟨ys, h1, rfl⟩ := Option.map_eq_some_iff.mp (show (bAll r).map (a :: ·) = some xs from h)
    rw [bAll_eq h1]; rfl
  | .none :: _, _, h => by cases h
  | .int _ :: _, _, h => by cases h
  | .str _ :: _, _, h => by cases h
  | .list _ :: _, _, h => by cases h
  | .tuple _ :: _, _, h => by cases h
  | .dict _ :: _, _, h => by cases h
theorem sAll_eq : ∀ {ds : List PyData} {xs : List Str}, sAll ds = some xs → ds = xs.map eS
  | [], _, h => by cases h; rfl
  | .str a :: r, xs, h => by
    obtain ⟨ys, h1, rfl⟩ := Option.map_eq_some_iff.mp (show (sAll r).map (a :: ·) = some xs from h)
    rw [sAll_eq h1]; rfl
  | .none :: _, _, h => by cases h
  | .int _ :: _, _, h => by cases h
  | .bool _ :: _, _, h => by cases h
  | .list _ :: _, _, h => by cases h
  | .tuple _ :: _, _, h => by cases h
  | .dict _ :: _, _, h => by cases h
@[simp] theorem iAll_map : ∀ xs : List Int, iAll (xs.map PyData.int) = some xs
  | [] => rfl
  | x :: xs => by rw [List.map_cons, iAll, iAll_map xs]; rfl
@[simp] theorem bAll_map : ∀ xs : List Bool, bAll (xs.map PyData.bool) = some xs
  | [] => rfl
  | x :: xs => by rw [List.map_cons, bAll, bAll_map xs]; rfl
@[simp] theorem sAll_map : ∀ xs : List Str, sAll (xs.map PyData.str) = some xs
  | [] => rfl
  | x :: xs => by rw [List.map_cons, sAll, sAll_map xs]; rfl
def sumP : List PyData → Option PyData
  | [.list ds] => (iAll ds).map fun xs => .int xs.sum
  | _ => none
def allP : List PyData → Option PyData
  | [.list ds] => (bAll ds).map fun xs => .bool (xs.all id)
  | _ => none
def maxLP : List PyData → Option PyData
  | [.list ds] => ((iAll ds).bind maxL).map .int
  | _ => none
def minLP : List PyData → Option PyData
  | [.list ds] => ((iAll ds).bind minL).map .int
  | _ => none
theorem dv_abs : DvN K (fun xs H Q => ∃ i, xs = [.int i] ∧ Q (.int (if i < 0 then -i else i)) H) absP := fun ds dz e ta σ F cs h1 => by
  unfold absP at e; split at e
  · cases e; exact d_abs h1
  · cases e
theorem dv_max2 : DvN K (fun xs H Q => ∃ i j, xs = [.int i, .int j] ∧ Q (.int (if j > i then j else i)) H) max2P := fun ds dz e ta σ F cs h1 => by
  unfold max2P at e; split at e
  · cases e; exact d_max2 h1
  · cases e
theorem dv_min2 : DvN K (fun xs H Q => ∃ i j, xs = [.int i, .int j] ∧ Q (.int (if j < i then j else i)) H) min2P := fun ds dz e ta σ F cs h1 => by
  unfold min2P at e; split at e
  · cases e; exact d_min2 h1
  · cases e
theorem dv_int : DvN K rInt intP := fun ds dz e ta σ F cs h1 => by
  unfold intP at e; split at e
  · cases e
    exact d_cb h1 fun vs F2 H2 h s Q q => by
      obtain ⟨v, rfl, k1⟩ := h.one; cases k1.toInt
      exact .inl ⟨_, rfl, q _ F2 H2 .rfl s (.int _)⟩
  · cases e; exact d_intB h1
  · cases e
theorem dv_str : DvN K (fun xs H Q => ∃ i, xs = [.int i] ∧ i.natAbs.log2 < 1920 ∧ Q (.str (toString i)) H) strP := fun ds dz e ta σ F cs h1 => by
  unfold strP at e; split at e
  · obtain ⟨z, h3, rfl⟩ := Option.map_eq_some_iff.mp e; exact d_strI h1 h3
  · cases e
theorem dv_sum : DvN K (rSum K) sumP := fun ds dz e ta σ F cs h1 => by
  unfold sumP at e; split at e
  · obtain ⟨z, h3, rfl⟩ := Option.map_eq_some_iff.mp e
    rw [iAll_eq h3] at h1
    exact d_sum h1
  · cases e
theorem dv_all : DvN K (rAll K) allP := fun ds dz e ta σ F cs h1 => by
  unfold allP at e; split at e
  · obtain ⟨z, h3, rfl⟩ := Option.map_eq_some_iff.mp e
    rw [bAll_eq h3] at h1
    exact d_all h1
  · cases e
theorem dv_maxL : DvN K (rMax K) maxLP := fun ds dz e ta σ F cs h1 => by
  unfold maxLP at e; split at e
  · obtain ⟨z, h3, rfl⟩ := Option.map_eq_some_iff.mp e
    obtain ⟨xs, h4, h5⟩ := Option.bind_eq_some_iff.mp h3
    rw [iAll_eq h4] at h1
    exact d_maxL h1 h5
  · cases e
theorem dv_minL : DvN K (rMin K) minLP := fun ds dz e ta σ F cs h1 => by
  unfold minLP at e; split at e
  · obtain ⟨z, h3, rfl⟩ := Option.map_eq_some_iff.mp e
    obtain ⟨xs, h4, h5⟩ := Option.bind_eq_some_iff.mp h3
    rw [iAll_eq h4] at h1
    exact d_minL h1 h5
  · cases e
/-- sorted, of texts -/
def gSortS (h : Bool) : GN := fun as lh => match oAll (rdA lh) as with
  | some [.list ds] => match (sAll ds).bind srtM with
    | some ys => newL h (ys.map fun y => .d (.str y)) lh
    | none => none
  | _ => none
theorem vrs_strs {F : Hp} {ρ : List Addr} : ∀ ys : List Str, Vrs K F ρ (ys.map V.str) (ys.map fun y => .d (.str y))
  | [] => .nil
  | y :: ys => .cons (Dt.str y) (vrs_strs ys)
theorem vrs_ints {F : Hp} {ρ : List Addr} : ∀ ys : List Int, Vrs K F ρ (ys.map V.int) (ys.map fun y => .d (.int y))
  | [] => .nil
  | y :: ys => .cons (Dt.int y) (vrs_ints ys)
end
end Bw

namespace Bw
open PySem L2
section
variable {K : PySem.W.Frag} {W : WX} {ta tb te to : TE} {ma mb me mo : ME} {as : TA} {mas : MA} {h : Bool}
theorem rel_sortS : RelN K (rSortedS K) (gSortS h) := fun F ρ lh cs H xs as z lh' Q s hx e q => by
  unfold gSortS at e
  split at e
  · rename_i ds hd
    split at e
    · rename_i ys hy
      obtain ⟨ss, h1, h2⟩ := Option.bind_eq_some_iff.mp hy
      have k := rds_ok s hx hd
      rw [sAll_eq h1] at k
      obtain ⟨v, rfl, hv⟩ := k.one
      obtain ⟨a, us, rfl, hq, hd2⟩ := hv.toLst
      obtain rfl := Dts.strs hd2
      unfold srtM at h2
      split at h2
      · rename_i hl
        cases h2
        refine ⟨a, ss, rfl, hq, hl, fun zs p pm so hp => ?_⟩
        obtain rfl := sortS_uniq zs (srtS ss) (pm.trans (srtS_perm ss).symm) (sorted_pw so) (srtS_sort ss)
        exact (newL_ok s (vrs_strs _) e q).2 p hp
      · cases h2
    · cases e
  · cases e
def gSortI (h : Bool) : GN := fun as lh => match oAll (rdA lh) as with
  | some [.list ds] => match iAll ds with
    | some ys => newL h ((srtI ys).map fun y => .d (.int y)) lh
    | none => none
  | _ => none
theorem rel_sortI : RelN K (rSortedI K) (gSortI h) := fun F ρ lh cs H xs as z lh' Q s hx e q => by
  unfold gSortI at e
  split at e
  · rename_i ds hd
    split at e
    · rename_i ss h1
      have k := rds_ok s hx hd
      rw [iAll_eq h1] at k
      obtain ⟨v, rfl, hv⟩ := k.one
      obtain ⟨a, us, rfl, hq, hd2⟩ := hv.toLst
      obtain rfl := Dts.ints hd2
      refine ⟨a, ss, rfl, hq, fun zs p pm so hp => ?_⟩
      have : zs = srtI ss := sort_uniq zs (srtI ss) (pm.trans (srtI_perm ss).symm) so (srtI_sort ss)
      subst this
      exact (newL_ok s (vrs_ints _) e q).2 p hp
    · cases e
  · cases e
/-! methods -/
@[simp] def kdL (lh : LH) (x : MV) : Bool := (sqL lh x).isSome
@[simp] def kdS (_ : LH) (x : MV) : Bool := (vS x).isSome
def mBM (kd : LH → MV → Bool) (g : MV → GN) (o : ME) (t : MA) : ME := fun env lh => mB (o env lh) fun x l1 => if kd l1 x = true then mB (t env l1) fun xs l2 => mO (g x xs l2) else none
def mBM0 (kd : LH → MV → Bool) (g : MV → GN) (o : ME) : ME := fun env lh => mB (o env lh) fun x l1 => if kd l1 x = true then mO (g x [] l1) else none
def KdOk (K : PySem.W.Frag) (T : String) (kd : LH → MV → Bool) : Prop := ∀ F ρ lh cs H v x, Sm K F ρ lh cs H → Vr K F ρ v x → kd lh x = true → tyV K T v H
theorem kdL_ok : KdOk K "list" kdL := fun F ρ lh cs H v x s hx e => by
  obtain ⟨xs, h1⟩ := Option.isSome_iff_exists.mp e
  obtain ⟨a, us, rfl, k1, k2⟩ := sqL_ok s hx h1
  exact .inl ⟨rfl, us, k1⟩
theorem kdS_ok : KdOk K "str" kdS := fun F ρ lh cs H v x s hx e => by
  obtain ⟨xs, h1⟩ := Option.isSome_iff_exists.mp e
  rw [vS_vr h1 hx]
  rfl
theorem so_bm {T : String} {kd : LH → MV → Bool} {r : V → List V → Hp → VK → Prop} {g : MV → GN} (hk : KdOk K T kd) (hr : RelM K r g) (ho : SoE K W to mo) (ha : SoA K W as mas) : SoE K W (tBM K T r to as) (mBM kd g mo mas) := fun σ env F ρ lh cs H rr lh' Q he s e q => by
  show to σ H fun x H1 => tyV K T x H1 ∧ as σ H1 fun xs H2 => r x xs H2 Q
  exact SoG.bind ho he s e q fun x lh1 F1 ρ1 H1 u e1 g1 p1 s1 hx => by
    split at e1
    · rename_i hkd
      exact ⟨hk F1 ρ1 lh1 cs H1 u x s1 hx hkd, SoG.bind ha (he.up g1 p1) s1 e1 (q.up g1 p1) fun xs lh2 F2 ρ2 H2 ws e2 g2 p2 s2 hxs => by
        obtain ⟨z, h1, rfl⟩ := mO_some e2
        exact hr F2 ρ2 lh2 cs H2 u x ws xs z _ Q s2 (Vr.up g2 p2 hx) hxs h1 (q.toFin (g1.tr g2) (p1.trans p2))⟩
    · cases e1
theorem so_bm0 {T : String} {kd : LH → MV → Bool} {r : V → List V → Hp → VK → Prop} {g : MV → GN} (hk : KdOk K T kd) (hr : RelM K r g) (ho : SoE K W to mo) : SoE K W (tBM0 K T r to) (mBM0 kd g mo) := fun σ env F ρ lh cs H rr lh' Q he s e q => by
  show to σ H fun x H1 => tyV K T x H1 ∧ r x [] H1 Q
  exact SoG.bind ho he s e q fun x lh1 F1 ρ1 H1 u e1 g1 p1 s1 hx => by
    split at e1
    · rename_i hkd
      obtain ⟨z, h1, rfl⟩ := mO_some e1
      exact ⟨hk F1 ρ1 lh1 cs H1 u x s1 hx hkd, hr F1 ρ1 lh1 cs H1 u x [] [] z _ Q s1 hx .nil h1 (q.toFin g1 p1)⟩
    · cases e1
@[simp] def lstO (lh : LH) (x : MV) : Option (Nat × List MV) := match x with
  | .r i => match lh[i]? with
    | some (.lst xs) => some (i, xs)
    | _ => none
  | _ => none
@[simp] def gNon (lh : LH) : Option (MV × LH) := some (.d .none, lh)
@[simp] def gApp : MV → GN := fun x as lh => match lstO lh x, as with
  | some (i, xs), [y] => if szB (xs.length + 1) = true then gNon (lh.set i (.lst (xs ++ [y]))) else none
  | _, _ => none
@[simp] def gClr : MV → GN := fun x as lh => match lstO lh x, as with
  | some (i, xs), [] => gNon (lh.set i (.lst []))
  | _, _ => none
theorem lstO_ok {F : Hp} {ρ : List Addr} {lh : LH} {cs : Cs} {H : Hp} {v : V} {x : MV} {i : Nat} {xs : List MV} (s : Sm K F ρ lh cs H) (hx : Vr K F ρ v x) (e : lstO lh x = some (i, xs)) : ∃ a us, v = .ref a ∧ ρ[i]? = some a ∧ H a = some (.lst us) ∧ Vrs K F ρ us xs ∧ lh[i]? = some (.lst xs) := by
  unfold lstO at e
  split at e
  · obtain ⟨a, h1, rfl⟩ := hx
    split at e
    · rename_i ys hy
      cases e
      obtain ⟨a', h3, us, h4, h5⟩ := s.at hy
      rw [h1] at h3; cases h3
      exact ⟨a, us, rfl, h1, h4, h5, hy⟩
    · cases e
  · cases e
theorem rel_app : RelM K rAppend gApp := fun F ρ lh cs H x a xs as z lh' Q s hx hxs e q => by
  unfold gApp at e
  split at e
  · rename_i i ys y h1
    split at e
    · rename_i hs
      cases e
      obtain ⟨p, us, rfl, h2, h3, h4, h5⟩ := lstO_ok s hx h1
      cases hxs with
      | cons hy t =>
        cases t
        refine ⟨p, us, _, rfl, rfl, h3, by rw [vrs_len h4]; exact szB_l1 hs, ?_⟩
        exact q.d (s.put h5 rfl h2 ⟨_, upd_same, vrs_app h4 (.cons hy .nil)⟩) .non
    · cases e
  · cases e
theorem rel_clr : RelM K rClear gClr := fun F ρ lh cs H x a xs as z lh' Q s hx hxs e q => by
  unfold gClr at e
  split at e
  · rename_i i ys h1
    cases e
    obtain ⟨p, us, rfl, h2, h3, h4, h5⟩ := lstO_ok s hx h1
    cases hxs
    exact ⟨p, us, rfl, rfl, h3, q.d (s.put h5 rfl h2 ⟨_, upd_same, .nil⟩) .non⟩
  · cases e
/-! calls of typed defs -/
/-- all arguments are data -/
def mCT {α β : Type} (dec : List PyData → Option α) (B : β → PyData) (f : α → Option β) (t : MA) : ME := fun env lh => mB (t env lh) fun xs l => match oAll vD xs with
  | some ds => match dec ds with
    | some x => match f x with
      | some y => some (.ok (.d (B y)), l)
      | none => none
    | none => none
  | none => none
def mCTX {α β : Type} (dec : List PyData → Option α) (B : β → PyData) (f : α → Option (Rs β)) (t : MA) : ME := fun env lh => mB (t env lh) fun xs l => match oAll vD xs with
  | some ds => match dec ds with
    | some x => match f x with
      | some (.ok y) => some (.ok (.d (B y)), l)
      | some (.ex e) => some (.ex e, l)
      | none => none
    | none => none
  | none => none
/-- arguments of any kind, read to the ground; what is told is flat -/
def mCB_ {α β : Type} (dec : List PyData → Option α) (B : β → PyData) (f : α → Option β) (t : MA) : ME := fun env lh => mB (t env lh) fun xs l => match oAll (rdA l) xs with
  | some ds => match dec ds with
    | some x => match f x with
      | some y => if sc (B y) = true then some (.ok (.d (B y)), l) else none
      | none => none
    | none => none
  | none => none
def mCBX {α β : Type} (dec : List PyData → Option α) (B : β → PyData) (f : α → Option (Rs β)) (t : MA) : ME := fun env lh => mB (t env lh) fun xs l => match oAll (rdA l) xs with
  | some ds => match dec ds with
    | some x => match f x with
      | some (.ok y) => if sc (B y) = true then some (.ok (.d (B y)), l) else none
      | some (.ex e) => if sc e.2 = true then some (.ex e, l) else none
      | none => none
    | none => none
  | none => none
def DecOk {α : Type} (A : α → List PyData) (dec : List PyData → Option α) : Prop := ∀ ds x, dec ds = some x → ds = A x
theorem so_ct {α β : Type} {A : α → List PyData} {dec : List PyData → Option α} {B : β → PyData} {f : α → Option β} {E : XK} (hd : DecOk A dec) (ha : SoA K W as mas) : SoE K W (tCall (spP K A B f) [] E as) (mCT dec B f mas) := fun σ env F ρ lh cs H rr lh' Q he s e q => by
  show as σ H fun vs H1 => spP K A B f (vs ++ []) H1 Q E
  exact SoG.bind ha he s e q fun xs lh1 F1 ρ1 H1 u e1 g1 p1 s1 hx => by
    split at e1
    · rename_i ds hds
      split at e1
      · rename_i x hxd
        split at e1
        · rename_i y hy
          cases e1
          rw [List.append_nil]
          refine ⟨F1, cellsOf F1 ρ1 H1 ++ cs, x, y, by rw [← hd _ _ hxd]; exact vrs_dts hx hds, s1.sta, hy, fun v F2 H2 g2 s2 hv => ?_⟩
          exact (q F2 ρ1 H2 (g1.tr g2) p1 (s1.back g2 s2)).1 _ _ rfl hv
        · cases e1
      · cases e1
    · cases e1
theorem so_ctx {α β : Type} {A : α → List PyData} {dec : List PyData → Option α} {B : β → PyData} {f : α → Option (Rs β)} (hd : DecOk A dec) (ha : SoA K W as mas) : SoE K W (tCallS (spPX K A B f) (WE W) as) (mCTX dec B f mas) := fun σ env F ρ lh cs H rr lh' Q he s e q => by
  show as σ H fun vs H1 => spPX K A B f vs H1 Q (WE W σ)
  exact SoG.bind ha he s e q fun xs lh1 F1 ρ1 H1 u e1 g1 p1 s1 hx => by
    split at e1
    · rename_i ds hds
      split at e1
      · rename_i x hxd
        refine ⟨F1, cellsOf F1 ρ1 H1 ++ cs, x, ?_⟩
        have h0 : Dts K F1 u (A x) := by rw [← hd _ _ hxd]; exact vrs_dts hx hds
        split at e1
        · rename_i y hy
          cases e1
          exact ⟨_, h0, s1.sta, hy, fun y' hy' v F2 H2 g2 s2 hv => by cases hy'; exact (q F2 ρ1 H2 (g1.tr g2) p1 (s1.back g2 s2)).1 _ _ rfl hv, fun c hc => nomatch hc⟩
        · rename_i x' hy
          cases e1
          exact ⟨_, h0, s1.sta, hy, fun y' hy' => (nomatch hy'), fun c hc d F2 H2 g2 s2 hv => by cases hc; exact (q F2 ρ1 H2 (g1.tr g2) p1 (s1.back g2 s2)).2 _ d rfl hv⟩
        · cases e1
      · cases e1
    · cases e1
def cutC (H : Hp) (cs : Cs) : Hp := fun a => if a ∈ cs.map (·.1) then none else H a
theorem cutC_in {H : Hp} {cs : Cs} {a : Addr} (h : a ∈ cs.map (·.1)) : cutC H cs a = none := by unfold cutC; rw [if_pos h]
theorem cutC_out {H : Hp} {cs : Cs} {a : Addr} (h : a ∉ cs.map (·.1)) : cutC H cs a = H a := by unfold cutC; rw [if_neg h]
section
variable {F : Hp} {ρ : List Addr} {lh : LH} {cs : Cs} {H : Hp}
theorem Sm.out {a : Addr} (s : Sm K F ρ lh cs H) (ha : a ∈ ρ) : a ∉ cs.map (·.1) := fun hm => by
  obtain ⟨c, hc, e⟩ := List.mem_map.mp hm
  exact (s.cst c hc).2.1 (by rw [e]; exact ha)
theorem Sm.bor (s : Sm K F ρ lh cs H) : Sta (cutC H cs) cs H ∧ Gr F (cutC H cs) ∧ ∀ a ∈ ρ, cutC H cs a = H a := by
  refine ⟨⟨fun a o e => ?_, fun p hp => cutC_in (List.mem_map_of_mem hp), fun p hp => (s.cst p hp).2.2, s.cnd⟩, fun a o e => ?_, fun a ha => cutC_out (s.out ha)⟩
  · unfold cutC at e
    split at e
    · cases e
    · exact e
  · rw [cutC_out]
    · exact s.fr a o e
    · intro hm
      obtain ⟨c, hc, q⟩ := List.mem_map.mp hm
      have := (s.cst c hc).1
      rw [q, e] at this; cases this
theorem rd_okG {Hx : Hp} (s : Sm K F ρ lh cs H) (g : Gr F Hx) (eq : ∀ a ∈ ρ, Hx a = H a) : ∀ (n : Nat) {v : V} {x : MV} {d : PyData}, Vr K F ρ v x → rd n lh x = some d → Dt K Hx v d
  | n, v, .d x, d, h, e => by rw [rd_d] at e; cases e; exact Dt.gr g h
  | 0, v, .r i, d, h, e => by cases e
  | n + 1, v, .r i, d, h, e => by
    unfold rd at e
    obtain ⟨a, h1, rfl⟩ := h
    have ha : a ∈ ρ := List.mem_of_getElem? h1
    split at e
    · rename_i xs hx
      obtain ⟨ds, h2, rfl⟩ := Option.map_eq_some_iff.mp e
      obtain ⟨a', h3, us, h4, h5⟩ := s.at hx
      rw [h1] at h3; cases h3
      exact .lst (SqL.of ((eq a ha).trans h4)) (oAll_ok (rd_okG s g eq n) h5 h2)
    · rename_i xs hx
      obtain ⟨ds, h2, rfl⟩ := Option.map_eq_some_iff.mp e
      obtain ⟨a', h3, us, h4, h5⟩ := s.at hx
      rw [h1] at h3; cases h3
      exact .tup (SqT.of ((eq a ha).trans h4)) (oAll_ok (rd_okG s g eq n) h5 h2)
    · rename_i xs hx
      cases e
      obtain ⟨a', h3, us, h4, h5⟩ := s.at hx
      rw [h1] at h3; cases h3
      exact .dct ((eq a ha).trans h4)
    · cases e
  | n, v, .x e', d, h, e => by cases n <;> cases e
theorem rds_okG {Hx : Hp} (s : Sm K F ρ lh cs H) (g : Gr F Hx) (eq : ∀ a ∈ ρ, Hx a = H a) {vs : List V} {xs : List MV} {ds : List PyData} (h : Vrs K F ρ vs xs) (e : oAll (rdA lh) xs = some ds) : Dts K Hx vs ds := oAll_ok (n := 8) (rd_okG s g eq 8) h e
theorem Sm.bback {F2 H2 : Hp} (s : Sm K F ρ lh cs H) (g : Gr (cutC H cs) F2) (t : Sta F2 cs H2) : Sm K F ρ lh cs H2 where
  fr := s.bor.2.1.tr (g.tr t.fr)
  len := s.len
  sep := s.sep
  nd := s.nd
  has := fun i o a h1 h2 => by
    have ha : a ∈ ρ := List.mem_of_getElem? h2
    obtain ⟨u, hu⟩ := s.live ha
    exact (s.has i o a h1 h2).up .rfl pre_rfl (by rw [t.fr _ _ (g _ _ ((s.bor.2.2 a ha).trans hu)), hu])
  cst := fun c hc => ⟨(s.cst c hc).1, (s.cst c hc).2.1, t.has c hc⟩
  cnd := s.cnd
end
theorem so_cbt {α β : Type} {A : α → List PyData} {dec : List PyData → Option α} {B : β → PyData} {f : α → Option β} {E : XK} (hd : DecOk A dec) (ha : SoA K W as mas) : SoE K W (tCall (spP K A B f) [] E as) (mCB_ dec B f mas) := fun σ env F ρ lh cs H rr lh' Q he s e q => by
  show as σ H fun vs H1 => spP K A B f (vs ++ []) H1 Q E
  exact SoG.bind ha he s e q fun xs lh1 F1 ρ1 H1 u e1 g1 p1 s1 hx => by
    split at e1
    · rename_i ds hds
      split at e1
      · rename_i x hxd
        split at e1
        · rename_i y hy
          split at e1
          · rename_i hs
            cases e1
            rw [List.append_nil]
            obtain ⟨b1, b2, b3⟩ := s1.bor
            refine ⟨_, cs, x, y, by rw [← hd _ _ hxd]; exact rds_okG s1 b2 b3 hx hds, b1, hy, fun v F2 H2 g2 s2 hv => ?_⟩
            exact (q F1 ρ1 H2 g1 p1 (s1.bback g2 s2)).1 _ _ rfl (sc_dt hs hv)
          · cases e1
        · cases e1
      · cases e1
    · cases e1
/-- an exception's dict is none of the objects -/
theorem Ob.noxd {F : Hp} {ρ : List Addr} {H : Hp} {a : Addr} {o : MO} {fs : List (Str × V)} (gf : Gr F H) (h : Ob K F ρ H a o) (e : H a = Option.some (HO.xd fs)) : False := by
  cases o with
  | lst xs => obtain ⟨us, h1, h2⟩ := h; rw [e] at h1; cases h1
  | tup xs => obtain ⟨us, h1, h2⟩ := h; rw [e] at h1; cases h1
  | dct xs => obtain ⟨us, h1, h2⟩ := h; rw [e] at h1; cases h1
  | fdc xs => obtain ⟨us, od, h1, h2⟩ := h; rw [gf _ _ h1] at e; cases e
  | ins c fs => obtain ⟨dx, us, h1, h2⟩ := h; rw [e] at h1; cases h1
theorem so_cbx {α β : Type} {A : α → List PyData} {dec : List PyData → Option α} {B : β → PyData} {f : α → Option (Rs β)} (hd : DecOk A dec) (ha : SoA K W as mas) : SoE K W (tCallS (spPX K A B f) (WE W) as) (mCBX dec B f mas) := fun σ env F ρ lh cs H rr lh' Q he s e q => by
  show as σ H fun vs H1 => spPX K A B f vs H1 Q (WE W σ)
  exact SoG.bind ha he s e q fun xs lh1 F1 ρ1 H1 u e1 g1 p1 s1 hx => by
    split at e1
    · rename_i ds hds
      split at e1
      · rename_i x hxd
        obtain ⟨b1, b2, b3⟩ := s1.bor
        refine ⟨cutC H1 cs, cs, x, ?_⟩
        have h0 : Dts K (cutC H1 cs) u (A x) := by rw [← hd _ _ hxd]; exact rds_okG s1 b2 b3 hx hds
        split at e1
        · rename_i y hy
          split at e1
          · rename_i hs
            cases e1
            exact ⟨_, h0, b1, hy, fun y' hy' v F2 H2 g2 s2 hv => by cases hy'; exact (q F1 ρ1 H2 g1 p1 (s1.bback g2 s2)).1 _ _ rfl (sc_dt hs hv), fun c hc => nomatch hc⟩
          · cases e1
        · rename_i x' hy
          split at e1
          · rename_i hs
            cases e1
            refine ⟨_, h0, b1, hy, fun y' hy' => (nomatch hy'), fun c hc d F2 H2 g2 s2 hv => ?_⟩
            cases hc
            have s3 : Sm K F1 ρ1 _ cs H2 := s1.bback g2 s2
            unfold Xd at hv
            split at hv
            · rename_i hf
              exact (q F1 ρ1 H2 g1 p1 s3).2 _ d rfl (by unfold Xd; rw [hf]; exact hv)
            · rename_i f' hf
              obtain ⟨a, v, rfl, h2, h3⟩ := hv
              have hH2 := s2.fr _ _ h2
              have ha : a ∉ ρ1 := fun hm => by
                obtain ⟨i, hi, e⟩ := List.getElem_of_mem hm
                have hl : i < lh'.length := by rw [← s3.len]; exact hi
                exact (s3.has i _ a (List.getElem?_eq_getElem hl) (by rw [List.getElem?_eq_getElem hi, e])).noxd s3.fr hH2
              have g4 : Gr F1 (upd F1 a (.xd [(f', v)])) := fun b o e => by
                by_cases hb : b = a
                · subst hb
                  rw [upd_same]
                  have := s3.fr _ _ e
                  rw [hH2] at this; exact this
                · rw [upd_ne hb]; exact e
              have s4 : Sm K (upd F1 a (.xd [(f', v)])) ρ1 lh' cs H2 := by
                refine ⟨fun b o e => ?_, s3.len, fun i m b h1 h2 hm => ?_, s3.nd, fun i m b h1 h2 => (s3.has i m b h1 h2).up g4 pre_rfl rfl, fun c hc => ?_, s3.cnd⟩
                · by_cases hb : b = a
                  · subst hb; rw [upd_same] at e; cases e; exact hH2
                  · rw [upd_ne hb] at e; exact s3.fr _ _ e
                · have hb : b ≠ a := fun z => ha (by rw [← z]; exact List.mem_of_getElem? h2)
                  rw [upd_ne hb]; exact s3.sep i m b h1 h2 hm
                · obtain ⟨k1, k2, k3⟩ := s3.cst c hc
                  have hb : c.1 ≠ a := fun z => by have := s2.sep c hc; rw [z, h2] at this; cases this
                  exact ⟨by rw [upd_ne hb]; exact k1, k2, k3⟩
              exact (q _ ρ1 H2 (g1.tr g4) p1 s4).2 _ _ rfl (by unfold Xd; rw [hf]; exact ⟨a, v, rfl, upd_same, sc_dt hs h3⟩)
          · cases e1
        · cases e1
      · cases e1
    · cases e1
end
end Bw

namespace Bw
open PySem L2
/-! a def's mirror -/
def mFn (n k : Nat) (body : MS) : List MV → LH → MR MV := fun xs lh => if xs.length = n then (match body (xs.map some ++ List.replicate k none) lh with
  | some (.rt v, _, l) => some (.ok v, l)
  | some (.nx, _, l) => some (.ok (.d .none), l)
  | some (.ex e, _, l) => some (.ex e, l)
  | _ => none) else none
theorem mFn_len {n k : Nat} {body : MS} : ∀ xs lh r, mFn n k body xs lh = some r → xs.length = n := fun xs lh r h => by
  unfold mFn at h; split at h
  · assumption
  · cases h
section
variable {K : PySem.W.Frag} {W : WX}
theorem env_start {F : Hp} {ρ : List Addr} : ∀ {vs : List V} {xs : List MV} (k : Nat), Vrs K F ρ vs xs → EnvR K F ρ (vs.map some ++ List.replicate k none) (xs.map some ++ List.replicate k none)
  | _, _, k, .nil => by
    induction k with
    | zero => exact .nil
    | succ k ih => exact .cons trivial ih
  | _, _, k, .cons h t => .cons h (env_start k t)
theorem spU_len {n : Nat} {f : List MV → LH → MR MV} {vs : List V} {H : Hp} {Q : VK} {E : XK} (h : spU K n f vs H Q E) : vs.length = n := by
  obtain ⟨F, ρ, lh, cs, xs, r, lh', h1, h2, h3, _⟩ := h
  rw [vrs_len h3]; exact h1
theorem u_fn {n k : Nat} {body : MS} {N : List Str} {vs : List V} {H : Hp} {Q : VK} {E : XK} (hN : N.length = n + k) (h : spU K n (mFn n k body) vs H Q E) : tGS K (WX0 E) body { nx := fun _ H' => Q .non H', rt := Q } (L2.start N vs) H := by
  obtain ⟨F, ρ, lh, cs, xs, r, lh', h1, h2, h3, h4, h5⟩ := h
  have hl : N.length - vs.length = k := by rw [vrs_len h3, h1, hN]; omega
  unfold mFn at h4
  rw [if_pos h1] at h4
  unfold L2.start
  rw [hl]
  split at h4
  · rename_i v e l hb
    cases h4
    exact ⟨_, F, ρ, lh, cs, _, _, _, env_start k h3, h2, hb, fun F' ρ' H' σ' g p s he => fun u hu => (h5 F' ρ' H' g p s).1 _ _ rfl hu⟩
  · rename_i e l hb
    cases h4
    exact ⟨_, F, ρ, lh, cs, _, _, _, env_start k h3, h2, hb, fun F' ρ' H' σ' g p s he => (h5 F' ρ' H' g p s).1 _ _ rfl .non⟩
  · rename_i e e' l hb
    cases h4
    exact ⟨_, F, ρ, lh, cs, _, _, _, env_start k h3, h2, hb, fun F' ρ' H' σ' g p s he => fun d hd => (h5 F' ρ' H' g p s).2 _ d rfl hd⟩
  · cases h4
end
section
variable {X : Cx} {W : WX} {a b c e o i : Expr} {es : List Expr} {ma mb mc mo mi : ME} {mas : MA} {pos p apos cpos : Pos} {k : Nat} {f C : Addr} {fd : FuncData} {ps : List Str} {n : Nat} {m : List MV → LH → MR MV} {x : Str} {st : Stmt} {sts : List Stmt} {ms ms' : MS} {mt : MT}
theorem u_op {op : Operator} {r : R2} {g : G2} (ho : OpR X (binaryOp op) r) (hr : Rel2 X.K r g) (ha : UE X W a ma) (hb : UE X W b mb) : UE X W (.BinOp a op b pos) (mOp2 g ma mb) := ue_of (pe_op ho ha hb) (so_op2 hr sog sog)
theorem u_cmp {op : CmpOp} {r : R2} {g : G2} (ho : OpR X (compareOp op) r) (hr : Rel2 X.K r g) (ha : UE X W a ma) (hb : UE X W b mb) (hm : behindInMarks op b = false) : UE X W (.Compare a [op] [b] pos) (mOp2 g ma mb) := ue_of (pe_cmpR ho ha hb hm) (so_op2 hr sog sog)
theorem u_un {op : UnaryOp} {r : V → Hp → VK → Prop} {g : G1} (ho : UnR X (unaryOp op) r) (hr : Rel1 X.K r g) (ha : UE X W a ma) : UE X W (.UnaryOp op a pos) (mOp1 g ma) := ue_of (pe_un ho ha) (so_op1 hr sog)
theorem so_tc {v : V} {d : PyData} (h : ∀ F, Dt X.K F v d) : SoE X.K W (tC v) (mC d) := so_c h
theorem u_isN {q : PySem.Expr} (ha : UE X W a ma) (hq : PE X q (tC .non)) (hm : behindInMarks .Is q = false) : UE X W (.Compare a [.Is] [q] pos) (mOp1 gIsN ma) := ue_of (pe_cmpR op_isNR ha hq hm) (so_isN sog)
theorem u_nisN {q : PySem.Expr} (ha : UE X W a ma) (hq : PE X q (tC .non)) (hm : behindInMarks .IsNot q = false) : UE X W (.Compare a [.IsNot] [q] pos) (mOp1 gNisN ma) := ue_of (pe_cmpR op_notNR ha hq hm) (so_nisN sog)
theorem u_one {op} (ha : UE X W a ma) : UE X W (.BoolOp op [a] pos) ma := pe_one ha
theorem u_and {rest : List Expr} (ha : UE X W a ma) (hb : UE X W (.BoolOp .And (b :: rest) pos) mb) : UE X W (.BoolOp .And (a :: b :: rest) pos) (mAndV ma mb) := ue_of (pe_and ha hb) (so_and sog sog)
theorem u_or {rest : List Expr} (ha : UE X W a ma) (hb : UE X W (.BoolOp .Or (b :: rest) pos) mb) : UE X W (.BoolOp .Or (a :: b :: rest) pos) (mOrV ma mb) := ue_of (pe_or ha hb) (so_or sog sog)
theorem u_not (ha : UE X W a ma) : UE X W (.UnaryOp .Not a pos) (mNotV ma) := ue_of (pe_not ha) (so_not sog)
theorem u_val (ha : UE X W a ma) (he : ∀ whole, isTrue a X.env whole = (do let v ← whole; standAt a.pos; holding [v] (truthy v)) := by intro _; rfl) : UT X W a (mTest ma) := ut_of (pt_val ha he) (so_test sog)
theorem u_ifE (hc : UT X W c mt) (ha : UE X W a ma) (hb : UE X W b mb) : UE X W (.IfExp c a b pos) (mIfE mt ma mb) := ue_of (pe_ifExp hc ha hb) (so_ife sog sog sog)
theorem u_nil : UA X W [] mNil := ua_of pa_nil so_nil
theorem u_cons (ha : UE X W e ma) (hr : UA X W es mas) (hs : starEach (e :: es) X.env = (false, eval e X.env) :: starEach es X.env := by rfl) : UA X W (e :: es) (mCons ma mas) := ua_of (pa_cons ha hr hs) (so_cons sog sog)
theorem u_lst {h : Bool} (ha : UA X W es mas) : UE X W (.List es pos) (mLst h mas) := ue_of (pe_lst ha) (so_lst sog)
theorem u_tup {x1} (ha : UA X W es mas) : UE X W (.Tuple es x1 pos) (mTup mas) := ue_of (pe_tup ha) (so_tup sog)
theorem u_ix (hu : X.A.units + 1 < cLine) (ha : UE X W a ma) (hb : UE X W b mb) (hs : PlainIx b) : UE X W (.Subscript a b pos) (mOp2 ixU ma mb) := ue_of (pe_ix (ix_u hu) ha hb hs) (so_op2 rel_ixU sog sog)
theorem u_call (G : FnOk X.prog X.w X.K X.mg X.base (L2.CX X.prog X.w) k f fd ps (spU X.K n m)) (hn : ∀ xs lh r, m xs lh = some r → xs.length = n) (hr : Room k X.A) (hg : Gl X x) (hm : X.mg x = some (.ref f)) (hk : PySem.W.keepIn X.K (.ref f) = true) (hb : Binds X.K fd ps [])
    (hx : ∀ σ, PassesAt (L2.CX X.prog X.w) X σ (WE W σ)) (ha : UA X W (e :: es) mas) (hdb : (x == ("__debug__" : Str)) = false := by decide) (he : starEach (e :: es) X.env = (false, eval e X.env) :: starEach es X.env := by rfl) (hpl : (backTo pos (starEach es X.env)).any (·.1) = false := by rfl) :
    UE X W (.Call (.Name x p) (e :: es) [] pos) (mCall m mas) := ue_of (pe_callS (E := WE W) G hr hg hm hk hb hx ha hdb he hpl) (so_call hn sog)
theorem u_make {C0 : Str} (M : Mk X.K (He.ga X.K C0) f) (G : FnOk X.prog X.w X.K X.mg X.base (L2.CX X.prog X.w) k f fd ps (spU X.K n m)) (hn : ∀ xs lh r, m xs lh = some r → xs.length = n) (hr : Room (k + 1) X.A) (hg : Gl X x) (hm : X.mg x = some (.ref (He.ga X.K C0))) (hb : Binds X.K fd ps [])
    (hx : ∀ σ, PassesAt (L2.CX X.prog X.w) X σ (WE W σ)) (ha : UA X W (e :: es) mas) (hdb : (x == ("__debug__" : Str)) = false := by decide) (he : starEach (e :: es) X.env = (false, eval e X.env) :: starEach es X.env := by rfl) (hpl : (backTo pos (starEach es X.env)).any (·.1) = false := by rfl) :
    UE X W (.Call (.Name x p) (e :: es) [] pos) (mMake C0 m mas) := ue_of (pe_makeS (E := WE W) M G hr hg hm hb hx ha hdb he hpl) (so_make hn sog)
theorem u_meth {C0 mn : Str} {pl : Sem Bool} (c : Cls X.K (He.ga X.K C0)) (hm : Meth X.K (He.ga X.K C0) mn f) (G : FnOk X.prog X.w X.K X.mg X.base (L2.CX X.prog X.w) k f fd ps (spU X.K n m)) (hn : ∀ xs lh r, m xs lh = some r → xs.length = n) (hr : Room k X.A) (hb : Binds X.K fd ps [])
    (hx : ∀ σ, PassesAt (L2.CX X.prog X.w) X σ (WE W σ)) (ho : UE X W o mo) (ha : UA X W (e :: es) mas)
    (hst : starEach (e :: es) X.env = (false, eval e X.env) :: starEach es X.env := by rfl) (hpl : (backTo pos (starEach es X.env)).any (·.1) = false := by rfl)
    (ht : eval (.Call (.Attribute o mn apos) (e :: es) [] pos) X.env = (do
      let ov ← eval o X.env
      standAt apos.atName
      let (f, first) ← holding [ov] (getMethod ov mn pl)
      callWith pos f first (backTo pos (starEach (e :: es) X.env)) (backToKw pos (keywordEach [] X.env))) := by rfl) :
    UE X W (.Call (.Attribute o mn apos) (e :: es) [] pos) (mMeC C0 mn m mo mas) := ue_of (pe_meE (E := WE W) ho c hm G hr hb hx ha hst hpl ht) (so_meC hn sog sog)
theorem u_meth0 {C0 mn : Str} {pl : Sem Bool} (c : Cls X.K (He.ga X.K C0)) (hm : Meth X.K (He.ga X.K C0) mn f) (G : FnOk X.prog X.w X.K X.mg X.base (L2.CX X.prog X.w) k f fd ps (spU X.K n m)) (hn : ∀ xs lh r, m xs lh = some r → xs.length = n) (hr : Room k X.A) (hb : Binds X.K fd ps [])
    (hx : ∀ σ, PassesAt (L2.CX X.prog X.w) X σ (WE W σ)) (ho : UE X W o mo)
    (ht : eval (.Call (.Attribute o mn apos) [] [] pos) X.env = (do
      let ov ← eval o X.env
      standAt apos.atName
      let (f, first) ← holding [ov] (getMethod ov mn pl)
      callWith pos f first (backTo pos (starEach [] X.env)) (backToKw pos (keywordEach [] X.env))) := by rfl) :
    UE X W (.Call (.Attribute o mn apos) [] [] pos) (mMeC C0 mn m mo mNil) := ue_of (pe_meE0 (E := WE W) ho c hm G hr hb hx ht) (so_meC hn sog so_nil)
theorem u_fld {cl : List Str} {fn : Str} (hc : ∀ c ∈ cl, ClsF X.K c fn) (ho : UE X W o mo) (hb : attributeBase o fn X.env (eval o X.env) = eval o X.env := by rfl) : UE X W (.Attribute o fn pos) (mFld cl fn mo) := ue_of (pe_fld ho hb) (so_fld hc sog)
theorem u_cbB {id : String} {r : List V → Hp → VK → Prop} {g : GN} (hc : CallR X (.builtin id) r) (hr : RelN X.K r g) (hg : Gl X x) (hm : X.mg x = none) (hv : bootBuiltins x = some (.builtin id)) (ha : UA X W (e :: es) mas) (hn : x ≠ "__name__" := by decide) (hdb : (x == ("__debug__" : Str)) = false := by decide)
    (he : starEach (e :: es) X.env = (false, eval e X.env) :: starEach es X.env := by rfl) (hpl : (backTo pos (starEach es X.env)).any (·.1) = false := by rfl) : UE X W (.Call (.Name x p) (e :: es) [] pos) (mCB g mas) := ue_of (pe_callB hc hg hm hv ha hn hdb he hpl) (so_cb hr sog)
theorem u_cbT {T : String} {r : List V → Hp → VK → Prop} {g : GN} (hc : CallR X (.type T) r) (hr : RelN X.K r g) (hg : Gl X x) (hm : X.mg x = none) (hv : bootBuiltins x = some (.type T)) (ha : UA X W (e :: es) mas) (hn : x ≠ "__name__" := by decide) (hdb : (x == ("__debug__" : Str)) = false := by decide)
    (he : starEach (e :: es) X.env = (false, eval e X.env) :: starEach es X.env := by rfl) (hpl : (backTo pos (starEach es X.env)).any (·.1) = false := by rfl) : UE X W (.Call (.Name x p) (e :: es) [] pos) (mCB g mas) := ue_of (pe_callTy hc hg hm hv ha hn hdb he hpl) (so_cb hr sog)
/-! statements -/
theorem u_bnil : UB X W [] mSkip := ub_of pss_nil so_skip
theorem u_bone (h : US X W st ms) : UB X W [st] ms := pss_one h
theorem u_bcons (h : US X W st ms) (h2 : UB X W sts ms') : UB X W (st :: sts) (mSeq ms ms') := ub_of (pss_cons h h2) (so_seq sos sos)
theorem u_drop (ha : UE X W a ma) (hs : swapsWith a none pos.line X.env = pure false := by rfl) : US X W (.Expr a pos) (mDrop ma) := us_of (ps_expr ha hs) (so_drop sog)
theorem u_ret (ha : UE X W a ma) : US X W (.Return (some a) pos) (mRet ma) := us_of (ps_ret ha) (so_ret sog)
theorem u_retN : US X W (.Return none pos) mRetN := us_of ps_retN so_retN
theorem u_if {sb : List Stmt} {mb' : MS} (hc : UT X W c mt) (ha : UB X W sts ms) (hb : UB X W sb mb') : US X W (.If c sts sb pos) (mIfS mt ms mb') := us_of (ps_if hc ha hb) (so_if sog sos sos)
theorem u_pass : US X W (.Pass pos) mSkip := us_of ps_pass so_skip
theorem u_set {j : Nat} {pos' : Pos} (hN : X.N.Nodup) (hi : X.N[j]? = some x) (hx : Loc X.env.scope x) (ha : UE X W e ma) (hs : swapsWith e (some (.Name x pos')) pos.line X.env = pure false := by rfl) (hf : X.fn x = true ∨ X.env.scope.names.lookup x = some .local := by first | exact .inl rfl | exact .inr rfl | assumption) :
    US X W (.Assign [.Name x pos'] e pos) (mAsg ma (gNm j)) := us_of (ps_set hN hi hx ha hs hf) (so_asg sog sg_nm)
theorem u_asgT {is : List Nat} (h : PS X st (tAsg (tG (rV X.K) X.K W ma) (gTup X.K is.length (gCs is)))) : US X W st (mAsg ma (gTp is)) := us_of h (so_asg sog (sg_tp rfl))
theorem u_fset {cl : List Str} {fn : Str} {pos' : Pos} (hc : ∀ c ∈ cl, ClsF X.K c fn) (ho : UE X W o mo) (ha : UE X W e ma) (hs : swapsWith e (some (.Attribute o fn pos')) pos.line X.env = pure false := by rfl) : US X W (.Assign [.Attribute o fn pos'] e pos) (mFldSet cl fn mo ma) := us_of (ps_fld ho ha hs) (so_fset hc sog sog)
theorem u_faug {cl : List Str} {fn : Str} {op : Operator} {r : V → V → Hp → VK → Prop} {g : G2} {tpos : Pos} (hop : InOp X op r) (hc : ∀ c ∈ cl, ClsF X.K c fn) (hr : Rel2 X.K r g) (ho : UE X W o mo) (ha : UE X W e ma) : US X W (.AugAssign (.Attribute o fn tpos) op e pos) (mFldAug cl fn g mo ma) := us_of (ps_fldaug ho ha hop) (so_faug hc hr sog sog)
theorem u_sub (h : PS X st (tAsg (tG (rV X.K) X.K W ma) (gSub (tG (rV X.K) X.K W mo) (tG (rV X.K) X.K W mi) rSetU))) : US X W st (mSub mo mi ma) := us_of h (so_sub sog sog sog)
theorem u_subaug {op : Operator} {r : TIp} {g : G2} {tpos : Pos} (hu : X.A.units + 1 < cLine) (hp : PIp X op r) (hr : Rel2 X.K r g) (ho : UE X W o mo) (hi : UE X W i mi) (ha : UE X W e ma)
    (hs : ∀ ov iv new, augStore i ov iv new = (do holding [new, ov, iv] (setItem ov iv new); release [new, ov, iv] []; pure .next) := by intros; rfl) : US X W (.AugAssign (.Subscript o i tpos) op e pos) (mSubAug g mo mi ma) := us_of (ps_augS ho hi (get_u hu) ha hp (set_u hu) hs) (so_subaug hr sog sog sog)
theorem u_raise {mm : Str} {j : Nat} {p2 pos' : Pos} (hc : X.calm = true) (tk : Takes X W) (ee : ExD X.K X.mg x) (hf : fld x = none) (hg : Gl X x) (hdb : (x == ("__debug__" : Str)) = false := by decide) : US X W (.Raise (some (.Call (.Name x p) [.Constant (.str mm) j p2] [] pos)) none pos') (mRaise x) := us_of (ps_raiseX hc tk ee hg hdb) (so_raise hf)
theorem u_raiseF {ff : Str} {pos' : Pos} (hc : X.calm = true) (tk : Takes X W) (F : OkI X.prog X.w X.K X.mg X.base x ff) (hr : Room 2 X.A) (hg : Gl X x) (hf : fld x = some ff) (he : UE X W e ma) (hdb : (x == ("__debug__" : Str)) = false := by decide)
    (hs : starEach [e] X.env = (false, eval e X.env) :: starEach [] X.env := by rfl) (hpl : (backTo pos (starEach [] X.env)).any (·.1) = false := by rfl) : US X W (.Raise (some (.Call (.Name x p) [e] [] pos)) none pos') (mRaiseF x ma) := us_of (ps_raiseF hc tk F hr hg he hdb hs hpl) (so_raiseF hf sog)
theorem u_for {tg iter : Expr} {body : List Stmt} {mi : MI} {g : TG} {mg : MTg} (hp : PassesOwn (model X.prog X.w) X.A X.env X.xe) (hc : X.calm = true) (hi : UI X W tg iter mi) (hg : PG X tg g) (hm : SoTg X.K g mg) (hb : UB X W body ms) (hs : ∀ x, foldedSetIterable iter X.env x = pure x := by intro _; rfl) : US X W (.For tg iter body [] pos) (mFor mi mg ms) := us_of (ps_for hp hc hi hg hb hs) (so_for sog hm sos)
theorem u_while {fu : Nat} (hp : PassesOwn (model X.prog X.w) X.A X.env X.xe) (hc : UT X W c mt) (hb : UB X W sts ms) : US X W (.While c sts [] pos) (mWhile fu mt ms) := us_of (ps_while hp hc hb) (so_while sog sos)
theorem u_lockS {de : ME} (h : US X W st ms) : US X W st (mLockS de ms) := us_of (ps_lock h) (so_lockS sos)
theorem u_lc {elt tg iter : Expr} {ifs : List Expr} {scope : Scope} {own : List (Str × Nat)} {mi : MI} {g : TG} {mg : MTg} {mtt : MT} {h : Bool} (hc : X.calm = true) (hN : X.N.Nodup) (hi : UI X W tg iter mi) (ok : BlkOk X.N X.env.scope scope own)
    (hm : SoTw X.K (own.map (·.2)) g mg)
    (hg : ∀ (s : Shared) (H : Hp) (C : Addr) (cl : List (Str × Addr)) (fp : List Addr), PG (X.blk s H scope (compEnvC scope cl C X.env) fp) tg g) (ht : ∀ (s : Shared) (H : Hp) (C : Addr) (cl : List (Str × Addr)) (fp : List Addr), PTs (X.blk s H scope (compEnvC scope cl C X.env) fp) ifs (tG rBo X.K WF0 mtt))
    (he : ∀ (s : Shared) (H : Hp) (C : Addr) (cl : List (Str × Addr)) (fp : List Addr), PE (X.blk s H scope (compEnvC scope cl C X.env) fp) elt (tG (rV X.K) X.K WF0 ma)) (hs : ∀ x, foldedSetIterable iter X.env x = pure x := by intro _; rfl) :
    UE X W (.ListComp elt [⟨tg, iter, ifs, 0⟩] scope pos) (mLc h mi mg mtt ma (own.map (·.2))) := ue_of (pe_lc hc hN hi ok hg ht he hs) (so_lc (W1 := W) sog hm sog sog)
theorem u_lockE {de : ME} (h : UE X WF0 a ma) : UE X W a (mLockE de ma) := ue_of (pe_lock h) (so_lockE sog)
theorem u_yes : PTs X [] (tG rBo X.K W mYes) := ⟨fun pins s σ H Q I ⟨env, F, ρ, lh, cs, r, lh', he, sm, e, q⟩ => pts_nil.run pins s σ H Q I (so_yes σ env F ρ lh cs H r lh' Q he sm e q)⟩
theorem u_tone (h : UT X W c mt) : PTs X [c] (tG rBo X.K W mt) := pts_one h
theorem u_itSeq {tg : Expr} (ha : UE X W e ma) : UI X W tg e (mItSeq ma) := ui_of (Bw.PI.or (pi_list ha) (pi_tup ha)) (so_itSeq sog)
theorem u_chr {tg : Expr} (ha : UE X W e ma) : UI X W tg e (mChr ma) := ui_of (pi_str ha) (so_chr sog)
theorem u_keys {tg : Expr} (ha : UE X W e ma) : UI X W tg e (mKeys ma) := ui_of (pi_keys ha) (so_keys sog)
theorem u_try {body : List Stmt} {h₀ : ExceptHandler} {hds : List ExceptHandler} {orelse : List Stmt} {cl : List Str} {hs : List (Str × MS)} {me : MS} (XH : XhF X.K cl (hs.map (·.1))) (ho : UB X W orelse me) (hs1 : X.stack = X.env :: X.outer) (hf : X.env.frame = some X.env.locals) (tk : Takes X W)
    (hb : ∀ (W' : WX) (pn : List (Addr × Obj)) (xe : Value → Shared → Prop), Takes (X.tr pn xe) W' → PassesOwn (model X.prog X.w) X.A X.env xe → PSs (X.tr pn xe) body (tGS X.K W' ms)) (hh : HdsOk X (h₀ :: hds) (hsT X.K W hs)) : US X W (.Try body (h₀ :: hds) orelse [] pos) (mTry cl ms hs me) :=
  us_of (ps_try_manyE ho hs1 hf tk hb hh) (so_try (tb := fun W' => tGS X.K W' ms) XH (fun W' => sos) sos)
end
end Bw

namespace Bw
open PySem L2
/-! tests -/
def mNotT (a : MT) : MT := fun env lh => mB (a env lh) fun b l => some (.ok (!b), l)
def mAndT (a b : MT) : MT := fun env lh => mB (a env lh) fun c l => if c = true then b env l else some (.ok false, l)
def mOrT (a b : MT) : MT := fun env lh => mB (a env lh) fun c l => if c = true then some (.ok true, l) else b env l
def mChain (g g' : G2) (a b c : ME) : ME := fun env lh => mB (a env lh) fun x l1 => mB (b env l1) fun y l2 => match g x y l2 with
  | some (.d (.bool true), l3) => mB (c env l3) fun z l4 => mO (g' y z l4)
  | some (.d (.bool false), l3) => some (.ok (.d (.bool false)), l3)
  | _ => none
def UW (X : Cx) (W : WX) (e : Expr) (m : MT) : Prop := PW X e (tG rBo X.K W m)
theorem uw_of {X : Cx} {W : WX} {e : Expr} {t : TT} {m : MT} (h : PW X e t) (k : SoT X.K W t m) : UW X W e m := ⟨fun whole pins s σ H Q I ⟨env, F, ρ, lh, cs, r, lh', he, sm, e, q⟩ => h.run whole pins s σ H Q I (k σ env F ρ lh cs H r lh' Q he sm e q)⟩
section
variable {K : PySem.W.Frag} {W : WX} {ta tb tc te : TE} {ma mb mc me : ME} {t u : TT} {m n : MT}
theorem so_ttest (ha : SoE K W ta ma) : SoT K W (tTest ta) (mTest ma) := so_test ha
theorem so_tnot (h : SoT K W t m) : SoT K W (tNot t) (mNotT m) := fun σ env F ρ lh cs H r lh' Q he s e q => by
  show t σ H fun c H1 => Q (!c) H1
  exact SoG.bind h he s e q fun b lh1 F1 ρ1 H1 w e1 g1 p1 s1 hx => by
    cases hx; cases e1; exact (q F1 ρ1 H1 g1 p1 s1).1 _ _ rfl rfl
theorem so_tand (h : SoT K W t m) (h2 : SoT K W u n) : SoT K W (tAnd t u) (mAndT m n) := fun σ env F ρ lh cs H r lh' Q he s e q => by
  show t σ H fun c H1 => if c = true then u σ H1 Q else Q false H1
  exact SoG.bind h he s e q fun b lh1 F1 ρ1 H1 w e1 g1 p1 s1 hx => by
    cases hx
    split at e1
    · rw [if_pos ‹_›]; exact h2 σ env F1 ρ1 lh1 cs H1 _ _ Q (he.up g1 p1) s1 e1 (q.up g1 p1)
    · rw [if_neg ‹_›]; cases e1; exact (q F1 ρ1 H1 g1 p1 s1).1 _ _ rfl rfl
theorem so_tor (h : SoT K W t m) (h2 : SoT K W u n) : SoT K W (tOr t u) (mOrT m n) := fun σ env F ρ lh cs H r lh' Q he s e q => by
  show t σ H fun c H1 => if c = true then Q true H1 else u σ H1 Q
  exact SoG.bind h he s e q fun b lh1 F1 ρ1 H1 w e1 g1 p1 s1 hx => by
    cases hx
    split at e1
    · rw [if_pos ‹_›]; cases e1; exact (q F1 ρ1 H1 g1 p1 s1).1 _ _ rfl rfl
    · rw [if_neg ‹_›]; exact h2 σ env F1 ρ1 lh1 cs H1 _ _ Q (he.up g1 p1) s1 e1 (q.up g1 p1)
theorem so_chain {r r' : R2} {g g' : G2} (hr : Rel2 K r g) (hr' : Rel2 K r' g') (ha : SoE K W ta ma) (hb : SoE K W tb mb) (hc : SoE K W tc mc) : SoE K W (tChain r r' ta tb tc) (mChain g g' ma mb mc) := fun σ env F ρ lh cs H rr lh' Q he s e q => by
  show ta σ H fun x H1 => tb σ H1 fun y H2 => r x y H2 fun z H3 => ∃ k, z = .bl k ∧ (if k = true then tc σ H3 fun w' H4 => r' y w' H4 Q else Q (.bl false) H3)
  refine SoG.bind ha he s e q fun x lh1 F1 ρ1 H1 u e1 g1 p1 s1 hx => SoG.bind hb (he.up g1 p1) s1 e1 (q.up g1 p1) fun y lh2 F2 ρ2 H2 w e2 g2 p2 s2 hy => ?_
  have gg := g1.tr g2
  have pp := p1.trans p2
  split at e2
  · rename_i l3 h3
    refine hr F2 ρ2 lh2 cs H2 u w x y _ _ _ s2 (Vr.up g2 p2 hx) hy h3 fun F3 ρ3 H3 v g3 p3 s3 hv => ⟨true, Dt.toBl hv, ?_⟩
    rw [if_pos rfl]
    exact SoG.bind hc (he.up (gg.tr g3) (pp.trans p3)) s3 e2 (q.up (gg.tr g3) (pp.trans p3)) fun z lh4 F4 ρ4 H4 w4 e4 g4 p4 s4 hz => by
      obtain ⟨z', h5, rfl⟩ := mO_some e4
      exact hr' F4 ρ4 lh4 cs H4 w w4 y z z' _ Q s4 (Vr.up (g3.tr g4) (p3.trans p4) hy) hz h5 (q.toFin (gg.tr (g3.tr g4)) (pp.trans (p3.trans p4)))
  · rename_i l3 h3
    cases e2
    refine hr F2 ρ2 lh2 cs H2 u w x y _ _ _ s2 (Vr.up g2 p2 hx) hy h3 fun F3 ρ3 H3 v g3 p3 s3 hv => ⟨false, Dt.toBl hv, ?_⟩
    rw [if_neg (by simp)]
    exact (q F3 ρ3 H3 (gg.tr g3) (pp.trans p3) s3).1 _ _ rfl (.bl false)
  · cases e2
end
section
variable {X : Cx} {W : WX} {a b c : Expr} {ma mb mc : ME} {m n : MT} {pos : Pos}
theorem u_tcmp {op : CmpOp} {r : R2} {g : G2} (ho : OpR X (compareOp op) r) (hr : Rel2 X.K r g) (ha : UE X W a ma) (hb : UE X W b mb) (hm : behindInMarks op b = false) : UT X W (.Compare a [op] [b] pos) (mTest (mOp2 g ma mb)) := ut_of (pt_cmpR ho ha hb hm) (so_ttest (so_op2 hr sog sog))
theorem u_tisN {q : PySem.Expr} (ha : UE X W a ma) (hq : PE X q (tC .non)) (hm : behindInMarks .Is q = false) : UT X W (.Compare a [.Is] [q] pos) (mTest (mOp1 gIsN ma)) := ut_of (pt_cmpR op_isNR ha hq hm) (so_ttest (so_isN sog))
theorem u_tnisN {q : PySem.Expr} (ha : UE X W a ma) (hq : PE X q (tC .non)) (hm : behindInMarks .IsNot q = false) : UT X W (.Compare a [.IsNot] [q] pos) (mTest (mOp1 gNisN ma)) := ut_of (pt_cmpR op_notNR ha hq hm) (so_ttest (so_nisN sog))
theorem u_tnot (ha : UT X W a m) : UT X W (.UnaryOp .Not a pos) (mNotT m) := ut_of (pt_not ha) (so_tnot sog)
theorem u_tand1 (ha : UT X W a m) : UW X W (.BoolOp .And [a] pos) m := pw_and1 ha
theorem u_tor1 (ha : UT X W a m) : UW X W (.BoolOp .Or [a] pos) m := pw_or1 ha
theorem u_tand {rest : List Expr} (ha : UT X W a m) (hb : UW X W (.BoolOp .And (b :: rest) pos) n) : UW X W (.BoolOp .And (a :: b :: rest) pos) (mAndT m n) := uw_of (pw_and ha hb) (so_tand sog sog)
theorem u_tor {rest : List Expr} (ha : UT X W a m) (hb : UW X W (.BoolOp .Or (b :: rest) pos) n) : UW X W (.BoolOp .Or (a :: b :: rest) pos) (mOrT m n) := uw_of (pw_or ha hb) (so_tor sog sog)
theorem u_tpt (h : UW X W a m) : UT X W a m := PW.pt h
theorem u_chain {op op' : CmpOp} {r r' : R2} {g g' : G2} (ho : OpR X (compareOp op) r) (ho' : OpR X (compareOp op') r') (hr : Rel2 X.K r g) (hr' : Rel2 X.K r' g') (ha : UE X W a ma) (hb : UE X W b mb) (hc : UE X W c mc) (hm : lastMarks [op, op'] [b, c] = false) : UE X W (.Compare a [op, op'] [b, c] pos) (mChain g g' ma mb mc) := ue_of (pe_chain ho ho' ha hb hc hm) (so_chain hr hr' sog sog sog)
theorem u_tchain {op op' : CmpOp} {r r' : R2} {g g' : G2} (ho : OpR X (compareOp op) r) (ho' : OpR X (compareOp op') r') (hr : Rel2 X.K r g) (hr' : Rel2 X.K r' g') (ha : UE X W a ma) (hb : UE X W b mb) (hc : UE X W c mc) (hm : lastMarks [op, op'] [b, c] = false) : UT X W (.Compare a [op, op'] [b, c] pos) (mTest (mChain g g' ma mb mc)) := ut_of (pt_chain ho ho' ha hb hc hm) (so_ttest (so_chain hr hr' sog sog sog))
theorem u_tryK {x nm : Str} {i j : Nat} {body suite : List Stmt} {b₀ : Stmt} {np pos' : Pos} {cl : List Str} {ms : MS} (XH : XhF X.K cl ["CartError"]) (hall : ∀ c ∈ cl, subX c "CartError" = true) (hs : X.stack = X.env :: X.outer) (hf : X.env.frame = some X.env.locals) (hex : X.ex = []) (hN : X.N.Nodup) (hi : X.N[i]? = some nm) (hln : X.env.kindOf nm = some .local) (hc : Names X x (.ref (He.ga X.K "CartError"))) (tk : Takes X W)
    (hb : ∀ (W' : WX) (pn : List (Addr × Obj)) (xe : Value → Shared → Prop), Takes (X.tr pn xe) W' → PassesOwn (model X.prog X.w) X.A X.env xe → PSs (X.tr pn xe) body (tGS X.K W' ms))
    (hsu : ∀ (a : Addr) (oe : Obj) (cls : Value) (d : Option Addr) (pn : List (Addr × Obj)), Zc cls d oe → (∃ vs, oe.data = .fields vs) → PSs (X.suite a ((a, oe) :: pn)) (b₀ :: suite) (tAsg (tVar i) (gName j))) : US X W (.Try body [.ExceptHandler (some (.Name x np)) (some nm) (b₀ :: suite) pos'] [] [] pos) (mTryK cl i j ms) :=
  us_of (ps_try_keep hs hf hex hN hi hln hc tk hb (ts := fun _ _ _ => tAsg (tVar i) (gName j)) hsu) (so_tryK (tb := fun W' => tGS X.K W' ms) XH hall (fun W' => sos))
end
theorem clsf1 {K : PySem.W.Frag} {c f : Str} (h : Cls K (He.ga K c)) (n : NoAttr K (He.ga K c) f) : ∀ d ∈ [c], ClsF K d f := fun d hd => by
  cases List.mem_singleton.mp hd; exact ⟨h, n⟩
theorem cr_sortU {X : Cx} : CallR X (.builtin "sorted") (fun xs H Q => rSortedS X.K xs H Q ∨ rSortedI X.K xs H Q) := CallR.or cr_sortedS cr_sortedI
def gSort (h : Bool) : GN := altN (gSortS h) (gSortI h)
theorem rel_sort {K : PySem.W.Frag} {h : Bool} : RelN K (fun xs H Q => rSortedS K xs H Q ∨ rSortedI K xs H Q) (gSort h) := rel_sortS.or rel_sortI
/-! the facts of the classes that are caught -/
def uxB (cl ts hs : List Str) (K : PySem.W.Frag) : Bool := xfcB cl ts K && cl.all fun c => hs.all fun d => PySem.W.exmOne K (.ref (He.ga K c)) (.ref (He.ga K d)) == some (subX c d)
theorem ux_x {cl ts hs : List Str} {K : PySem.W.Frag} (h : uxB cl ts hs K = true) : xfcB cl ts K = true := by unfold uxB at h; rw [Bool.and_eq_true] at h; exact h.1
theorem ux_h {cl ts hs : List Str} {K : PySem.W.Frag} (h : uxB cl ts hs K = true) : XhF K cl hs := ⟨fun c hc d hd => by
  unfold uxB at h
  rw [Bool.and_eq_true, List.all_eq_true] at h
  have k := h.2 c hc
  rw [List.all_eq_true] at k
  exact eq_of_beq (k d hd)⟩
theorem XhF.sub {K : PySem.W.Frag} {cl hs hs' : List Str} (X : XhF K cl hs) (h : ∀ d ∈ hs', d ∈ hs) : XhF K cl hs' := ⟨fun c hc d hd => X.exm c hc d (h d hd)⟩
end Bw
namespace Bw
open PySem L2
section
variable {X : Cx} {W : WX}
theorem u_setLc {i : Nat} {y : Str} {py : Pos} {elt tg iter : Expr} {ifs : List Expr} {scope : Scope} {own : List (Str × Nat)} {pos spos : Pos} {mi : MI} {g : TG} {mg : MTg} {mtt : MT} {ma : ME} {h : Bool} (hc : X.calm = true) (hN : X.N.Nodup) (hy : X.N[i]? = some y) (hyl : X.env.scope.names.lookup y = some .local)
    (hsw : swapsWith (.ListComp elt [⟨tg, iter, ifs, 0⟩] scope pos) (some (.Name y py)) spos.line X.env = pure true) (hi : UI X W tg iter mi) (ok : BlkOk X.N X.env.scope scope own) (hm : SoTw X.K (own.map (·.2)) g mg)
    (hg : ∀ (s : Shared) (H : Hp) (C : Addr) (cl : List (Str × Addr)) (fp : List Addr), PG (X.blk s H scope (compEnvC scope cl C X.env) fp) tg g) (ht : ∀ (s : Shared) (H : Hp) (C : Addr) (cl : List (Str × Addr)) (fp : List Addr), PTs (X.blk s H scope (compEnvC scope cl C X.env) fp) ifs (tG rBo X.K WF0 mtt))
    (he : ∀ (s : Shared) (H : Hp) (C : Addr) (cl : List (Str × Addr)) (fp : List Addr), PE (X.blk s H scope (compEnvC scope cl C X.env) fp) elt (tG (rV X.K) X.K WF0 ma)) (hs : ∀ x, foldedSetIterable iter X.env x = pure x := by intro _; rfl) :
    US X W (.Assign [.Name y py] (.ListComp elt [⟨tg, iter, ifs, 0⟩] scope pos) spos) (mAsg (mLc h mi mg mtt ma (own.map (·.2))) (gNm i)) := us_of (ps_setLc hc hN hy hyl hsw hi ok hg ht he hs) (so_asg (so_lc (W1 := W) sog hm sog sog) sg_nm)
end
/-- the promise of a def that lets nothing out -/
def spU0 (K : PySem.W.Frag) (n : Nat) (f : List MV → LH → MR MV) : Sp := fun vs H Q _ => ∃ F ρ lh cs xs z lh', xs.length = n ∧ Sm K F ρ lh cs H ∧ Vrs K F ρ vs xs ∧ f xs lh = some (.ok z, lh') ∧
  ∀ F' ρ' H' v, Gr F F' → ρ <+: ρ' → Sm K F' ρ' lh' cs H' → Vr K F' ρ' v z → Q v H'
theorem spU0_len {K : PySem.W.Frag} {n : Nat} {f : List MV → LH → MR MV} {vs : List V} {H : Hp} {Q : VK} {E : XK} (h : spU0 K n f vs H Q E) : vs.length = n := by
  obtain ⟨F, ρ, lh, cs, xs, r, lh', h1, h2, h3, _⟩ := h
  rw [vrs_len h3]; exact h1
theorem u_fn0 {K : PySem.W.Frag} {n k : Nat} {body : MS} {N : List Str} {vs : List V} {H : Hp} {Q : VK} {E : XK} (hN : N.length = n + k) (h : spU0 K n (mFn n k body) vs H Q E) : tGS K WF0 body { nx := fun _ H' => Q .non H', rt := Q } (L2.start N vs) H := by
  obtain ⟨F, ρ, lh, cs, xs, z, lh', h1, h2, h3, h4, h5⟩ := h
  have hl : N.length - vs.length = k := by rw [vrs_len h3, h1, hN]; omega
  unfold mFn at h4
  rw [if_pos h1] at h4
  unfold L2.start
  rw [hl]
  split at h4
  · rename_i v e l hb
    cases h4
    exact ⟨_, F, ρ, lh, cs, _, _, _, env_start k h3, h2, hb, fun F' ρ' H' σ' g p s he => fun u hu => h5 F' ρ' H' _ g p s hu⟩
  · rename_i e l hb
    cases h4
    exact ⟨_, F, ρ, lh, cs, _, _, _, env_start k h3, h2, hb, fun F' ρ' H' σ' g p s he => h5 F' ρ' H' _ g p s .non⟩
  · cases h4
  · cases h4
theorem sm0 {K : PySem.W.Frag} {H : Hp} : Sm K H [] [] [] H := ⟨.rfl, rfl, fun i o a h => by simp at h, List.nodup_nil, fun i o a h => by simp at h, fun p hp => by simp at hp, List.nodup_nil⟩
end Bw

namespace Bw
open PySem L2
section
variable {K : PySem.W.Frag}
def gAddI : G2 := pu2 addP
def gSubI : G2 := pu2 subP
theorem rel_ipadd : Rel2 K (ipI fun i j => i + j) gAddI := fun F ρ lh cs H x y a b z lh' Q s hx hy e q => by
  obtain ⟨i, j, h1, h2, h3⟩ := rel2_of dv_add F ρ lh cs H x y a b z lh' Q s hx hy e q
  exact ⟨i, j, h1, h2, h3⟩
theorem rel_ipsub : Rel2 K (ipI fun i j => i - j) gSubI := fun F ρ lh cs H x y a b z lh' Q s hx hy e q => by
  obtain ⟨i, j, h1, h2, h3⟩ := rel2_of dv_sub F ρ lh cs H x y a b z lh' Q s hx hy e q
  exact ⟨i, j, h1, h2, h3⟩
end
end Bw

namespace Bw
open PySem L2
/-! slices, reversed lists, the number of unlike texts -/
abbrev MP := Env → LH → MR (Option Int)
abbrev rOI : Hp → List Addr → Option Int → Option Int → Prop := fun _ _ u v => u = v
def UO (X : Cx) (W : WX) (e : Option Expr) (m : MP) : Prop := PO X e (tG rOI X.K W m)
def mNoPart : MP := fun _ lh => some (.ok none, lh)
def mPart (a : ME) : MP := fun env lh => mB (a env lh) fun x l => match vI x with
  | some i => some (.ok (some i), l)
  | none => none
def gSlL (h : Bool) (x : MV) (lo hi : Option Int) (lh : LH) : Option (MV × LH) := match sqL lh x with
  | some xs => newL h (cutL xs lo hi) lh
  | none => none
def mSl (h : Bool) (a : ME) (lo hi : MP) : ME := fun env lh => mB (a env lh) fun x l1 => mB (lo env l1) fun i l2 => mB (hi env l2) fun j l3 => mO (gSlL h x i j l3)
def gRev (h : Bool) : G1 := fun a lh => match sqL lh a with
  | some xs => newL h xs.reverse lh
  | none => none
def gLenSet : G1 := fun a lh => match rdA lh a with
  | some (.list ds) => match sAll ds with
    | some xs => (setLenM xs).map fun n => (.d (.int n), lh)
    | none => none
  | _ => none
section
variable {K : PySem.W.Frag} {W : WX} {ta tb te to : TE} {ma mb mo : ME} {tl th : TO} {ml mh : MP} {F : Hp} {ρ : List Addr} {h : Bool}
theorem uo_of {X : Cx} {e : Option Expr} {t : TO} {m : MP} (h : PO X e t) (k : SoG rOI X.K W t m) : UO X W e m := ⟨fun pins s σ H Q I ⟨env, F, ρ, lh, cs, r, lh', he, sm, e, q⟩ => h.run pins s σ H Q I (k σ env F ρ lh cs H r lh' Q he sm e q)⟩
theorem so_nopart : SoG rOI K W tNoPart mNoPart := fun σ env F ρ lh cs H r lh' Q he s e q => by
  unfold mNoPart at e; cases e
  exact (q F ρ H .rfl pre_rfl s).1 _ _ rfl rfl
theorem so_part (ha : SoE K W ta ma) : SoG rOI K W (tPart ta) (mPart ma) := fun σ env F ρ lh cs H r lh' Q he s e q => by
  show ta σ H fun x H1 => ∃ i, x = .int i ∧ Q (some i) H1
  exact SoG.bind ha he s e q fun x lh1 F1 ρ1 H1 u e1 g1 p1 s1 hx => by
    split at e1
    · rename_i i hi
      cases e1
      exact ⟨i, vI_vr hi hx, (q F1 ρ1 H1 g1 p1 s1).1 _ _ rfl rfl⟩
    · cases e1
theorem so_sl (ha : SoE K W te ma) (hl : SoG rOI K W tl ml) (hh : SoG rOI K W th mh) : SoE K W (tSl (rSlL K) te tl th) (mSl h ma ml mh) := fun σ env F ρ lh cs H rr lh' Q he s e q => by
  show te σ H fun x H1 => tl σ H1 fun l H2 => th σ H2 fun u H3 => rSlL K x l u H3 Q
  exact SoG.bind ha he s e q fun x lh1 F1 ρ1 H1 u e1 g1 p1 s1 hx => SoG.bind hl (he.up g1 p1) s1 e1 (q.up g1 p1) fun i lh2 F2 ρ2 H2 i2 e2 g2 p2 s2 hi => SoG.bind hh (he.up (g1.tr g2) (p1.trans p2)) s2 e2 (q.up (g1.tr g2) (p1.trans p2)) fun j lh3 F3 ρ3 H3 j2 e3 g3 p3 s3 hj => by
    cases hi; cases hj
    obtain ⟨z, h1, rfl⟩ := mO_some e3
    unfold gSlL at h1
    split at h1
    · rename_i xs h2
      obtain ⟨a, us, rfl, k1, k2⟩ := sqL_ok s3 (Vr.up (g2.tr g3) (p2.trans p3) hx) h2
      refine ⟨a, us, rfl, k1, (newL_ok s3 ?_ h1 (q.toFin (g1.tr (g2.tr g3)) (p1.trans (p2.trans p3)))).2⟩
      have hlen := vrs_len k2
      unfold cutV cutL
      rw [hlen]
      exact vrs_take _ (vrs_drop _ k2)
    · cases h1
theorem so_rev (ha : SoE K W ta ma) : SoE K W (tRevL K ta) (mOp1 (gRev h) ma) := fun σ env F ρ lh cs H rr lh' Q he s e q => by
  show ta σ H fun x H1 => ∃ a xs, x = .ref a ∧ SqL K H1 a xs ∧ ∀ p, H1 p = none → Q (.ref p) (upd H1 p (.lst xs.reverse))
  exact SoG.bind ha he s e q fun x lh1 F1 ρ1 H1 u e1 g1 p1 s1 hx => by
    obtain ⟨z, h1, rfl⟩ := mO_some e1
    unfold gRev at h1
    split at h1
    · rename_i xs h2
      obtain ⟨a, us, rfl, k1, k2⟩ := sqL_ok s1 hx h2
      exact ⟨a, us, rfl, k1, (newL_ok s1 (vrs_rev k2) h1 (q.toFin g1 p1)).2⟩
    · cases h1
theorem dv_lenSet : ∀ dx dz, (match dx with | .list ds => (sAll ds).bind fun xs => (setLenM xs).map PyData.int | _ => none) = some dz → ∀ ta σ F cs, EvD K ta σ F cs dx cs → EvD K (tLenSetS K ta) σ F cs dz cs := fun dx dz e ta σ F cs h => by
  split at e
  · rename_i ds
    obtain ⟨xs, h1, h2⟩ := Option.bind_eq_some_iff.mp e
    obtain ⟨n, h3, rfl⟩ := Option.map_eq_some_iff.mp h2
    rw [sAll_eq h1] at h
    exact d_setLen h h3
  · cases e
theorem so_lenSet (ha : SoE K W ta ma) : SoE K W (tLenSetS K ta) (mOp1 gLenSet ma) := fun σ env F ρ lh cs H rr lh' Q he s e q => by
  show ta σ H fun x H1 => ∃ (l : Addr) (xs : List Str), x = .ref l ∧ SqL K H1 l (xs.map V.str) ∧ xs.length ≤ 4000 ∧ Q (.int (dups [] xs).length) H1
  exact SoG.bind ha he s e q fun x lh1 F1 ρ1 H1 u e1 g1 p1 s1 hx => by
    obtain ⟨z, h1, rfl⟩ := mO_some e1
    unfold gLenSet at h1
    split at h1
    · rename_i ds h2
      split at h1
      · rename_i xs h3
        obtain ⟨n, h4, h5⟩ := Option.map_eq_some_iff.mp h1
        cases h5
        have hr := rd_ok s1 8 hx h2
        rw [sAll_eq h3] at hr
        exact d_setLen (K := K) (cs := []) (cs1 := []) (ta := fun _ H Q => Q u H) (σ := σ) (F := H1) (fun F2 H2 g2 s2 Q2 q2 => q2 u F2 H2 .rfl s2 (Dt.gr g2 hr)) h4 H1 H1 .rfl sta_self Q fun v F2 H2 g2 s2 hv => by
          cases hv.toInt
          exact (q.toFin g1 p1).sc s1 (g2.tr s2.fr) rfl hv
      · cases h1
    · cases h1
end
section
variable {X : Cx} {W : WX} {e : Expr} {lo hi : Option Expr} {ma : ME} {ml mh : MP} {h : Bool} {pos p2 p1 p3 q p : Pos}
theorem u_nopart : UO X W none mNoPart := uo_of po_none so_nopart
theorem u_part (ha : UE X W e ma) : UO X W (some e) (mPart ma) := uo_of (po_some ha) (so_part sog)
theorem u_sl (ha : UE X W e ma) (hl : UO X W lo ml) (hh : UO X W hi mh) : UE X W (.Subscript e (.Slice lo hi none p2) pos) (mSl h ma ml mh) := ue_of (pe_slice sl_list ha hl hh) (so_sl sog sog sog)
theorem u_rev {k : Nat} (ha : UE X W e ma) : UE X W (.Subscript e (.Slice none none (some (.UnaryOp .USub (.Constant (.int 1) k p1) p2)) p3) pos) (mOp1 (gRev h) ma) := ue_of (pe_revL ha) (so_rev sog)
theorem u_lenSet (hc : X.calm = true) (hg : Gl X "len") (hm : X.mg "len" = none) (hg2 : Gl X "set") (hm2 : X.mg "set" = none) (ha : UE X W e ma) (na : starEach [e] X.env = (false, eval e X.env) :: starEach [] X.env := by rfl) : UE X W (.Call (.Name "len" p) [.Call (.Name "set" p2) [e] [] q] [] pos) (mOp1 gLenSet ma) := ue_of (pe_lenSetS hc hg hm hg2 hm2 ha na) (so_lenSet sog)
end
end Bw

namespace Bw
open PySem L2
/-! a text's join -/
def gJn (a : Str) : G1 := fun y lh => match rdA lh y with
  | some (.list ds) => match sAll ds with
    | some xs => (joinM a xs).map fun z => (.d (.str z), lh)
    | none => none
  | _ => none
def mJn (a b : ME) : ME := fun env lh => mB (a env lh) fun x l => match vS x with
  | some t => mB (b env l) fun y l2 => mO (gJn t y l2)
  | none => none
section
variable {K : PySem.W.Frag} {W : WX} {ta tb : TE} {ma mb : ME}
theorem so_jn (ha : SoE K W ta ma) (hb : SoE K W tb mb) : SoE K W (tM1 (rJoin K) ta tb) (mJn ma mb) := fun σ env F ρ lh cs H rr lh' Q he s e q => by
  show ta σ H fun x H1 => (∃ a, x = .str a) ∧ tb σ H1 fun y H2 => rJoin K x [y] H2 Q
  exact SoG.bind ha he s e q fun x lh1 F1 ρ1 H1 u e1 g1 p1 s1 hx => by
    split at e1
    · rename_i a h1
      obtain rfl := vS_vr h1 hx
      exact ⟨⟨a, rfl⟩, SoG.bind hb (he.up g1 p1) s1 e1 (q.up g1 p1) fun y lh2 F2 ρ2 H2 v e2 g2 p2 s2 hy => by
        obtain ⟨z, h2, rfl⟩ := mO_some e2
        unfold gJn at h2
        split at h2
        · rename_i ds h3
          split at h2
          · rename_i xs h4
            obtain ⟨n, h5, h6⟩ := Option.map_eq_some_iff.mp h2
            cases h6
            have hr := rd_ok s2 8 hy h3
            rw [sAll_eq h4] at hr
            exact (d_join (K := K) (cs := []) (cs1 := []) (cs2 := []) (ta := fun _ H Q => Q (.str a) H) (tb := fun _ H Q => Q v H) (σ := σ) (F := H2) (fun F3 H3 g3 s3 Q3 q3 => q3 _ F3 H3 .rfl s3 (.str a)) (fun F3 H3 g3 s3 Q3 q3 => q3 _ F3 H3 .rfl s3 (Dt.gr g3 hr)) h5 H2 H2 .rfl sta_self Q fun v2 F3 H3 g3 s3 hv => by
              cases hv.toStr
              exact (q.toFin (g1.tr g2) (p1.trans p2)).sc s2 (g3.tr s3.fr) rfl hv).2
          · cases h2
        · cases h2⟩
    · cases e1
end
theorem u_join {X : Cx} {W : WX} {o e : Expr} {mo me : ME} {apos pos : Pos} (ho : UE X W o mo) (he : UE X W e me) (hs : starEach [e] X.env = [(false, eval e X.env)] := by rfl) (hbase : attributeBase o "join" X.env (eval o X.env) = eval o X.env := by rfl) (hline : (apos.endLine == pos.line) = true := by rfl) : UE X W (.Call (.Attribute o "join" apos) [e] [] pos) (mJn mo me) := ue_of (pe_join ho he hs hbase hline) (so_jn sog sog)
end Bw

/-! == of things that hold dicts: a dict against what is no dict; objects by identity -/
namespace PySem.SeqAt
open AutoSeq1 (wpAny_loadPart')
open MeetsSeq MeetsSeq2 MeetsSeq3 SeqRoads2
/-- an object of the class dict at a -/
def IsDic (h : Heap) (a : Addr) : Prop := ∃ (o : Obj) (es : Array DictEntry) (ep : Nat), h.get? a = some o ∧ o.cls = .type "dict" ∧ o.data = .dict es ep
section
variable {prog : Program} {w : World} {A : Around} {E : Value → Shared → Prop} {s : Shared}
theorem IsDic.typeIs {a : Addr} (h : IsDic s.heap a) : s.TypeIs (.ref a) "dict" := by
  obtain ⟨o, es, ep, e, x, d⟩ := h
  exact ⟨o, e, x⟩
theorem dict_declines {a : Addr} {x : Value} {T : String} {Q : Value → Shared → Prop} (da : s.TypeIs (.ref a) "dict") (hx : s.TypeIs x T) (hs : isSubtype (.type T) (.type "dict") = pure false) (h : Q .notImplemented s) :
    wpAny (model prog w) A (call (.builtin "dict.__eq__") [.ref a, x]) Q E s := by
  refine wpAny_call_entry F.slot_dict_eq da F.entry_dict_eq ?_ (F.args_dict_eq_2 _ _)
  show wpAny _ _ (Builtin.Dict.dictSlotArgs "__eq__" ⟨[.ref a, x], []⟩ >>= _) _ _ s
  refine wpAny_bind ?_
  unfold Builtin.Dict.dictSlotArgs
  refine wpAny_bind (wpAny_notOrdered_dict da ?_)
  show wpAny _ _ (pure (Value.ref a, x)) _ _ s
  refine wpAny_pure ?_
  refine wpAny_bind (wpAny_isInstance (T := T) hx hs ?_)
  simp only [Bool.not_false, if_true]
  exact wpAny_bind (wpAny_rule (show wpAny _ _ (pure _) _ _ _ from wpAny_pure ⟨_, rfl, h⟩))
theorem int_eq_declines_dict (b : Int) (u : Tok) (l : Addr) (o : Obj) (es : Array DictEntry) (ep : Nat) :
    Meets (Builtin.«int.__eq__» ⟨[.int b u, .ref l], []⟩) (fun _ R s => (s.heap.get? l = some o ∧ o.data = .dict es ep) ∧ R (.ok (.ret .notImplemented)) s) :=
  .of_wp fun prog w A R s h => by obtain ⟨hp, g, d, tk, os⟩ := s; obtain ⟨⟨hl, hd⟩, h⟩ := h; obtain ⟨cls, dd, data, sl⟩ := o; simp only at hd; subst hd; wp_walk using wpAny_loadPart' hl, wpAny_load hl; exact ⟨_, rfl, h⟩
theorem bool_eq_declines_dict (b : Bool) (l : Addr) (o : Obj) (es : Array DictEntry) (ep : Nat) :
    Meets (Builtin.«int.__eq__» ⟨[.bool b, .ref l], []⟩) (fun _ R s => (s.heap.get? l = some o ∧ o.data = .dict es ep) ∧ R (.ok (.ret .notImplemented)) s) :=
  .of_wp fun prog w A R s h => by obtain ⟨hp, g, d, tk, os⟩ := s; obtain ⟨⟨hl, hd⟩, h⟩ := h; obtain ⟨cls, dd, data, sl⟩ := o; simp only at hd; subst hd; wp_walk using wpAny_loadPart' hl, wpAny_load hl; exact ⟨_, rfl, h⟩
theorem str_eq_declines_dict (b : Str) (u : Tok) (l : Addr) (o : Obj) (es : Array DictEntry) (ep : Nat) :
    Meets (Builtin.«str.__eq__» ⟨[.str b u, .ref l], []⟩) (fun _ R s => (s.heap.get? l = some o ∧ o.data = .dict es ep) ∧ R (.ok (.ret .notImplemented)) s) :=
  .of_wp fun prog w A R s h => by obtain ⟨hp, g, d, tk, os⟩ := s; obtain ⟨⟨hl, hd⟩, h⟩ := h; obtain ⟨cls, dd, data, sl⟩ := o; simp only at hd; subst hd; wp_walk using wpAny_loadPart' hl, wpAny_load hl; exact ⟨_, rfl, h⟩
theorem list_eq_declines_dict (l b : Addr) (items : Array Value) (n : Nat) (dd : Option Addr) (sl : Array (Option Value)) (o : Obj) (es : Array DictEntry) (ep : Nat) :
    Meets (Builtin.«list.__eq__» ⟨[.ref l, .ref b], []⟩) (fun _ R s => s.heap.get? l = some { cls := .type "list", dict := dd, data := .seq items n, slots := sl } ∧ (s.heap.get? b = some o ∧ o.cls = .type "dict" ∧ o.data = .dict es ep) ∧ R (.ok (.ret .notImplemented)) s) :=
  .of_wp fun prog w A R s h => by obtain ⟨hp, g, d, tk, os⟩ := s; obtain ⟨hl, ⟨hb, hc, hd⟩, h⟩ := h; obtain ⟨cls, dd, data, sl⟩ := o; simp only at hc hd; subst hc hd; have f1 := F.sub_dict_list; wp_walk using wpAny_loadPart' hl, wpAny_loadPart' hb; exact ⟨_, rfl, h⟩
theorem tuple_eq_declines_dict (l b : Addr) (items : Array Value) (n : Nat) (dd : Option Addr) (sl : Array (Option Value)) (o : Obj) (es : Array DictEntry) (ep : Nat) :
    Meets (Builtin.«tuple.__eq__» ⟨[.ref l, .ref b], []⟩) (fun _ R s => s.heap.get? l = some { cls := .type "tuple", dict := dd, data := .seq items n, slots := sl } ∧ (s.heap.get? b = some o ∧ o.cls = .type "dict" ∧ o.data = .dict es ep) ∧ R (.ok (.ret .notImplemented)) s) :=
  .of_wp fun prog w A R s h => by obtain ⟨hp, g, d, tk, os⟩ := s; obtain ⟨hl, ⟨hb, hc, hd⟩, h⟩ := h; obtain ⟨cls, dd, data, sl⟩ := o; simp only at hc hd; subst hc hd; have f1 := F.sub_dict_tuple; wp_walk using wpAny_loadPart' hl, wpAny_loadPart' hb; exact ⟨_, rfl, h⟩
end
section
variable {A : Around} {s : Shared} {a b : Addr} {items : Array Value}
theorem RcAt.dict_none (hd : IsDic s.heap a) (hu : A.units < cLine) : RcAt A s (.ref a) .none false := fun prog w E Q h =>
  rc_eq_decline_or (k := false) hd.typeIs rfl (by decide) F.sub_NoneType_dict F.slot_dict_eq F.slot_NoneType_eq_refl
    (fun _ hq => dict_declines hd.typeIs rfl F.sub_NoneType_dict hq)
    (fun _ hq => call_gives F.slot_NoneType_eq_refl rfl F.entry_NoneType_eq (F.args_NoneType_eq_2 _ _) (NoneType___eq___none_ref_0 a) hq)
    (fun _ hq => wpAny_of_eq (rfl : isSame (.ref a) .none = pure false) hq) (.inr hu) h
theorem RcAt.none_dict (hd : IsDic s.heap a) (hu : A.units < cLine) : RcAt A s .none (.ref a) false := fun prog w E Q h =>
  rc_eq_decline_or (k := false) rfl hd.typeIs (by decide) F.sub_dict_NoneType F.slot_NoneType_eq F.slot_dict_eq_refl
    (fun _ hq => call_gives F.slot_NoneType_eq rfl F.entry_NoneType_eq (F.args_NoneType_eq_2 _ _) (NoneType___eq___none_ref_0 a) hq)
    (fun _ hq => dict_declines hd.typeIs rfl F.sub_NoneType_dict hq)
    (fun _ hq => wpAny_of_eq (rfl : isSame .none (.ref a) = pure false) hq) (.inr hu) h
theorem RcAt.dict_int (i : Int) (u : Tok) (hd : IsDic s.heap a) (hu : A.units < cLine) : RcAt A s (.ref a) (.int i u) false := fun prog w E Q h => by
  obtain ⟨o, es, ep, ho, hc, hdt⟩ := id hd
  exact rc_eq_decline_or (k := false) hd.typeIs (typeIs_int s i u) (by decide) F.sub_int_dict F.slot_dict_eq F.slot_int_eq_refl
    (fun _ hq => dict_declines hd.typeIs (typeIs_int s i u) F.sub_int_dict hq)
    (fun _ hq => call_meets F.slot_int_eq_refl (typeIs_int s i u) F.entry_int_eq (F.args_int_eq_2 _ _) (int_eq_declines_dict i u a o es ep) ⟨⟨ho, hdt⟩, hq⟩)
    (fun _ hq => wpAny_of_eq (rfl : isSame (.ref a) (.int i u) = pure false) hq) (.inr hu) h
theorem RcAt.int_dict (i : Int) (u : Tok) (hd : IsDic s.heap a) (hu : A.units < cLine) : RcAt A s (.int i u) (.ref a) false := fun prog w E Q h => by
  obtain ⟨o, es, ep, ho, hc, hdt⟩ := id hd
  exact rc_eq_decline_or (k := false) (typeIs_int s i u) hd.typeIs (by decide) F.sub_dict_int F.slot_int_eq F.slot_dict_eq_refl
    (fun _ hq => call_meets F.slot_int_eq (typeIs_int s i u) F.entry_int_eq (F.args_int_eq_2 _ _) (int_eq_declines_dict i u a o es ep) ⟨⟨ho, hdt⟩, hq⟩)
    (fun _ hq => dict_declines hd.typeIs (typeIs_int s i u) F.sub_int_dict hq)
    (fun _ hq => wpAny_of_eq (rfl : isSame (.int i u) (.ref a) = pure false) hq) (.inr hu) h
theorem RcAt.dict_bool (i : Bool) (hd : IsDic s.heap a) (hu : A.units < cLine) : RcAt A s (.ref a) (.bool i) false := fun prog w E Q h => by
  obtain ⟨o, es, ep, ho, hc, hdt⟩ := id hd
  exact rc_eq_decline_or (k := false) hd.typeIs rfl (by decide) F.sub_bool_dict F.slot_dict_eq F.slot_bool_eq_refl
    (fun _ hq => dict_declines hd.typeIs rfl F.sub_bool_dict hq)
    (fun _ hq => call_meets F.slot_bool_eq_refl rfl F.entry_int_eq (F.args_int_eq_2 _ _) (bool_eq_declines_dict i a o es ep) ⟨⟨ho, hdt⟩, hq⟩)
    (fun _ hq => wpAny_of_eq (rfl : isSame (.ref a) (.bool i) = pure false) hq) (.inr hu) h
theorem RcAt.bool_dict (i : Bool) (hd : IsDic s.heap a) (hu : A.units < cLine) : RcAt A s (.bool i) (.ref a) false := fun prog w E Q h => by
  obtain ⟨o, es, ep, ho, hc, hdt⟩ := id hd
  exact rc_eq_decline_or (k := false) rfl hd.typeIs (by decide) F.sub_dict_bool F.slot_bool_eq F.slot_dict_eq_refl
    (fun _ hq => call_meets F.slot_bool_eq rfl F.entry_int_eq (F.args_int_eq_2 _ _) (bool_eq_declines_dict i a o es ep) ⟨⟨ho, hdt⟩, hq⟩)
    (fun _ hq => dict_declines hd.typeIs rfl F.sub_bool_dict hq)
    (fun _ hq => wpAny_of_eq (rfl : isSame (.bool i) (.ref a) = pure false) hq) (.inr hu) h
theorem RcAt.dict_str (i : Str) (u : Tok) (hd : IsDic s.heap a) (hu : A.units < cLine) : RcAt A s (.ref a) (.str i u) false := fun prog w E Q h => by
  obtain ⟨o, es, ep, ho, hc, hdt⟩ := id hd
  exact rc_eq_decline_or (k := false) hd.typeIs (typeIs_str s i u) (by decide) F.sub_str_dict F.slot_dict_eq F.slot_str_eq_refl
    (fun _ hq => dict_declines hd.typeIs (typeIs_str s i u) F.sub_str_dict hq)
    (fun _ hq => call_meets F.slot_str_eq_refl (typeIs_str s i u) F.entry_str_eq (F.args_str_eq_2 _ _) (str_eq_declines_dict i u a o es ep) ⟨⟨ho, hdt⟩, hq⟩)
    (fun _ hq => wpAny_of_eq (rfl : isSame (.ref a) (.str i u) = pure false) hq) (.inr hu) h
theorem RcAt.str_dict (i : Str) (u : Tok) (hd : IsDic s.heap a) (hu : A.units < cLine) : RcAt A s (.str i u) (.ref a) false := fun prog w E Q h => by
  obtain ⟨o, es, ep, ho, hc, hdt⟩ := id hd
  exact rc_eq_decline_or (k := false) (typeIs_str s i u) hd.typeIs (by decide) F.sub_dict_str F.slot_str_eq F.slot_dict_eq_refl
    (fun _ hq => call_meets F.slot_str_eq (typeIs_str s i u) F.entry_str_eq (F.args_str_eq_2 _ _) (str_eq_declines_dict i u a o es ep) ⟨⟨ho, hdt⟩, hq⟩)
    (fun _ hq => dict_declines hd.typeIs (typeIs_str s i u) F.sub_str_dict hq)
    (fun _ hq => wpAny_of_eq (rfl : isSame (.str i u) (.ref a) = pure false) hq) (.inr hu) h
theorem dic_ne_list (hd : IsDic s.heap a) (hb : s.heap.IsList b items) : a ≠ b := fun e => by
  subst e
  obtain ⟨o, es, ep, ho, hc, _⟩ := hd
  obtain ⟨o2, ho2, hc2, _⟩ := hb
  rw [ho] at ho2; cases ho2; rw [hc] at hc2; exact absurd hc2 (by simp)
theorem dic_ne_tuple (hd : IsDic s.heap a) (hb : s.heap.IsTuple b items) : a ≠ b := fun e => by
  subst e
  obtain ⟨o, es, ep, ho, hc, _⟩ := hd
  obtain ⟨o2, ho2, hc2, _⟩ := hb
  rw [ho] at ho2; cases ho2; rw [hc] at hc2; exact absurd hc2 (by simp)
theorem RcAt.dict_list (hd : IsDic s.heap a) (hl : s.heap.IsList b items) (hu : A.units < cLine) : RcAt A s (.ref a) (.ref b) false := fun prog w E Q h => by
  have hne := dic_ne_list hd hl
  obtain ⟨o, es, ep, ho, hc, hdt⟩ := id hd
  obtain ⟨⟨cls2, dd2, data2, sl2⟩, ho2, hc2, n2, hd2⟩ := id hl
  simp only at hc2 hd2
  subst hc2 hd2
  exact rc_eq_decline_or (k := false) hd.typeIs ⟨_, ho2, rfl⟩ (by decide) F.sub_list_dict F.slot_dict_eq F.slot_list_eq_refl
    (fun _ hq => dict_declines hd.typeIs ⟨_, ho2, rfl⟩ F.sub_list_dict hq)
    (fun _ hq => call_meets F.slot_list_eq_refl ⟨_, ho2, rfl⟩ F.entry_list_eq (F.args_list_eq_2 _ _) (list_eq_declines_dict b a items n2 dd2 sl2 o es ep) ⟨ho2, ⟨ho, hc, hdt⟩, hq⟩)
    (fun _ hq => wpAny_isSame_ref_other' hne ho ho2 (by simp) hq) (.inr hu) h
theorem RcAt.list_dict (hd : IsDic s.heap a) (hl : s.heap.IsList b items) (hu : A.units < cLine) : RcAt A s (.ref b) (.ref a) false := fun prog w E Q h => by
  have hne := dic_ne_list hd hl
  obtain ⟨o, es, ep, ho, hc, hdt⟩ := id hd
  obtain ⟨⟨cls2, dd2, data2, sl2⟩, ho2, hc2, n2, hd2⟩ := id hl
  simp only at hc2 hd2
  subst hc2 hd2
  exact rc_eq_decline_or (k := false) ⟨_, ho2, rfl⟩ hd.typeIs (by decide) F.sub_dict_list F.slot_list_eq F.slot_dict_eq_refl
    (fun _ hq => call_meets F.slot_list_eq ⟨_, ho2, rfl⟩ F.entry_list_eq (F.args_list_eq_2 _ _) (list_eq_declines_dict b a items n2 dd2 sl2 o es ep) ⟨ho2, ⟨ho, hc, hdt⟩, hq⟩)
    (fun _ hq => dict_declines hd.typeIs ⟨_, ho2, rfl⟩ F.sub_list_dict hq)
    (fun _ hq => wpAny_isSame_ref_other' (Ne.symm hne) ho2 ho (by rw [hc]; simp) hq) (.inr hu) h
theorem RcAt.dict_tuple (hd : IsDic s.heap a) (hl : s.heap.IsTuple b items) (hu : A.units < cLine) : RcAt A s (.ref a) (.ref b) false := fun prog w E Q h => by
  have hne := dic_ne_tuple hd hl
  obtain ⟨o, es, ep, ho, hc, hdt⟩ := id hd
  obtain ⟨⟨cls2, dd2, data2, sl2⟩, ho2, hc2, n2, hd2⟩ := id hl
  simp only at hc2 hd2
  subst hc2 hd2
  exact rc_eq_decline_or (k := false) hd.typeIs ⟨_, ho2, rfl⟩ (by decide) F.sub_tuple_dict F.slot_dict_eq F.slot_tuple_eq_refl
    (fun _ hq => dict_declines hd.typeIs ⟨_, ho2, rfl⟩ F.sub_tuple_dict hq)
    (fun _ hq => call_meets F.slot_tuple_eq_refl ⟨_, ho2, rfl⟩ F.entry_tuple_eq (F.args_tuple_eq_2 _ _) (tuple_eq_declines_dict b a items n2 dd2 sl2 o es ep) ⟨ho2, ⟨ho, hc, hdt⟩, hq⟩)
    (fun _ hq => wpAny_isSame_ref_other hne ho ho2 (by rw [hc]; simp) hq) (.inr hu) h
theorem RcAt.tuple_dict (hd : IsDic s.heap a) (hl : s.heap.IsTuple b items) (hu : A.units < cLine) : RcAt A s (.ref b) (.ref a) false := fun prog w E Q h => by
  have hne := dic_ne_tuple hd hl
  obtain ⟨o, es, ep, ho, hc, hdt⟩ := id hd
  obtain ⟨⟨cls2, dd2, data2, sl2⟩, ho2, hc2, n2, hd2⟩ := id hl
  simp only at hc2 hd2
  subst hc2 hd2
  exact rc_eq_decline_or (k := false) ⟨_, ho2, rfl⟩ hd.typeIs (by decide) F.sub_dict_tuple F.slot_tuple_eq F.slot_dict_eq_refl
    (fun _ hq => call_meets F.slot_tuple_eq ⟨_, ho2, rfl⟩ F.entry_tuple_eq (F.args_tuple_eq_2 _ _) (tuple_eq_declines_dict b a items n2 dd2 sl2 o es ep) ⟨ho2, ⟨ho, hc, hdt⟩, hq⟩)
    (fun _ hq => dict_declines hd.typeIs ⟨_, ho2, rfl⟩ F.sub_tuple_dict hq)
    (fun _ hq => wpAny_isSame_ref_other' (Ne.symm hne) ho2 ho (by rw [hc]; simp) hq) (.inr hu) h
end
section
variable {A : Around} {s : Shared} {a b : Addr} {items : Array Value}
theorem EqAt.dict_none (hd : IsDic s.heap a) (hu : A.units < cLine) : EqAt A s (.ref a) .none false := fun prog w E Q h => by
  unfold eqBool; refine wpAny_holding ?_
  refine wpAny_ite_split (fun hab => absurd (eq_of_beq hab) nofun) fun _ => ?_
  exact wpAny_bind (RcAt.dict_none hd hu prog w E _ (wpAny_truthy_bool h))
theorem EqAt.none_dict (hd : IsDic s.heap a) (hu : A.units < cLine) : EqAt A s .none (.ref a) false := fun prog w E Q h => by
  unfold eqBool; refine wpAny_holding ?_
  refine wpAny_ite_split (fun hab => absurd (eq_of_beq hab) nofun) fun _ => ?_
  exact wpAny_bind (RcAt.none_dict hd hu prog w E _ (wpAny_truthy_bool h))
theorem EqAt.dict_int (i : Int) (u : Tok) (hd : IsDic s.heap a) (hu : A.units < cLine) : EqAt A s (.ref a) (.int i u) false := fun prog w E Q h => by
  unfold eqBool; refine wpAny_holding ?_
  refine wpAny_ite_split (fun hab => absurd (eq_of_beq hab) nofun) fun _ => ?_
  exact wpAny_bind (RcAt.dict_int i u hd hu prog w E _ (wpAny_truthy_bool h))
theorem EqAt.int_dict (i : Int) (u : Tok) (hd : IsDic s.heap a) (hu : A.units < cLine) : EqAt A s (.int i u) (.ref a) false := fun prog w E Q h => by
  unfold eqBool; refine wpAny_holding ?_
  refine wpAny_ite_split (fun hab => absurd (eq_of_beq hab) nofun) fun _ => ?_
  exact wpAny_bind (RcAt.int_dict i u hd hu prog w E _ (wpAny_truthy_bool h))
theorem EqAt.dict_bool (i : Bool) (hd : IsDic s.heap a) (hu : A.units < cLine) : EqAt A s (.ref a) (.bool i) false := fun prog w E Q h => by
  unfold eqBool; refine wpAny_holding ?_
  refine wpAny_ite_split (fun hab => absurd (eq_of_beq hab) nofun) fun _ => ?_
  exact wpAny_bind (RcAt.dict_bool i hd hu prog w E _ (wpAny_truthy_bool h))
theorem EqAt.bool_dict (i : Bool) (hd : IsDic s.heap a) (hu : A.units < cLine) : EqAt A s (.bool i) (.ref a) false := fun prog w E Q h => by
  unfold eqBool; refine wpAny_holding ?_
  refine wpAny_ite_split (fun hab => absurd (eq_of_beq hab) nofun) fun _ => ?_
  exact wpAny_bind (RcAt.bool_dict i hd hu prog w E _ (wpAny_truthy_bool h))
theorem EqAt.dict_str (i : Str) (u : Tok) (hd : IsDic s.heap a) (hu : A.units < cLine) : EqAt A s (.ref a) (.str i u) false := fun prog w E Q h => by
  unfold eqBool; refine wpAny_holding ?_
  refine wpAny_ite_split (fun hab => absurd (eq_of_beq hab) nofun) fun _ => ?_
  exact wpAny_bind (RcAt.dict_str i u hd hu prog w E _ (wpAny_truthy_bool h))
theorem EqAt.str_dict (i : Str) (u : Tok) (hd : IsDic s.heap a) (hu : A.units < cLine) : EqAt A s (.str i u) (.ref a) false := fun prog w E Q h => by
  unfold eqBool; refine wpAny_holding ?_
  refine wpAny_ite_split (fun hab => absurd (eq_of_beq hab) nofun) fun _ => ?_
  exact wpAny_bind (RcAt.str_dict i u hd hu prog w E _ (wpAny_truthy_bool h))
theorem EqAt.dict_list (hd : IsDic s.heap a) (hl : s.heap.IsList b items) (hu : A.units < cLine) : EqAt A s (.ref a) (.ref b) false := EqAt.of_refs (dic_ne_list hd hl) (RcAt.dict_list hd hl hu)
theorem EqAt.list_dict (hd : IsDic s.heap a) (hl : s.heap.IsList b items) (hu : A.units < cLine) : EqAt A s (.ref b) (.ref a) false := EqAt.of_refs (Ne.symm (dic_ne_list hd hl)) (RcAt.list_dict hd hl hu)
theorem EqAt.dict_tuple (hd : IsDic s.heap a) (hl : s.heap.IsTuple b items) (hu : A.units < cLine) : EqAt A s (.ref a) (.ref b) false := EqAt.of_refs (dic_ne_tuple hd hl) (RcAt.dict_tuple hd hl hu)
theorem EqAt.tuple_dict (hd : IsDic s.heap a) (hl : s.heap.IsTuple b items) (hu : A.units < cLine) : EqAt A s (.ref b) (.ref a) false := EqAt.of_refs (Ne.symm (dic_ne_tuple hd hl)) (RcAt.tuple_dict hd hl hu)
end
theorem has_loop (lst : Addr) (vs : Array Value) (n : Nat) (dx : Option Addr) (sx : Array (Option Value)) (v : Value) (f : Nat → Bool) (m : Nat) :
    ∀ j : Nat, vs.size - j = m → Meets (Builtin.«list.__contains__.loop» ⟨[.ref lst, v, rawInt j], []⟩)
      (fun A R s => s.heap.get? lst = some { cls := .type "list", dict := dx, data := .seq vs n, slots := sx } ∧ (∀ (i : Nat) (hi : i < vs.size), EqAt A.in1 s vs[i] v (f i)) ∧ R (.ok (.ret (.bool (((List.range vs.size).drop j).any f)))) s) := by
  induction m with
  | zero =>
    intro j hk prog w A R s q
    obtain ⟨hp, g, d, tk, os⟩ := s; obtain ⟨hl, he, q⟩ := q
    wp_walk using wpAny_loadPart' hl
    have hi : vs[((j : Nat) : Int).toNat]? = none := by simp; omega
    have hd : (List.range vs.size).drop j = [] := by simp; omega
    rw [hd] at q; rw [hi]
    wp_walk
    exact q
  | succ m ih =>
    intro j hk prog w A R s q
    obtain ⟨hp, g, d, tk, os⟩ := s; obtain ⟨hl, he, q⟩ := q
    wp_walk using wpAny_loadPart' hl
    have hlt : j < vs.size := by omega
    have hi : vs[((j : Nat) : Int).toNat]? = some vs[j] := by simp [hlt]
    have hd : (List.range vs.size).drop j = j :: (List.range vs.size).drop (j + 1) := by simp [List.drop_eq_getElem_cons, hlt]
    rw [hd, List.any_cons] at q; rw [hi]
    refine wpAny_bind (he j hlt prog w _ _ ?_)
    cases hb : f j with
    | true => rw [hb] at q; wp_walk; exact q
    | false =>
      rw [hb] at q
      have hc : ((j : Int) + 1) = ((j + 1 : Nat) : Int) := by push_cast; rfl
      wp_walk; rw [hc]
      refine ⟨plainId_quiet plain_contains_loop _, codeAny_builtin entry_contains_loop ?_⟩
      rw [Around.under_plainId plain_contains_loop _]
      exact ih (j + 1) (by omega) prog w A R _ ⟨hl, he, by simpa using q⟩
theorem has_it (lst : Addr) (vs : Array Value) (n : Nat) (dx : Option Addr) (sx : Array (Option Value)) (v : Value) (f : Nat → Bool) :
    Meets (Builtin.«list.__contains__» ⟨[.ref lst, v], []⟩)
      (fun A R s => s.heap.get? lst = some { cls := .type "list", dict := dx, data := .seq vs n, slots := sx } ∧ (∀ (i : Nat) (hi : i < vs.size), EqAt A.in1 s vs[i] v (f i)) ∧ R (.ok (.ret (.bool ((List.range vs.size).any f)))) s) := by
  intro prog w A R s q
  obtain ⟨hp, g, d, tk, os⟩ := s; obtain ⟨hl, he, q⟩ := q
  wp_walk using wpAny_loadPart' hl
  refine ⟨plainId_quiet plain_contains_loop _, codeAny_builtin entry_contains_loop ?_⟩
  rw [Around.under_plainId plain_contains_loop _]
  exact has_loop lst vs n dx sx v f _ 0 rfl prog w A R _ ⟨hl, he, by simpa using q⟩
section
variable {prog : Program} {w : World} {A : Around} {E : Value → Shared → Prop} {s : Shared}
theorem in_listF {lst : Addr} {vs : Array Value} {v : Value} {Q : Value → Shared → Prop} (f : Nat → Bool) (hl : s.heap.IsList lst vs) (he : ∀ (i : Nat) (hi : i < vs.size), EqAt A.in1 s vs[i] v (f i))
    (q : Q (.bool ((List.range vs.size).any f)) s) : wpAny (model prog w) A (compareOp .In v (.ref lst)) Q E s := by
  obtain ⟨⟨c0, dx, d0, sx⟩, ho, hc, n, hd⟩ := id hl
  simp only at hc hd; subst hc hd
  exact in_meets ⟨_, ho, rfl⟩ F.slot_list_contains F.entry_list_contains (F.args_list_contains_2 _ _) (has_it lst vs n dx sx v f) ⟨ho, he, _, rfl, q⟩
theorem notIn_listF {lst : Addr} {vs : Array Value} {v : Value} {Q : Value → Shared → Prop} (f : Nat → Bool) (hl : s.heap.IsList lst vs) (he : ∀ (i : Nat) (hi : i < vs.size), EqAt A.in1 s vs[i] v (f i))
    (q : Q (.bool (!(List.range vs.size).any f)) s) : wpAny (model prog w) A (compareOp .NotIn v (.ref lst)) Q E s := by
  obtain ⟨⟨c0, dx, d0, sx⟩, ho, hc, n, hd⟩ := id hl
  simp only at hc hd; subst hc hd
  exact notIn_meets ⟨_, ho, rfl⟩ F.slot_list_contains F.entry_list_contains (F.args_list_contains_2 _ _) (has_it lst vs n dx sx v f) ⟨ho, he, _, rfl, q⟩
end
end PySem.SeqAt

namespace Bw
open PySem L2 PySem.SeqAt
/-! == by identity and by kind, at the values -/
def DcH (H : Hp) (a : Addr) : Prop := (∃ us, H a = some (.dK us)) ∨ ∃ o us, H a = some (.frz o (.dK us))
def Bx3 (K : PySem.W.Frag) (H : Hp) (a : Addr) : Prop := (∃ us, SqL K H a us) ∨ (∃ us, SqT K H a us) ∨ DcH H a
inductive EqX (K : PySem.W.Frag) (H : Hp) : Nat → V → V → Bool → Prop
  | sc {n : Nat} {x y : V} {d e : PyData} (hd : sc d = true) (he : sc e = true) (h1 : Dt K H x d) (h2 : Dt K H y e) : EqX K H n x y (PyData.eqv d e)
  | same {n : Nat} {a : Addr} : EqX K H n (.ref a) (.ref a) true
  | sb {n : Nat} {x : V} {a : Addr} {d : PyData} (hd : Bw.sc d = true) (h1 : Dt K H x d) (h2 : Bx3 K H a) : EqX K H (n + 1) x (.ref a) false
  | bs {n : Nat} {x : V} {a : Addr} {d : PyData} (hd : Bw.sc d = true) (h1 : Dt K H x d) (h2 : Bx3 K H a) : EqX K H (n + 1) (.ref a) x false
  | ls {n : Nat} {a b : Addr} {us vs : List V} {e : Nat → Bool} (h1 : SqL K H a us) (h2 : SqL K H b vs) (hl : us.length = vs.length) (he : ∀ (j : Nat) (x y : V), us[j]? = some x → vs[j]? = some y → EqX K H n x y (e j)) : EqX K H (n + 1) (.ref a) (.ref b) ((List.range us.length).all e)
  | lsn {n : Nat} {a b : Addr} {us vs : List V} (h1 : SqL K H a us) (h2 : SqL K H b vs) (hl : us.length ≠ vs.length) : EqX K H (n + 1) (.ref a) (.ref b) false
  | tp {n : Nat} {a b : Addr} {us vs : List V} {e : Nat → Bool} (h1 : SqT K H a us) (h2 : SqT K H b vs) (hl : us.length = vs.length) (he : ∀ (j : Nat) (x y : V), us[j]? = some x → vs[j]? = some y → EqX K H n x y (e j)) : EqX K H (n + 1) (.ref a) (.ref b) ((List.range us.length).all e)
  | lt {n : Nat} {a b : Addr} {us vs : List V} (h1 : SqL K H a us) (h2 : SqT K H b vs) : EqX K H (n + 1) (.ref a) (.ref b) false
  | tl {n : Nat} {a b : Addr} {us vs : List V} (h1 : SqT K H a us) (h2 : SqL K H b vs) : EqX K H (n + 1) (.ref a) (.ref b) false
  | ld {n : Nat} {a b : Addr} {us : List V} (h1 : SqL K H a us) (h2 : DcH H b) : EqX K H (n + 1) (.ref a) (.ref b) false
  | dl {n : Nat} {a b : Addr} {us : List V} (h1 : DcH H a) (h2 : SqL K H b us) : EqX K H (n + 1) (.ref a) (.ref b) false
  | td {n : Nat} {a b : Addr} {us : List V} (h1 : SqT K H a us) (h2 : DcH H b) : EqX K H (n + 1) (.ref a) (.ref b) false
  | dt {n : Nat} {a b : Addr} {us : List V} (h1 : DcH H a) (h2 : SqT K H b us) : EqX K H (n + 1) (.ref a) (.ref b) false
section
variable {X : Cx} {pins : List (Addr × Obj)} {σ : St} {H : Hp} {s : Shared}
theorem sqL_at {a : Addr} {us : List V} (I : Inv X pins σ H s) (h : SqL X.K H a us) : ∃ its : List Value, Vals us its ∧ s.heap.IsList a its.toArray := by
  obtain ⟨its, r, ⟨o, n, ho, hc, _, hd⟩, _⟩ := I.list h
  exact ⟨its, r, o, ho, hc, n, hd⟩
theorem sqT_at {a : Addr} {us : List V} (I : Inv X pins σ H s) (h : SqT X.K H a us) : ∃ its : List Value, Vals us its ∧ s.heap.IsTuple a its.toArray := by
  obtain ⟨its, r, ⟨o, ho, hc, n, hd⟩, _⟩ := I.tuple h
  exact ⟨its, r, o, ho, hc, n, hd⟩
theorem dcH_at {a : Addr} (I : Inv X pins σ H s) (h : DcH H a) : IsDic s.heap a := by
  have key : ∀ us, ObjOk X.prog X.w H s.heap a (.dK us) → IsDic s.heap a := fun us x => by
    obtain ⟨_, _, vs, _, o, es, ep, ho, hx, hd, _⟩ := x
    exact ⟨o, es, ep, ho, hx.1, hd⟩
  rcases h with ⟨us, h⟩ | ⟨o, us, h⟩
  · exact key us (I.hok a _ h)
  · exact key us (I.hok a _ h).2
theorem lt_no {a : Addr} {us vs : List V} (I : Inv X pins σ H s) (h1 : SqL X.K H a us) (h2 : SqT X.K H a vs) : False := by
  obtain ⟨_, _, k1⟩ := sqL_at I h1
  obtain ⟨_, _, k2⟩ := sqT_at I h2
  exact ne_of_list_tuple k1 k2 rfl
theorem ld_no {a : Addr} {us : List V} (I : Inv X pins σ H s) (h1 : SqL X.K H a us) (h2 : DcH H a) : False := by
  obtain ⟨_, _, k1⟩ := sqL_at I h1
  exact dic_ne_list (dcH_at I h2) k1 rfl
theorem td_no {a : Addr} {us : List V} (I : Inv X pins σ H s) (h1 : SqT X.K H a us) (h2 : DcH H a) : False := by
  obtain ⟨_, _, k1⟩ := sqT_at I h1
  exact dic_ne_tuple (dcH_at I h2) k1 rfl
theorem sc_ref {K : PySem.W.Frag} {a : Addr} {d : PyData} (hd : sc d = true) (h : Dt K H (.ref a) d) : False := by
  cases h <;> cases hd
theorem sc_uniq {K : PySem.W.Frag} {x : V} {d e : PyData} (hd : sc d = true) (he : sc e = true) (h1 : Dt K H x d) (h2 : Dt K H x e) : d = e := by
  cases h1 <;> cases h2 <;> first | rfl | cases hd | cases he
theorem eqv_sc {d : PyData} (hd : sc d = true) : PyData.eqv d d = true := by
  cases d with
  | none => rfl
  | bool b => simp [PyData.eqv]
  | int i => simp [PyData.eqv]
  | str x => simp [PyData.eqv]
  | _ => cases hd
theorem eqx_refl (I : Inv X pins σ H s) {n : Nat} {x y : V} {b : Bool} (h : EqX X.K H n x y b) : x = y → b = true := by
  induction h with
  | sc hd he h1 h2 => rintro rfl; rw [sc_uniq hd he h1 h2]; exact eqv_sc he
  | same => exact fun _ => rfl
  | sb hd h1 h2 => rintro rfl; exact (sc_ref hd h1).elim
  | bs hd h1 h2 => rintro rfl; exact (sc_ref hd h1).elim
  | ls h1 h2 hl he ih =>
    intro e; cases e
    obtain rfl := I.list_inj h1 h2
    refine List.all_eq_true.mpr fun j hj => ?_
    have hj := List.mem_range.mp hj
    exact ih j _ _ (List.getElem?_eq_getElem hj) (List.getElem?_eq_getElem hj) rfl
  | lsn h1 h2 hl => intro e; cases e; exact absurd (congrArg List.length (I.list_inj h1 h2)) hl
  | tp h1 h2 hl he ih =>
    intro e; cases e
    obtain rfl := I.tuple_inj h1 h2
    refine List.all_eq_true.mpr fun j hj => ?_
    have hj := List.mem_range.mp hj
    exact ih j _ _ (List.getElem?_eq_getElem hj) (List.getElem?_eq_getElem hj) rfl
  | lt h1 h2 => intro e; cases e; exact (lt_no I h1 h2).elim
  | tl h1 h2 => intro e; cases e; exact (lt_no I h2 h1).elim
  | ld h1 h2 => intro e; cases e; exact (ld_no I h1 h2).elim
  | dl h1 h2 => intro e; cases e; exact (ld_no I h2 h1).elim
  | td h1 h2 => intro e; cases e; exact (td_no I h1 h2).elim
  | dt h1 h2 => intro e; cases e; exact (td_no I h2 h1).elim
theorem eq_sc {A : Around} {K : PySem.W.Frag} {x y : V} {d e : PyData} {u w : Value} (hd : sc d = true) (he : sc e = true) (h1 : Dt K H x d) (h2 : Dt K H y e) (ru : RelV x u) (rw' : RelV y w) : EqAt A s u w (PyData.eqv d e) := by
  cases d with
  | none =>
    cases h1; cases ru
    cases e with
    | none => cases h2; cases rw'; exact EqAt.same _
    | bool y => cases h2; cases rw'; exact EqAt.none_bool y
    | int y => cases h2; obtain ⟨t, rfl⟩ := rw'; exact EqAt.none_int y t
    | str y => cases h2; obtain ⟨t, rfl⟩ := rw'; exact EqAt.none_str y t
    | _ => cases he
  | bool x =>
    cases h1; cases ru
    cases e with
    | none => cases h2; cases rw'; exact EqAt.bool_none x
    | bool y => cases h2; cases rw'; exact EqAt.bool_bool x y
    | int y => cases h2; obtain ⟨t, rfl⟩ := rw'; exact EqAt.bool_int x y t
    | str y => cases h2; obtain ⟨t, rfl⟩ := rw'; exact EqAt.bool_str x y t
    | _ => cases he
  | int x =>
    cases h1; obtain ⟨t0, rfl⟩ := ru
    cases e with
    | none => cases h2; cases rw'; exact EqAt.int_none x t0
    | bool y => cases h2; cases rw'; exact EqAt.int_bool x t0 y
    | int y => cases h2; obtain ⟨t, rfl⟩ := rw'; exact EqAt.int_int x t0 y t
    | str y => cases h2; obtain ⟨t, rfl⟩ := rw'; exact EqAt.int_str x t0 y t
    | _ => cases he
  | str x =>
    cases h1; obtain ⟨t0, rfl⟩ := ru
    cases e with
    | none => cases h2; cases rw'; exact EqAt.str_none x t0
    | bool y => cases h2; cases rw'; exact EqAt.str_bool x t0 y
    | int y => cases h2; obtain ⟨t, rfl⟩ := rw'; exact EqAt.str_int x t0 y t
    | str y => cases h2; obtain ⟨t, rfl⟩ := rw'; exact EqAt.str_str x t0 y t
    | _ => cases he
  | _ => cases hd
theorem eq_sb {A : Around} {x : V} {a : Addr} {d : PyData} {u : Value} (I : Inv X pins σ H s) (hd : sc d = true) (h1 : Dt X.K H x d) (h2 : Bx3 X.K H a) (ru : RelV x u) (hu : A.units < cLine) : EqAt A s u (.ref a) false := by
  rcases h2 with ⟨us, h2⟩ | ⟨us, h2⟩ | h2
  · obtain ⟨its, _, k⟩ := sqL_at I h2
    cases d with
    | none => cases h1; cases ru; exact EqAt.none_list k hu
    | bool y => cases h1; cases ru; exact EqAt.bool_list y k hu
    | int y => cases h1; obtain ⟨t, rfl⟩ := ru; exact EqAt.int_list y t k hu
    | str y => cases h1; obtain ⟨t, rfl⟩ := ru; exact EqAt.str_list y t k hu
    | _ => cases hd
  · obtain ⟨its, _, k⟩ := sqT_at I h2
    cases d with
    | none => cases h1; cases ru; exact EqAt.none_tuple k hu
    | bool y => cases h1; cases ru; exact EqAt.bool_tuple y k hu
    | int y => cases h1; obtain ⟨t, rfl⟩ := ru; exact EqAt.int_tuple y t k hu
    | str y => cases h1; obtain ⟨t, rfl⟩ := ru; exact EqAt.str_tuple y t k hu
    | _ => cases hd
  · have k := dcH_at I h2
    cases d with
    | none => cases h1; cases ru; exact EqAt.none_dict k hu
    | bool y => cases h1; cases ru; exact EqAt.bool_dict y k hu
    | int y => cases h1; obtain ⟨t, rfl⟩ := ru; exact EqAt.int_dict y t k hu
    | str y => cases h1; obtain ⟨t, rfl⟩ := ru; exact EqAt.str_dict y t k hu
    | _ => cases hd
theorem eq_bs {A : Around} {x : V} {a : Addr} {d : PyData} {u : Value} (I : Inv X pins σ H s) (hd : sc d = true) (h1 : Dt X.K H x d) (h2 : Bx3 X.K H a) (ru : RelV x u) (hu : A.units < cLine) : EqAt A s (.ref a) u false := by
  rcases h2 with ⟨us, h2⟩ | ⟨us, h2⟩ | h2
  · obtain ⟨its, _, k⟩ := sqL_at I h2
    cases d with
    | none => cases h1; cases ru; exact EqAt.list_none k hu
    | bool y => cases h1; cases ru; exact EqAt.list_bool y k hu
    | int y => cases h1; obtain ⟨t, rfl⟩ := ru; exact EqAt.list_int y t k hu
    | str y => cases h1; obtain ⟨t, rfl⟩ := ru; exact EqAt.list_str y t k hu
    | _ => cases hd
  · obtain ⟨its, _, k⟩ := sqT_at I h2
    cases d with
    | none => cases h1; cases ru; exact EqAt.tuple_none k hu
    | bool y => cases h1; cases ru; exact EqAt.tuple_bool y k hu
    | int y => cases h1; obtain ⟨t, rfl⟩ := ru; exact EqAt.tuple_int y t k hu
    | str y => cases h1; obtain ⟨t, rfl⟩ := ru; exact EqAt.tuple_str y t k hu
    | _ => cases hd
  · have k := dcH_at I h2
    cases d with
    | none => cases h1; cases ru; exact EqAt.dict_none k hu
    | bool y => cases h1; cases ru; exact EqAt.dict_bool y k hu
    | int y => cases h1; obtain ⟨t, rfl⟩ := ru; exact EqAt.dict_int y t k hu
    | str y => cases h1; obtain ⟨t, rfl⟩ := ru; exact EqAt.dict_str y t k hu
    | _ => cases hd
theorem vals_at {us : List V} {its : List Value} (r : Vals us its) {j : Nat} (h : j < its.toArray.size) : ∃ x, us[j]? = some x ∧ RelV x its.toArray[j] := by
  have h2 : j < us.length := by rw [r.length]; simpa using h
  obtain ⟨u, h3, h4⟩ := r.get (List.getElem?_eq_getElem h2)
  refine ⟨us[j], List.getElem?_eq_getElem h2, ?_⟩
  rw [List.getElem?_eq_getElem (by simpa using h)] at h3
  cases h3
  simpa using h4
theorem eqx_at (I : Inv X pins σ H s) {n : Nat} {x y : V} {b : Bool} (h : EqX X.K H n x y b) : ∀ {A : Around} {u w : Value}, RelV x u → RelV y w → A.units + n < cLine → EqAt A s u w b := by
  induction h with
  | sc hd he h1 h2 => intro A u w ru rw' _; exact eq_sc hd he h1 h2 ru rw'
  | same => intro A u w ru rw' _; cases ru; cases rw'; exact EqAt.same _
  | sb hd h1 h2 => intro A u w ru rw' hu; cases rw'; exact eq_sb I hd h1 h2 ru (by omega)
  | bs hd h1 h2 => intro A u w ru rw' hu; cases ru; exact eq_bs I hd h1 h2 rw' (by omega)
  | @ls n a b us vs e h1 h2 hl he ih =>
    intro A u w ru rw' hu
    cases ru; cases rw'
    by_cases hab : a = b
    · subst hab
      rw [eqx_refl I (.ls (n := n) h1 h2 hl he) rfl]
      exact EqAt.same _
    · obtain ⟨i1, r1, k1⟩ := sqL_at I h1
      obtain ⟨i2, r2, k2⟩ := sqL_at I h2
      have e1 := r1.length
      have e2 := r2.length
      have := RcAt.lists (e := e) k1 k2 (by simp; omega) (show A.units < cLine by omega) fun j j1 j2 => by
        obtain ⟨x, q1, q2⟩ := vals_at r1 j1
        obtain ⟨y, q3, q4⟩ := vals_at r2 j2
        exact ih j x y q1 q3 (A := A.in1) q2 q4 (by show A.units + 1 + n < cLine; omega)
      rw [show i1.toArray.size = us.length by simp; omega] at this
      exact EqAt.of_refs hab this
  | @lsn n a b us vs h1 h2 hl =>
    intro A u w ru rw' hu
    cases ru; cases rw'
    obtain ⟨i1, r1, k1⟩ := sqL_at I h1
    obtain ⟨i2, r2, k2⟩ := sqL_at I h2
    have e1 := r1.length
    have e2 := r2.length
    by_cases hab : a = b
    · subst hab; exact absurd (congrArg List.length (I.list_inj h1 h2)) hl
    · exact EqAt.of_refs hab (RcAt.lists_lengths k1 k2 (by simp; omega) (by omega))
  | @tp n a b us vs e h1 h2 hl he ih =>
    intro A u w ru rw' hu
    cases ru; cases rw'
    by_cases hab : a = b
    · subst hab
      rw [eqx_refl I (.tp (n := n) h1 h2 hl he) rfl]
      exact EqAt.same _
    · obtain ⟨i1, r1, k1⟩ := sqT_at I h1
      obtain ⟨i2, r2, k2⟩ := sqT_at I h2
      have e1 := r1.length
      have e2 := r2.length
      have := RcAt.tuples (e := e) k1 k2 (show A.units < cLine by omega) fun j j1 j2 => by
        obtain ⟨x, q1, q2⟩ := vals_at r1 j1
        obtain ⟨y, q3, q4⟩ := vals_at r2 j2
        exact ih j x y q1 q3 (A := A.in1) q2 q4 (by show A.units + 1 + n < cLine; omega)
      rw [show i1.toArray.size = us.length by simp; omega, show i2.toArray.size = us.length by simp; omega] at this
      simp at this
      exact EqAt.of_refs hab this
  | lt h1 h2 =>
    intro A u w ru rw' hu
    cases ru; cases rw'
    obtain ⟨i1, r1, k1⟩ := sqL_at I h1
    obtain ⟨i2, r2, k2⟩ := sqT_at I h2
    exact EqAt.list_tuple k1 k2 (by omega)
  | tl h1 h2 =>
    intro A u w ru rw' hu
    cases ru; cases rw'
    obtain ⟨i1, r1, k1⟩ := sqT_at I h1
    obtain ⟨i2, r2, k2⟩ := sqL_at I h2
    exact EqAt.tuple_list k1 k2 (by omega)
  | ld h1 h2 =>
    intro A u w ru rw' hu
    cases ru; cases rw'
    obtain ⟨i1, r1, k1⟩ := sqL_at I h1
    exact EqAt.list_dict (dcH_at I h2) k1 (by omega)
  | dl h1 h2 =>
    intro A u w ru rw' hu
    cases ru; cases rw'
    obtain ⟨i1, r1, k1⟩ := sqL_at I h2
    exact EqAt.dict_list (dcH_at I h1) k1 (by omega)
  | td h1 h2 =>
    intro A u w ru rw' hu
    cases ru; cases rw'
    obtain ⟨i1, r1, k1⟩ := sqT_at I h1
    exact EqAt.tuple_dict (dcH_at I h2) k1 (by omega)
  | dt h1 h2 =>
    intro A u w ru rw' hu
    cases ru; cases rw'
    obtain ⟨i1, r1, k1⟩ := sqT_at I h2
    exact EqAt.dict_tuple (dcH_at I h1) k1 (by omega)
end
/-- == of two lists -/
def rEqX (K : PySem.W.Frag) (f : Bool → Bool) : R2 := fun x y H Q => ∃ a b us vs, x = .ref a ∧ y = .ref b ∧ SqL K H a us ∧ SqL K H b vs ∧ ((us.length ≠ vs.length ∧ Q (.bl (f false)) H) ∨ ∃ e : Nat → Bool, us.length = vs.length ∧ (∀ (j : Nat) (x y : V), us[j]? = some x → vs[j]? = some y → EqX K H 40 x y (e j)) ∧ Q (.bl (f ((List.range us.length).all e))) H)
theorem op_eqX {X : Cx} (hu : X.A.units + 64 < cLine) : OpR X (compareOp .Eq) (rEqX X.K fun b => b) := by
  intro pins s σ H x y v u Q I rx ry h
  obtain ⟨a, b, us, vs, rfl, rfl, h1, h2, h⟩ := h
  cases rx; cases ry
  obtain ⟨i1, r1, k1⟩ := sqL_at I h1
  obtain ⟨i2, r2, k2⟩ := sqL_at I h2
  have e1 := r1.length
  have e2 := r2.length
  rcases h with ⟨hl, q⟩ | ⟨e, hl, he, q⟩
  · exact RcAt.lists_lengths k1 k2 (by simp; omega) (by omega) _ _ _ _ ⟨.bl _, H, I, rfl, q⟩
  · have := RcAt.lists (A := X.A) (e := e) k1 k2 (by simp; omega) (by omega) fun j j1 j2 => by
      obtain ⟨x, q1, q2⟩ := vals_at r1 j1
      obtain ⟨y, q3, q4⟩ := vals_at r2 j2
      exact eqx_at I (he j x y q1 q3) q2 q4 (by show X.A.units + 1 + 40 < cLine; omega)
    rw [show i1.toArray.size = us.length by simp; omega] at this
    exact this _ _ _ _ ⟨.bl _, H, I, rfl, q⟩
theorem op_neX {X : Cx} (hu : X.A.units + 64 < cLine) : OpR X (compareOp .NotEq) (rEqX X.K fun b => !b) := by
  intro pins s σ H x y v u Q I rx ry h
  obtain ⟨a, b, us, vs, rfl, rfl, h1, h2, h⟩ := h
  cases rx; cases ry
  obtain ⟨i1, r1, k1⟩ := sqL_at I h1
  obtain ⟨i2, r2, k2⟩ := sqL_at I h2
  have e1 := r1.length
  have e2 := r2.length
  rcases h with ⟨hl, q⟩ | ⟨e, hl, he, q⟩
  · exact RcNeAt.lists_lengths k1 k2 (by simp; omega) (by omega) _ _ _ _ ⟨.bl _, H, I, rfl, q⟩
  · have := RcNeAt.lists (A := X.A) (e := e) k1 k2 (by simp; omega) (by omega) fun j j1 j2 => by
      obtain ⟨x, q1, q2⟩ := vals_at r1 j1
      obtain ⟨y, q3, q4⟩ := vals_at r2 j2
      exact eqx_at I (he j x y q1 q3) q2 q4 (by show X.A.units + 1 + 40 < cLine; omega)
    rw [show i1.toArray.size = us.length by simp; omega] at this
    exact this _ _ _ _ ⟨.bl _, H, I, rfl, q⟩
/-- x in l -/
def rInX (K : PySem.W.Frag) (f : Bool → Bool) : R2 := fun x y H Q => ∃ (a : Addr) (us : List V) (e : Nat → Bool), y = .ref a ∧ SqL K H a us ∧ (∀ (j : Nat) (z : V), us[j]? = some z → EqX K H 40 z x (e j)) ∧ Q (.bl (f ((List.range us.length).any e))) H
theorem op_inX {X : Cx} (hu : X.A.units + 65 < cLine) : OpR X (compareOp .In) (rInX X.K fun b => b) := by
  intro pins s σ H x y v u Q I rx ry h
  obtain ⟨a, us, e, rfl, h1, he, q⟩ := h
  cases ry
  obtain ⟨i1, r1, k1⟩ := sqL_at I h1
  have e1 := r1.length
  refine in_listF e k1 (fun j hj => ?_) ?_
  · obtain ⟨z, q1, q2⟩ := vals_at r1 hj
    exact eqx_at I (he j z q1) q2 rx (by show X.A.units + 1 + 40 < cLine; omega)
  · rw [show i1.toArray.size = us.length by simp; omega]
    exact ⟨.bl _, H, I, rfl, q⟩
theorem op_ninX {X : Cx} (hu : X.A.units + 65 < cLine) : OpR X (compareOp .NotIn) (rInX X.K fun b => !b) := by
  intro pins s σ H x y v u Q I rx ry h
  obtain ⟨a, us, e, rfl, h1, he, q⟩ := h
  cases ry
  obtain ⟨i1, r1, k1⟩ := sqL_at I h1
  have e1 := r1.length
  refine notIn_listF e k1 (fun j hj => ?_) ?_
  · obtain ⟨z, q1, q2⟩ := vals_at r1 hj
    exact eqx_at I (he j z q1) q2 rx (by show X.A.units + 1 + 40 < cLine; omega)
  · rw [show i1.toArray.size = us.length by simp; omega]
    exact ⟨.bl _, H, I, rfl, q⟩
end Bw

namespace Bw
open PySem L2
/-! the mirror of == by identity and kind -/
def isDc (lh : LH) : MV → Bool
  | .d (.dict _) => true
  | x => (dcO lh x).isSome
def scO : MV → Option PyData
  | .d x => if sc x = true then some x else none
  | _ => none
def sameR : MV → MV → Bool
  | .r i, .r j => decide (i = j)
  | _, _ => false
def bxM (lh : LH) (y : MV) : Bool := (sqL lh y).isSome || ((sqT lh y).isSome || isDc lh y)
def eqAll (f : MV → MV → Option Bool) : List MV → List MV → Option Bool
  | [], [] => some true
  | x :: xs, y :: ys => match f x y, eqAll f xs ys with
    | some b, some c => some (b && c)
    | _, _ => none
  | _, _ => none
def anyE (f : MV → Option Bool) : List MV → Option Bool
  | [] => some false
  | x :: xs => match f x, anyE f xs with
    | some b, some c => some (b || c)
    | _, _ => none
def eqM : Nat → LH → MV → MV → Option Bool
  | 0, _, _, _ => none
  | n + 1, lh, x, y => if sameR x y = true then some true else match scO x, scO y with
    | some a, some b => some (PyData.eqv a b)
    | some _, none => if bxM lh y = true then some false else none
    | none, some _ => if bxM lh x = true then some false else none
    | none, none => match sqL lh x, sqL lh y with
      | some us, some vs => if us.length = vs.length then eqAll (eqM n lh) us vs else some false
      | some _, none => if (sqT lh y).isSome = true ∨ isDc lh y = true then some false else none
      | none, some _ => if (sqT lh x).isSome = true ∨ isDc lh x = true then some false else none
      | none, none => match sqT lh x, sqT lh y with
        | some us, some vs => if us.length = vs.length then eqAll (eqM n lh) us vs else none
        | some _, none => if isDc lh y = true then some false else none
        | none, some _ => if isDc lh x = true then some false else none
        | none, none => none
theorem eqAll_len {f : MV → MV → Option Bool} : ∀ {us vs : List MV} {b : Bool}, eqAll f us vs = some b → us.length = vs.length
  | [], [], _, _ => rfl
  | x :: xs, y :: ys, b, h => by
    unfold eqAll at h
    split at h
    · rename_i h1; simp [eqAll_len h1]
    · cases h
theorem eqAll_some {f : MV → MV → Option Bool} : ∀ {us vs : List MV} {b : Bool}, eqAll f us vs = some b → ∃ e : Nat → Bool, (∀ (j : Nat) (x y : MV), us[j]? = some x → vs[j]? = some y → f x y = some (e j)) ∧ b = (List.range us.length).all e
  | [], [], b, h => by cases h; exact ⟨fun _ => true, fun j x y h => by simp at h, rfl⟩
  | x :: xs, y :: ys, b, h => by
    unfold eqAll at h
    split at h
    · rename_i c d h1 h2
      cases h
      obtain ⟨e, k1, rfl⟩ := eqAll_some h2
      refine ⟨fun j => if j = 0 then c else e (j - 1), fun j u v q1 q2 => ?_, ?_⟩
      · cases j with
        | zero => simp at q1 q2; subst q1 q2; simpa using h1
        | succ j => simp at q1 q2; simpa using k1 j u v q1 q2
      · rw [List.length_cons, List.range_succ_eq_map, List.all_cons, List.all_map]
        simp only [if_true]
        congr 1
    · cases h
theorem anyE_some {f : MV → Option Bool} : ∀ {us : List MV} {b : Bool}, anyE f us = some b → ∃ e : Nat → Bool, (∀ (j : Nat) (x : MV), us[j]? = some x → f x = some (e j)) ∧ b = (List.range us.length).any e
  | [], b, h => by cases h; exact ⟨fun _ => true, fun j x h => by simp at h, rfl⟩
  | x :: xs, b, h => by
    unfold anyE at h
    split at h
    · rename_i c d h1 h2
      cases h
      obtain ⟨e, k1, rfl⟩ := anyE_some h2
      refine ⟨fun j => if j = 0 then c else e (j - 1), fun j u q1 => ?_, ?_⟩
      · cases j with
        | zero => simp at q1; subst q1; simpa using h1
        | succ j => simp at q1; simpa using k1 j u q1
      · rw [List.length_cons, List.range_succ_eq_map, List.any_cons, List.any_map]
        simp only [if_true]
        congr 1
    · cases h
section
variable {K : PySem.W.Frag} {F : Hp} {ρ : List Addr} {lh : LH} {cs : Cs} {H : Hp}
theorem dcH_of {x : MV} {u : V} (s : Sm K F ρ lh cs H) (h : Vr K F ρ u x) (e : isDc lh x = true) : ∃ a, u = .ref a ∧ DcH H a := by
  have key : (dcO lh x).isSome = true → ∃ a, u = .ref a ∧ DcH H a := fun e => by
    obtain ⟨kvs, e⟩ := Option.isSome_iff_exists.mp e
    obtain ⟨a, us, rfl, k, _⟩ := dcO_ok s h e
    refine ⟨a, rfl, ?_⟩
    rcases k with k | ⟨o, k⟩
    · exact .inl ⟨_, k⟩
    · exact .inr ⟨_, _, k⟩
  cases x with
  | d x =>
    cases x with
    | dict kv =>
      cases h with
      | dct h => exact ⟨_, rfl, .inl ⟨_, s.fr _ _ h⟩⟩
    | _ => exact key e
  | r i => exact key e
  | x i => exact key e
theorem scO_of {x : MV} {u : V} {d : PyData} (s : Sm K F ρ lh cs H) (h : Vr K F ρ u x) (e : scO x = some d) : sc d = true ∧ Dt K H u d := by
  cases x with
  | d x =>
    by_cases c : sc x = true
    · rw [scO, if_pos c] at e; cases e; exact ⟨c, Dt.gr s.fr h⟩
    · rw [scO, if_neg c] at e; cases e
  | _ => cases e
theorem bx_of {x : MV} {u : V} (s : Sm K F ρ lh cs H) (h : Vr K F ρ u x) (e : bxM lh x = true) : ∃ a, u = .ref a ∧ Bx3 K H a := by
  unfold bxM at e
  rw [Bool.or_eq_true, Bool.or_eq_true] at e
  rcases e with e | e | e
  · obtain ⟨us, e⟩ := Option.isSome_iff_exists.mp e
    obtain ⟨a, us, rfl, k, _⟩ := sqL_ok s h e
    exact ⟨a, rfl, .inl ⟨_, k⟩⟩
  · obtain ⟨us, e⟩ := Option.isSome_iff_exists.mp e
    obtain ⟨a, us, rfl, k, _⟩ := sqT_ok s h e
    exact ⟨a, rfl, .inr (.inl ⟨_, k⟩)⟩
  · obtain ⟨a, rfl, k⟩ := dcH_of s h e
    exact ⟨a, rfl, .inr (.inr k)⟩
theorem vrs_get2 : ∀ {us : List V} {xs : List MV} {j : Nat} {u : V}, Vrs K F ρ us xs → us[j]? = some u → ∃ x, xs[j]? = some x ∧ Vr K F ρ u x
  | _, _, j, u, .nil, h => by simp at h
  | _, _, 0, u, .cons r t, h => by simp at h; subst h; exact ⟨_, rfl, r⟩
  | _, _, j + 1, u, .cons r t, h => by
    obtain ⟨x, h1, h2⟩ := vrs_get2 (j := j) t (by simpa using h)
    exact ⟨x, by simpa using h1, h2⟩
theorem eqM_ok (s : Sm K F ρ lh cs H) : ∀ (n : Nat) {x y : MV} {u v : V} {b : Bool}, eqM n lh x y = some b → Vr K F ρ u x → Vr K F ρ v y → EqX K H n u v b
  | 0, x, y, u, v, b, h, _, _ => by cases h
  | n + 1, x, y, u, v, b, h, hx, hy => by
    unfold eqM at h
    split at h
    · rename_i e
      cases h
      unfold sameR at e
      split at e
      · cases of_decide_eq_true e
        obtain ⟨a, h1, rfl⟩ := hx
        obtain ⟨b, h2, rfl⟩ := hy
        rw [h1] at h2; cases h2
        exact .same
      · cases e
    split at h
    · rename_i a c h1 h2
      cases h
      obtain ⟨k1, k2⟩ := scO_of s hx h1
      obtain ⟨k3, k4⟩ := scO_of s hy h2
      exact .sc k1 k3 k2 k4
    · rename_i a h1 h2
      split at h
      · cases h
        obtain ⟨k1, k2⟩ := scO_of s hx h1
        obtain ⟨a, rfl, k⟩ := bx_of s hy ‹_›
        exact .sb k1 k2 k
      · cases h
    · rename_i a h1 h2
      split at h
      · cases h
        obtain ⟨k1, k2⟩ := scO_of s hy h2
        obtain ⟨a, rfl, k⟩ := bx_of s hx ‹_›
        exact .bs k1 k2 k
      · cases h
    split at h
    · rename_i us vs h1 h2
      obtain ⟨a, us', rfl, k1, k2⟩ := sqL_ok s hx h1
      obtain ⟨a2, vs', rfl, k3, k4⟩ := sqL_ok s hy h2
      have l1 := vrs_len k2
      have l2 := vrs_len k4
      split at h
      · obtain ⟨e, q, rfl⟩ := eqAll_some h
        rw [← l1]
        refine .ls k1 k3 (by omega) fun j x y q1 q2 => ?_
        obtain ⟨x', q3, q4⟩ := vrs_get2 k2 q1
        obtain ⟨y', q5, q6⟩ := vrs_get2 k4 q2
        exact eqM_ok s n (q j x' y' q3 q5) q4 q6
      · cases h
        exact .lsn k1 k3 (by omega)
    · rename_i us h1 h2
      split at h
      · cases h
        obtain ⟨a, us', rfl, k1, k2⟩ := sqL_ok s hx h1
        rename_i g
        rcases g with g | g
        · obtain ⟨vs, g⟩ := Option.isSome_iff_exists.mp g
          obtain ⟨a2, vs', rfl, k3, k4⟩ := sqT_ok s hy g
          exact .lt k1 k3
        · obtain ⟨a2, rfl, k⟩ := dcH_of s hy g
          exact .ld k1 k
      · cases h
    · rename_i us h1 h2
      split at h
      · cases h
        obtain ⟨a, us', rfl, k1, k2⟩ := sqL_ok s hy h2
        rename_i g
        rcases g with g | g
        · obtain ⟨vs, g⟩ := Option.isSome_iff_exists.mp g
          obtain ⟨a2, vs', rfl, k3, k4⟩ := sqT_ok s hx g
          exact .tl k3 k1
        · obtain ⟨a2, rfl, k⟩ := dcH_of s hx g
          exact .dl k k1
      · cases h
    split at h
    · rename_i us vs h1 h2
      obtain ⟨a, us', rfl, k1, k2⟩ := sqT_ok s hx h1
      obtain ⟨a2, vs', rfl, k3, k4⟩ := sqT_ok s hy h2
      have l1 := vrs_len k2
      have l2 := vrs_len k4
      split at h
      · obtain ⟨e, q, rfl⟩ := eqAll_some h
        rw [← l1]
        refine .tp k1 k3 (by omega) fun j x y q1 q2 => ?_
        obtain ⟨x', q3, q4⟩ := vrs_get2 k2 q1
        obtain ⟨y', q5, q6⟩ := vrs_get2 k4 q2
        exact eqM_ok s n (q j x' y' q3 q5) q4 q6
      · cases h
    · rename_i us h1 h2
      split at h
      · cases h
        obtain ⟨a, us', rfl, k1, k2⟩ := sqT_ok s hx h1
        obtain ⟨a2, rfl, k⟩ := dcH_of s hy ‹_›
        exact .td k1 k
      · cases h
    · rename_i us h1 h2
      split at h
      · cases h
        obtain ⟨a, us', rfl, k1, k2⟩ := sqT_ok s hy h2
        obtain ⟨a2, rfl, k⟩ := dcH_of s hx ‹_›
        exact .dt k k1
      · cases h
    · cases h
end
def gEqX (f : Bool → Bool) : G2 := fun a b lh => match sqL lh a, sqL lh b with
  | some us, some vs => if us.length = vs.length then (match eqAll (eqM 40 lh) us vs with
    | some c => some (.d (.bool (f c)), lh)
    | none => none) else some (.d (.bool (f false)), lh)
  | _, _ => none
def gInX (f : Bool → Bool) : G2 := fun a b lh => match sqL lh b with
  | some us => match anyE (fun z => eqM 40 lh z a) us with
    | some c => some (.d (.bool (f c)), lh)
    | none => none
  | _ => none
section
variable {K : PySem.W.Frag}
theorem rel_eqX {f : Bool → Bool} : Rel2 K (rEqX K f) (gEqX f) := fun F ρ lh cs H x y a b z lh' Q s hx hy e q => by
  unfold gEqX at e
  split at e
  · rename_i us vs h1 h2
    obtain ⟨a1, us', rfl, k1, k2⟩ := sqL_ok s hx h1
    obtain ⟨a2, vs', rfl, k3, k4⟩ := sqL_ok s hy h2
    have l1 := vrs_len k2
    have l2 := vrs_len k4
    refine ⟨a1, a2, us', vs', rfl, rfl, k1, k3, ?_⟩
    split at e
    · split at e
      · rename_i c h3
        cases e
        obtain ⟨e, q1, rfl⟩ := eqAll_some h3
        refine .inr ⟨e, by omega, fun j x y q2 q3 => ?_, ?_⟩
        · obtain ⟨x', q4, q5⟩ := vrs_get2 k2 q2
          obtain ⟨y', q6, q7⟩ := vrs_get2 k4 q3
          exact eqM_ok s 40 (q1 j x' y' q4 q6) q5 q7
        · rw [l1]; exact q.d s (.bl _)
      · cases e
    · cases e
      exact .inl ⟨by omega, q.d s (.bl _)⟩
  · cases e
theorem rel_inX {f : Bool → Bool} : Rel2 K (rInX K f) (gInX f) := fun F ρ lh cs H x y a b z lh' Q s hx hy e q => by
  unfold gInX at e
  split at e
  · rename_i us h1
    obtain ⟨a1, us', rfl, k1, k2⟩ := sqL_ok s hy h1
    have l1 := vrs_len k2
    split at e
    · rename_i c h3
      cases e
      obtain ⟨e, q1, rfl⟩ := anyE_some h3
      refine ⟨a1, us', e, rfl, k1, fun j z q2 => ?_, ?_⟩
      · obtain ⟨x', q4, q5⟩ := vrs_get2 k2 q2
        exact eqM_ok s 40 (q1 j x' q4) q5 hx
      · rw [l1]; exact q.d s (.bl _)
    · cases e
  · cases e
end
def gEqW : G2 := alt2 gEq (gEqX fun b => b)
def gNeW : G2 := alt2 gNe (gEqX fun b => !b)
def gInW : G2 := alt2 gIn (gInX fun b => b)
def gNinW : G2 := alt2 gNin (gInX fun b => !b)
abbrev rEqW (K : PySem.W.Frag) : R2 := fun x y H Q => rEqU K x y H Q ∨ rEqX K (fun b => b) x y H Q
abbrev rNeW (K : PySem.W.Frag) : R2 := fun x y H Q => rNeU K x y H Q ∨ rEqX K (fun b => !b) x y H Q
abbrev rInW (K : PySem.W.Frag) : R2 := fun x y H Q => rInU K x y H Q ∨ rInX K (fun b => b) x y H Q
abbrev rNinW (K : PySem.W.Frag) : R2 := fun x y H Q => rNinU K x y H Q ∨ rInX K (fun b => !b) x y H Q
theorem op_eqW {X : Cx} (hu : X.A.units + 64 < cLine) : OpR X (compareOp .Eq) (rEqW X.K) := (op_eqU hu).or (op_eqX hu)
theorem op_neW {X : Cx} (hu : X.A.units + 64 < cLine) : OpR X (compareOp .NotEq) (rNeW X.K) := (op_neU hu).or (op_neX hu)
theorem op_inW {X : Cx} (hu : X.A.units + 65 < cLine) : OpR X (compareOp .In) (rInW X.K) := (op_inU hu).or (op_inX hu)
theorem op_ninW {X : Cx} (hu : X.A.units + 65 < cLine) : OpR X (compareOp .NotIn) (rNinW X.K) := (op_ninU hu).or (op_ninX hu)
theorem rel_eqW {K : PySem.W.Frag} : Rel2 K (rEqW K) gEqW := rel_eq.or rel_eqX
theorem rel_neW {K : PySem.W.Frag} : Rel2 K (rNeW K) gNeW := rel_ne.or rel_eqX
theorem rel_inW {K : PySem.W.Frag} : Rel2 K (rInW K) gInW := rel_in.or rel_inX
theorem rel_ninW {K : PySem.W.Frag} : Rel2 K (rNinW K) gNinW := rel_nin.or rel_inX
end Bw

namespace Bw
open PySem L2
/-! slices of lists, tuples and texts -/
def gSlT (x : MV) (lo hi : Option Int) (lh : LH) : Option (MV × LH) := match sqT lh x with
  | some xs => if HT.sIx xs.length 0 lo = 0 ∧ HT.sIx xs.length xs.length hi = xs.length then some (x, lh) else newT (cutL xs lo hi) lh
  | none => none
def gSlS (x : MV) (lo hi : Option Int) (lh : LH) : Option (MV × LH) := match x with
  | .d (.str z) => if z.length ≤ 100000 then some (.d (.str (L2.cutS z lo hi)), lh) else none
  | _ => none
def gSlU (h : Bool) (x : MV) (lo hi : Option Int) (lh : LH) : Option (MV × LH) := match gSlL h x lo hi lh with
  | some r => some r
  | none => match gSlT x lo hi lh with
    | some r => some r
    | none => gSlS x lo hi lh
def mSlU (h : Bool) (a : ME) (lo hi : MP) : ME := fun env lh => mB (a env lh) fun x l1 => mB (lo env l1) fun i l2 => mB (hi env l2) fun j l3 => mO (gSlU h x i j l3)
def rSlU (K : PySem.W.Frag) : V → Option Int → Option Int → Hp → VK → Prop := fun x lo hi H Q => rSlL K x lo hi H Q ∨ rSlA K x lo hi H Q ∨ rSlS x lo hi H Q
theorem sl_U {X : Cx} : SlR X (rSlU X.K) := sl_list.or (sl_tupA.or sl_str)
section
variable {K : PySem.W.Frag} {W : WX} {te : TE} {ma : ME} {tl th : TO} {ml mh : MP} {h : Bool}
theorem so_slU (ha : SoE K W te ma) (hl : SoG rOI K W tl ml) (hh : SoG rOI K W th mh) : SoE K W (tSl (rSlU K) te tl th) (mSlU h ma ml mh) := fun σ env F ρ lh cs H rr lh' Q he s e q => by
  show te σ H fun x H1 => tl σ H1 fun l H2 => th σ H2 fun u H3 => rSlU K x l u H3 Q
  exact SoG.bind ha he s e q fun x lh1 F1 ρ1 H1 u e1 g1 p1 s1 hx => SoG.bind hl (he.up g1 p1) s1 e1 (q.up g1 p1) fun i lh2 F2 ρ2 H2 i2 e2 g2 p2 s2 hi => SoG.bind hh (he.up (g1.tr g2) (p1.trans p2)) s2 e2 (q.up (g1.tr g2) (p1.trans p2)) fun j lh3 F3 ρ3 H3 j2 e3 g3 p3 s3 hj => by
    cases hi; cases hj
    obtain ⟨z, h1, rfl⟩ := mO_some e3
    have hx3 := Vr.up (g2.tr g3) (p2.trans p3) hx
    have Fz := q.toFin (g1.tr (g2.tr g3)) (p1.trans (p2.trans p3))
    unfold gSlU at h1
    split at h1
    · rename_i r hr
      cases h1
      unfold gSlL at hr
      split at hr
      · rename_i xs h2
        obtain ⟨a, us, rfl, k1, k2⟩ := sqL_ok s3 hx3 h2
        refine .inl ⟨a, us, rfl, k1, (newL_ok s3 ?_ hr Fz).2⟩
        have hlen := vrs_len k2
        unfold cutV cutL
        rw [hlen]
        exact vrs_take _ (vrs_drop _ k2)
      · cases hr
    split at h1
    · rename_i r hr
      cases h1
      unfold gSlT at hr
      split at hr
      · rename_i xs h2
        obtain ⟨a, us, rfl, k1, k2⟩ := sqT_ok s3 hx3 h2
        have hlen := vrs_len k2
        refine .inr (.inl ⟨a, us, rfl, k1, fun hw => ?_, fun hw => ?_⟩)
        · rw [hlen] at hw
          rw [if_pos hw] at hr
          cases hr
          exact Fz.d s3 hx3
        · rw [hlen] at hw
          rw [if_neg hw] at hr
          refine (newT_ok s3 ?_ hr Fz).2
          unfold cutV cutL
          rw [hlen]
          exact vrs_take _ (vrs_drop _ k2)
      · cases hr
    · unfold gSlS at h1
      split at h1
      · split at h1
        · cases h1
          obtain rfl := Dt.toStr hx3
          exact .inr (.inr ⟨_, rfl, sz ‹_›, Fz.d s3 (.str _)⟩)
        · cases h1
      · cases h1
end
theorem u_slU {X : Cx} {W : WX} {e : Expr} {lo hi : Option Expr} {ma : ME} {ml mh : MP} {h : Bool} {pos p2 : Pos} (ha : UE X W e ma) (hl : UO X W lo ml) (hh : UO X W hi mh) : UE X W (.Subscript e (.Slice lo hi none p2) pos) (mSlU h ma ml mh) := ue_of (pe_slice sl_U ha hl hh) (so_slU sog sog sog)
end Bw

namespace Bw
open PySem L2
/-! exceptions made outside raise -/
def tVal (K : PySem.W.Frag) (t : St → Hp → XK → Prop) : TE := fun σ H Q => t σ H fun cls d H1 => ∃ C, cls = .ref C ∧ ∀ a, H1 a = none → Q (.ref a) (upd H1 a (ExK C d a))
def tExV (K : PySem.W.Frag) (n : Str) (ta : TE) : TE := fun σ H Q => ta σ H fun _ H1 => ∀ a, H1 a = none → Q (.ref a) (upd H1 a (ExK (He.ga K n) none a))
section
open PySem.Spec PyProof.Rows
variable {X : Cx} {e : Expr} {t : L2.St → Hp → XK → Prop} {ta : TE} {n : Str} {p pos : Pos}
theorem pe_ofMk (hex : X.ex = []) (he : PMk X e t) : PE X e (tVal X.K t) := by
  refine ⟨fun pins s σ H Q I h => ?_⟩
  refine wpAny_mono (he pins s σ H _ I h) (fun u s1 hu => ?_) fun _ _ x => x
  obtain ⟨a, oe, vs, sI, H', cls, d, rfl, J, k, hne, ha, hz, hd, h1, na, os, ag, r, C, hcls, q⟩ := hu
  have J1 : Inv X pins σ H' s1 := J.landed (B := sI.heap) (fun b o e _ => e) k (fun b o e _ => ⟨o.slots, k b o e⟩) os ag
  have n0 : X.s_0.heap.get? a = none := by
    cases q : X.s_0.heap.get? a with
    | none => rfl
    | some o =>
      obtain ⟨o', q'⟩ := J.base.there a o q (by rw [hex]; exact List.not_mem_nil)
      rw [hne] at q'; cases q'
  have npin : ∀ p ∈ X.pn ++ pins, p.1 ≠ a := fun p hp z => by
    have := (J.pin p hp).1
    rw [z, hne] at this; cases this
  have nL : a ≠ X.env.locals := fun z => by
    obtain ⟨m, ⟨o, es, ep, ho, _⟩, _⟩ := J.loc
    rw [← z, hne] at ho; cases ho
  exact ⟨.ref a, upd H' a (ExK C d a), inv_track J1 na ha hd nL n0 npin (exK_ok ha (hz.1.trans hcls) hz.2 hd), rfl, q a na⟩
theorem pe_excV (x : ExD X.K X.mg n) (hg : Gl X n) (he : PE X e ta) (hdb : (n == ("__debug__" : Str)) = false := by decide) (hs : starEach [e] X.env = (false, eval e X.env) :: starEach [] X.env := by rfl) :
    PE X (.Call (.Name n p) [e] [] pos) (tExV X.K n ta) := by
  have hb := x.b
  unfold excB at hb
  simp only [Bool.and_eq_true, beq_iff_eq] at hb
  obtain ⟨⟨⟨b1, b2⟩, b3⟩, b4⟩ := hb
  refine ⟨fun pins s σ H Q I h => ?_⟩
  refine wpAny_Call_Name_kw (ld_glob I hg x.gm ?_ hdb)
  refine PySem.W.callWith_K (h₀ := X.base) I.ok.mod.kin b2 ?_ hs (by rfl)
  rw [hs]
  refine Calls.spliced_cons (thn (he.run pins s σ H _ I h) fun u s1 ⟨v, H1, I1, r1, q1⟩ => ?_)
  refine Calls.spliced_nil ⟨I1.kIn, ?_⟩
  show wpAny _ _ (call (.ref (He.ga X.K n)) [u]) _ _ _
  obtain ⟨bm, N, nm, qn, bs, hdct, sn, sub, ab, col, dd, k0, k1, k2, k3, k5, mN, hC, hN, hni, T⟩ := exc_obj I1.kIn b1
  refine wpAny_call_exc_subT PySem.F.excBase_ValueError T hC hN hni (fun h' a hm => ?_) (by show 1 ≤ sizeLine; rw [sizeLine_eq]; omega)
  have hn : H1 a = none := I1.hok.gone hm.new
  obtain ⟨t, ht, _, _⟩ := hm.there
  exact ⟨.ref a, upd H1 a (ExK (He.ga X.K n) none a), I1.laidN hm.keeps hm.new hn (exK_ok ht rfl rfl rfl), rfl, q1 a hn⟩
end
def mExV (c : Str) (a : ME) : ME := fun env lh => mB (a env lh) fun _ l => some (.ok (.x (c, .none)), l)
def mExF (c : Str) (a : ME) : ME := fun env lh => mB (a env lh) fun x l => match x with
  | .d d => if fmB d = true then some (.ok (.x (c, d)), l) else none
  | _ => none
def gXat (cl : List Str) (f : Str) : G1 := fun a lh => match a with
  | .x e => if e.1 ∈ cl ∧ fld e.1 = some f then some (.d e.2, lh) else none
  | _ => none
section
variable {K : PySem.W.Frag} {W : WX} {te : TE} {ma : ME}
theorem so_exV {c : Str} (hc : fld c = none) (ha : SoE K W te ma) : SoE K W (tExV K c te) (mExV c ma) := fun σ env F ρ lh cs H r lh' Q he s e q => by
  show te σ H _
  refine SoG.bind ha he s e q fun v lh1 F1 ρ1 H1 u e1 g1 p1 s1 hv => fun a na => ?_
  cases e1
  have g2 := s1.layG (u := ExK (He.ga K c) none a) na
  exact (q _ _ _ (g1.tr g2) p1 (s1.lay na)).1 _ _ rfl ⟨a, none, rfl, upd_same, by unfold Xd; rw [hc]⟩
theorem so_exF {c f : Str} (hf : fld c = some f) (ha : SoE K W te ma) : SoE K W (tVal K (tMkO (He.ga K c) (spI (He.ga K c) f) [] (tCons te tNil))) (mExF c ma) := fun σ env F ρ lh cs H r lh' Q he s e q => by
  show te σ H _
  refine SoG.bind ha he s e q fun v lh1 F1 ρ1 H2 u e1 g1 p1 s2 hv => ⟨Nat.le_of_ble_eq_true rfl, fun a ha => ?_⟩
  split at e1
  · rename_i d
    split at e1
    · rename_i hb
      cases e1
      refine ⟨a, u, rfl, upd_same, fmV_of hv hb, fun dx hx hn => ⟨rfl, dx, [(f, u)], upd_same, ?_, ?_, _, rfl, fun a2 h2 => ?_⟩⟩
      · rw [upd_ne hn, upd_same]
      · rw [upd_ne hn] at hx; exact hx
      · rw [upd_ne hn] at hx
        have e : upd (del (upd (upd (upd H2 a (exo a (He.ga K c) none)) dx (exd dx [(f, u)])) a (exo a (He.ga K c) (some dx))) a) dx (.xd [(f, u)]) = upd H2 dx (.xd [(f, u)]) := by
          funext z
          by_cases hz : z = dx
          · rw [hz, upd_same, upd_same]
          · rw [upd_ne hz, upd_ne hz]
            by_cases hza : z = a
            · rw [hza, del_same, ha]
            · rw [del_ne hza, upd_ne hza, upd_ne hz, upd_ne hza]
        rw [e] at h2 ⊢
        have g3 := s2.layG (u := .xd [(f, u)]) hx
        have s3 := s2.lay (u := .xd [(f, u)]) hx
        have xd : Xd K (upd F1 dx (.xd [(f, u)])) (c, d) (some dx) := by
          unfold Xd
          rw [hf]
          exact ⟨dx, u, rfl, upd_same, hv.gr g3⟩
        have g4 := s3.layG (u := ExK (He.ga K c) (some dx) a2) h2
        exact (q _ _ _ (g1.tr (g3.tr g4)) p1 (s3.lay h2)).1 _ _ rfl ⟨a2, some dx, rfl, upd_same, xd.gr g4⟩
    · cases e1
  · cases e1
theorem so_xat {cl ts : List Str} {f : Str} (X : XFc K cl ts) (ha : SoE K W te ma) : SoE K W (tXat K f te) (mOp1 (gXat cl f) ma) := so_op1 (r := fun x H1 Q => ∃ (a C dd : Addr) (fs : List (Str × V)) (v : V), x = .ref a ∧ H1 a = some (ExK C (some dd) a) ∧ H1 dd = some (.xd fs) ∧ xfB K C = true ∧ PySem.W.findIn K (.ref C) f = some none ∧ fs.lookup f = some v ∧ Q v H1) (fun F ρ lh cs H x a z lh' Q s hx e q => by
  unfold gXat at e
  split at e
  · rename_i x1
    split at e
    · rename_i hc
      cases e
      obtain ⟨a, dd, rfl, ha, hxd⟩ := hx
      unfold Xd at hxd
      rw [hc.2] at hxd
      obtain ⟨z, w, rfl, hz, hw⟩ := hxd
      obtain ⟨y1, y2⟩ := X.fl _ hc.1 f hc.2
      exact ⟨a, He.ga K x1.1, z, [(f, w)], w, rfl, s.fr _ _ ha, s.fr _ _ hz, y1, y2, by simp [List.lookup], q.d s hw⟩
    · cases e
  · cases e) ha
end
section
variable {X : Cx} {W : WX} {e : Expr} {ma : ME} {n : Str} {p pos : Pos}
theorem u_exV (x : ExD X.K X.mg n) (hg : Gl X n) (hf : fld n = none) (he : UE X W e ma) (hdb : (n == ("__debug__" : Str)) = false := by decide) (hs : starEach [e] X.env = (false, eval e X.env) :: starEach [] X.env := by rfl) :
    UE X W (.Call (.Name n p) [e] [] pos) (mExV n ma) := ue_of (pe_excV x hg he hdb hs) (so_exV hf sog)
theorem u_exF {f : Str} (hex : X.ex = []) (F : OkI X.prog X.w X.K X.mg X.base n f) (hr : Room 2 X.A) (hg : Gl X n) (hf : fld n = some f) (he : UE X W e ma) (hdb : (n == ("__debug__" : Str)) = false := by decide)
    (hs : starEach [e] X.env = (false, eval e X.env) :: starEach [] X.env := by rfl) (hpl : (backTo pos (starEach [] X.env)).any (·.1) = false := by rfl) : UE X W (.Call (.Name n p) [e] [] pos) (mExF n ma) := by
  obtain ⟨fd, F1, hb⟩ := F.ex
  exact ue_of (pe_ofMk hex (pmk_oex F.T.T F.T.iC F.T.tI F1 hr hb .nil pass0 hg F.gm (pa_cons he pa_nil (hs := hs)) hdb hs hpl)) (so_exF hf sog)
theorem u_xat {cl ts : List Str} {f : Str} (XC : XFc X.K cl ts) (he : UE X W e ma) (hb : attributeBase e f X.env (eval e X.env) = eval e X.env := by rfl) : UE X W (.Attribute e f pos) (mOp1 (gXat cl f) ma) := ue_of (pe_xat he hb) (so_xat XC sog)
end
end Bw

namespace Bw
open PySem L2
/-! texts cut, read as numbers; words of lists: found, counted -/
def rCntV (K : PySem.W.Frag) : V → List V → Hp → VK → Prop := fun x xs H Q => ∃ (a : Addr) (ys : List V) (y : V), x = V.ref a ∧ xs = [y] ∧ SqL K H a ys ∧ flatV y = true ∧ ys.all flatV = true ∧ Q (.int (ys.countP (fun z => eqV z y) : Nat)) H
theorem cnt_eqU {x : V} : ∀ {xs : List V} {us : List Value}, Vals xs us → xs.all flatV = true → us.countP (eqU x) = xs.countP fun y => eqV y x
  | _, _, .nil, _ => rfl
  | y :: xs, u :: us, .cons r t, f => by
    rw [List.all_cons, Bool.and_eq_true] at f
    rw [List.countP_cons, List.countP_cons, eqU_of r f.1, cnt_eqU t f.2]
open PySem.Spec PyProof.Rows in
theorem mt_lcountU {X : Cx} : MtR X "list.count" (rCntV X.K) := by
  intro pins s σ H x xs v us Q I rx rxs h
  obtain ⟨a, ys, y, rfl, rfl, hs, fy, fys, q⟩ := h
  cases rx
  cases rxs with
  | cons ry rt =>
    rename_i uy ut
    cases rt
    obtain ⟨its, rv, ⟨⟨cls, dd, data, sl⟩, n, ho, hc, hdn, hd⟩, hlen⟩ := I.list hs
    simp only at hc hd
    subst hc hd
    refine call_meets PySem.F.slot_list_count ⟨_, ho, rfl⟩ PySem.F.entry_list_count (PySem.F.args_list_count_2 _ _)
      (SeqAt.list_countAt a its.toArray n dd sl uy (eqU y)) ⟨ho, fun u' hu' => mem_eqAt ry fy rv fys u' (by simpa using hu'), ?_⟩
    have ec : its.toArray.toList.countP (eqU y) = ys.countP fun z => eqV z y := cnt_eqU rv fys
    refine ⟨.int (ys.countP (fun z => eqV z y) : Nat), H, I.tok _, ⟨s.toks, ?_⟩, q⟩
    show Value.int ((its.toArray.toList.countP (eqU y) : Nat) : Int) s.toks = _
    rw [ec]
/-- the texts of a list -/
def txtsO (lh : LH) (x : MV) : Option (List Str) := match rdA lh x with
  | some (.list ds) => sAll ds
  | _ => none
def gSplit (h : Bool) : MV → GN := fun x as lh => match x, as with
  | .d (.str a), [.d (.str b)] => if (b.length == 0) = false ∧ a.length + 2 ≤ 100000 then newL h ((Txt.split a b).map fun y => .d (.str y)) lh else none
  | _, _ => none
def gIdx : MV → GN := fun x as lh => match txtsO lh x, as with
  | some ss, [.d (.str b)] => (idxM ss b).map fun j => (.d (.int j), lh)
  | _, _ => none
def gCnt : MV → GN := fun x as lh => match txtsO lh x, as with
  | some ss, [.d (.str b)] => some (.d (.int (ss.count b : Nat)), lh)
  | _, _ => none
def gIntS : GN := fun as lh => match as with
  | [.d (.str a)] => if a.length ≤ 640 then (PySem.intText? a).map fun n => (.d (.int n), lh) else none
  | _ => none
def gInt : GN := altN (puN intP) gIntS
def gUpper : MV → GN := fun x as lh => match x, as with
  | .d (.str a), [] => if a.length ≤ 100000 then some (.d (.str (Txt.upper a)), lh) else none
  | _, _ => none
section
variable {K : PySem.W.Frag} {h : Bool}
theorem txtsO_ok {F : Hp} {ρ : List Addr} {lh : LH} {cs : Cs} {H : Hp} {v : V} {x : MV} {ss : List Str} (s : Sm K F ρ lh cs H) (hx : Vr K F ρ v x) (e : txtsO lh x = some ss) : ∃ a, v = .ref a ∧ SqL K H a (ss.map V.str) := by
  unfold txtsO at e
  split at e
  · rename_i ds hd
    have k := rd_ok s 8 hx hd
    rw [sAll_eq e] at k
    obtain ⟨a, us, rfl, hq, hd2⟩ := k.toLst
    obtain rfl := Dts.strs hd2
    exact ⟨a, rfl, hq⟩
  · cases e
theorem one_str {F : Hp} {ρ : List Addr} {xs : List V} {b : Str} (h : Vrs K F ρ xs [.d (.str b)]) : xs = [.str b] := by
  cases h with
  | cons h t => cases t; cases (show Dt K F _ (.str b) from h).toStr; rfl
theorem rel_split : RelM K (fun x xs H Q => ∃ a b, x = .str a ∧ xs = [.str b] ∧ (b.length == 0) = false ∧ a.length + 2 ≤ sizeLine ∧ rNewStrs (Txt.split a b) H Q) (gSplit h) := fun F ρ lh cs H x a xs as z lh' Q s hx hxs e q => by
  unfold gSplit at e
  split at e
  · rename_i a b
    split at e
    · rename_i hb
      obtain rfl := one_str hxs
      cases (show Dt K F x (.str a) from hx).toStr
      exact ⟨a, b, rfl, rfl, hb.1, by rw [sizeLine_eq]; omega, (newL_ok s (vrs_strs _) e q).2⟩
    · cases e
  · cases e
theorem rel_idx : RelM K (rIndex K) gIdx := fun F ρ lh cs H x a xs as z lh' Q s hx hxs e q => by
  unfold gIdx at e
  split at e
  · rename_i ss b hs
    obtain ⟨p, rfl, hq⟩ := txtsO_ok s hx hs
    obtain rfl := one_str hxs
    obtain ⟨j, hj, hz⟩ := Option.map_eq_some_iff.mp e
    cases hz
    unfold idxM at hj
    rw [Option.map_eq_some_iff] at hj
    obtain ⟨n, hn, rfl⟩ := hj
    rw [List.findIdx?_eq_some_iff_getElem] at hn
    obtain ⟨hlt, hxb, hno⟩ := hn
    refine ⟨p, ss.map V.str, .str b, n, .str b, rfl, rfl, hq, rfl, flatS ss, ?_, by simp [eqV], fun m z' hm hz => ?_, q.sc s .rfl rfl (.int (K := K) (F := F) _)⟩
    · rw [List.getElem?_map, List.getElem?_eq_getElem hlt]
      simp only [Option.map_some, Option.some.injEq]
      have : ss[n] = b := by simpa using hxb
      rw [this]
    · rw [List.getElem?_map, List.getElem?_eq_getElem (by omega)] at hz
      simp only [Option.map_some, Option.some.injEq] at hz
      subst hz
      have := hno m hm
      simpa [eqV] using this
  · cases e
theorem cntS (ss : List Str) (b : Str) : (ss.map V.str).countP (fun z => eqV z (.str b)) = ss.count b := by
  rw [List.countP_map, List.count]
  congr 1
theorem rel_cnt : RelM K (rCntV K) gCnt := fun F ρ lh cs H x a xs as z lh' Q s hx hxs e q => by
  unfold gCnt at e
  split at e
  · rename_i ss b hs
    obtain ⟨p, rfl, hq⟩ := txtsO_ok s hx hs
    obtain rfl := one_str hxs
    cases e
    refine ⟨p, ss.map V.str, .str b, rfl, rfl, hq, rfl, flatS ss, ?_⟩
    rw [cntS]
    exact q.sc s .rfl rfl (.int (K := K) (F := F) _)
  · cases e
theorem rel_intS : RelN K (fun xs H Q => ∃ a n, xs = [.str a] ∧ PySem.intText? a = some n ∧ a.length ≤ 640 ∧ Q (.int n) H) gIntS := fun F ρ lh cs H xs as z lh' Q s hxs e q => by
  unfold gIntS at e
  split at e
  · rename_i a
    split at e
    · rename_i hl
      obtain ⟨n, hn, hz⟩ := Option.map_eq_some_iff.mp e
      cases hz
      obtain rfl := one_str hxs
      exact ⟨a, n, rfl, hn, hl, q.sc s .rfl rfl (.int (K := K) (F := F) _)⟩
    · cases e
  · cases e
theorem rel_upper : RelM K (fun x xs H Q => ∃ a, x = .str a ∧ xs = [] ∧ a.length ≤ 5592405 ∧ Q (.str (Txt.upper a)) H) gUpper := fun F ρ lh cs H x a xs as z lh' Q s hx hxs e q => by
  unfold gUpper at e
  split at e
  · rename_i a
    split at e
    · rename_i hl
      cases e
      cases hxs
      cases (show Dt K F x (.str a) from hx).toStr
      exact ⟨a, rfl, rfl, by omega, q.sc s .rfl rfl (.str (K := K) (F := F) _)⟩
    · cases e
  · cases e
end
end Bw

namespace Bw
open PySem L2
def top (i : Nat) : Stmt := PySem.Challenge.pw_baycart_k18_plans_read.main.body.getD i (.Pass ⟨0, 0, 0, 0⟩)
abbrev xcl : List Str := ["NoText"]
abbrev xts : List Str := []
abbrev xhs : List Str := []

abbrev s_draws : Stmt := (top 19)
def f_draws_b31 (k_2 : Int) (great_14 : Bool) : (Int × Int × (List Int)) → (Int × Int) → Option (Int × Int × (List Int)) := fun (number_34, mixed_35, found_36) (turn_37, size_38) => (if great_14 = true then (((modM number_34 size_38)).bind fun x68 => ((appM found_36 x68)).bind fun found_70 => (((fdivM number_34 size_38)).bind fun x76 => some (x76, mixed_35, found_70))) else (((mulM mixed_35 mixed_35)).bind fun x86 => letM (((x86 + ((104729 : Int) * (k_2 + turn_37))) + (11 : Int)) % (2147483587 : Int)) fun mixed_92 => (((modM (mixed_92 / (16 : Int)) size_38)).bind fun x94 => ((appM found_36 x94)).bind fun found_96 => some (number_34, mixed_92, found_96))))
def f_draws : (Int × Int × (List Int)) → Option (List Int) := fun (cell_here_1, k_2, sizes_3) => (letM (absI cell_here_1) fun number_8 => (letM (decide ((1000000000000000000 : Int) ≤ number_8)) fun great_14 => (letM (((((number_8 % (1000000007 : Int)) + ((7919 : Int) * k_2)) + (1 : Int)) * (48271 : Int)) % (2147483629 : Int)) fun mixed_20 => (letM ([] : (List Int)) fun found_26 => ((enumM sizes_3).foldlM (f_draws_b31 k_2 great_14) (number_8, mixed_20, found_26)).bind fun (number_108, mixed_109, found_110) => some found_110))))
abbrev A_draws : (Int × Int × (List Int)) → List PyData := fun x => [eI x.1, eI x.2.1, (eL eI) x.2.2]
abbrev N_draws : List Str := ["_law_cell_here", "_law_k", "_law_sizes", "_law_number", "_law_great", "_law_mixed", "_law_found", "_law_turn", "_law_size"]
abbrev sp_draws (K : PySem.W.Frag) : Sp := spP K A_draws (eL eI) f_draws
def t_draws (K : PySem.W.Frag) : TS := (tSeq (tAsg (tCB rAbs (tCons (tVar 0) tNil)) (gName 3)) (tSeq (tAsg (tOp (rI0 fun i j => .bl (decide (j ≤ i))) (tVar 3) (tOp (rI CPow fun i j => .int (i ^ j.toNat)) (tC (.int 10)) (tC (.int 18)))) (gName 4)) (tSeq (tAsg (tOp (rI (fun _ j => 0 < j) fun i j => .int (i % j)) (tOp (rI CMul fun i j => .int (i * j)) (tOp (rI0 fun i j => .int (i + j)) (tOp (rI0 fun i j => .int (i + j)) (tOp (rI (fun _ j => 0 < j) fun i j => .int (i % j)) (tVar 3) (tC (.int 1000000007))) (tOp (rI CMul fun i j => .int (i * j)) (tC (.int 7919)) (tVar 1))) (tC (.int 1))) (tC (.int 48271))) (tC (.int 2147483629))) (gName 5)) (tSeq (tAsg (tLst tNil) (gName 6)) (tSeq (tFor (iEnum K (tCons (tVar 2) tNil)) (gTup K 2 (gCons (gName 7) (gCons (gName 8) gNil))) (tIfS (tB (tVar 4)) (tSeq (tDrop (tBM K "list" rAppend (tVar 6) (tCons (tOp (rI (fun _ j => 0 < j) fun i j => .int (i % j)) (tVar 3) (tVar 8)) tNil))) (tAsg (tOp (rI CDiv fun i j => .int (i / j)) (tVar 3) (tVar 8)) (gName 3))) (tSeq (tAsg (tOp (rI (fun _ j => 0 < j) fun i j => .int (i % j)) (tOp (rI0 fun i j => .int (i + j)) (tOp (rI0 fun i j => .int (i + j)) (tOp (rI CMul fun i j => .int (i * j)) (tVar 5) (tVar 5)) (tOp (rI CMul fun i j => .int (i * j)) (tC (.int 104729)) (tOp (rI0 fun i j => .int (i + j)) (tVar 1) (tVar 7)))) (tC (.int 11))) (tC (.int 2147483587))) (gName 5)) (tDrop (tBM K "list" rAppend (tVar 6) (tCons (tOp (rI (fun _ j => 0 < j) fun i j => .int (i % j)) (tOp (rI CDiv fun i j => .int (i / j)) (tVar 5) (tC (.int 16))) (tVar 8)) tNil)))))) (tRet (tVar 6)))))))
theorem w_draws {K : PySem.W.Frag} (vs : List V) (H : Hp) (Q : VK) (E : XK) (h : sp_draws K vs H Q E) : t_draws K { nx := fun _ H' => Q .non H', rt := Q } (start N_draws vs) H := by
  obtain ⟨F0, cs, ⟨cell_here_1, k_2, sizes_3⟩, y, h, hS0, m, q⟩ := h
  obtain ⟨a0, _, rfl, ha0, h⟩ := Dts.hd h
  obtain ⟨a1, _, rfl, ha1, h⟩ := Dts.hd h
  obtain ⟨a2, _, rfl, ha2, h⟩ := Dts.hd h
  obtain rfl := Dts.no h
  obtain rfl := Dt.toInt ha0
  obtain rfl := Dt.toInt ha1
  unfold f_draws at m
  try dsimp only at m
  unfold t_draws
  refine go (σ' := [some (.int cell_here_1), some (.int k_2), some a2, none, none, none, none, none, none]) rfl ?_
  obtain ⟨number_8, k9, m⟩ := lt m
  refine s_setV (K := K) (d := eI number_8) (i := 3) (σ' := [some (.int cell_here_1), some (.int k_2), some a2, some (.int number_8), none, none, none, none, none]) (fun _ _ h => Dt.toInt h) hS0 (d_is (d_abs (a_cons (d_var rfl (.int _)) a_nil)) (congrArg eI k9)) rfl (fun F4 H5 g6 hS7 => ?_)
  obtain ⟨great_14, k15, m⟩ := lt m
  refine s_setV (K := K) (d := eB great_14) (i := 4) (σ' := [some (.int cell_here_1), some (.int k_2), some a2, some (.int number_8), some (.bl great_14), none, none, none, none]) (fun _ _ h => Dt.toBl h) hS7 (d_is (d_ge (d_var rfl (.int _)) (d_is (e := PyData.int 1000000000000000000) (d_powC d_int d_int ⟨by decide, by decide, by decide⟩) (congrArg PyData.int (by decide)))) (congrArg eB k15)) rfl (fun F10 H11 g12 hS13 => ?_)
  obtain ⟨mixed_20, k21, m⟩ := lt m
  refine s_setV (K := K) (d := eI mixed_20) (i := 5) (σ' := [some (.int cell_here_1), some (.int k_2), some a2, some (.int number_8), some (.bl great_14), some (.int mixed_20), none, none, none]) (fun _ _ h => Dt.toInt h) hS13 (d_is (d_modC (d_mulC (d_add (d_add (d_modC (d_var rfl (.int _)) d_int (by decide)) (d_mulC d_int (d_var rfl (.int _)) (.inl ⟨by decide, by decide⟩))) d_int) d_int (.inr ⟨by decide, by decide⟩)) d_int (by decide)) (congrArg eI k21)) rfl (fun F16 H17 g18 hS19 => ?_)
  obtain ⟨found_26, k27, m⟩ := lt m
  refine s_setC (K := K) (ds := found_26.map eI) (i := 6) (σ' := fun p28 => [some (.int cell_here_1), some (.int k_2), some a2, some (.int number_8), some (.bl great_14), some (.int mixed_20), some (.ref p28), none, none]) hS19 (c_is (c_lst a_nil (Nat.le_of_ble_eq_true rfl)) (congrArg (List.map eI) k27)) (fun _ => rfl) (fun p28 us29 F22 H23 g24 hS25 hu30 => ?_)
  obtain rfl := Dts.ints hu30
  obtain ⟨⟨number_108, mixed_109, found_110⟩, k33, m⟩ := bnd m
  try dsimp only at m
  refine s_for (K := K) (xs := (enumM sizes_3)) (en := (eT2 eI eI)) (body := (f_draws_b31 k_2 great_14)) (s0 := (number_8, mixed_20, found_26)) (r := (number_108, mixed_109, found_110)) (fun (a : Int × Int × (List Int)) F σ c => ∃ (j7 : Option V) (j8 : Option V), σ = [some (.int cell_here_1), some (.int k_2), some a2, some (.int a.1), some (.bl great_14), some (.int a.2.1), some (.ref p28), j7, j8] ∧ (p28, .lst (a.2.2.map V.int)) :: cs = c) hS25 (i_enum (en := eI) (a_cons (d_var rfl (Dt.gr (Gr.tr g6 (Gr.tr g12 (Gr.tr g18 g24))) ha2)) a_nil)) (fun _ _ => ⟨_, _, rfl, rfl⟩) k33 ?_ ?_
  · rintro ⟨turn_37, size_38⟩ ⟨number_34, mixed_35, found_36⟩ b47 F39 F40 σ53 c54 H41 v46 N48 g42 ⟨u56, u57, rfl, rfl⟩ g43 hS44 hv45 m55 hN50
    obtain ⟨p58, w60, w61, rfl, hT59, hw62, hw63⟩ := u2 hv45
    obtain rfl := Dt.toInt hw62
    obtain rfl := Dt.toInt hw63
    refine tg (σ' := [some (.int cell_here_1), some (.int k_2), some a2, some (.int number_34), some (.bl great_14), some (.int mixed_35), some (.ref p28), some (.int turn_37), some (.int size_38)]) (fun Q hq => ⟨p58, [_, _], rfl, gr_T hS44.fr hT59, rfl, _, _, rfl, _, _, rfl, rfl, hq⟩) ?_
    unfold f_draws_b31 at m55
    try dsimp only at m55
    refine s_if (b := great_14) hS44 (t_B (K := K) (d_var rfl (.bl _))) (fun hc F64 H65 g66 hS67 => ?_) (fun hc F82 H83 g84 hS85 => ?_)
    · rw [if_pos hc] at m55
      obtain ⟨x68, k69, m55⟩ := bnd m55
      obtain ⟨found_70, k71, m55⟩ := bnd m55
      refine s_appFV (K := K) (k1 := []) (x := x68) (l1 := []) (p := p28) (vf := V.int) (en := eI) (fun _ _ _ h => Dt.toInt h) hS67 (vp_var rfl) (d_mod (d_var rfl (.int _)) (d_var rfl (.int _)) k69) k71 (fun F72 H73 g74 hS75 => ?_)
      obtain ⟨x76, k77, m55⟩ := bnd m55
      refine s_setV (K := K) (d := eI x76) (i := 3) (σ' := [some (.int cell_here_1), some (.int k_2), some a2, some (.int x76), some (.bl great_14), some (.int mixed_35), some (.ref p28), some (.int turn_37), some (.int size_38)]) (fun _ _ h => Dt.toInt h) hS75 (d_fdiv (d_var rfl (.int _)) (d_var rfl (.int _)) k77) rfl (fun F78 H79 g80 hS81 => ?_)
      obtain rfl := sm m55
      exact hN50 _ _ _ _ (Gr.tr g66 (Gr.tr g74 g80)) hS81 ⟨_, _, rfl, rfl⟩
    · rw [if_neg (bf hc)] at m55
      obtain ⟨x86, k87, m55⟩ := bnd m55
      obtain ⟨mixed_92, k93, m55⟩ := lt m55
      refine s_setV (K := K) (d := eI mixed_92) (i := 5) (σ' := [some (.int cell_here_1), some (.int k_2), some a2, some (.int number_34), some (.bl great_14), some (.int mixed_92), some (.ref p28), some (.int turn_37), some (.int size_38)]) (fun _ _ h => Dt.toInt h) hS85 (d_is (d_modC (d_add (d_add (d_mul (d_var rfl (.int _)) (d_var rfl (.int _)) k87) (d_mulC d_int (d_add (d_var rfl (.int _)) (d_var rfl (.int _))) (.inl ⟨by decide, by decide⟩))) d_int) d_int (by decide)) (congrArg eI k93)) rfl (fun F88 H89 g90 hS91 => ?_)
      obtain ⟨x94, k95, m55⟩ := bnd m55
      obtain ⟨found_96, k97, m55⟩ := bnd m55
      refine s_appFV (K := K) (k1 := []) (x := x94) (l1 := []) (p := p28) (vf := V.int) (en := eI) (fun _ _ _ h => Dt.toInt h) hS91 (vp_var rfl) (d_mod (d_fdivC (d_var rfl (.int _)) d_int ⟨by decide, by decide⟩) (d_var rfl (.int _)) k95) k97 (fun F98 H99 g100 hS101 => ?_)
      obtain rfl := sm m55
      exact hN50 _ _ _ _ (Gr.tr g84 (Gr.tr g90 g100)) hS101 ⟨_, _, rfl, rfl⟩
  · rintro F102 σ107 c106 H103 g104 hS105 ⟨u111, u112, rfl, rfl⟩
    have hS113 := Sta.frozeAt (l1 := []) hS105
    refine s_ret (K := K) (d := (eL eI) found_110) hS113 (d_var rfl (Dt.lst (.inl (.inl upd_same)) (Dts.gr (Gr.new (Sta.freeAt (l1 := []) hS105)) (Dts.of_ints _)))) (fun v118 F114 H115 g116 hS117 hv119 => ?_)
    obtain rfl := sm m
    exact q _ _ _ (Gr.tr g6 (Gr.tr g12 (Gr.tr g18 (Gr.tr g24 (Gr.tr g104 (Gr.tr (Gr.new (Sta.freeAt (l1 := []) hS105)) g116)))))) hS117 hv119
theorem sc_draws : FnScope N_draws ["_law_cell_here", "_law_k", "_law_sizes"] (defScope s_draws) := ⟨rfl, rfl, rfl, by decide +kernel, rfl, by decide +kernel, by decide +kernel⟩
theorem ok_draws {P : Program} {w : World} {K : PySem.W.Frag} {mg : Str → Option Value} {base : Heap} (hF : Df K mg "_law_draws" s_draws) (m_abs : mg "abs" = none) (m_enumerate : mg "enumerate" = none) : Ok P w K mg base 1 "_law_draws" ["_law_cell_here", "_law_k", "_law_sizes"] (sp_draws K) := by
  obtain ⟨⟨fd, F⟩, gm⟩ := hF
  refine ⟨⟨fd, F.ok sc_draws (fun vs H Q E h => ?_) (fun cdv A outer s H vs Q E hr h => ⟨t_draws K, PSs.nox ?_, w_draws vs H Q E h⟩), F.bindsN fun _ _ _ _ _ _ us hl => match us, hl with | [_, _, _], _ => rfl, lk_of F⟩, F.kp, gm⟩
  · obtain ⟨F0, cs, x, y, h, _⟩ := h; exact Dts.len h
  · exact (pss_cons (ps_set (i := 3) sc_draws.nd rfl (Or.inl rfl) (pe_callB cr_abs (by rfl) m_abs (by decide +kernel) (pa_cons (pv 0) pa_nil))) (pss_cons (ps_set (i := 4) sc_draws.nd rfl (Or.inl rfl) (pe_cmpR op_ge (pv 3) (pe_op op_pow pe_int pe_int) (nomark _))) (pss_cons (ps_set (i := 5) sc_draws.nd rfl (Or.inl rfl) (pe_op op_mod (pe_op op_mul (pe_op op_add (pe_op op_add (pe_op op_mod (pv 3) pe_int) (pe_op op_mul pe_int (pv 1))) pe_int) pe_int) pe_int)) (pss_cons (ps_set (i := 6) sc_draws.nd rfl (Or.inl rfl) (pe_lst pa_nil)) (pss_cons (ps_for PassesOwn.never rfl (pi_enum (by rfl) m_enumerate (pa_cons (pv 2) pa_nil)) (pg_tup rfl (pgs_cons (pg_name (i := 7) sc_draws.nd rfl (Or.inl rfl)) (pgs_cons (pg_name (i := 8) sc_draws.nd rfl (Or.inl rfl)) pgs_nil))) (pss_one (ps_if (pt_val (pv 4)) (pss_cons (ps_expr (pe_bm PySem.F.plainAttrs_list PySem.F.slot_list_append PySem.F.type_list_append mt_append (pv 6) (pa_cons (pe_op op_mod (pv 3) (pv 8)) pa_nil))) (pss_one (ps_set (i := 3) sc_draws.nd rfl (Or.inl rfl) (pe_op op_fdiv (pv 3) (pv 8))))) (pss_cons (ps_set (i := 5) sc_draws.nd rfl (Or.inl rfl) (pe_op op_mod (pe_op op_add (pe_op op_add (pe_op op_mul (pv 5) (pv 5)) (pe_op op_mul pe_int (pe_op op_add (pv 1) (pv 7)))) pe_int) pe_int)) (pss_one (ps_expr (pe_bm PySem.F.plainAttrs_list PySem.F.slot_list_append PySem.F.type_list_append mt_append (pv 6) (pa_cons (pe_op op_mod (pe_op op_fdiv (pv 5) pe_int) (pv 8)) pa_nil)))))))) (pss_one (ps_ret (pv 6))))))))
abbrev s_cell : Stmt := (top 18)
def f_cell : ((List Int) × Int) → Option Int := fun (script_1, k_2) => (if (decide (k_2 < (script_1.length : Int))) = true then (((atI script_1 k_2)).bind fun x7 => some x7) else some (0 : Int))
abbrev A_cell : ((List Int) × Int) → List PyData := fun x => [(eL eI) x.1, eI x.2]
abbrev N_cell : List Str := ["_law_script", "_law_k"]
abbrev sp_cell (K : PySem.W.Frag) : Sp := spP K A_cell eI f_cell
def t_cell (K : PySem.W.Frag) : TS := (tSeq (tIfS (tTest (tOp (rI0 fun i j => .bl (decide (i < j))) (tVar 1) (tCB (rLenL K) (tCons (tVar 0) tNil)))) (tRet (tOp (rIxL K) (tVar 0) (tVar 1))) tNext) (tRet (tC (.int 0))))
theorem w_cell {K : PySem.W.Frag} (vs : List V) (H : Hp) (Q : VK) (E : XK) (h : sp_cell K vs H Q E) : t_cell K { nx := fun _ H' => Q .non H', rt := Q } (start N_cell vs) H := by
  obtain ⟨F0, cs, ⟨script_1, k_2⟩, y, h, hS0, m, q⟩ := h
  obtain ⟨a0, _, rfl, ha0, h⟩ := Dts.hd h
  obtain ⟨a1, _, rfl, ha1, h⟩ := Dts.hd h
  obtain rfl := Dts.no h
  obtain rfl := Dt.toInt ha1
  unfold f_cell at m
  try dsimp only at m
  unfold t_cell
  refine go (σ' := [some a0, some (.int k_2)]) rfl ?_
  refine s_if (b := (decide (k_2 < (script_1.length : Int)))) hS0 (t_test (K := K) (d_lt (d_var rfl (.int _)) (d_len (e := eI) (a_cons (d_var rfl ha0) a_nil)))) (fun hc F3 H4 g5 hS6 => ?_) (fun hc F15 H16 g17 hS18 => ?_)
  · rw [if_pos hc] at m
    obtain ⟨x7, k8, m⟩ := bnd m
    refine s_ret (K := K) (d := eI x7) hS6 (d_ix (e := eI) (d_var rfl (Dt.gr g5 ha0)) (d_var rfl (.int _)) k8) (fun v13 F9 H10 g11 hS12 hv14 => ?_)
    obtain rfl := sm m
    exact q _ _ _ (Gr.tr g5 g11) hS12 hv14
  · rw [if_neg (bf hc)] at m
    refine nxt ?_
    refine s_ret (K := K) (d := eI (0 : Int)) hS18 d_int (fun v23 F19 H20 g21 hS22 hv24 => ?_)
    obtain rfl := sm m
    exact q _ _ _ (Gr.tr g17 g21) hS22 hv24
theorem sc_cell : FnScope N_cell ["_law_script", "_law_k"] (defScope s_cell) := ⟨rfl, rfl, rfl, by decide +kernel, rfl, by decide +kernel, by decide +kernel⟩
theorem ok_cell {P : Program} {w : World} {K : PySem.W.Frag} {mg : Str → Option Value} {base : Heap} (hF : Df K mg "_law_cell" s_cell) (m_len : mg "len" = none) : Ok P w K mg base 1 "_law_cell" ["_law_script", "_law_k"] (sp_cell K) := by
  obtain ⟨⟨fd, F⟩, gm⟩ := hF
  refine ⟨⟨fd, F.ok sc_cell (fun vs H Q E h => ?_) (fun cdv A outer s H vs Q E hr h => ⟨t_cell K, PSs.nox ?_, w_cell vs H Q E h⟩), F.bindsN fun _ _ _ _ _ _ us hl => match us, hl with | [_, _], _ => rfl, lk_of F⟩, F.kp, gm⟩
  · obtain ⟨F0, cs, x, y, h, _⟩ := h; exact Dts.len h
  · exact (pss_cons (ps_if (pt_cmpR op_lt (pv 1) (pe_callB cr_lenL (by rfl) m_len PySem.boot_len (pa_cons (pv 0) pa_nil)) (nomark _)) (pss_one (ps_ret (pe_ix ix_list (pv 0) (pv 1) (fun _ _ => rfl)))) pss_nil) (pss_one (ps_ret pe_int)))
abbrev s_is_name : Stmt := (top 8)
def f_is_name : Str → Option Bool := fun thing_1 => (((if (!true) = true then some true else (((lenS thing_1)).bind fun x2 => some (!(decide ((1 : Int) ≤ x2) && decide (x2 ≤ (8 : Int))))))).bind fun x4 => (if x4 = true then some false else (((mapC (fun sign_20 => (inS sign_20 ("abcdefghijklmnopqrstuvwxyz" : Str))) (signs thing_1))).bind fun x31 => some ((x31).all id))))
abbrev A_is_name : Str → List PyData := fun x => [eS x]
abbrev N_is_name : List Str := ["thing", "sign"]
abbrev sp_is_name (K : PySem.W.Frag) : Sp := spP K A_is_name eB f_is_name
def t_is_name (K : PySem.W.Frag) : TS := (tSeq (tIfS (tOr (tNot (tB (tCB (rIsi K) (tCons (tVar 0) (tCons (tC (.ty "str")) tNil))))) (tNot (tTest (tChain (rI0 fun i j => .bl (decide (i ≤ j))) (rI0 fun i j => .bl (decide (i ≤ j))) (tC (.int 1)) (tCB rLenS (tCons (tVar 0) tNil)) (tC (.int 8)))))) (tRet (tC (.bl false))) tNext) (tRet (tCB (rAll K) (tCons (tLc (iStr (tVar 0)) (gName 1) tYes (tOp rInS (tVar 1) (tC (.str "abcdefghijklmnopqrstuvwxyz"))) [1]) tNil))))
theorem w_is_name {K : PySem.W.Frag} (vs : List V) (H : Hp) (Q : VK) (E : XK) (h : sp_is_name K vs H Q E) : t_is_name K { nx := fun _ H' => Q .non H', rt := Q } (start N_is_name vs) H := by
  obtain ⟨F0, cs, thing_1, y, h, hS0, m, q⟩ := h
  obtain ⟨a0, _, rfl, ha0, h⟩ := Dts.hd h
  obtain rfl := Dts.no h
  obtain rfl := Dt.toStr ha0
  unfold f_is_name at m
  try dsimp only at m
  unfold t_is_name
  refine go (σ' := [some (.str thing_1), none]) rfl ?_
  obtain ⟨x4, k5, m⟩ := bnd m
  refine s_if (b := x4) hS0 (t_orM (r := x4) (t_not (t_B (K := K) (d_is (e := PyData.bool true) (d_isiD (c := "str") (by decide) (d_var rfl (.str _))) (congrArg PyData.bool (by rfl))))) (fun hc => by rw [if_neg (bf hc)] at k5; obtain ⟨x2, k3, k5⟩ := bnd k5; obtain rfl := sm k5; exact (t_not (t_test (K := K) (d_chain d_int (d_lenS (a_cons (d_var rfl (.str _)) a_nil) k3) d_int)))) (fun hc => by rw [if_pos hc] at k5; exact (sm k5).symm)) (fun hc F6 H7 g8 hS9 => ?_) (fun hc F16 H17 g18 hS19 => ?_)
  · rw [if_pos hc] at m
    refine s_ret (K := K) (d := eB false) hS9 d_bl (fun v14 F10 H11 g12 hS13 hv15 => ?_)
    obtain rfl := sm m
    exact q _ _ _ (Gr.tr g8 g12) hS13 hv15
  · rw [if_neg (bf hc)] at m
    refine nxt ?_
    obtain ⟨x31, k32, m⟩ := bnd m
    refine s_ret (K := K) (d := eB ((x31).all id)) hS19 (d_all (a_cons (EvC.dd (c_mapC (K := K) (f := (fun sign_20 => (inS sign_20 ("abcdefghijklmnopqrstuvwxyz" : Str)))) (em := eB) (i_str (d_var rfl (.str _))) k32 (fun sign_20 o27 v28 F21 p22 us23 g24 hv25 ho26 => by obtain rfl := Dt.toStr hv25; obtain rfl := sm ho26; exact ⟨[some (.str thing_1), some (.str sign_20)], fun H30 Q hS29 hq => (fun Q hq => hq) Q hq, rfl, t_yes, fun y hy => by obtain rfl := sm hy; exact (d_inS (d_var rfl (.str _)) d_str)⟩))) a_nil)) (fun v37 F33 H34 g35 hS36 hv38 => ?_)
    obtain rfl := sm m
    exact q _ _ _ (Gr.tr g18 g35) hS36 hv38
theorem sc_is_name : FnScope N_is_name ["thing"] (defScope s_is_name) := ⟨rfl, rfl, rfl, by decide +kernel, rfl, by decide +kernel, by decide +kernel⟩
theorem ok_is_name {P : Program} {w : World} {K : PySem.W.Frag} {mg : Str → Option Value} {base : Heap} (hF : Df K mg "is_name" s_is_name) (m_all : mg "all" = none) (m_isinstance : mg "isinstance" = none) (m_len : mg "len" = none) (m_str : mg "str" = none) (c_LETTERS : ∃ t, mg "LETTERS" = some (.str "abcdefghijklmnopqrstuvwxyz" t)) (c_LONGEST : ∃ t, mg "LONGEST" = some (.int 8 t)) : Ok P w K mg base 1 "is_name" ["thing"] (sp_is_name K) := by
  obtain ⟨_, c_LETTERS⟩ := c_LETTERS
  obtain ⟨_, c_LONGEST⟩ := c_LONGEST
  obtain ⟨⟨fd, F⟩, gm⟩ := hF
  refine ⟨⟨fd, F.ok sc_is_name (fun vs H Q E h => ?_) (fun cdv A outer s H vs Q E hr h => ⟨t_is_name K, PSs.nox ?_, w_is_name vs H Q E h⟩), F.bindsN fun _ _ _ _ _ _ us hl => match us, hl with | [_], _ => rfl, lk_of F⟩, F.kp, gm⟩
  · obtain ⟨F0, cs, x, y, h, _⟩ := h; exact Dts.len h
  · exact (pss_cons (ps_if (PW.pt (pw_or (pt_not (pt_val (pe_callB call_isi (by rfl) m_isinstance (by decide +kernel) (pa_cons (pv 0) (pa_cons (pe_bltn (v := .ty "str") (by rfl) m_str (by decide +kernel) rfl) pa_nil))))) (pw_or1 (pt_not (pt_chain op_le op_le pe_int (pe_callB cr_lenS (by rfl) m_len PySem.boot_len (pa_cons (pv 0) pa_nil)) (pe_glob (v := .int 8) (by rfl) c_LONGEST ⟨_, rfl⟩)))))) (pss_one (ps_ret pe_bl)) pss_nil) (pss_one (ps_ret (pe_callB (cr_all rfl) (by rfl) m_all (by decide +kernel) (pa_cons (pe_lc (own := [("sign", 1)]) (g := (gName 1)) (tt := tYes) (te := (tOp rInS (tVar 1) (tC (.str "abcdefghijklmnopqrstuvwxyz")))) (by rfl) sc_is_name.nd (pi_str (pv 0)) (blkOk_by (own := [("sign", 1)]) (N := N_is_name) (sc := defScope s_is_name) (by decide +kernel)) (fun _ _ _ _ _ => (pg_name (i := 1) sc_is_name.nd rfl (Or.inl rfl))) (fun _ _ _ _ _ => pts_nil) (fun _ _ _ _ _ => (pe_cmpR op_inR (pv 1) (pe_glob (v := .str "abcdefghijklmnopqrstuvwxyz") (by rfl) c_LETTERS ⟨_, rfl⟩) (by rfl)))) pa_nil)))))
def dec_draws : List PyData → Option (Int × Int × (List Int))
  | [a0, a1, a2] => (asI a0).bind fun x0 => (asI a1).bind fun x1 => ((asL asI) a2).bind fun x2 => some (x0, x1, x2)
  | _ => none
theorem decok_draws : DecOk A_draws dec_draws := fun ds x h => by
  unfold dec_draws at h; split at h
  · obtain ⟨x0, h0, h⟩ := Option.bind_eq_some_iff.mp h
    obtain ⟨x1, h1, h⟩ := Option.bind_eq_some_iff.mp h
    obtain ⟨x2, h2, h⟩ := Option.bind_eq_some_iff.mp h
    cases h
    rw [(show _ = _ from ck_I _ _ h0), (show _ = _ from ck_I _ _ h1), (show _ = _ from (ck_L ck_I) _ _ h2)]
  · cases h
def dec_cell : List PyData → Option ((List Int) × Int)
  | [a0, a1] => ((asL asI) a0).bind fun x0 => (asI a1).bind fun x1 => some (x0, x1)
  | _ => none
theorem decok_cell : DecOk A_cell dec_cell := fun ds x h => by
  unfold dec_cell at h; split at h
  · obtain ⟨x0, h0, h⟩ := Option.bind_eq_some_iff.mp h
    obtain ⟨x1, h1, h⟩ := Option.bind_eq_some_iff.mp h
    cases h
    rw [(show _ = _ from (ck_L ck_I) _ _ h0), (show _ = _ from ck_I _ _ h1)]
  · cases h
def dec_is_name : List PyData → Option Str
  | [a0] => (asS a0).bind fun x0 => some x0
  | _ => none
theorem decok_is_name : DecOk A_is_name dec_is_name := fun ds x h => by
  unfold dec_is_name at h; split at h
  · obtain ⟨x0, h0, h⟩ := Option.bind_eq_some_iff.mp h
    cases h
    rw [(show _ = _ from ck_S _ _ h0)]
  · cases h
abbrev s_u_deed_of : Stmt := (top 20)
abbrev N_u_deed_of : List Str := ["_law_cell_here", "_law_k", "_law_row", "_law_letters", "_law_words", "_law_names", "_law_j", "_law_number", "_law_name"]
def b_u_deed_of : MS := (mSeq (mAsg (mCT dec_draws (eL eI) f_draws (mCons (mVar 0) (mCons (mVar 1) (mCons (mLst false (mCons (mC (.int (3 : Int))) (mCons (mC (.int (16 : Int))) (mCons (mC (.int (5 : Int))) (mCons (mC (.int (5 : Int))) (mCons (mC (.int (1000003 : Int))) (mCons (mC (.int (4 : Int))) mNil))))))) mNil)))) (gNm 2)) (mSeq (mAsg (mC (.str "abcdefghijklmnopqrstuvwxyz")) (gNm 3)) (mSeq (mAsg (mLst false (mCons (mC (.str "go")) (mCons (mC (.str "swap")) (mCons (mC (.str "a")) (mCons (mC (.str "rooms")) (mCons (mC (.str "zzzzzzzz")) (mCons (mC (.str "b")) mNil))))))) (gNm 4)) (mSeq (mAsg (mLst true mNil) (gNm 5)) (mSeq (mFor (mRng1 (mOp2 (gAdd false) (mOp2 ixU (mVar 2) (mC (.int (2 : Int)))) (mOp2 ixU (mVar 2) (mC (.int (3 : Int)))))) (gNm 6) (mSeq (mAsg (mOp2 (gAdd false) (mOp2 (gFdiv) (mOp2 ixU (mVar 2) (mC (.int (4 : Int)))) (mOp2 ixU (mLst false (mCons (mC (.int (1 : Int))) (mCons (mC (.int (7 : Int))) (mCons (mC (.int (49 : Int))) (mCons (mC (.int (343 : Int))) (mCons (mC (.int (2401 : Int))) (mCons (mC (.int (11 : Int))) (mCons (mC (.int (121 : Int))) (mCons (mC (.int (1331 : Int))) mNil))))))))) (mOp2 (gMod) (mVar 6) (mC (.int (8 : Int)))))) (mVar 6)) (gNm 7)) (mSeq (mAsg (mOp2 (gMul false) (mOp2 ixU (mVar 3) (mOp2 (gMod) (mVar 7) (mC (.int (26 : Int))))) (mOp2 (gAdd false) (mC (.int (1 : Int))) (mOp2 (gMod) (mOp2 (gFdiv) (mVar 7) (mC (.int (26 : Int)))) (mC (.int (8 : Int)))))) (gNm 8)) (mDrop (mBM kdL gApp (mVar 5) (mCons (mOp2 ixU (mLst false (mCons (mVar 8) (mCons (mOp2 ixU (mVar 4) (mOp2 (gMod) (mVar 7) (mC (.int (6 : Int))))) mNil))) (mCB (puN intP) (mCons (mOp2 gEq (mOp2 ixU (mVar 2) (mC (.int (5 : Int)))) (mC (.int (1 : Int)))) mNil))) mNil)))))) (mSeq (mIfS (mTest (mOp2 gEq (mOp2 ixU (mVar 2) (mC (.int (0 : Int)))) (mC (.int (0 : Int))))) (mRet (mTup (mCons (mC (.str "go")) (mCons (mOp2 ixU (mVar 2) (mC (.int (1 : Int)))) mNil)))) mSkip) (mRet (mTup (mCons (mC (.str "swap")) (mCons (mSl false (mVar 5) mNoPart (mPart (mOp2 ixU (mVar 2) (mC (.int (2 : Int)))))) (mCons (mSl false (mVar 5) (mPart (mOp2 ixU (mVar 2) (mC (.int (2 : Int))))) mNoPart) mNil)))))))))))
def m_u_deed_of : List MV → LH → MR MV := mFn 2 7 b_u_deed_of
abbrev sp_u_deed_of (K : PySem.W.Frag) : Sp := spU K 2 m_u_deed_of
theorem sc_u_deed_of : FnScope N_u_deed_of ["_law_cell_here", "_law_k"] (defScope s_u_deed_of) := ⟨rfl, rfl, rfl, by decide +kernel, rfl, by decide +kernel, by decide +kernel⟩
theorem ok_u_deed_of {P : Program} {w : World} {K : PySem.W.Frag} {mg : Str → Option Value} {base : Heap} (hF : Df K mg "_law_deed_of" s_u_deed_of) (m_int : mg "int" = none) (m_range : mg "range" = none) (o_draws : Ok P w K mg base 1 "_law_draws" ["_law_cell_here", "_law_k", "_law_sizes"] (sp_draws K)) : OkX P w K mg base 2 "_law_deed_of" ["_law_cell_here", "_law_k"] (sp_u_deed_of K) := by
  obtain ⟨⟨_, G_draws, bd_draws, _⟩, kp_draws, gm_draws⟩ := o_draws
  obtain ⟨⟨fd, F⟩, gm⟩ := hF
  refine ⟨⟨fd, F.ok sc_u_deed_of (fun vs H Q E h => spU_len h) (fun cdv A outer s H vs Q E hr h => ⟨tGS K (WX0 E) b_u_deed_of, ?_, u_fn (n := 2) (k := 7) (N := N_u_deed_of) rfl h⟩), F.bindsN fun _ _ _ _ _ _ us hl => match us, hl with | [_, _], _ => rfl, lk_of F⟩, F.kp, gm⟩
  refine pss_tk (W := WX0 E) (takes_of (E := E) rfl rfl rfl rfl) fun tkE => ?_
  exact (show UB _ (WX0 E) _ b_u_deed_of from (u_bcons (u_set (j := 2) sc_u_deed_of.nd rfl (Or.inl rfl) (ue_of (pe_call G_draws (hr.mono (by decide)) (by rfl) gm_draws kp_draws bd_draws .nil pass0 (u_cons (ue_of (pv 0) so_var) (u_cons (ue_of (pv 1) so_var) (u_cons (u_lst (u_cons (ue_of pe_int (so_c fun _ => .int _)) (u_cons (ue_of pe_int (so_c fun _ => .int _)) (u_cons (ue_of pe_int (so_c fun _ => .int _)) (u_cons (ue_of pe_int (so_c fun _ => .int _)) (u_cons (ue_of pe_int (so_c fun _ => .int _)) (u_cons (ue_of pe_int (so_c fun _ => .int _)) u_nil))))))) u_nil)))) (so_ct decok_draws sog))) (u_bcons (u_set (j := 3) sc_u_deed_of.nd rfl (Or.inl rfl) (ue_of pe_str (so_c fun _ => .str _))) (u_bcons (u_set (j := 4) sc_u_deed_of.nd rfl (Or.inl rfl) (u_lst (u_cons (ue_of pe_str (so_c fun _ => .str _)) (u_cons (ue_of pe_str (so_c fun _ => .str _)) (u_cons (ue_of pe_str (so_c fun _ => .str _)) (u_cons (ue_of pe_str (so_c fun _ => .str _)) (u_cons (ue_of pe_str (so_c fun _ => .str _)) (u_cons (ue_of pe_str (so_c fun _ => .str _)) u_nil)))))))) (u_bcons (u_set (j := 5) sc_u_deed_of.nd rfl (Or.inl rfl) (u_lst u_nil)) (u_bcons (u_for (passes_of rfl) rfl (ui_of (pi_range1 (by rfl) m_range (pa_cons (u_op op_addU rel_add (u_ix (hu_of hr) (ue_of (pv 2) so_var) (ue_of pe_int (so_c fun _ => .int _)) (fun _ _ => rfl)) (u_ix (hu_of hr) (ue_of (pv 2) so_var) (ue_of pe_int (so_c fun _ => .int _)) (fun _ _ => rfl))) pa_nil)) (so_rng1 sog)) (pg_name (i := 6) sc_u_deed_of.nd rfl (Or.inl rfl)) sg_nm (u_bcons (u_set (j := 7) sc_u_deed_of.nd rfl (Or.inl rfl) (u_op op_addU rel_add (u_op op_fdiv rel_fdiv (u_ix (hu_of hr) (ue_of (pv 2) so_var) (ue_of pe_int (so_c fun _ => .int _)) (fun _ _ => rfl)) (u_ix (hu_of hr) (u_lst (u_cons (ue_of pe_int (so_c fun _ => .int _)) (u_cons (ue_of pe_int (so_c fun _ => .int _)) (u_cons (ue_of pe_int (so_c fun _ => .int _)) (u_cons (ue_of pe_int (so_c fun _ => .int _)) (u_cons (ue_of pe_int (so_c fun _ => .int _)) (u_cons (ue_of pe_int (so_c fun _ => .int _)) (u_cons (ue_of pe_int (so_c fun _ => .int _)) (u_cons (ue_of pe_int (so_c fun _ => .int _)) u_nil))))))))) (u_op op_mod rel_mod (ue_of (pv 6) so_var) (ue_of pe_int (so_c fun _ => .int _))) (fun _ _ => rfl))) (ue_of (pv 6) so_var))) (u_bcons (u_set (j := 8) sc_u_deed_of.nd rfl (Or.inl rfl) (u_op op_mulU rel_mul (u_ix (hu_of hr) (ue_of (pv 3) so_var) (u_op op_mod rel_mod (ue_of (pv 7) so_var) (ue_of pe_int (so_c fun _ => .int _))) (fun _ _ => rfl)) (u_op op_addU rel_add (ue_of pe_int (so_c fun _ => .int _)) (u_op op_mod rel_mod (u_op op_fdiv rel_fdiv (ue_of (pv 7) so_var) (ue_of pe_int (so_c fun _ => .int _))) (ue_of pe_int (so_c fun _ => .int _)))))) (u_bone (u_drop (ue_of (pe_bm PySem.F.plainAttrs_list PySem.F.slot_list_append PySem.F.type_list_append mt_append (ue_of (pv 5) so_var) (u_cons (u_ix (hu_of hr) (u_lst (u_cons (ue_of (pv 8) so_var) (u_cons (u_ix (hu_of hr) (ue_of (pv 4) so_var) (u_op op_mod rel_mod (ue_of (pv 7) so_var) (ue_of pe_int (so_c fun _ => .int _))) (fun _ _ => rfl)) u_nil))) (u_cbT cr_int (relN_of dv_int) (by rfl) m_int (by decide +kernel) (u_cons (u_cmp (op_eqU hr.units) rel_eq (u_ix (hu_of hr) (ue_of (pv 2) so_var) (ue_of pe_int (so_c fun _ => .int _)) (fun _ _ => rfl)) (ue_of pe_int (so_c fun _ => .int _)) (nomark _)) u_nil)) (fun _ _ => rfl)) u_nil)) (so_bm kdL_ok rel_app sog sog))))))) (u_bcons (u_if (u_tcmp (op_eqU hr.units) rel_eq (u_ix (hu_of hr) (ue_of (pv 2) so_var) (ue_of pe_int (so_c fun _ => .int _)) (fun _ _ => rfl)) (ue_of pe_int (so_c fun _ => .int _)) (nomark _)) (u_bone (u_ret (u_tup (u_cons (ue_of pe_str (so_c fun _ => .str _)) (u_cons (u_ix (hu_of hr) (ue_of (pv 2) so_var) (ue_of pe_int (so_c fun _ => .int _)) (fun _ _ => rfl)) u_nil))))) u_bnil) (u_bone (u_ret (u_tup (u_cons (ue_of pe_str (so_c fun _ => .str _)) (u_cons (u_sl (ue_of (pv 5) so_var) u_nopart (u_part (u_ix (hu_of hr) (ue_of (pv 2) so_var) (ue_of pe_int (so_c fun _ => .int _)) (fun _ _ => rfl)))) (u_cons (u_sl (ue_of (pv 5) so_var) (u_part (u_ix (hu_of hr) (ue_of (pv 2) so_var) (ue_of pe_int (so_c fun _ => .int _)) (fun _ _ => rfl))) u_nopart) u_nil)))))))))))))
abbrev s_u_plan : Stmt := (top 21)
abbrev N_u_plan : List Str := ["_law_script", "_law_plan_here", "_law_k"]
def b_u_plan : MS := (mSeq (mAsg (mLst true mNil) (gNm 1)) (mSeq (mFor (mRng2 (mC (.int (1 : Int))) (mCB (puN max2P) (mCons (mC (.int (6 : Int))) (mCons (mCB (puN min2P) (mCons (mCB gLen (mCons (mVar 0) mNil)) (mCons (mC (.int (63 : Int))) mNil))) mNil)))) (gNm 2) (mDrop (mBM kdL gApp (mVar 1) (mCons (mCall m_u_deed_of (mCons (mCB_ dec_cell eI f_cell (mCons (mVar 0) (mCons (mVar 2) mNil))) (mCons (mVar 2) mNil))) mNil)))) (mRet (mSl false (mVar 1) mNoPart (mPart (mOp2 ixU (mCT dec_draws (eL eI) f_draws (mCons (mCB_ dec_cell eI f_cell (mCons (mVar 0) (mCons (mC (.int (0 : Int))) mNil))) (mCons (mC (.int (0 : Int))) (mCons (mLst false (mCons (mC (.int (64 : Int))) mNil)) mNil)))) (mC (.int (0 : Int)))))))))
def m_u_plan : List MV → LH → MR MV := mFn 1 2 b_u_plan
abbrev sp_u_plan (K : PySem.W.Frag) : Sp := spU K 1 m_u_plan
theorem sc_u_plan : FnScope N_u_plan ["_law_script"] (defScope s_u_plan) := ⟨rfl, rfl, rfl, by decide +kernel, rfl, by decide +kernel, by decide +kernel⟩
theorem ok_u_plan {P : Program} {w : World} {K : PySem.W.Frag} {mg : Str → Option Value} {base : Heap} (hF : Df K mg "_law_plan" s_u_plan) (m_len : mg "len" = none) (m_max : mg "max" = none) (m_min : mg "min" = none) (m_range : mg "range" = none) (o_draws : Ok P w K mg base 1 "_law_draws" ["_law_cell_here", "_law_k", "_law_sizes"] (sp_draws K)) (o_cell : Ok P w K mg base 1 "_law_cell" ["_law_script", "_law_k"] (sp_cell K)) (o_u_deed_of : OkX P w K mg base 2 "_law_deed_of" ["_law_cell_here", "_law_k"] (sp_u_deed_of K)) : OkX P w K mg base 3 "_law_plan" ["_law_script"] (sp_u_plan K) := by
  obtain ⟨⟨_, G_draws, bd_draws, _⟩, kp_draws, gm_draws⟩ := o_draws
  obtain ⟨⟨_, G_cell, bd_cell, _⟩, kp_cell, gm_cell⟩ := o_cell
  obtain ⟨⟨_, G_u_deed_of, bd_u_deed_of, _⟩, kp_u_deed_of, gm_u_deed_of⟩ := o_u_deed_of
  obtain ⟨⟨fd, F⟩, gm⟩ := hF
  refine ⟨⟨fd, F.ok sc_u_plan (fun vs H Q E h => spU_len h) (fun cdv A outer s H vs Q E hr h => ⟨tGS K (WX0 E) b_u_plan, ?_, u_fn (n := 1) (k := 2) (N := N_u_plan) rfl h⟩), F.bindsN fun _ _ _ _ _ _ us hl => match us, hl with | [_], _ => rfl, lk_of F⟩, F.kp, gm⟩
  refine pss_tk (W := WX0 E) (takes_of (E := E) rfl rfl rfl rfl) fun tkE => ?_
  exact (show UB _ (WX0 E) _ b_u_plan from (u_bcons (u_set (j := 1) sc_u_plan.nd rfl (Or.inl rfl) (u_lst u_nil)) (u_bcons (u_for (passes_of rfl) rfl (ui_of (pi_range2 (by rfl) m_range (pa_cons (ue_of pe_int (so_c fun _ => .int _)) (pa_cons (u_cbB (cr_max2 rfl) (relN_of dv_max2) (by rfl) m_max (by decide +kernel) (u_cons (ue_of pe_int (so_c fun _ => .int _)) (u_cons (u_cbB (cr_min2 rfl) (relN_of dv_min2) (by rfl) m_min (by decide +kernel) (u_cons (u_cbB cr_lenU rel_len (by rfl) m_len (by decide +kernel) (u_cons (ue_of (pv 0) so_var) u_nil)) (u_cons (ue_of pe_int (so_c fun _ => .int _)) u_nil))) u_nil))) pa_nil))) (so_rng2 sog sog)) (pg_name (i := 2) sc_u_plan.nd rfl (Or.inl rfl)) sg_nm (u_bone (u_drop (ue_of (pe_bm PySem.F.plainAttrs_list PySem.F.slot_list_append PySem.F.type_list_append mt_append (ue_of (pv 1) so_var) (u_cons (u_call G_u_deed_of mFn_len (hr.mono (by decide)) (by rfl) gm_u_deed_of kp_u_deed_of bd_u_deed_of (fun σ => passAt tkE σ) (u_cons (ue_of (pe_call G_cell (hr.mono (by decide)) (by rfl) gm_cell kp_cell bd_cell .nil pass0 (u_cons (ue_of (pv 0) so_var) (u_cons (ue_of (pv 2) so_var) u_nil))) (so_cbt decok_cell sog)) (u_cons (ue_of (pv 2) so_var) u_nil))) u_nil)) (so_bm kdL_ok rel_app sog sog))))) (u_bone (u_ret (u_sl (ue_of (pv 1) so_var) u_nopart (u_part (u_ix (hu_of hr) (ue_of (pe_call G_draws (hr.mono (by decide)) (by rfl) gm_draws kp_draws bd_draws .nil pass0 (u_cons (ue_of (pe_call G_cell (hr.mono (by decide)) (by rfl) gm_cell kp_cell bd_cell .nil pass0 (u_cons (ue_of (pv 0) so_var) (u_cons (ue_of pe_int (so_c fun _ => .int _)) u_nil))) (so_cbt decok_cell sog)) (u_cons (ue_of pe_int (so_c fun _ => .int _)) (u_cons (u_lst (u_cons (ue_of pe_int (so_c fun _ => .int _)) u_nil)) u_nil)))) (so_ct decok_draws sog)) (ue_of pe_int (so_c fun _ => .int _)) (fun _ _ => rfl)))))))))
abbrev s_u_written : Stmt := (top 22)
abbrev N_u_written : List Str := ["_law_plan_here", "_law_parts", "_law_deed"]
def b_u_written : MS := (mSeq (mAsg (mLst true mNil) (gNm 1)) (mSeq (mFor (mItSeq (mVar 0)) (gNm 2) (mIfS (mTest (mOp2 gEq (mOp2 ixU (mVar 2) (mC (.int (0 : Int)))) (mC (.str "go")))) (mDrop (mBM kdL gApp (mVar 1) (mCons (mOp2 (gAdd false) (mC (.str "go ")) (mCB (puN strP) (mCons (mOp2 ixU (mVar 2) (mC (.int (1 : Int)))) mNil))) mNil))) (mDrop (mBM kdL gApp (mVar 1) (mCons (mJn (mC (.str " ")) (mOp2 (gAdd false) (mOp2 (gAdd false) (mOp2 (gAdd false) (mLst false (mCons (mC (.str "swap")) mNil)) (mOp2 ixU (mVar 2) (mC (.int (1 : Int))))) (mLst false (mCons (mC (.str "/")) mNil))) (mOp2 ixU (mVar 2) (mC (.int (2 : Int)))))) mNil))))) (mRet (mJn (mC (.str "; ")) (mVar 1)))))
def m_u_written : List MV → LH → MR MV := mFn 1 2 b_u_written
abbrev sp_u_written (K : PySem.W.Frag) : Sp := spU K 1 m_u_written
theorem sc_u_written : FnScope N_u_written ["_law_plan_here"] (defScope s_u_written) := ⟨rfl, rfl, rfl, by decide +kernel, rfl, by decide +kernel, by decide +kernel⟩
theorem ok_u_written {P : Program} {w : World} {K : PySem.W.Frag} {mg : Str → Option Value} {base : Heap} (hF : Df K mg "_law_written" s_u_written) (m_str : mg "str" = none) : OkX P w K mg base 1 "_law_written" ["_law_plan_here"] (sp_u_written K) := by
  obtain ⟨⟨fd, F⟩, gm⟩ := hF
  refine ⟨⟨fd, F.ok sc_u_written (fun vs H Q E h => spU_len h) (fun cdv A outer s H vs Q E hr h => ⟨tGS K (WX0 E) b_u_written, ?_, u_fn (n := 1) (k := 2) (N := N_u_written) rfl h⟩), F.bindsN fun _ _ _ _ _ _ us hl => match us, hl with | [_], _ => rfl, lk_of F⟩, F.kp, gm⟩
  refine pss_tk (W := WX0 E) (takes_of (E := E) rfl rfl rfl rfl) fun tkE => ?_
  exact (show UB _ (WX0 E) _ b_u_written from (u_bcons (u_set (j := 1) sc_u_written.nd rfl (Or.inl rfl) (u_lst u_nil)) (u_bcons (u_for (passes_of rfl) rfl (u_itSeq (ue_of (pv 0) so_var)) (pg_name (i := 2) sc_u_written.nd rfl (Or.inl rfl)) sg_nm (u_bone (u_if (u_tcmp (op_eqU hr.units) rel_eq (u_ix (hu_of hr) (ue_of (pv 2) so_var) (ue_of pe_int (so_c fun _ => .int _)) (fun _ _ => rfl)) (ue_of pe_str (so_c fun _ => .str _)) (nomark _)) (u_bone (u_drop (ue_of (pe_bm PySem.F.plainAttrs_list PySem.F.slot_list_append PySem.F.type_list_append mt_append (ue_of (pv 1) so_var) (u_cons (u_op op_addU rel_add (ue_of pe_str (so_c fun _ => .str _)) (u_cbT cr_str (relN_of dv_str) (by rfl) m_str (by decide +kernel) (u_cons (u_ix (hu_of hr) (ue_of (pv 2) so_var) (ue_of pe_int (so_c fun _ => .int _)) (fun _ _ => rfl)) u_nil))) u_nil)) (so_bm kdL_ok rel_app sog sog)))) (u_bone (u_drop (ue_of (pe_bm PySem.F.plainAttrs_list PySem.F.slot_list_append PySem.F.type_list_append mt_append (ue_of (pv 1) so_var) (u_cons (u_join (ue_of pe_str (so_c fun _ => .str _)) (u_op op_addU rel_add (u_op op_addU rel_add (u_op op_addU rel_add (u_lst (u_cons (ue_of pe_str (so_c fun _ => .str _)) u_nil)) (u_ix (hu_of hr) (ue_of (pv 2) so_var) (ue_of pe_int (so_c fun _ => .int _)) (fun _ _ => rfl))) (u_lst (u_cons (ue_of pe_str (so_c fun _ => .str _)) u_nil))) (u_ix (hu_of hr) (ue_of (pv 2) so_var) (ue_of pe_int (so_c fun _ => .int _)) (fun _ _ => rfl)))) u_nil)) (so_bm kdL_ok rel_app sog sog))))))) (u_bone (u_ret (u_join (ue_of pe_str (so_c fun _ => .str _)) (ue_of (pv 1) so_var)))))))
abbrev s_u_number_in : Stmt := (top 9)
abbrev N_u_number_in : List Str := ["word", "sign"]
def b_u_number_in : MS := (mSeq (mIfS (mOrT (mNotT (mTest (mChain gLe gLe (mC (.int (1 : Int))) (mCB gLen (mCons (mVar 0) mNil)) (mC (.int (10 : Int)))))) (mAndT (mTest (mOp2 gEq (mOp2 ixU (mVar 0) (mC (.int (0 : Int)))) (mC (.str "0")))) (mTest (mOp2 gNe (mVar 0) (mC (.str "0")))))) (mRet (mC .none)) mSkip) (mSeq (mFor (mChr (mVar 0)) (gNm 1) (mIfS (mTest (mOp2 gNin (mVar 1) (mC (.str "0123456789")))) (mRet (mC .none)) mSkip)) (mRet (mCB gInt (mCons (mVar 0) mNil)))))
def m_u_number_in : List MV → LH → MR MV := mFn 1 1 b_u_number_in
abbrev sp_u_number_in (K : PySem.W.Frag) : Sp := spU K 1 m_u_number_in
theorem sc_u_number_in : FnScope N_u_number_in ["word"] (defScope s_u_number_in) := ⟨rfl, rfl, rfl, by decide +kernel, rfl, by decide +kernel, by decide +kernel⟩
theorem ok_u_number_in {P : Program} {w : World} {K : PySem.W.Frag} {mg : Str → Option Value} {base : Heap} (hF : Df K mg "number_in" s_u_number_in) (m_int : mg "int" = none) (m_len : mg "len" = none) (c_FIGURES : ∃ t, mg "FIGURES" = some (.str "0123456789" t)) (c_MOST_FIGURES : ∃ t, mg "MOST_FIGURES" = some (.int (10 : Int) t)) : OkX P w K mg base 1 "number_in" ["word"] (sp_u_number_in K) := by
  obtain ⟨_, c_FIGURES⟩ := c_FIGURES
  obtain ⟨_, c_MOST_FIGURES⟩ := c_MOST_FIGURES
  obtain ⟨⟨fd, F⟩, gm⟩ := hF
  refine ⟨⟨fd, F.ok sc_u_number_in (fun vs H Q E h => spU_len h) (fun cdv A outer s H vs Q E hr h => ⟨tGS K (WX0 E) b_u_number_in, ?_, u_fn (n := 1) (k := 1) (N := N_u_number_in) rfl h⟩), F.bindsN fun _ _ _ _ _ _ us hl => match us, hl with | [_], _ => rfl, lk_of F⟩, F.kp, gm⟩
  refine pss_tk (W := WX0 E) (takes_of (E := E) rfl rfl rfl rfl) fun tkE => ?_
  exact (show UB _ (WX0 E) _ b_u_number_in from (u_bcons (u_if (u_tpt (u_tor (u_tnot (u_tchain op_le op_le rel_le rel_le (ue_of pe_int (so_c fun _ => .int _)) (u_cbB cr_lenU rel_len (by rfl) m_len (by decide +kernel) (u_cons (ue_of (pv 0) so_var) u_nil)) (ue_of (pe_glob (v := .int (10 : Int)) (by rfl) c_MOST_FIGURES ⟨_, rfl⟩) (so_c fun _ => .int _)) (by with_unfolding_all rfl))) (u_tor1 (u_tpt (u_tand (u_tcmp (op_eqU hr.units) rel_eq (u_ix (hu_of hr) (ue_of (pv 0) so_var) (ue_of pe_int (so_c fun _ => .int _)) (fun _ _ => rfl)) (ue_of pe_str (so_c fun _ => .str _)) (nomark _)) (u_tand1 (u_tcmp (op_neU hr.units) rel_ne (ue_of (pv 0) so_var) (ue_of pe_str (so_c fun _ => .str _)) (nomark _)))))))) (u_bone (u_ret (ue_of pe_non (so_c fun _ => .non)))) u_bnil) (u_bcons (u_for (passes_of rfl) rfl (u_chr (ue_of (pv 0) so_var)) (pg_name (i := 1) sc_u_number_in.nd rfl (Or.inl rfl)) sg_nm (u_bone (u_if (u_tcmp (op_ninU (u65 hr)) rel_nin (ue_of (pv 1) so_var) (ue_of (pe_glob (v := .str "0123456789") (by rfl) c_FIGURES ⟨_, rfl⟩) (so_c fun _ => .str _)) (by rfl)) (u_bone (u_ret (ue_of pe_non (so_c fun _ => .non)))) u_bnil))) (u_bone (u_ret (u_cbT (CallR.or cr_int call_int_str) ((relN_of dv_int).or rel_intS) (by rfl) m_int (by decide +kernel) (u_cons (ue_of (pv 0) so_var) u_nil)))))))
abbrev s_u_going_in : Stmt := (top 13)
abbrev N_u_going_in : List Str := ["words", "bay"]
def b_u_going_in : MS := (mSeq (mIfS (mTest (mOp2 gNe (mCB gLen (mCons (mVar 0) mNil)) (mC (.int (2 : Int))))) (mRaise "NoText") mSkip) (mSeq (mAsg (mCall m_u_number_in (mCons (mOp2 ixU (mVar 0) (mC (.int (1 : Int)))) mNil)) (gNm 1)) (mSeq (mIfS (mOrT (mTest (mOp1 gIsN (mVar 1))) (mTest (mOp2 gGt (mVar 1) (mC (.int (15 : Int)))))) (mRaise "NoText") mSkip) (mRet (mTup (mCons (mC (.str "go")) (mCons (mVar 1) mNil)))))))
def m_u_going_in : List MV → LH → MR MV := mFn 1 1 b_u_going_in
abbrev sp_u_going_in (K : PySem.W.Frag) : Sp := spU K 1 m_u_going_in
theorem sc_u_going_in : FnScope N_u_going_in ["words"] (defScope s_u_going_in) := ⟨rfl, rfl, rfl, by decide +kernel, rfl, by decide +kernel, by decide +kernel⟩
theorem ok_u_going_in {P : Program} {w : World} {K : PySem.W.Frag} {mg : Str → Option Value} {base : Heap} (hF : Df K mg "going_in" s_u_going_in) (m_len : mg "len" = none) (c_LAST_BAY : ∃ t, mg "LAST_BAY" = some (.int (15 : Int) t)) (o_u_number_in : OkX P w K mg base 1 "number_in" ["word"] (sp_u_number_in K)) (x_NoText : ExD K mg "NoText") : OkX P w K mg base 2 "going_in" ["words"] (sp_u_going_in K) := by
  obtain ⟨_, c_LAST_BAY⟩ := c_LAST_BAY
  obtain ⟨⟨_, G_u_number_in, bd_u_number_in, _⟩, kp_u_number_in, gm_u_number_in⟩ := o_u_number_in
  obtain ⟨⟨fd, F⟩, gm⟩ := hF
  refine ⟨⟨fd, F.ok sc_u_going_in (fun vs H Q E h => spU_len h) (fun cdv A outer s H vs Q E hr h => ⟨tGS K (WX0 E) b_u_going_in, ?_, u_fn (n := 1) (k := 1) (N := N_u_going_in) rfl h⟩), F.bindsN fun _ _ _ _ _ _ us hl => match us, hl with | [_], _ => rfl, lk_of F⟩, F.kp, gm⟩
  refine pss_tk (W := WX0 E) (takes_of (E := E) rfl rfl rfl rfl) fun tkE => ?_
  exact (show UB _ (WX0 E) _ b_u_going_in from (u_bcons (u_if (u_tcmp (op_neU hr.units) rel_ne (u_cbB cr_lenU rel_len (by rfl) m_len (by decide +kernel) (u_cons (ue_of (pv 0) so_var) u_nil)) (ue_of pe_int (so_c fun _ => .int _)) (nomark _)) (u_bone (u_raise rfl tkE x_NoText (by decide) (by rfl))) u_bnil) (u_bcons (u_set (j := 1) sc_u_going_in.nd rfl (Or.inl rfl) (u_call G_u_number_in mFn_len (hr.mono (by decide)) (by rfl) gm_u_number_in kp_u_number_in bd_u_number_in (fun σ => passAt tkE σ) (u_cons (u_ix (hu_of hr) (ue_of (pv 0) so_var) (ue_of pe_int (so_c fun _ => .int _)) (fun _ _ => rfl)) u_nil))) (u_bcons (u_if (u_tpt (u_tor (u_tisN (ue_of (pv 1) so_var) pe_non (nomark _)) (u_tor1 (u_tcmp op_gt rel_gt (ue_of (pv 1) so_var) (ue_of (pe_glob (v := .int (15 : Int)) (by rfl) c_LAST_BAY ⟨_, rfl⟩) (so_c fun _ => .int _)) (nomark _))))) (u_bone (u_raise rfl tkE x_NoText (by decide) (by rfl))) u_bnil) (u_bone (u_ret (u_tup (u_cons (ue_of pe_str (so_c fun _ => .str _)) (u_cons (ue_of (pv 1) so_var) u_nil)))))))))
abbrev s_u_swap_in : Stmt := (top 14)
abbrev N_u_swap_in : List Str := ["words", "place", "puts", "takes", "word"]
def b_u_swap_in : MS := (mSeq (mIfS (mTest (mOp2 gNe (mBM kdL gCnt (mVar 0) (mCons (mC (.str "/")) mNil)) (mC (.int (1 : Int))))) (mRaise "NoText") mSkip) (mSeq (mAsg (mBM kdL gIdx (mVar 0) (mCons (mC (.str "/")) mNil)) (gNm 1)) (mSeq (mAsg (mSl true (mVar 0) (mPart (mC (.int (1 : Int)))) (mPart (mVar 1))) (gNm 2)) (mSeq (mAsg (mSl true (mVar 0) (mPart (mOp2 (gAdd false) (mVar 1) (mC (.int (1 : Int))))) mNoPart) (gNm 3)) (mSeq (mIfS (mNotT (mTest (mCB (puN allP) (mCons (mLc false (mItSeq (mOp2 (gAdd false) (mVar 2) (mVar 3))) (gNm 4) mYes (mCB_ dec_is_name eB f_is_name (mCons (mVar 4) mNil)) [4]) mNil)))) (mRaise "NoText") mSkip) (mRet (mTup (mCons (mC (.str "swap")) (mCons (mVar 2) (mCons (mVar 3) mNil))))))))))
def m_u_swap_in : List MV → LH → MR MV := mFn 1 4 b_u_swap_in
abbrev sp_u_swap_in (K : PySem.W.Frag) : Sp := spU K 1 m_u_swap_in
theorem sc_u_swap_in : FnScope N_u_swap_in ["words"] (defScope s_u_swap_in) := ⟨rfl, rfl, rfl, by decide +kernel, rfl, by decide +kernel, by decide +kernel⟩
theorem ok_u_swap_in {P : Program} {w : World} {K : PySem.W.Frag} {mg : Str → Option Value} {base : Heap} (hF : Df K mg "swap_in" s_u_swap_in) (m_all : mg "all" = none) (c_STROKE : ∃ t, mg "STROKE" = some (.str "/" t)) (o_is_name : Ok P w K mg base 1 "is_name" ["thing"] (sp_is_name K)) (x_NoText : ExD K mg "NoText") : OkX P w K mg base 2 "swap_in" ["words"] (sp_u_swap_in K) := by
  obtain ⟨_, c_STROKE⟩ := c_STROKE
  obtain ⟨⟨_, G_is_name, bd_is_name, _⟩, kp_is_name, gm_is_name⟩ := o_is_name
  obtain ⟨⟨fd, F⟩, gm⟩ := hF
  refine ⟨⟨fd, F.ok sc_u_swap_in (fun vs H Q E h => spU_len h) (fun cdv A outer s H vs Q E hr h => ⟨tGS K (WX0 E) b_u_swap_in, ?_, u_fn (n := 1) (k := 4) (N := N_u_swap_in) rfl h⟩), F.bindsN fun _ _ _ _ _ _ us hl => match us, hl with | [_], _ => rfl, lk_of F⟩, F.kp, gm⟩
  refine pss_tk (W := WX0 E) (takes_of (E := E) rfl rfl rfl rfl) fun tkE => ?_
  exact (show UB _ (WX0 E) _ b_u_swap_in from (u_bcons (u_if (u_tcmp (op_neU hr.units) rel_ne (ue_of (pe_bm PySem.F.plainAttrs_list PySem.F.slot_list_count PySem.F.type_list_count mt_lcountU (ue_of (pv 0) so_var) (u_cons (ue_of (pe_glob (v := .str "/") (by rfl) c_STROKE ⟨_, rfl⟩) (so_c fun _ => .str _)) u_nil)) (so_bm kdL_ok rel_cnt sog sog)) (ue_of pe_int (so_c fun _ => .int _)) (nomark _)) (u_bone (u_raise rfl tkE x_NoText (by decide) (by rfl))) u_bnil) (u_bcons (u_set (j := 1) sc_u_swap_in.nd rfl (Or.inl rfl) (ue_of (pe_bm PySem.F.plainAttrs_list PySem.F.slot_list_index PySem.F.type_list_index mt_index (ue_of (pv 0) so_var) (u_cons (ue_of (pe_glob (v := .str "/") (by rfl) c_STROKE ⟨_, rfl⟩) (so_c fun _ => .str _)) u_nil)) (so_bm kdL_ok rel_idx sog sog))) (u_bcons (u_set (j := 2) sc_u_swap_in.nd rfl (Or.inl rfl) (u_sl (ue_of (pv 0) so_var) (u_part (ue_of pe_int (so_c fun _ => .int _))) (u_part (ue_of (pv 1) so_var)))) (u_bcons (u_set (j := 3) sc_u_swap_in.nd rfl (Or.inl rfl) (u_sl (ue_of (pv 0) so_var) (u_part (u_op op_addU rel_add (ue_of (pv 1) so_var) (ue_of pe_int (so_c fun _ => .int _)))) u_nopart)) (u_bcons (u_if (u_tnot (u_val (u_cbB (cr_all rfl) (relN_of dv_all) (by rfl) m_all (by decide +kernel) (u_cons (u_lc (own := [("word", 4)]) (by rfl) sc_u_swap_in.nd (u_itSeq (u_op op_addU rel_add (ue_of (pv 2) so_var) (ue_of (pv 3) so_var))) (blkOk_by (own := [("word", 4)]) (N := N_u_swap_in) (sc := defScope s_u_swap_in) (by decide +kernel)) (sw_nm (by decide)) (fun _ _ _ _ _ => (pg_name (i := 4) sc_u_swap_in.nd rfl (Or.inl rfl))) (fun _ _ _ _ _ => u_yes) (fun _ _ _ _ _ => (ue_of (pe_call G_is_name (hr.mono (by decide)) (by rfl) gm_is_name kp_is_name bd_is_name .nil pass0 (u_cons (ue_of (pv 4) so_var) u_nil)) (so_cbt decok_is_name sog)))) u_nil)))) (u_bone (u_raise rfl tkE x_NoText (by decide) (by rfl))) u_bnil) (u_bone (u_ret (u_tup (u_cons (ue_of pe_str (so_c fun _ => .str _)) (u_cons (ue_of (pv 2) so_var) (u_cons (ue_of (pv 3) so_var) u_nil))))))))))))
abbrev s_u_deed_in : Stmt := (top 15)
abbrev N_u_deed_in : List Str := ["part", "words"]
def b_u_deed_in : MS := (mSeq (mAsg (mBM kdS (gSplit false) (mVar 0) (mCons (mC (.str " ")) mNil)) (gNm 1)) (mSeq (mIfS (mTest (mOp2 gEq (mOp2 ixU (mVar 1) (mC (.int (0 : Int)))) (mC (.str "go")))) (mRet (mCall m_u_going_in (mCons (mVar 1) mNil))) mSkip) (mSeq (mIfS (mTest (mOp2 gEq (mOp2 ixU (mVar 1) (mC (.int (0 : Int)))) (mC (.str "swap")))) (mRet (mCall m_u_swap_in (mCons (mVar 1) mNil))) mSkip) (mRaise "NoText"))))
def m_u_deed_in : List MV → LH → MR MV := mFn 1 1 b_u_deed_in
abbrev sp_u_deed_in (K : PySem.W.Frag) : Sp := spU K 1 m_u_deed_in
theorem sc_u_deed_in : FnScope N_u_deed_in ["part"] (defScope s_u_deed_in) := ⟨rfl, rfl, rfl, by decide +kernel, rfl, by decide +kernel, by decide +kernel⟩
theorem ok_u_deed_in {P : Program} {w : World} {K : PySem.W.Frag} {mg : Str → Option Value} {base : Heap} (hF : Df K mg "deed_in" s_u_deed_in) (o_u_swap_in : OkX P w K mg base 2 "swap_in" ["words"] (sp_u_swap_in K)) (o_u_going_in : OkX P w K mg base 2 "going_in" ["words"] (sp_u_going_in K)) (x_NoText : ExD K mg "NoText") : OkX P w K mg base 3 "deed_in" ["part"] (sp_u_deed_in K) := by
  obtain ⟨⟨_, G_u_swap_in, bd_u_swap_in, _⟩, kp_u_swap_in, gm_u_swap_in⟩ := o_u_swap_in
  obtain ⟨⟨_, G_u_going_in, bd_u_going_in, _⟩, kp_u_going_in, gm_u_going_in⟩ := o_u_going_in
  obtain ⟨⟨fd, F⟩, gm⟩ := hF
  refine ⟨⟨fd, F.ok sc_u_deed_in (fun vs H Q E h => spU_len h) (fun cdv A outer s H vs Q E hr h => ⟨tGS K (WX0 E) b_u_deed_in, ?_, u_fn (n := 1) (k := 1) (N := N_u_deed_in) rfl h⟩), F.bindsN fun _ _ _ _ _ _ us hl => match us, hl with | [_], _ => rfl, lk_of F⟩, F.kp, gm⟩
  refine pss_tk (W := WX0 E) (takes_of (E := E) rfl rfl rfl rfl) fun tkE => ?_
  exact (show UB _ (WX0 E) _ b_u_deed_in from (u_bcons (u_set (j := 1) sc_u_deed_in.nd rfl (Or.inl rfl) (ue_of (pe_bm PySem.F.plainAttrs_str PySem.F.slot_str_split PySem.F.type_str_split mt_split (ue_of (pv 0) so_var) (u_cons (ue_of pe_str (so_c fun _ => .str _)) u_nil)) (so_bm kdS_ok rel_split sog sog))) (u_bcons (u_if (u_tcmp (op_eqU hr.units) rel_eq (u_ix (hu_of hr) (ue_of (pv 1) so_var) (ue_of pe_int (so_c fun _ => .int _)) (fun _ _ => rfl)) (ue_of pe_str (so_c fun _ => .str _)) (nomark _)) (u_bone (u_ret (u_call G_u_going_in mFn_len (hr.mono (by decide)) (by rfl) gm_u_going_in kp_u_going_in bd_u_going_in (fun σ => passAt tkE σ) (u_cons (ue_of (pv 1) so_var) u_nil)))) u_bnil) (u_bcons (u_if (u_tcmp (op_eqU hr.units) rel_eq (u_ix (hu_of hr) (ue_of (pv 1) so_var) (ue_of pe_int (so_c fun _ => .int _)) (fun _ _ => rfl)) (ue_of pe_str (so_c fun _ => .str _)) (nomark _)) (u_bone (u_ret (u_call G_u_swap_in mFn_len (hr.mono (by decide)) (by rfl) gm_u_swap_in kp_u_swap_in bd_u_swap_in (fun σ => passAt tkE σ) (u_cons (ue_of (pv 1) so_var) u_nil)))) u_bnil) (u_bone (u_raise rfl tkE x_NoText (by decide) (by rfl)))))))
abbrev s_u_read_plan : Stmt := (top 16)
abbrev N_u_read_plan : List Str := ["text", "part"]
def b_u_read_plan : MS := (mSeq (mIfS (mNotT (mTest (mOp1 (gIsi "str") (mVar 0)))) (mRaise "NoText") mSkip) (mSeq (mIfS (mTest (mOp2 gEq (mVar 0) (mC (.str "")))) (mRet (mLst true mNil)) mSkip) (mRet (mLc true (mItSeq (mBM kdS (gSplit false) (mVar 0) (mCons (mC (.str "; ")) mNil))) (gNm 1) mYes (mCall m_u_deed_in (mCons (mVar 1) mNil)) [1]))))
def m_u_read_plan : List MV → LH → MR MV := mFn 1 1 b_u_read_plan
abbrev sp_u_read_plan (K : PySem.W.Frag) : Sp := spU K 1 m_u_read_plan
theorem sc_u_read_plan : FnScope N_u_read_plan ["text"] (defScope s_u_read_plan) := ⟨rfl, rfl, rfl, by decide +kernel, rfl, by decide +kernel, by decide +kernel⟩
theorem ok_u_read_plan {P : Program} {w : World} {K : PySem.W.Frag} {mg : Str → Option Value} {base : Heap} (hF : Df K mg "read_plan" s_u_read_plan) (m_isinstance : mg "isinstance" = none) (m_str : mg "str" = none) (o_u_deed_in : OkX P w K mg base 3 "deed_in" ["part"] (sp_u_deed_in K)) (x_NoText : ExD K mg "NoText") : OkX P w K mg base 4 "read_plan" ["text"] (sp_u_read_plan K) := by
  obtain ⟨⟨_, G_u_deed_in, bd_u_deed_in, _⟩, kp_u_deed_in, gm_u_deed_in⟩ := o_u_deed_in
  obtain ⟨⟨fd, F⟩, gm⟩ := hF
  refine ⟨⟨fd, F.ok sc_u_read_plan (fun vs H Q E h => spU_len h) (fun cdv A outer s H vs Q E hr h => ⟨tGS K (WX0 E) b_u_read_plan, ?_, u_fn (n := 1) (k := 1) (N := N_u_read_plan) rfl h⟩), F.bindsN fun _ _ _ _ _ _ us hl => match us, hl with | [_], _ => rfl, lk_of F⟩, F.kp, gm⟩
  refine pss_tk (W := WX0 E) (takes_of (E := E) rfl rfl rfl rfl) fun tkE => ?_
  exact (show UB _ (WX0 E) _ b_u_read_plan from (u_bcons (u_if (u_tnot (u_val (ue_of (pe_callB call_isi (by rfl) m_isinstance (by decide +kernel) (pa_cons (ue_of (pv 0) so_var) (pa_cons (pe_bltn (v := .ty "str") (by rfl) m_str (by decide +kernel) rfl) pa_nil))) (so_isi (by decide) sog)))) (u_bone (u_raise rfl tkE x_NoText (by decide) (by rfl))) u_bnil) (u_bcons (u_if (u_tcmp (op_eqU hr.units) rel_eq (ue_of (pv 0) so_var) (ue_of pe_str (so_c fun _ => .str _)) (nomark _)) (u_bone (u_ret (u_lst u_nil))) u_bnil) (u_bone (u_ret (u_lc (own := [("part", 1)]) (by rfl) sc_u_read_plan.nd (u_itSeq (ue_of (pe_bm PySem.F.plainAttrs_str PySem.F.slot_str_split PySem.F.type_str_split mt_split (ue_of (pv 0) so_var) (u_cons (ue_of pe_str (so_c fun _ => .str _)) u_nil)) (so_bm kdS_ok rel_split sog sog))) (blkOk_by (own := [("part", 1)]) (N := N_u_read_plan) (sc := defScope s_u_read_plan) (by decide +kernel)) (sw_nm (by decide)) (fun _ _ _ _ _ => (pg_name (i := 1) sc_u_read_plan.nd rfl (Or.inl rfl))) (fun _ _ _ _ _ => u_yes) (fun _ _ _ _ _ => (u_call G_u_deed_in mFn_len (hr.mono (by decide)) (by rfl) gm_u_deed_in kp_u_deed_in bd_u_deed_in (fun σ => passF σ) (u_cons (ue_of (pv 1) so_var) u_nil)))))))))
abbrev s_u_is_plan : Stmt := (top 23)
abbrev N_u_is_plan : List Str := ["_law_found", "_law_plan_here", "_law_deed"]
def b_u_is_plan : MS := (mSeq (mIfS (mOrT (mNotT (mTest (mOp1 (gIsi "list") (mVar 0)))) (mTest (mOp2 gNe (mVar 0) (mVar 1)))) (mRet (mC (.bool false))) mSkip) (mSeq (mFor (mItSeq (mVar 0)) (gNm 2) (mSeq (mIfS (mNotT (mTest (mOp1 (gIsi "tuple") (mVar 2)))) (mRet (mC (.bool false))) mSkip) (mSeq (mIfS (mAndT (mTest (mOp2 gEq (mOp2 ixU (mVar 2) (mC (.int (0 : Int)))) (mC (.str "go")))) (mTest (mOp1 (gIsi "bool") (mOp2 ixU (mVar 2) (mC (.int (1 : Int))))))) (mRet (mC (.bool false))) mSkip) (mIfS (mAndT (mTest (mOp2 gEq (mOp2 ixU (mVar 2) (mC (.int (0 : Int)))) (mC (.str "swap")))) (mNotT (mAndT (mTest (mOp1 (gIsi "list") (mOp2 ixU (mVar 2) (mC (.int (1 : Int)))))) (mTest (mOp1 (gIsi "list") (mOp2 ixU (mVar 2) (mC (.int (2 : Int))))))))) (mRet (mC (.bool false))) mSkip)))) (mRet (mC (.bool true)))))
def m_u_is_plan : List MV → LH → MR MV := mFn 2 1 b_u_is_plan
abbrev sp_u_is_plan (K : PySem.W.Frag) : Sp := spU K 2 m_u_is_plan
theorem sc_u_is_plan : FnScope N_u_is_plan ["_law_found", "_law_plan_here"] (defScope s_u_is_plan) := ⟨rfl, rfl, rfl, by decide +kernel, rfl, by decide +kernel, by decide +kernel⟩
theorem ok_u_is_plan {P : Program} {w : World} {K : PySem.W.Frag} {mg : Str → Option Value} {base : Heap} (hF : Df K mg "_law_is_plan" s_u_is_plan) (m_bool : mg "bool" = none) (m_isinstance : mg "isinstance" = none) (m_list : mg "list" = none) (m_tuple : mg "tuple" = none) : OkX P w K mg base 1 "_law_is_plan" ["_law_found", "_law_plan_here"] (sp_u_is_plan K) := by
  obtain ⟨⟨fd, F⟩, gm⟩ := hF
  refine ⟨⟨fd, F.ok sc_u_is_plan (fun vs H Q E h => spU_len h) (fun cdv A outer s H vs Q E hr h => ⟨tGS K (WX0 E) b_u_is_plan, ?_, u_fn (n := 2) (k := 1) (N := N_u_is_plan) rfl h⟩), F.bindsN fun _ _ _ _ _ _ us hl => match us, hl with | [_, _], _ => rfl, lk_of F⟩, F.kp, gm⟩
  refine pss_tk (W := WX0 E) (takes_of (E := E) rfl rfl rfl rfl) fun tkE => ?_
  exact (show UB _ (WX0 E) _ b_u_is_plan from (u_bcons (u_if (u_tpt (u_tor (u_tnot (u_val (ue_of (pe_callB call_isi (by rfl) m_isinstance (by decide +kernel) (pa_cons (ue_of (pv 0) so_var) (pa_cons (pe_bltn (v := .ty "list") (by rfl) m_list (by decide +kernel) rfl) pa_nil))) (so_isi (by decide) sog)))) (u_tor1 (u_tcmp (op_neU hr.units) rel_ne (ue_of (pv 0) so_var) (ue_of (pv 1) so_var) (nomark _))))) (u_bone (u_ret (ue_of pe_bl (so_c fun _ => .bl _)))) u_bnil) (u_bcons (u_for (passes_of rfl) rfl (u_itSeq (ue_of (pv 0) so_var)) (pg_name (i := 2) sc_u_is_plan.nd rfl (Or.inl rfl)) sg_nm (u_bcons (u_if (u_tnot (u_val (ue_of (pe_callB call_isi (by rfl) m_isinstance (by decide +kernel) (pa_cons (ue_of (pv 2) so_var) (pa_cons (pe_bltn (v := .ty "tuple") (by rfl) m_tuple (by decide +kernel) rfl) pa_nil))) (so_isi (by decide) sog)))) (u_bone (u_ret (ue_of pe_bl (so_c fun _ => .bl _)))) u_bnil) (u_bcons (u_if (u_tpt (u_tand (u_tcmp (op_eqU hr.units) rel_eq (u_ix (hu_of hr) (ue_of (pv 2) so_var) (ue_of pe_int (so_c fun _ => .int _)) (fun _ _ => rfl)) (ue_of pe_str (so_c fun _ => .str _)) (nomark _)) (u_tand1 (u_val (ue_of (pe_callB call_isi (by rfl) m_isinstance (by decide +kernel) (pa_cons (u_ix (hu_of hr) (ue_of (pv 2) so_var) (ue_of pe_int (so_c fun _ => .int _)) (fun _ _ => rfl)) (pa_cons (pe_bltn (v := .ty "bool") (by rfl) m_bool (by decide +kernel) rfl) pa_nil))) (so_isi (by decide) sog)))))) (u_bone (u_ret (ue_of pe_bl (so_c fun _ => .bl _)))) u_bnil) (u_bone (u_if (u_tpt (u_tand (u_tcmp (op_eqU hr.units) rel_eq (u_ix (hu_of hr) (ue_of (pv 2) so_var) (ue_of pe_int (so_c fun _ => .int _)) (fun _ _ => rfl)) (ue_of pe_str (so_c fun _ => .str _)) (nomark _)) (u_tand1 (u_tnot (u_tpt (u_tand (u_val (ue_of (pe_callB call_isi (by rfl) m_isinstance (by decide +kernel) (pa_cons (u_ix (hu_of hr) (ue_of (pv 2) so_var) (ue_of pe_int (so_c fun _ => .int _)) (fun _ _ => rfl)) (pa_cons (pe_bltn (v := .ty "list") (by rfl) m_list (by decide +kernel) rfl) pa_nil))) (so_isi (by decide) sog))) (u_tand1 (u_val (ue_of (pe_callB call_isi (by rfl) m_isinstance (by decide +kernel) (pa_cons (u_ix (hu_of hr) (ue_of (pv 2) so_var) (ue_of pe_int (so_c fun _ => .int _)) (fun _ _ => rfl)) (pa_cons (pe_bltn (v := .ty "list") (by rfl) m_list (by decide +kernel) rfl) pa_nil))) (so_isi (by decide) sog)))))))))) (u_bone (u_ret (ue_of pe_bl (so_c fun _ => .bl _)))) u_bnil))))) (u_bone (u_ret (ue_of pe_bl (so_c fun _ => .bl _)))))))
abbrev s_u_law : Stmt := (top 24)
abbrev N_u_law : List Str := ["_law_script", "_law_plan_here", "_law_some", "_law_text", "_law_found", "_law_deed", "_law_due"]
def b_u_law : MS := (mSeq (mAsg (mCall m_u_plan (mCons (mVar 0) mNil)) (gNm 1)) (mSeq (mFor (mItSeq (mLst false (mCons (mVar 1) (mCons (mSl false (mVar 1) mNoPart (mPart (mOp2 (gFdiv) (mCB gLen (mCons (mVar 1) mNil)) (mC (.int (3 : Int)))))) (mCons (mSl false (mVar 1) mNoPart (mPart (mOp2 (gFdiv) (mCB gLen (mCons (mVar 1) mNil)) (mC (.int (2 : Int)))))) (mCons (mLst false mNil) mNil)))))) (gNm 2) (mSeq (mAsg (mCall m_u_written (mCons (mVar 2) mNil)) (gNm 3)) (mSeq (mAsg (mCall m_u_read_plan (mCons (mVar 3) mNil)) (gNm 4)) (mSeq (mIfS (mNotT (mTest (mCall m_u_is_plan (mCons (mVar 4) (mCons (mVar 2) mNil))))) (mRet (mC (.bool false))) mSkip) (mSeq (mFor (mItSeq (mVar 4)) (gNm 5) (mIfS (mTest (mOp2 gEq (mOp2 ixU (mVar 5) (mC (.int (0 : Int)))) (mC (.str "swap")))) (mSeq (mDrop (mBM kdL gApp (mOp2 ixU (mVar 5) (mC (.int (1 : Int)))) (mCons (mC (.str "zz")) mNil))) (mDrop (mBM kdL gApp (mOp2 ixU (mVar 5) (mC (.int (2 : Int)))) (mCons (mC (.str "zy")) mNil)))) mSkip)) (mSeq (mDrop (mBM kdL gApp (mVar 4) (mCons (mC .none) mNil))) (mSeq (mIfS (mOrT (mNotT (mTest (mCall m_u_is_plan (mCons (mCall m_u_read_plan (mCons (mVar 3) mNil)) (mCons (mVar 2) mNil))))) (mTest (mOp2 gNe (mCB gLen (mCons (mVar 4) mNil)) (mOp2 (gAdd false) (mCB gLen (mCons (mVar 2) mNil)) (mC (.int (1 : Int))))))) (mRet (mC (.bool false))) mSkip) (mFor (mZip (mVar 4) (mVar 2)) (gTp [5, 6]) (mIfS (mAndT (mTest (mOp2 gEq (mOp2 ixU (mVar 5) (mC (.int (0 : Int)))) (mC (.str "swap")))) (mOrT (mTest (mOp2 gNe (mOp2 ixU (mVar 5) (mC (.int (1 : Int)))) (mOp2 (gAdd false) (mOp2 ixU (mVar 6) (mC (.int (1 : Int)))) (mLst false (mCons (mC (.str "zz")) mNil))))) (mTest (mOp2 gNe (mOp2 ixU (mVar 5) (mC (.int (2 : Int)))) (mOp2 (gAdd false) (mOp2 ixU (mVar 6) (mC (.int (2 : Int)))) (mLst false (mCons (mC (.str "zy")) mNil))))))) (mRet (mC (.bool false))) mSkip))))))))) (mRet (mOp2 gEq (mCall m_u_read_plan (mCons (mJn (mC (.str "; ")) (mOp2 (gMul false) (mLst false (mCons (mC (.str "go 1")) (mCons (mC (.str "go 0")) mNil))) (mC (.int (700 : Int))))) mNil)) (mOp2 (gMul false) (mLst false (mCons (mTup (mCons (mC (.str "go")) (mCons (mC (.int (1 : Int))) mNil))) (mCons (mTup (mCons (mC (.str "go")) (mCons (mC (.int (0 : Int))) mNil))) mNil))) (mC (.int (700 : Int))))))))
def m_u_law : List MV → LH → MR MV := mFn 1 6 b_u_law
abbrev sp_u_law (K : PySem.W.Frag) : Sp := spU0 K 1 m_u_law
theorem sc_u_law : FnScope N_u_law ["_law_script"] (defScope s_u_law) := ⟨rfl, rfl, rfl, by decide +kernel, rfl, by decide +kernel, by decide +kernel⟩
theorem ok_u_law {P : Program} {w : World} {K : PySem.W.Frag} {mg : Str → Option Value} {base : Heap} (hF : Df K mg "law" s_u_law) (m_len : mg "len" = none) (m_zip : mg "zip" = none) (o_u_read_plan : OkX P w K mg base 4 "read_plan" ["text"] (sp_u_read_plan K)) (o_u_is_plan : OkX P w K mg base 1 "_law_is_plan" ["_law_found", "_law_plan_here"] (sp_u_is_plan K)) (o_u_written : OkX P w K mg base 1 "_law_written" ["_law_plan_here"] (sp_u_written K)) (o_u_plan : OkX P w K mg base 3 "_law_plan" ["_law_script"] (sp_u_plan K)) : Ok P w K mg base 5 "law" ["_law_script"] (sp_u_law K) := by
  obtain ⟨⟨_, G_u_read_plan, bd_u_read_plan, _⟩, kp_u_read_plan, gm_u_read_plan⟩ := o_u_read_plan
  obtain ⟨⟨_, G_u_is_plan, bd_u_is_plan, _⟩, kp_u_is_plan, gm_u_is_plan⟩ := o_u_is_plan
  obtain ⟨⟨_, G_u_written, bd_u_written, _⟩, kp_u_written, gm_u_written⟩ := o_u_written
  obtain ⟨⟨_, G_u_plan, bd_u_plan, _⟩, kp_u_plan, gm_u_plan⟩ := o_u_plan
  obtain ⟨⟨fd, F⟩, gm⟩ := hF
  refine ⟨⟨fd, F.ok sc_u_law (fun vs H Q E h => spU0_len h) (fun cdv A outer s H vs Q E hr h => ⟨tGS K WF0 b_u_law, PSs.nox ?_, u_fn0 (n := 1) (k := 6) (N := N_u_law) rfl h⟩), F.bindsN fun _ _ _ _ _ _ us hl => match us, hl with | [_], _ => rfl, lk_of F⟩, F.kp, gm⟩
  exact (show UB _ WF0 _ b_u_law from (u_bcons (u_set (j := 1) sc_u_law.nd rfl (Or.inl rfl) (u_call G_u_plan mFn_len (hr.mono (by decide)) (by rfl) gm_u_plan kp_u_plan bd_u_plan (fun σ => passAt takesF σ) (u_cons (ue_of (pv 0) so_var) u_nil))) (u_bcons (u_for PassesOwn.never rfl (u_itSeq (u_lst (u_cons (ue_of (pv 1) so_var) (u_cons (u_sl (ue_of (pv 1) so_var) u_nopart (u_part (u_op op_fdiv rel_fdiv (u_cbB cr_lenU rel_len (by rfl) m_len (by decide +kernel) (u_cons (ue_of (pv 1) so_var) u_nil)) (ue_of pe_int (so_c fun _ => .int _))))) (u_cons (u_sl (ue_of (pv 1) so_var) u_nopart (u_part (u_op op_fdiv rel_fdiv (u_cbB cr_lenU rel_len (by rfl) m_len (by decide +kernel) (u_cons (ue_of (pv 1) so_var) u_nil)) (ue_of pe_int (so_c fun _ => .int _))))) (u_cons (u_lst u_nil) u_nil)))))) (pg_name (i := 2) sc_u_law.nd rfl (Or.inl rfl)) sg_nm (u_bcons (u_set (j := 3) sc_u_law.nd rfl (Or.inl rfl) (u_call G_u_written mFn_len (hr.mono (by decide)) (by rfl) gm_u_written kp_u_written bd_u_written (fun σ => passAt takesF σ) (u_cons (ue_of (pv 2) so_var) u_nil))) (u_bcons (u_set (j := 4) sc_u_law.nd rfl (Or.inl rfl) (u_call G_u_read_plan mFn_len (hr.mono (by decide)) (by rfl) gm_u_read_plan kp_u_read_plan bd_u_read_plan (fun σ => passAt takesF σ) (u_cons (ue_of (pv 3) so_var) u_nil))) (u_bcons (u_if (u_tnot (u_val (u_call G_u_is_plan mFn_len (hr.mono (by decide)) (by rfl) gm_u_is_plan kp_u_is_plan bd_u_is_plan (fun σ => passAt takesF σ) (u_cons (ue_of (pv 4) so_var) (u_cons (ue_of (pv 2) so_var) u_nil))))) (u_bone (u_ret (ue_of pe_bl (so_c fun _ => .bl _)))) u_bnil) (u_bcons (u_for PassesOwn.never rfl (u_itSeq (ue_of (pv 4) so_var)) (pg_name (i := 5) sc_u_law.nd rfl (Or.inl rfl)) sg_nm (u_bone (u_if (u_tcmp (op_eqU hr.units) rel_eq (u_ix (hu_of hr) (ue_of (pv 5) so_var) (ue_of pe_int (so_c fun _ => .int _)) (fun _ _ => rfl)) (ue_of pe_str (so_c fun _ => .str _)) (nomark _)) (u_bcons (u_drop (ue_of (pe_bm PySem.F.plainAttrs_list PySem.F.slot_list_append PySem.F.type_list_append mt_append (u_ix (hu_of hr) (ue_of (pv 5) so_var) (ue_of pe_int (so_c fun _ => .int _)) (fun _ _ => rfl)) (u_cons (ue_of pe_str (so_c fun _ => .str _)) u_nil)) (so_bm kdL_ok rel_app sog sog))) (u_bone (u_drop (ue_of (pe_bm PySem.F.plainAttrs_list PySem.F.slot_list_append PySem.F.type_list_append mt_append (u_ix (hu_of hr) (ue_of (pv 5) so_var) (ue_of pe_int (so_c fun _ => .int _)) (fun _ _ => rfl)) (u_cons (ue_of pe_str (so_c fun _ => .str _)) u_nil)) (so_bm kdL_ok rel_app sog sog))))) u_bnil))) (u_bcons (u_drop (ue_of (pe_bm PySem.F.plainAttrs_list PySem.F.slot_list_append PySem.F.type_list_append mt_append (ue_of (pv 4) so_var) (u_cons (ue_of pe_non (so_c fun _ => .non)) u_nil)) (so_bm kdL_ok rel_app sog sog))) (u_bcons (u_if (u_tpt (u_tor (u_tnot (u_val (u_call G_u_is_plan mFn_len (hr.mono (by decide)) (by rfl) gm_u_is_plan kp_u_is_plan bd_u_is_plan (fun σ => passAt takesF σ) (u_cons (u_call G_u_read_plan mFn_len (hr.mono (by decide)) (by rfl) gm_u_read_plan kp_u_read_plan bd_u_read_plan (fun σ => passAt takesF σ) (u_cons (ue_of (pv 3) so_var) u_nil)) (u_cons (ue_of (pv 2) so_var) u_nil))))) (u_tor1 (u_tcmp (op_neU hr.units) rel_ne (u_cbB cr_lenU rel_len (by rfl) m_len (by decide +kernel) (u_cons (ue_of (pv 4) so_var) u_nil)) (u_op op_addU rel_add (u_cbB cr_lenU rel_len (by rfl) m_len (by decide +kernel) (u_cons (ue_of (pv 2) so_var) u_nil)) (ue_of pe_int (so_c fun _ => .int _))) (nomark _))))) (u_bone (u_ret (ue_of pe_bl (so_c fun _ => .bl _)))) u_bnil) (u_bone (u_for PassesOwn.never rfl (ui_of (RZ.pi_zipA (by rfl) m_zip (pa_cons (ue_of (pv 4) so_var) (pa_cons (ue_of (pv 2) so_var) pa_nil))) (so_zip sog sog)) (pg_tup rfl (pgs_cons (pg_name (i := 5) sc_u_law.nd rfl (Or.inl rfl)) (pgs_cons (pg_name (i := 6) sc_u_law.nd rfl (Or.inl rfl)) pgs_nil))) (sg_tp rfl) (u_bone (u_if (u_tpt (u_tand (u_tcmp (op_eqU hr.units) rel_eq (u_ix (hu_of hr) (ue_of (pv 5) so_var) (ue_of pe_int (so_c fun _ => .int _)) (fun _ _ => rfl)) (ue_of pe_str (so_c fun _ => .str _)) (nomark _)) (u_tand1 (u_tpt (u_tor (u_tcmp (op_neU hr.units) rel_ne (u_ix (hu_of hr) (ue_of (pv 5) so_var) (ue_of pe_int (so_c fun _ => .int _)) (fun _ _ => rfl)) (u_op op_addU rel_add (u_ix (hu_of hr) (ue_of (pv 6) so_var) (ue_of pe_int (so_c fun _ => .int _)) (fun _ _ => rfl)) (u_lst (u_cons (ue_of pe_str (so_c fun _ => .str _)) u_nil))) (nomark _)) (u_tor1 (u_tcmp (op_neU hr.units) rel_ne (u_ix (hu_of hr) (ue_of (pv 5) so_var) (ue_of pe_int (so_c fun _ => .int _)) (fun _ _ => rfl)) (u_op op_addU rel_add (u_ix (hu_of hr) (ue_of (pv 6) so_var) (ue_of pe_int (so_c fun _ => .int _)) (fun _ _ => rfl)) (u_lst (u_cons (ue_of pe_str (so_c fun _ => .str _)) u_nil))) (nomark _)))))))) (u_bone (u_ret (ue_of pe_bl (so_c fun _ => .bl _)))) u_bnil))))))))))) (u_bone (u_ret (u_cmp (op_eqU hr.units) rel_eq (u_call G_u_read_plan mFn_len (hr.mono (by decide)) (by rfl) gm_u_read_plan kp_u_read_plan bd_u_read_plan (fun σ => passAt takesF σ) (u_cons (u_join (ue_of pe_str (so_c fun _ => .str _)) (u_op op_mulU rel_mul (u_lst (u_cons (ue_of pe_str (so_c fun _ => .str _)) (u_cons (ue_of pe_str (so_c fun _ => .str _)) u_nil))) (ue_of pe_int (so_c fun _ => .int _)))) u_nil)) (u_op op_mulU rel_mul (u_lst (u_cons (u_tup (u_cons (ue_of pe_str (so_c fun _ => .str _)) (u_cons (ue_of pe_int (so_c fun _ => .int _)) u_nil))) (u_cons (u_tup (u_cons (ue_of pe_str (so_c fun _ => .str _)) (u_cons (ue_of pe_int (so_c fun _ => .int _)) u_nil))) u_nil))) (ue_of pe_int (so_c fun _ => .int _))) (nomark _)))))))
end Bw

namespace Bw
open PySem L2
theorem letM_eq {α β : Type} (x : α) (f : α → β) : letM x f = f x := Eq.trans rfl rfl
/-- step over a bind by the answer's equation (no unfolding left to the kernel) -/
theorem bo {α β : Type} {a : Option α} {x : α} (h : a = some x) (f : α → Option β) : a.bind f = f x := by subst h; rfl
/-! plain facts about what may fail -/
theorem atI_nn {α : Type} (xs : List α) (i : Nat) (h : i < xs.length) : atI xs (i : Int) = some xs[i] := by
  unfold atI ixN
  have h0 : (0 : Int) ≤ (i : Int) := by omega
  have h1 : (i : Int) < (xs.length : Int) := by omega
  rw [if_pos h0, if_pos h1]
  show xs[(i : Int).toNat]? = _
  rw [Int.toNat_natCast]
  exact List.getElem?_eq_getElem h
theorem atI_int {α : Type} (xs : List α) (i : Int) (h0 : 0 ≤ i) (h : i < xs.length) : ∃ x, atI xs i = some x ∧ xs[i.toNat]? = some x := by
  obtain ⟨n, rfl⟩ : ∃ n : Nat, i = n := ⟨i.toNat, by omega⟩
  have hn : n < xs.length := by omega
  refine ⟨xs[n], atI_nn xs n hn, ?_⟩
  rw [Int.toNat_natCast]
  exact List.getElem?_eq_getElem hn
theorem atI_mem {α : Type} {xs : List α} {i : Int} {x : α} (h : atI xs i = some x) : x ∈ xs := by
  unfold atI at h
  cases e : ixN xs.length i with
  | none => rw [e] at h; cases h
  | some j => rw [e] at h; exact List.mem_of_getElem? h
theorem appM_ok {α : Type} {xs : List α} {x : α} (h : xs.length < 100000) : appM xs x = some (xs ++ [x]) := by unfold appM; rw [if_pos h]
theorem catM_ok {α : Type} {xs ys : List α} (h : xs.length + ys.length ≤ 100000) : catM xs ys = some (xs ++ ys) := by unfold catM; rw [if_pos h]
theorem flat_one {α : Type} (x : α) : ∀ n : Nat, (List.replicate n [x]).flatten = List.replicate n x
  | 0 => rfl
  | n + 1 => by rw [List.replicate_succ, List.flatten_cons, flat_one x n]; rfl
theorem repM_one {α : Type} {x : α} {k : Int} (h0 : -(2 ^ 63) ≤ k) (h : k ≤ 100000) : repM [x] k = some (List.replicate k.toNat x) := by
  unfold repM
  rw [if_pos ⟨h0, by omega, by simp only [List.length_singleton]; omega⟩, flat_one]
theorem mulM_ok {a b : Int} (h1 : -(2 ^ 64) < a) (h2 : a < 2 ^ 64) : mulM a b = some (a * b) := by unfold mulM; rw [if_pos (.inl ⟨h1, h2⟩)]
theorem modM_ok {a b : Int} (h : 0 < b) : modM a b = some (a % b) := by unfold modM; rw [if_pos h]
theorem fdivM_ok {a b : Int} (h : 0 < b) (h2 : b < 1073741824) : fdivM a b = some (a / b) := by unfold fdivM; rw [if_pos ⟨h, h2⟩]
theorem rngM_ok {a b : Int} (h1 : -100000 ≤ a) (h2 : a ≤ 100000) (h3 : -100000 ≤ b) (h4 : b ≤ 100000) : rngM a b = some (rngL a b) := by unfold rngM; rw [if_pos ⟨by omega, by omega, by omega, by omega⟩]
theorem mapC_ok {α β : Type} {f : α → β} {xs : List α} (h : xs.length ≤ 100000) : mapC f xs = some (xs.map f) := by unfold mapC; rw [if_pos h]
theorem filC_ok {α β : Type} {p : α → Bool} {f : α → β} {xs : List α} (h : xs.length ≤ 100000) : filC p f xs = some ((xs.filter p).map f) := by unfold filC; rw [if_pos h]
theorem lcC_ok {α β : Type} {f : α → Option (Option β)} {xs : List α} (h : xs.length ≤ 100000) : lcC f xs = lcM f xs := by unfold lcC; rw [if_pos h]
theorem lcM_all {α β : Type} {f : α → Option (Option β)} {g : α → β} : ∀ {xs : List α}, (∀ x ∈ xs, f x = some (some (g x))) → lcM f xs = some (xs.map g)
  | [], _ => rfl
  | x :: xs, h => by
    show (f x).bind _ = _
    rw [h x List.mem_cons_self, lcM_all fun y hy => h y (List.mem_cons_of_mem _ hy)]
    rfl
theorem lcM_fil {α β : Type} {f : α → Option (Option β)} {p : α → Bool} {g : α → β} : ∀ {xs : List α}, (∀ x ∈ xs, f x = some (if p x = true then some (g x) else none)) → lcM f xs = some ((xs.filter p).map g)
  | [], _ => rfl
  | x :: xs, h => by
    show (f x).bind _ = _
    rw [h x List.mem_cons_self, lcM_fil fun y hy => h y (List.mem_cons_of_mem _ hy), List.filter_cons]
    cases p x <;> rfl
/-- a loop whose every turn goes on keeps what it keeps -/
theorem foldlM_inv {α S : Type} {body : S → α → Option S} (J : Nat → S → Prop) : ∀ (xs : List α) (i : Nat) (s : S), J i s → (∀ (k : Nat) (x : α) (s : S), xs[k]? = some x → J (i + k) s → ∃ t, body s x = some t ∧ J (i + k + 1) t) → ∃ r, xs.foldlM body s = some r ∧ J (i + xs.length) r
  | [], i, s, h, _ => ⟨s, rfl, h⟩
  | x :: xs, i, s, h, hb => by
    obtain ⟨t, h1, h2⟩ := hb 0 x s rfl h
    obtain ⟨r, h3, h4⟩ := foldlM_inv J xs (i + 1) t h2 fun k y u hy hu => by
      have e : i + 1 + k = i + (k + 1) := by omega
      rw [e] at hu ⊢
      exact hb (k + 1) y u (by simpa using hy) hu
    refine ⟨r, ?_, ?_⟩
    · rw [List.foldlM_cons, h1]; exact h3
    · have e : i + (x :: xs).length = i + 1 + xs.length := by rw [List.length_cons]; omega
      rw [e]; exact h4
theorem forF_nx {α S R : Type} {body : S → α → Option (Fl S R)} (J : S → Prop) : ∀ (xs : List α) (s : S), J s → (∀ x ∈ xs, ∀ s, J s → ∃ t, body s x = some (.nx t) ∧ J t) → ∃ r, forF body xs s = some (.nx r) ∧ J r
  | [], s, h, _ => ⟨s, rfl, h⟩
  | x :: xs, s, h, hb => by
    obtain ⟨t, h1, h2⟩ := hb x List.mem_cons_self s h
    obtain ⟨r, h3, h4⟩ := forF_nx J xs t h2 fun y hy => hb y (List.mem_cons_of_mem _ hy)
    refine ⟨r, ?_, h4⟩
    show (body s x).bind _ = _
    rw [h1]; exact h3
theorem enumM_get {α : Type} {xs : List α} {k : Nat} {p : Int × α} (h : (enumM xs)[k]? = some p) : ∃ x, xs[k]? = some x ∧ p = ((k : Int), x) := by
  unfold enumM at h
  rw [List.getElem?_mapIdx] at h
  cases e : xs[k]? with
  | none => rw [e] at h; cases h
  | some x => rw [e] at h; cases h; exact ⟨x, rfl, rfl⟩
theorem enumM_len {α : Type} (xs : List α) : (enumM xs).length = xs.length := by simp [enumM]
theorem rngL_len (a b : Int) : (rngL a b).length = (b - a).toNat := by simp [rngL]
theorem rngL_get {a b : Int} {k : Nat} {x : Int} (h : (rngL a b)[k]? = some x) : x = a + (k : Int) ∧ k < (b - a).toNat := by
  unfold rngL at h
  rw [List.getElem?_map] at h
  cases e : (List.range (b - a).toNat)[k]? with
  | none => rw [e] at h; cases h
  | some j =>
    rw [e] at h
    obtain ⟨h1, h2⟩ := List.getElem?_eq_some_iff.mp e
    rw [List.getElem_range] at h2
    cases h
    subst h2
    exact ⟨rfl, by simpa using h1⟩
/-- each thing below its size -/
inductive Bel : List Int → List Int → Prop
  | nil : Bel [] []
  | cons {x s : Int} {xs ss : List Int} : 0 ≤ x → x < s → Bel xs ss → Bel (x :: xs) (s :: ss)
theorem Bel.len : ∀ {xs ss : List Int}, Bel xs ss → xs.length = ss.length
  | _, _, .nil => rfl
  | _, _, .cons _ _ h => by rw [List.length_cons, List.length_cons, h.len]
theorem Bel.snoc : ∀ {xs ss : List Int} {x s : Int}, Bel xs ss → 0 ≤ x → x < s → Bel (xs ++ [x]) (ss ++ [s])
  | _, _, _, _, .nil, h1, h2 => .cons h1 h2 .nil
  | _, _, _, _, .cons a b h, h1, h2 => .cons a b (h.snoc h1 h2)
theorem Bel.get : ∀ {xs ss : List Int} {k : Nat} {s : Int}, Bel xs ss → ss[k]? = some s → ∃ x, xs[k]? = some x ∧ 0 ≤ x ∧ x < s
  | _, _, _, _, .nil, e => by simp at e
  | _, _, 0, _, .cons a b h, e => by simp at e; subst e; exact ⟨_, rfl, a, b⟩
  | _, _, k + 1, s, .cons a b h, e => by
    obtain ⟨x, h1, h2⟩ := h.get (k := k) (s := s) (by simpa using e)
    exact ⟨x, by simpa using h1, h2⟩
theorem Bel.at {xs ss : List Int} {k : Nat} {s : Int} (h : Bel xs ss) (e : ss[k]? = some s) : ∃ x, atI xs (k : Int) = some x ∧ 0 ≤ x ∧ x < s := by
  obtain ⟨x, h1, h2, h3⟩ := h.get e
  obtain ⟨hk, h4⟩ := List.getElem?_eq_some_iff.mp h1
  exact ⟨x, by rw [atI_nn xs k hk, h4], h2, h3⟩
theorem Bel.rep : ∀ {xs : List Int} {n : Nat} {s : Int}, Bel xs (List.replicate n s) → xs.length = n ∧ ∀ x ∈ xs, 0 ≤ x ∧ x < s
  | _, 0, _, h => by cases h; exact ⟨rfl, fun x hx => by cases hx⟩
  | _, n + 1, s, h => by
    rw [List.replicate_succ] at h
    cases h with
    | cons a b h =>
      obtain ⟨h1, h2⟩ := h.rep
      refine ⟨by rw [List.length_cons, h1], fun x hx => ?_⟩
      rcases List.mem_cons.mp hx with rfl | hx
      · exact ⟨a, b⟩
      · exact h2 x hx
theorem absI_nn (c : Int) : 0 ≤ absI c := by unfold absI; split <;> omega
end Bw

namespace Bw
open PySem L2
/-! what is told, and what is true of it -/
def Rt {α : Type} (o : Option α) (P : α → Prop) : Prop := ∃ x, o = some x ∧ P x
theorem Rt.mono {α : Type} {o : Option α} {P Q : α → Prop} (h : Rt o P) (k : ∀ x, P x → Q x) : Rt o Q := let ⟨x, h1, h2⟩ := h; ⟨x, h1, k x h2⟩
theorem Rt.mo {α : Type} {o : Option α} {P Q : α → Prop} (h : Rt o P) (k : ∀ x, o = some x → P x → Q x) : Rt o Q := let ⟨x, h1, h2⟩ := h; ⟨x, h1, k x h1 h2⟩
theorem Rt.eq {α : Type} {o : Option α} {y : α} (h : Rt o fun x => x = y) : o = some y := let ⟨x, h1, h2⟩ := h; h2 ▸ h1
theorem rt_of {α : Type} {o : Option α} {x : α} {P : α → Prop} (h : o = some x) (p : P x) : Rt o P := ⟨x, h, p⟩
theorem rt_some {α : Type} {x : α} {P : α → Prop} : Rt (some x) P ↔ P x := ⟨fun ⟨y, h1, h2⟩ => (Option.some.inj h1) ▸ h2, fun h => ⟨x, rfl, h⟩⟩
theorem rt_bind {α β : Type} {a : Option α} {f : α → Option β} {P : β → Prop} : Rt (a.bind f) P ↔ Rt a fun x => Rt (f x) P := by
  constructor
  · rintro ⟨y, h1, h2⟩
    obtain ⟨x, h3, h4⟩ := bnd h1
    exact ⟨x, h3, y, h4, h2⟩
  · rintro ⟨x, h3, y, h4, h2⟩
    exact ⟨y, by rw [h3]; exact h4, h2⟩
theorem rt_let {α β : Type} {x : α} {f : α → Option β} {P : β → Prop} : Rt (letM x f) P ↔ Rt (f x) P := Iff.rfl
theorem rt_ite {α : Type} {c : Prop} [Decidable c] {a b : Option α} {P : α → Prop} : Rt (if c then a else b) P ↔ (c → Rt a P) ∧ (¬ c → Rt b P) := by
  by_cases h : c
  · rw [if_pos h]; exact ⟨fun k => ⟨fun _ => k, fun z => absurd h z⟩, fun k => k.1 h⟩
  · rw [if_neg h]; exact ⟨fun k => ⟨fun z => absurd z h, fun _ => k⟩, fun k => k.2 h⟩
theorem rt_pos {α : Type} {c : Prop} [Decidable c] {a b : Option α} {P : α → Prop} (h : c) (k : Rt a P) : Rt (if c then a else b) P := by rw [if_pos h]; exact k
theorem rt_neg {α : Type} {c : Prop} [Decidable c] {a b : Option α} {P : α → Prop} (h : ¬ c) (k : Rt b P) : Rt (if c then a else b) P := by rw [if_neg h]; exact k
theorem rt_if {α : Type} {c : Prop} [Decidable c] {x : α} {P : Prop} [Decidable P] {Q : α → Prop} {o : Prop} (h : o) : o := h
theorem rt_g {α : Type} {p : Prop} [Decidable p] {x : α} {P : α → Prop} : Rt (if p then some x else none) P ↔ p ∧ P x := by
  by_cases h : p
  · rw [if_pos h, rt_some]; exact ⟨fun k => ⟨h, k⟩, fun k => k.2⟩
  · rw [if_neg h]; exact ⟨fun ⟨_, z, _⟩ => (nomatch z), fun k => absurd k.1 h⟩
theorem rt_app {α : Type} {xs : List α} {x : α} {P : List α → Prop} : Rt (appM xs x) P ↔ xs.length < 100000 ∧ P (xs ++ [x]) := by unfold appM; exact rt_g
theorem rt_cat {α : Type} {xs ys : List α} {P : List α → Prop} : Rt (catM xs ys) P ↔ xs.length + ys.length ≤ 100000 ∧ P (xs ++ ys) := by unfold catM; exact rt_g
theorem rt_mul {a b : Int} {P : Int → Prop} : Rt (mulM a b) P ↔ ((-(2 ^ 64) < a ∧ a < 2 ^ 64) ∨ (-(2 ^ 64) < b ∧ b < 2 ^ 64)) ∧ P (a * b) := by unfold mulM; exact rt_g
theorem rt_mod {a b : Int} {P : Int → Prop} : Rt (modM a b) P ↔ 0 < b ∧ P (a % b) := by unfold modM; exact rt_g
theorem rt_fdiv {a b : Int} {P : Int → Prop} : Rt (fdivM a b) P ↔ (0 < b ∧ b < 1073741824) ∧ P (a / b) := by unfold fdivM; exact rt_g
theorem rt_rng {a b : Int} {P : List Int → Prop} : Rt (rngM a b) P ↔ (-(2 ^ 62) ≤ a ∧ a < 2 ^ 62 ∧ -(2 ^ 62) ≤ b ∧ b < 2 ^ 62) ∧ P (rngL a b) := by unfold rngM; exact rt_g
theorem rt_scat {x y : Str} {P : Str → Prop} : Rt (scatM x y) P ↔ x.length + y.length ≤ 100000 ∧ P (x ++ y) := by unfold scatM; exact rt_g
theorem rt_lenS {x : Str} {P : Int → Prop} : Rt (lenS x) P ↔ x.length ≤ 100000 ∧ P (x.length : Int) := by unfold lenS; exact rt_g
theorem rt_str {x : Int} {P : Str → Prop} : Rt (strM x) P ↔ x.natAbs.log2 < 1920 ∧ P (toString x) := by unfold strM; exact rt_g
theorem rt_join {x : Str} {xs : List Str} {P : Str → Prop} : Rt (joinM x xs) P ↔ ((xs.map (·.length)).sum + x.length * xs.length) ≤ 100000 ∧ P (Txt.join x xs) := by unfold joinM; exact rt_g
theorem rt_mapC {α β : Type} {f : α → β} {xs : List α} {P : List β → Prop} : Rt (mapC f xs) P ↔ xs.length ≤ 100000 ∧ P (xs.map f) := by unfold mapC; exact rt_g
theorem rt_filC {α β : Type} {p : α → Bool} {f : α → β} {xs : List α} {P : List β → Prop} : Rt (filC p f xs) P ↔ xs.length ≤ 100000 ∧ P ((xs.filter p).map f) := by unfold filC; exact rt_g
theorem rt_lcC {α β : Type} {f : α → Option (Option β)} {xs : List α} {P : List β → Prop} : Rt (lcC f xs) P ↔ xs.length ≤ 100000 ∧ Rt (lcM f xs) P := by
  unfold lcC
  by_cases h : xs.length ≤ 100000
  · rw [if_pos h]; exact ⟨fun k => ⟨h, k⟩, fun k => k.2⟩
  · rw [if_neg h]; exact ⟨fun ⟨_, z, _⟩ => (nomatch z), fun k => absurd k.1 h⟩
theorem rt_rep {α : Type} {xs : List α} {k : Int} {P : List α → Prop} : Rt (repM xs k) P ↔ (-(2 ^ 63) ≤ k ∧ k < 2 ^ 63 ∧ xs.length * k.toNat ≤ 100000) ∧ P (List.replicate k.toNat xs).flatten := by unfold repM; exact rt_g
theorem rt_at {α : Type} {xs : List α} {i : Int} {P : α → Prop} (h0 : 0 ≤ i) (h : i < xs.length) (k : ∀ x, xs[i.toNat]? = some x → P x) : Rt (atI xs i) P := by
  obtain ⟨x, h1, h2⟩ := atI_int xs i h0 h
  exact ⟨x, h1, k x h2⟩
theorem rt_lc {α β : Type} {f : α → Option (Option β)} {R : α → β → Prop} : ∀ {xs : List α} {P : List β → Prop}, (∀ x ∈ xs, Rt (f x) fun o => ∃ y, o = some y ∧ R x y) → (∀ ys : List β, ys.length = xs.length → (∀ (i : Nat) x y, xs[i]? = some x → ys[i]? = some y → R x y) → P ys) → Rt (lcM f xs) P
  | [], P, _, k => ⟨[], rfl, k [] rfl fun i x y h => by simp at h⟩
  | x :: xs, P, h, k => by
    obtain ⟨o, h1, y, rfl, h2⟩ := h x List.mem_cons_self
    obtain ⟨ys, h3, h4, h5⟩ := rt_lc (xs := xs) (P := fun ys => ys.length = xs.length ∧ ∀ (i : Nat) x y, xs[i]? = some x → ys[i]? = some y → R x y) (fun z hz => h z (List.mem_cons_of_mem _ hz)) fun ys a b => ⟨a, b⟩
    refine ⟨y :: ys, ?_, k _ (by simp [h4]) fun i x' y' hx hy => ?_⟩
    · show (f x).bind _ = _
      rw [h1]
      show (lcM f xs).bind _ = _
      rw [h3]; rfl
    · cases i with
      | zero => simp at hx hy; subst hx; subst hy; exact h2
      | succ i => exact h5 i x' y' (by simpa using hx) (by simpa using hy)
/-- a loop by what it keeps: the turns so far -/
theorem rt_fold {α S : Type} {body : S → α → Option S} {xs : List α} {s : S} {P : S → Prop} (J : Nat → S → Prop) (h0 : J 0 s) (hb : ∀ (k : Nat) x s, xs[k]? = some x → J k s → Rt (body s x) (J (k + 1))) (hd : ∀ s, J xs.length s → P s) : Rt (xs.foldlM body s) P := by
  obtain ⟨r, h1, h2⟩ := foldlM_inv (body := body) J xs 0 s h0 fun k x t hx ht => by
    rw [Nat.zero_add] at ht ⊢
    exact hb k x t hx ht
  exact ⟨r, h1, hd r (by rwa [Nat.zero_add] at h2)⟩
/-- a loop that goes through -/
theorem rt_for {α S R : Type} {body : S → α → Option (Fl S R)} {xs : List α} {s : S} {P : Fl S R → Prop} (J : S → Prop) (h0 : J s) (hb : ∀ x ∈ xs, ∀ s, J s → Rt (body s x) fun f => ∃ t, f = .nx t ∧ J t) (hd : ∀ s, J s → P (.nx s)) : Rt (forF body xs s) P := by
  obtain ⟨r, h1, h2⟩ := forF_nx (body := body) J xs s h0 fun x hx t ht => by
    obtain ⟨f, h1, u, rfl, h2⟩ := hb x hx t ht
    exact ⟨u, h1, h2⟩
  exact ⟨_, h1, hd r h2⟩
end Bw

namespace Bw
open PySem L2 TL
/-! good stores -/
abbrev Bx := Str × Int × Int
abbrev Sto := List Int × List Int × Int × List Bx
theorem popM_ok {α : Type} {xs : List α} (i : Nat) (h : i < xs.length) (hl : xs.length < 1000000) : popM xs (i : Int) = some (xs[i], xs.eraseIdx i) := by
  unfold popM
  rw [if_pos ⟨by omega, by omega⟩]
  have e : seqIndex? (i : Int) xs.length = some i := by
    unfold seqIndex?
    have h0 : ¬ ((i : Int) < 0) := by omega
    simp only [if_neg h0, Int.toNat_natCast]
    rw [if_pos]
    simp; omega
  rw [bo e, List.getElem?_eq_getElem h]
  rfl
theorem erase_perm {α : Type} : ∀ (xs : List α) (i : Nat) (h : i < xs.length), xs.Perm (xs[i] :: xs.eraseIdx i)
  | x :: xs, 0, _ => .refl _
  | x :: xs, i + 1, h => by
    have h' : i < xs.length := by simpa using h
    exact ((erase_perm xs i h').cons x).trans (.swap _ _ _)
theorem remM_ok {xs : List Int} {x : Int} (h : x ∈ xs) : remM xs x = some (xs.erase x) := by
  unfold remM inL
  rw [if_pos]
  exact List.any_eq_true.mpr ⟨x, h, by simp⟩
theorem fold_arr (c : Nat) : ∀ (n : Nat) (a : Array Nat), ((List.replicate n #[c]).foldl (· ++ ·) a).toList = a.toList ++ List.replicate n c
  | 0, a => by simp
  | n + 1, a => by
    rw [List.replicate_succ, List.foldl_cons, fold_arr c n, List.replicate_succ]
    simp
theorem tl_mul1 (x : Str) (c : Nat) (hx : tl x = [c]) (n : Int) : tl (Txt.mul x n) = List.replicate n.toNat c := by
  have e : x = ⟨#[c]⟩ := ext_tl hx
  subst e
  unfold Txt.mul
  split
  · rename_i h
    have : n.toNat = 0 := by omega
    rw [this]; rfl
  · split
    · rename_i h1 h2
      simp [Str.length] at h2
      subst h2
      rfl
    · show ((List.replicate n.toNat #[c]).foldl (· ++ ·) #[]).toList = _
      rw [fold_arr]; rfl
theorem srepM_ok (x : Str) (c : Nat) (hx : tl x = [c]) (n : Int) (h0 : 0 ≤ n) (h : n ≤ 100) : srepM x n = some ⟨(List.replicate n.toNat c).toArray⟩ := by
  unfold srepM
  have hl : x.length = 1 := by rw [len_tl, hx]; rfl
  rw [if_pos ⟨by omega, by omega, by rw [hl]; omega⟩]
  exact congrArg some (ext_tl (by rw [tl_mul1 x c hx]))
theorem scatM_ok (x y : Str) (h : (tl x).length + (tl y).length ≤ 100000) : scatM x y = some ⟨(tl x ++ tl y).toArray⟩ := by
  unfold scatM
  rw [len_tl, len_tl, if_pos h]
  exact congrArg some (ext_tl (by rw [tl_append]))
abbrev abc : Str := "abcdefghijklmnopqrstuvwxyz"
theorem abc_ix : ∀ i : Fin 26, ixS abc ((i.val : Nat) : Int) = some ⟨#[97 + i.val]⟩ := by decide +kernel
theorem abc_at (i : Int) (h0 : 0 ≤ i) (h : i < 26) : ixS abc i = some ⟨#[97 + i.toNat]⟩ := by
  have := abc_ix ⟨i.toNat, by omega⟩
  simp only at this
  rw [← this]
  congr 1
  omega
def NmOk (s : Str) : Prop := 1 ≤ (tl s).length ∧ (tl s).length ≤ 8 ∧ ∀ c ∈ tl s, 97 ≤ c ∧ c ≤ 122
structure BxOk (rooms : List Int) (bs : List Bx) : Prop where
  len : bs.length ≤ 60
  nm : ∀ x ∈ bs, NmOk x.1
  nd : (bs.map (·.1)).Nodup
  ba : ∀ x ∈ bs, 0 ≤ x.2.1 ∧ x.2.1 < rooms.length
  bt : ∀ x ∈ bs, 0 ≤ x.2.2 ∧ x.2.2 < rooms.length
  ra : ∀ (b : Nat) (r : Int), rooms[b]? = some r → (bs.countP fun x => decide (x.2.1 = (b : Int))) ≤ r.toNat
  rt : ∀ (b : Nat) (r : Int), rooms[b]? = some r → (bs.countP fun x => decide (x.2.2 = (b : Int))) ≤ r.toNat
structure SOk (s : Sto) : Prop where
  n2 : 2 ≤ s.1.length
  n16 : s.1.length ≤ 16
  rm : ∀ r ∈ s.1, 1 ≤ r ∧ r ≤ 40
  gl : s.2.1.length + 1 = s.1.length
  gm : ∀ g ∈ s.2.1, 1 ≤ g ∧ g ≤ 1000000000
  mo : 1 ≤ s.2.2.1 ∧ s.2.2.1 ≤ 20
  bx : BxOk s.1 s.2.2.2
/-! equal to its copy -/
def Shp (n : Nat) (d : PyData) : Prop := d.canLay0 = true ∧ d.depth ≤ n
theorem Shp.mono {n m : Nat} {d : PyData} (h : Shp n d) (hm : n ≤ m) : Shp m d := ⟨h.1, Nat.le_trans h.2 hm⟩
theorem shp_int (i : Int) : Shp 0 (.int i) := ⟨rfl, Nat.le_refl _⟩
theorem shp_all {n : Nat} : ∀ {xs : List PyData}, (∀ x ∈ xs, Shp n x) → PyData.canLayAll0 xs = true ∧ PyData.depthAll xs ≤ n
  | [], _ => ⟨rfl, Nat.zero_le _⟩
  | x :: xs, h => by
    obtain ⟨a, b⟩ := shp_all fun y hy => h y (List.mem_cons_of_mem _ hy)
    obtain ⟨c, d⟩ := h x List.mem_cons_self
    unfold PyData.canLayAll0 PyData.depthAll
    rw [a, c]
    exact ⟨rfl, Nat.max_le.mpr ⟨d, b⟩⟩
theorem shp_list {n : Nat} {xs : List PyData} (h : ∀ x ∈ xs, Shp n x) : Shp (n + 1) (.list xs) := by
  obtain ⟨a, b⟩ := shp_all h
  exact ⟨by unfold PyData.canLay0; exact a, by unfold PyData.depth; omega⟩
theorem shp_tup {n : Nat} {xs : List PyData} (h : ∀ x ∈ xs, Shp n x) : Shp (n + 1) (.tuple xs) := by
  obtain ⟨a, b⟩ := shp_all h
  exact ⟨by unfold PyData.canLay0; exact a, by unfold PyData.depth; omega⟩
theorem shp_str {s : Str} (h : ∀ c ∈ tl s, c < 0x110000) : Shp 0 (.str s) := by
  refine ⟨?_, Nat.le_refl _⟩
  unfold PyData.canLay0 PyData.strOk
  rw [Array.all_eq_true']
  intro c hc
  exact decide_eq_true (h c (Array.mem_def.mp hc))
theorem shp_ints (xs : List Int) : Shp 1 (eL eI xs) := shp_list fun x hx => by
  obtain ⟨i, _, rfl⟩ := List.mem_map.mp hx
  exact shp_int i
theorem shp_box {x : Bx} (h : NmOk x.1) : Shp 1 (eT3 eS eI eI x) := shp_tup fun y hy => by
  have hs : Shp 0 (eS x.1) := shp_str fun c hc => by have := h.2.2 c hc; omega
  simp only [List.mem_cons, List.not_mem_nil, or_false] at hy
  rcases hy with rfl | rfl | rfl
  · exact hs
  · exact shp_int _
  · exact shp_int _
theorem shp_boxes {bs : List Bx} (h : ∀ x ∈ bs, NmOk x.1) : Shp 2 (eL (eT3 eS eI eI) bs) := shp_list fun x hx => by
  obtain ⟨y, hy, rfl⟩ := List.mem_map.mp hx
  exact shp_box (h y hy)
theorem shp_store {s : Sto} (h : SOk s) : Shp 3 (eT4 (eL eI) (eL eI) eI (eL (eT3 eS eI eI)) s) := shp_tup fun y hy => by
  simp only [List.mem_cons, List.not_mem_nil, or_false] at hy
  rcases hy with rfl | rfl | rfl | rfl
  · exact (shp_ints _).mono (by decide)
  · exact (shp_ints _).mono (by decide)
  · exact (shp_int _).mono (by decide)
  · exact shp_boxes h.bx.nm
theorem Shp.ok {n : Nat} {d : PyData} (h : Shp n d) (hn : n ≤ 64) : SeqAt.shaped d = true := by
  unfold SeqAt.shaped
  rw [h.1, decide_eq_true (Nat.le_trans h.2 hn)]; rfl
theorem eqT_self {α : Type} [DecidableEq α] {e : α → PyData} {x : α} {n : Nat} (h : Shp n (e x)) (hn : n ≤ 64) : eqTM e x x = some true := by
  unfold eqTM
  rw [if_pos ⟨h.ok hn, h.ok hn⟩, decide_eq_true rfl]
theorem setM_ok {α : Type} {xs : List α} {i : Int} (x : α) (h0 : 0 ≤ i) (h : i < xs.length) : setM xs i x = some (xs.set i.toNat x) := by
  unfold setM ixN
  rw [if_pos h0, if_pos h]
  rfl
theorem cut_take {α : Type} (xs : List α) (i : Int) (h0 : 0 ≤ i) : cutL xs none (some i) = xs.take i.toNat := by
  obtain ⟨k, rfl⟩ : ∃ k : Nat, i = k := ⟨i.toNat, by omega⟩
  unfold cutL
  rw [HT.sIx_none, HT.sIx_nat, Int.toNat_natCast, List.drop_zero, Nat.sub_zero]
  by_cases h : k ≤ xs.length
  · rw [Nat.min_eq_left h]
  · rw [Nat.min_eq_right (by omega), List.take_of_length_le (Nat.le_refl _), List.take_of_length_le (by omega)]
theorem bx_take {rooms : List Int} {bs : List Bx} (h : BxOk rooms bs) (n : Nat) : BxOk rooms (bs.take n) := by
  have sub := List.take_sublist n bs
  refine ⟨Nat.le_trans sub.length_le h.len, fun x hx => h.nm x (sub.mem hx), h.nd.sublist (sub.map _), fun x hx => h.ba x (sub.mem hx), fun x hx => h.bt x (sub.mem hx), fun b r e => Nat.le_trans (sub.countP_le) (h.ra b r e), fun b r e => Nat.le_trans (sub.countP_le) (h.rt b r e)⟩
theorem bx_room {rooms rooms' : List Int} {bs : List Bx} (h : BxOk rooms bs) (hl : rooms'.length = rooms.length) (hg : ∀ (b : Nat) (r' : Int), rooms'[b]? = some r' → ∃ r, rooms[b]? = some r ∧ r ≤ r') : BxOk rooms' bs := by
  refine ⟨h.len, h.nm, h.nd, by rw [hl]; exact h.ba, by rw [hl]; exact h.bt, fun b r' e => ?_, fun b r' e => ?_⟩
  · obtain ⟨r, e1, e2⟩ := hg b r' e
    have := h.ra b r e1; omega
  · obtain ⟨r, e1, e2⟩ := hg b r' e
    have := h.rt b r e1; omega
end Bw

namespace Bw
open PySem L2 TL
theorem cell_ok (s : List Int) (k : Int) (h : 0 ≤ k) : ∃ c, f_cell (s, k) = some c := by
  unfold f_cell
  dsimp only
  by_cases q : k < (s.length : Int)
  · rw [if_pos (decide_eq_true q)]
    obtain ⟨x, h1, _⟩ := atI_int s k h q
    rw [h1]
    exact ⟨x, rfl⟩
  · rw [if_neg (by simpa using q)]
    exact ⟨0, rfl⟩
end Bw

namespace Bw
open PySem L2
/-! the law's draws: each below its size -/
def SzOk (ss : List Int) : Prop := ∀ s ∈ ss, 0 < s ∧ s < 1073741824
theorem draws_turn (k : Int) (great : Bool) (number mixed : Int) (found : List Int) (turn size : Int) (hn : 0 ≤ number) (hm : 0 ≤ mixed) (hm2 : mixed < 2147483629) (hs : 0 < size) (hs2 : size < 1073741824) (hf : found.length < 100000) :
    ∃ number' mixed' x, f_draws_b31 k great (number, mixed, found) (turn, size) = some (number', mixed', found ++ [x]) ∧ 0 ≤ number' ∧ 0 ≤ mixed' ∧ mixed' < 2147483629 ∧ 0 ≤ x ∧ x < size := by
  unfold f_draws_b31
  dsimp only
  by_cases g : great = true
  · rw [if_pos g, modM_ok hs]
    dsimp only [Option.bind_some]
    rw [appM_ok hf]
    dsimp only [Option.bind_some]
    rw [fdivM_ok hs hs2]
    exact ⟨number / size, mixed, number % size, rfl, Int.ediv_nonneg hn (Int.le_of_lt hs), hm, hm2, Int.emod_nonneg _ (by omega), Int.emod_lt_of_pos _ hs⟩
  · rw [if_neg g, mulM_ok (by omega) (by omega)]
    dsimp only [Option.bind_some, letM]
    rw [modM_ok hs]
    dsimp only [Option.bind_some]
    rw [appM_ok hf]
    refine ⟨number, _, _, rfl, hn, Int.emod_nonneg _ (by decide), ?_, Int.emod_nonneg _ (by omega), Int.emod_lt_of_pos _ hs⟩
    have := Int.emod_lt_of_pos (mixed * mixed + 104729 * (k + turn) + 11) (show (0 : Int) < 2147483587 by decide)
    omega
theorem draws_ok (c k : Int) (ss : List Int) (h : SzOk ss) (hl : ss.length ≤ 1000) : ∃ r, f_draws (c, k, ss) = some r ∧ Bel r ss := by
  unfold f_draws
  dsimp only [letM]
  generalize hg : decide ((1000000000000000000 : Int) ≤ absI c) = great
  have hm := Int.emod_nonneg ((absI c % 1000000007 + 7919 * k + 1) * 48271) (show (2147483629 : Int) ≠ 0 by decide)
  have hm2 := Int.emod_lt_of_pos ((absI c % 1000000007 + 7919 * k + 1) * 48271) (show (0 : Int) < 2147483629 by decide)
  generalize (absI c % 1000000007 + 7919 * k + 1) * 48271 % 2147483629 = mixed at hm hm2 ⊢
  have step : ∀ (i : Nat) (x : Int × Int) (s : Int × Int × List Int), (enumM ss)[i]? = some x → (0 ≤ s.1 ∧ 0 ≤ s.2.1 ∧ s.2.1 < 2147483629 ∧ Bel s.2.2 (ss.take (0 + i))) → ∃ t, f_draws_b31 k great s x = some t ∧ (0 ≤ t.1 ∧ 0 ≤ t.2.1 ∧ t.2.1 < 2147483629 ∧ Bel t.2.2 (ss.take (0 + i + 1))) := by
    rintro i ⟨t, s⟩ ⟨n, m, f⟩ hi ⟨h1, h2, h3, h4⟩
    obtain ⟨s', hs, e⟩ := enumM_get hi
    cases e
    rw [Nat.zero_add] at h4 ⊢
    have hlt := (List.getElem?_eq_some_iff.mp hs).1
    have hfl : f.length < 100000 := by
      have := h4.len
      rw [List.length_take] at this
      have e : f.length = min i ss.length := this
      omega
    obtain ⟨p1, p2⟩ := h s (List.mem_of_getElem? hs)
    obtain ⟨n', m', x, e1, e2, e3, e4, e5, e6⟩ := draws_turn k great n m f (i : Int) s h1 h2 h3 p1 p2 hfl
    refine ⟨_, e1, e2, e3, e4, ?_⟩
    rw [List.take_add_one, hs]
    exact h4.snoc e5 e6
  obtain ⟨⟨n, m, f⟩, h1, h2⟩ := foldlM_inv (body := f_draws_b31 k great) (fun i (s : Int × Int × List Int) => 0 ≤ s.1 ∧ 0 ≤ s.2.1 ∧ s.2.1 < 2147483629 ∧ Bel s.2.2 (ss.take i)) (enumM ss) 0 (absI c, mixed, []) ⟨absI_nn c, hm, hm2, .nil⟩ step
  rw [h1]
  obtain ⟨_, _, _, hb⟩ := h2
  rw [enumM_len, Nat.zero_add, List.take_length] at hb
  exact ⟨f, rfl, hb⟩
end Bw

namespace Bw
open PySem L2 TL
/-! texts: lengths, joins -/
theorem log2_small {n : Nat} (h : n < 2 ^ 64) : n.log2 < 1920 := by
  by_cases h0 : n = 0
  · subst h0; decide
  · exact (Nat.log2_lt h0).mpr (Nat.lt_of_lt_of_le h (Nat.pow_le_pow_right (by decide) (by decide)))
theorem joinL_len (S : List Nat) : ∀ ps : List (List Nat), (joinL S ps).length ≤ (ps.map List.length).sum + S.length * ps.length
  | [] => by simp [joinL]
  | [p] => by simp [joinL]
  | p :: q :: ps => by
    have h := joinL_len S (q :: ps)
    simp only [joinL, List.length_append, List.map_cons, List.sum_cons, List.length_cons, Nat.mul_add, Nat.mul_one] at h ⊢
    omega
theorem join_len (x : Str) (xs : List Str) : (Txt.join x xs).length ≤ (xs.map (·.length)).sum + x.length * xs.length := by
  rw [join_eq, len_tl, tl_join]
  have h := joinL_len (tl x) (xs.map tl)
  rw [List.map_map, List.length_map] at h
  have e : xs.map (·.length) = xs.map (List.length ∘ tl) := List.map_congr_left fun s _ => by rw [len_tl]; rfl
  rw [e, len_tl]
  exact h
theorem sum_le (n : Nat) : ∀ {xs : List Str}, (∀ x ∈ xs, x.length ≤ n) → (xs.map (·.length)).sum ≤ n * xs.length
  | [], _ => by simp
  | x :: xs, h => by
    have h1 := sum_le n fun y hy => h y (List.mem_cons_of_mem _ hy)
    have h2 := h x List.mem_cons_self
    simp only [List.map_cons, List.sum_cons, List.length_cons, Nat.mul_add, Nat.mul_one]
    omega
/-- the text of a number -/
def nt (n : Int) : Str := Str.ofString (toString n)
theorem nt_len {n : Int} (h0 : 0 ≤ n) (h : n ≤ 1000000000) : (nt n).length ≤ 10 := PyProof.Rows.toString_length_le h0 (by decide) (by omega)
theorem strM_ok {n : Int} (h0 : 0 ≤ n) (h : n ≤ 1000000000) : strM n = some (nt n) := by unfold strM; rw [if_pos (log2_small (by omega))]; rfl
theorem scat_ok {x y : Str} (h : x.length + y.length ≤ 100000) : scatM x y = some (x ++ y) := by unfold scatM; rw [if_pos h]
theorem app_len (x y : Str) : (x ++ y).length = x.length + y.length := by rw [len_tl, tl_append, List.length_append, ← len_tl, ← len_tl]
theorem join_ok {x : Str} {xs : List Str} (h : (xs.map (·.length)).sum + x.length * xs.length ≤ 100000) : joinM x xs = some (Txt.join x xs) := by unfold joinM; rw [if_pos h]
theorem join_few {x : Str} {xs : List Str} {n : Nat} (h : ∀ y ∈ xs, y.length ≤ n) (hn : (n + x.length) * xs.length ≤ 100000) : joinM x xs = some (Txt.join x xs) ∧ (Txt.join x xs).length ≤ (n + x.length) * xs.length := by
  have := sum_le n h
  have e : (n + x.length) * xs.length = n * xs.length + x.length * xs.length := Nat.add_mul _ _ _
  exact ⟨join_ok (by omega), Nat.le_trans (join_len x xs) (by omega)⟩
theorem joinL_cons (S p : List Nat) : ∀ ps : List (List Nat), joinL S (p :: ps) = p ++ (ps.map (S ++ ·)).flatten
  | [] => by simp [joinL]
  | q :: ps => by
    show p ++ (S ++ joinL S (q :: ps)) = _
    rw [joinL_cons S q ps]
    simp
theorem tl_join_cons (S x : Str) (xs : List Str) : tl (Txt.join S (x :: xs)) = tl x ++ (xs.map fun y => tl S ++ tl y).flatten := by
  rw [join_eq, tl_join, List.map_cons, joinL_cons, List.map_map]
  rfl
theorem empty_app (x : Str) : Str.empty ++ x = x := ext_tl (by rw [tl_append]; rfl)
/-- " ".join of a word and words is the word, a blank, and the words joined -/
theorem join_front (S x : Str) {xs : List Str} (h : xs ≠ []) : Txt.join S (x :: xs) = x ++ S ++ Txt.join S xs := by
  cases xs with
  | nil => exact absurd rfl h
  | cons y ys =>
    apply ext_tl
    rw [tl_append, tl_append, tl_join_cons, tl_join_cons]
    simp
end Bw

namespace Bw
open PySem L2
theorem toNat_inj : ∀ {l m : List Char}, l.map Char.toNat = m.map Char.toNat → l = m
  | [], [], _ => rfl
  | [], _ :: _, h => by cases h
  | _ :: _, [], h => by cases h
  | a :: l, b :: m, h => by
    rw [List.map_cons, List.map_cons] at h
    injection h with h1 h2
    rw [toNat_inj h2, show a = b from Char.ext (UInt32.toNat_inj.mp h1)]
@[simp] theorem ofStr_inj {a b : String} : (Str.ofString a = Str.ofString b) = (a = b) := by
  apply propext
  constructor
  · intro h
    rw [Str.ofString_eq_toList, Str.ofString_eq_toList] at h
    injection h with h
    have h : a.toList = b.toList := toNat_inj (by simpa using congrArg Array.toList h)
    exact String.toList_inj.mp h
  · rintro rfl; rfl
/-! reductions of mirrors -/
section
variable {α β : Type} {v : α} {e : Xe} {lh l : LH} {k : α → LH → MR β} {env : Env} {b b' : Bool} {i j : Int} {n m : Nat} {s t : Str} {d d' : PyData} {ds es : List PyData} {h : Bool} {x y z : MV} {xs ys : List MV} {kvs : List (Key × MV)}
@[simp] theorem mB_ok : mB (some (.ok v, lh)) k = k v lh := rfl
@[simp] theorem mB_ex : mB (some (.ex e, lh)) k = some (.ex e, lh) := rfl
@[simp] theorem mB_no : mB none k = none := rfl
@[simp] theorem mO_so : mO (some (z, lh)) = some (.ok z, lh) := rfl
@[simp] theorem mO_no : mO none = none := rfl
@[simp] theorem mK_ok {k : α → LH → Option (Fw × Env × LH)} : mK (some (.ok v, lh)) env k = k v lh := rfl
@[simp] theorem mK_ex {k : α → LH → Option (Fw × Env × LH)} : mK (some (.ex e, lh)) env k = some (.ex e, env, lh) := rfl
@[simp] theorem mK_no {k : α → LH → Option (Fw × Env × LH)} : mK none env k = none := rfl
@[simp] theorem mRB_so : mRB (some b) lh = some (.ok b, lh) := rfl
@[simp] theorem mRB_no : mRB none lh = none := rfl
@[simp] theorem mRD_so : mRD (some v) lh = some (.ok v, lh) := rfl
@[simp] theorem ret_i : ret (some (.int i)) lh = some (.d (.int i), lh) := rfl
@[simp] theorem ret_b : ret (some (.bool b)) lh = some (.d (.bool b), lh) := rfl
@[simp] theorem ret_s : ret (some (.str s)) lh = some (.d (.str s), lh) := rfl
@[simp] theorem ret_n : ret (some .none) lh = some (.d .none, lh) := rfl
@[simp] theorem ret_no : ret none lh = none := rfl
@[simp] theorem pu1_d {f : PyData → Option PyData} : pu1 f (.d d) lh = ret (f d) lh := rfl
@[simp] theorem pu2_d {f : PyData → PyData → Option PyData} : pu2 f (.d d) (.d d') lh = ret (f d d') lh := rfl
@[simp] theorem puN_1 {f : List PyData → Option PyData} : puN f [.d d] lh = ret (f [d]) lh := rfl
@[simp] theorem puN_2 {f : List PyData → Option PyData} : puN f [.d d, .d d'] lh = ret (f [d, d']) lh := rfl
@[simp] theorem absP_i : absP [.int i] = some (.int (absI i)) := rfl
@[simp] theorem min2_i : min2P [.int i, .int j] = some (.int (minI i j)) := rfl
@[simp] theorem max2_i : max2P [.int i, .int j] = some (.int (maxI i j)) := rfl
@[simp] theorem intP_i : intP [.int i] = some (.int i) := rfl
@[simp] theorem intP_b : intP [.bool b] = some (.int (b2I b)) := rfl
@[simp] theorem strP_i : strP [.int i] = (strM i).map .str := rfl
@[simp] theorem gAdd_i : gAdd h (.d (.int i)) (.d (.int j)) lh = some (.d (.int (i + j)), lh) := rfl
@[simp] theorem gAddI_i : gAddI (.d (.int i)) (.d (.int j)) lh = some (.d (.int (i + j)), lh) := rfl
@[simp] theorem gSubI_i : gSubI (.d (.int i)) (.d (.int j)) lh = some (.d (.int (i - j)), lh) := rfl
@[simp] theorem gSubt_i : gSubt (.d (.int i)) (.d (.int j)) lh = some (.d (.int (i - j)), lh) := rfl
@[simp] theorem gNeg_i : gNeg (.d (.int i)) lh = some (.d (.int (-i)), lh) := rfl
@[simp] theorem gMul_i : gMul h (.d (.int i)) (.d (.int j)) lh = (mulM i j).map fun c => (.d (.int c), lh) := by
  show (match ret ((mulM i j).map PyData.int) lh with | some z => some z | none => _) = _
  cases q : mulM i j with
  | some c => rfl
  | none => rfl
@[simp] theorem gMod_i : gMod (.d (.int i)) (.d (.int j)) lh = (modM i j).map fun c => (.d (.int c), lh) := by
  show ret ((modM i j).map PyData.int) lh = _
  cases q : modM i j <;> rfl
@[simp] theorem gFdiv_i : gFdiv (.d (.int i)) (.d (.int j)) lh = (fdivM i j).map fun c => (.d (.int c), lh) := by
  show ret ((fdivM i j).map PyData.int) lh = _
  cases q : fdivM i j <;> rfl
@[simp] theorem gPow_i : gPow (.d (.int i)) (.d (.int j)) lh = (powM i j).map fun c => (.d (.int c), lh) := by
  show ret ((powM i j).map PyData.int) lh = _
  cases q : powM i j <;> rfl
@[simp] theorem gLt_i : gLt (.d (.int i)) (.d (.int j)) lh = some (.d (.bool (decide (i < j))), lh) := rfl
@[simp] theorem gLe_i : gLe (.d (.int i)) (.d (.int j)) lh = some (.d (.bool (decide (i ≤ j))), lh) := rfl
@[simp] theorem gGt_i : gGt (.d (.int i)) (.d (.int j)) lh = some (.d (.bool (decide (j < i))), lh) := rfl
@[simp] theorem gGe_i : gGe (.d (.int i)) (.d (.int j)) lh = some (.d (.bool (decide (j ≤ i))), lh) := rfl
@[simp] theorem gEq_i : gEq (.d (.int i)) (.d (.int j)) lh = some (.d (.bool (decide (i = j))), lh) := rfl
@[simp] theorem gEq_s : gEq (.d (.str s)) (.d (.str t)) lh = some (.d (.bool (decide (s = t))), lh) := rfl
@[simp] theorem gEq_b : gEq (.d (.bool b)) (.d (.bool b')) lh = some (.d (.bool (decide (b = b'))), lh) := rfl
@[simp] theorem gEq_ni : gEq (.d .none) (.d (.int j)) lh = some (.d (.bool false), lh) := rfl
@[simp] theorem gEq_in : gEq (.d (.int j)) (.d .none) lh = some (.d (.bool false), lh) := rfl
@[simp] theorem gEq_nn : gEq (.d .none) (.d .none) lh = some (.d (.bool true), lh) := rfl
@[simp] theorem gNe_i : gNe (.d (.int i)) (.d (.int j)) lh = some (.d (.bool (!decide (i = j))), lh) := rfl
@[simp] theorem gNe_s : gNe (.d (.str s)) (.d (.str t)) lh = some (.d (.bool (!decide (s = t))), lh) := rfl
@[simp] theorem gNe_b : gNe (.d (.bool b)) (.d (.bool b')) lh = some (.d (.bool (!decide (b = b'))), lh) := rfl
@[simp] theorem gNe_ni : gNe (.d .none) (.d (.int j)) lh = some (.d (.bool true), lh) := rfl
@[simp] theorem gNe_in : gNe (.d (.int j)) (.d .none) lh = some (.d (.bool true), lh) := rfl
@[simp] theorem gNe_nn : gNe (.d .none) (.d .none) lh = some (.d (.bool false), lh) := rfl
@[simp] theorem gNe_nb : gNe (.d .none) (.d (.bool b)) lh = some (.d (.bool true), lh) := by cases b <;> rfl
@[simp] theorem gNe_bn : gNe (.d (.bool b)) (.d .none) lh = some (.d (.bool true), lh) := by cases b <;> rfl
theorem gEq_t (a : SeqAt.shaped d = true) (b : SeqAt.shaped d' = true) (c : eqSP d d' = none) : gEq (.d d) (.d d') lh = some (.d (.bool (PyData.eqv d d')), lh) := by
  show (match ret (eqSP d d') lh with | some z => some z | none => ret (eqDP d d') lh) = _
  rw [c]
  show ret (eqDP d d') lh = _
  unfold eqDP
  rw [if_pos ⟨a, b⟩]; rfl
@[simp] theorem gIsi_d {c : String} : gIsi c (.d d) lh = some (.d (.bool (isiD c d)), lh) := rfl
@[simp] theorem ixU_dl : ixU (.d (.list ds)) (.d (.int i)) lh = (atI (ds.map MV.d) i).map fun z => (z, lh) := by
  show (match (atI (ds.map MV.d) i).map fun z => (z, lh) with | some z => some z | none => none) = _
  cases atI (ds.map MV.d) i <;> rfl
@[simp] theorem ixU_dt : ixU (.d (.tuple ds)) (.d (.int i)) lh = (atI (ds.map MV.d) i).map fun z => (z, lh) := by
  unfold ixU alt2 ixL ixT ixC ixK sqL sqT dcO
  simp only [vI, vS]
  cases atI (ds.map MV.d) i <;> rfl
theorem ixU_l {a : Nat} (g : lh[a]? = some (.lst xs)) : ixU (.r a) (.d (.int i)) lh = (atI xs i).map fun z => (z, lh) := by
  unfold ixU alt2 ixL ixT ixC ixK sqL sqT dcO
  simp only [g, vI, vS]
  cases atI xs i <;> rfl
theorem ixU_k {a : Nat} {k : Key} {y : MV} (g : lh[a]? = some (.dct kvs)) (q : keyO y = some k) : ixU (.r a) y lh = (valM kvs k).map fun z => (z, lh) := by
  unfold ixU alt2 ixL ixT ixC ixK sqL sqT dcO
  simp only [g, vS, q]
theorem ixU_kf {a : Nat} {k : Key} {y : MV} (g : lh[a]? = some (.fdc kvs)) (q : keyO y = some k) : ixU (.r a) y lh = (valM kvs k).map fun z => (z, lh) := by
  unfold ixU alt2 ixL ixT ixC ixK sqL sqT dcO
  simp only [g, vS, q]
@[simp] theorem newLt : newL true xs lh = if szB xs.length = true then some (.r lh.length, lh ++ [.lst xs]) else none := by unfold newL; rfl
@[simp] theorem oAll_vDc : oAll vD (.d d :: xs) = (oAll vD xs).map (d :: ·) := rfl
@[simp] theorem oAll_nil {f : α → Option β} : oAll f [] = some [] := rfl
@[simp] theorem oAll_rdc : oAll (rdA lh) (.d d :: xs) = (oAll (rdA lh) xs).map (d :: ·) := rfl
@[simp] theorem oAll_rdn {q : Nat} : oAll (rd q lh) (.d d :: xs) = (oAll (rd q lh) xs).map (d :: ·) := by rw [oAll, rd_d]
@[simp] theorem newLf : newL false xs lh = if szB xs.length = true then (oAll vD xs).map (fun ds => (.d (.list ds), lh)) else none := by
  unfold newL
  split
  · rw [if_neg (by decide)]
    cases oAll vD xs <;> rfl
  · rfl
@[simp] theorem newTd : newT (ds.map MV.d) lh = if szB ds.length = true then some (.d (.tuple ds), lh) else none := by
  unfold newT; rw [oAll_vD, List.length_map]
@[simp] theorem sqL_d : sqL lh (.d (.list ds)) = some (ds.map MV.d) := rfl
@[simp] theorem sqT_d : sqT lh (.d (.tuple ds)) = some (ds.map MV.d) := rfl
@[simp] theorem sqL_i : sqL lh (.d (.int i)) = none := rfl
@[simp] theorem sqL_t : sqL lh (.d (.tuple ds)) = none := rfl
@[simp] theorem gLen_dl : gLen [.d (.list ds)] lh = some (.d (.int ds.length), lh) := by
  unfold gLen altN gLenQ
  simp only [sqL_d, List.length_map]
@[simp] theorem fld1_r {cl : List Str} {f : Str} {a : Nat} : fld1 cl f (.r a) lh = match lh[a]? with
    | some (.ins c fs) => if c ∈ cl then (lookG f fs).map fun z => (z, lh) else none
    | _ => none := by
  unfold fld1
  rfl
end
/-! mirrors applied; only the first piece is looked at until it is known -/
section
variable {α β : Type} {env e1 : Env} {lh l : LH} {a b o t' : ME} {t : MA} {c : MT} {v : MV} {x : Xe} {sa sb : MS}
theorem mB_cg {m m' : MR α} {k : α → LH → MR β} (h : m = m') : mB m k = mB m' k := by rw [h]
theorem mK_cg {m m' : MR α} {k : α → LH → Option (Fw × Env × LH)} (h : m = m') : mK m env k = mK m' env k := by rw [h]
def mQ (r : Option (Fw × Env × LH)) (k : MS) : Option (Fw × Env × LH) := match r with
  | some (.nx, e, l) => k e l
  | r => r
theorem mQ_cg {m m' : Option (Fw × Env × LH)} {k : MS} (h : m = m') : mQ m k = mQ m' k := by rw [h]
@[simp] theorem mQ_nx : mQ (some (.nx, env, lh)) sa = sa env lh := rfl
@[simp] theorem mQ_rt : mQ (some (.rt v, env, lh)) sa = some (.rt v, env, lh) := rfl
@[simp] theorem mQ_ex : mQ (some (.ex x, env, lh)) sa = some (.ex x, env, lh) := rfl
@[simp] theorem mQ_br : mQ (some (.br, env, lh)) sa = some (.br, env, lh) := rfl
@[simp] theorem mQ_ct : mQ (some (.ct, env, lh)) sa = some (.ct, env, lh) := rfl
@[simp] theorem mQ_no : mQ none sa = none := rfl
def mI {γ : Type} (b : Bool) (x y : γ) : γ := if b = true then x else y
theorem mI_cg {γ : Type} {b b' : Bool} {x y : γ} (h : b = b') : mI b x y = mI b' x y := by rw [h]
@[simp] theorem mI_t {γ : Type} {x y : γ} : mI true x y = x := rfl
@[simp] theorem mI_f {γ : Type} {x y : γ} : mI false x y = y := rfl
def mF (r : Option (Fw × Env × LH)) : MR MV := match r with
  | some (.rt v, _, l) => some (.ok v, l)
  | some (.nx, _, l) => some (.ok (.d .none), l)
  | some (.ex e, _, l) => some (.ex e, l)
  | _ => none
@[simp] theorem mF_rt : mF (some (.rt v, env, lh)) = some (.ok v, lh) := rfl
@[simp] theorem mF_nx : mF (some (.nx, env, lh)) = some (.ok (.d .none), lh) := rfl
@[simp] theorem mF_ex : mF (some (.ex x, env, lh)) = some (.ex x, lh) := rfl
theorem mFn_e {n k : Nat} {xs : List MV} : mFn n k sa xs lh = if xs.length = n then mF (sa (xs.map some ++ List.replicate k none) lh) else none := rfl
@[simp] theorem mSeq_e : mSeq sa sb env lh = mQ (sa env lh) sb := rfl
@[simp] theorem mSkip_e : mSkip env lh = some (.nx, env, lh) := rfl
@[simp] theorem mDrop_e : mDrop a env lh = mK (a env lh) env fun _ l => some (.nx, env, l) := rfl
@[simp] theorem mRet_e : mRet a env lh = mK (a env lh) env fun v l => some (.rt v, env, l) := rfl
@[simp] theorem mRetN_e : mRetN env lh = some (.rt (.d .none), env, lh) := rfl
@[simp] theorem mIfS_e : mIfS c sa sb env lh = mK (c env lh) env fun k l => mI k (sa env l) (sb env l) := rfl
def mOE (o : Option Env) (l : LH) : Option (Fw × Env × LH) := match o with
  | some e => some (.nx, e, l)
  | none => none
@[simp] theorem mOE_so : mOE (some env) lh = some (.nx, env, lh) := rfl
@[simp] theorem mAsg_e {g : MTg} : mAsg a g env lh = mK (a env lh) env fun v l => mOE (g v env l) l := rfl
def mOL (o : Option LH) (e : Env) : Option (Fw × Env × LH) := match o with
  | some l => some (.nx, e, l)
  | none => none
@[simp] theorem mOL_so : mOL (some lh) env = some (.nx, env, lh) := rfl
@[simp] theorem mFld_e {cl : List Str} {f : Str} : mFld cl f o env lh = mB (o env lh) fun x l => mO (fld1 cl f x l) := rfl
@[simp] theorem mFldSet_e {cl : List Str} {f : Str} : mFldSet cl f o a env lh = mK (a env lh) env fun y l1 => mK (o env l1) env fun x l2 => mOL (setF cl f x y l2) env := rfl
@[simp] theorem mSub_e : mSub o b a env lh = mK (a env lh) env fun v l1 => mK (o env l1) env fun x l2 => mK (b env l2) env fun y l3 => mOL (setO x y v l3) env := rfl
@[simp] theorem mVar_e {i : Nat} : mVar i env lh = match env[i]? with
  | some (some v) => some (.ok v, lh)
  | _ => none := rfl
@[simp] theorem mC_e {d : PyData} : mC d env lh = some (.ok (.d d), lh) := rfl
@[simp] theorem mOp1_e {g : G1} : mOp1 g a env lh = mB (a env lh) fun x l => mO (g x l) := rfl
@[simp] theorem mOp2_e {g : G2} : mOp2 g a b env lh = mB (a env lh) fun x l => mB (b env l) fun y l2 => mO (g x y l2) := rfl
@[simp] theorem mNil_e : mNil env lh = some (.ok [], lh) := rfl
@[simp] theorem mCons_e : mCons a t env lh = mB (a env lh) fun x l => mB (t env l) fun xs l2 => some (.ok (x :: xs), l2) := rfl
@[simp] theorem mCB_e {g : GN} : mCB g t env lh = mB (t env lh) fun xs l => mO (g xs l) := rfl
@[simp] theorem mMt_e {g : MV → GN} : mMt g o t env lh = mB (o env lh) fun x l => mB (t env l) fun xs l2 => mO (g x xs l2) := rfl
@[simp] theorem mCall_e {f : List MV → LH → MR MV} : mCall f t env lh = mB (t env lh) f := rfl
@[simp] theorem mTest_e : mTest a env lh = mB (a env lh) fun x l => mRB (vB x) l := rfl
def mV (o : Option Bool) (x y : Bool → MR MV) : MR MV := match o with
  | some true => x true
  | some false => y false
  | none => none
@[simp] theorem mAndV_e : mAndV a b env lh = mB (a env lh) fun x l => match vB x with
  | some true => b env l
  | some false => some (.ok (.d (.bool false)), l)
  | none => none := rfl
@[simp] theorem mOrV_e : mOrV a b env lh = mB (a env lh) fun x l => match vB x with
  | some false => b env l
  | some true => some (.ok (.d (.bool true)), l)
  | none => none := rfl
@[simp] theorem mNotV_e : mNotV a env lh = mB (a env lh) fun x l => match vB x with
  | some c => some (.ok (.d (.bool (!c))), l)
  | none => none := rfl
@[simp] theorem mIfE_e : mIfE c a b env lh = mB (c env lh) fun k l => mI k (a env l) (b env l) := rfl
@[simp] theorem mNotT_e : mNotT c env lh = mB (c env lh) fun b l => some (.ok (!b), l) := rfl
@[simp] theorem mAndT_e {d : MT} : mAndT c d env lh = mB (c env lh) fun k l => mI k (d env l) (some (.ok false, l)) := rfl
@[simp] theorem mOrT_e {d : MT} : mOrT c d env lh = mB (c env lh) fun k l => mI k (some (.ok true, l)) (d env l) := rfl
@[simp] theorem mYes_e : mYes env lh = some (.ok true, lh) := rfl
@[simp] theorem mChain_e {g g' : G2} {d : ME} : mChain g g' a b d env lh = mB (a env lh) fun x l1 => mB (b env l1) fun y l2 => match g x y l2 with
  | some (.d (.bool true), l3) => mB (d env l3) fun z l4 => mO (g' y z l4)
  | some (.d (.bool false), l3) => some (.ok (.d (.bool false)), l3)
  | _ => none := rfl
@[simp] theorem mLst_e {h : Bool} : mLst h t env lh = mB (t env lh) fun xs l => mO (newL h xs l) := rfl
@[simp] theorem mTup_e : mTup t env lh = mB (t env lh) fun xs l => mO (newT xs l) := rfl
@[simp] theorem mDict0_e {h : Bool} : mDict0 h env lh = if h = true then some (.ok (.r lh.length), lh ++ [.dct []]) else some (.ok (.d (.dict [])), lh) := rfl
@[simp] theorem mPairs_nil : mPairs [] env lh = some (.ok [], lh) := rfl
@[simp] theorem mPairs_cons {ps : List (ME × ME)} : mPairs ((a, b) :: ps) env lh = mB (a env lh) fun x l1 => match keyO x with
    | some kk => mB (b env l1) fun y l2 => mB (mPairs ps env l2) fun r l3 => some (.ok ((kk, y) :: r), l3)
    | none => none := rfl
@[simp] theorem mDisp_e {ps : List (ME × ME)} : mDisp ps env lh = mB (mPairs ps env lh) fun kvs l => if kvs.length ≤ 15 then some (.ok (.r l.length), l ++ [.dct (mrgN [] kvs)]) else none := rfl
@[simp] theorem mItSeq_e : mItSeq a env lh = mB (a env lh) fun x l => mRD (iSeq x l) l := rfl
@[simp] theorem mRng1_e : mRng1 a env lh = mB (a env lh) fun x l => match vI x with
  | some j => if bdI j = true then some (.ok (.rng 0 j.toNat), l) else none
  | none => none := rfl
@[simp] theorem mRng2_e : mRng2 a b env lh = mB (a env lh) fun x lh1 => mB (b env lh1) fun y lh2 => match vI x, vI y with
  | some i, some j => if bdI i = true ∧ bdI j = true then some (.ok (.rng i (j - i).toNat), lh2) else none
  | _, _ => none := rfl
@[simp] theorem mFor_e {it : MI} {tg : MTg} : mFor it tg sa env lh = mK (it env lh) env fun d l => mGo d tg sa (d.cap l + 1) 0 env l := rfl
def mLk (h : Bool) (o : Option (LH × List MV)) : MR MV := match o with
  | some (l2, ys) => mO (newL h ys l2)
  | none => none
@[simp] theorem mLk_so {h : Bool} {ys : List MV} : mLk h (some (lh, ys)) = mO (newL h ys lh) := rfl
@[simp] theorem mLc_e {h : Bool} {it : MI} {tg : MTg} {vs : List Nat} : mLc h it tg c a vs env lh = mB (it env lh) fun d l => mLk h (lcGo d tg c a vs env (d.cap l + 1) 0 l []) := rfl
@[simp] theorem mKeys_e : mKeys a env lh = mB (a env lh) fun x l => match x with
  | .r i => match fdO i l with
    | some _ => some (.ok (.keys i), l)
    | none => none
  | _ => none := rfl
@[simp] theorem mIts_e : mIts a env lh = mB (a env lh) fun x l => match x with
  | .r i => match fdO i l with
    | some _ => some (.ok (.its i), l)
    | none => none
  | _ => none := rfl
@[simp] theorem mRaise_e {s : Str} : mRaise s env lh = some (.ex (s, .none), env, lh) := rfl
def mTk (cl : List Str) (i j : Nat) (r : Option (Fw × Env × LH)) : Option (Fw × Env × LH) := match r with
  | some (.ex e, e1, l1) => if e.1 ∈ cl ∧ i < e1.length then some (.nx, (((e1.set i (some (.x e))).set j (some (.x e))).set i none), l1) else none
  | r => r
@[simp] theorem mTk_nx {cl : List Str} {i j : Nat} : mTk cl i j (some (.nx, env, lh)) = some (.nx, env, lh) := rfl
@[simp] theorem mTk_ex {cl : List Str} {i j : Nat} : mTk cl i j (some (.ex x, env, lh)) = if x.1 ∈ cl ∧ i < env.length then some (.nx, (((env.set i (some (.x x))).set j (some (.x x))).set i none), lh) else none := rfl
@[simp] theorem mTryK_e {cl : List Str} {i j : Nat} : mTryK cl i j sa env lh = mTk cl i j (sa env lh) := rfl
def mMk (i : Nat) (r : MR MV) : MR MV := match r with
  | some (.ok (.d .none), lh2) => some (.ok (.r i), lh2)
  | some (.ok _, _) => none
  | some (.ex e, lh2) => some (.ex e, lh2)
  | none => none
@[simp] theorem mMk_ok {i : Nat} : mMk i (some (.ok (.d .none), lh)) = some (.ok (.r i), lh) := rfl
@[simp] theorem mMk_ex {i : Nat} : mMk i (some (.ex x, lh)) = some (.ex x, lh) := rfl
@[simp] theorem mMake_e {s : Str} {f : List MV → LH → MR MV} : mMake s f t env lh = mB (t env lh) fun xs l => mMk l.length (f (.r l.length :: xs) (l ++ [.ins s []])) := rfl
@[simp] theorem mMeC_e {s m : Str} {f : List MV → LH → MR MV} : mMeC s m f o t env lh = mB (o env lh) fun x l => match x with
  | .r i => match l[i]? with
    | some (.ins c' fs) => if c' = s ∧ lookG m fs = none then mB (t env l) fun xs l2 => f (x :: xs) l2 else none
    | _ => none
  | _ => none := rfl
end
/-! loops over data -/
section
variable {α : Type} {d : ItD} {tg : MTg} {tt : MT} {elt : ME} {vs : List Nat} {env : Env} {lh : LH}
theorem lc_run (xs : List α) (g : α → MV) (o : α → Option MV) (hd : ∀ i, d.get i lh = some (xs[i]?.map fun a => (g a, lh)))
    (hs : ∀ a ∈ xs, ∃ e1, tg (g a) (mwipe env vs) lh = some e1 ∧ tt e1 lh = some (.ok (o a).isSome, lh) ∧ ∀ y, o a = some y → elt e1 lh = some (.ok y, lh)) :
    ∀ n i acc, xs.length - i < n → acc.length + (xs.length - i) ≤ 100000 → lcGo d tg tt elt vs env n i lh acc = some (lh, acc ++ (xs.drop i).filterMap o)
  | 0, i, acc, h, _ => absurd h (Nat.not_lt_zero _)
  | n + 1, i, acc, h, hz => by
    unfold lcGo
    rw [hd i]
    cases q : xs[i]? with
    | none =>
      have : xs.length ≤ i := List.getElem?_eq_none_iff.mp q
      rw [List.drop_eq_nil_of_le this]
      simp
    | some a =>
      obtain ⟨hi, q2⟩ := List.getElem?_eq_some_iff.mp q
      obtain ⟨e1, k1, k2, k3⟩ := hs a (q2 ▸ List.getElem_mem hi)
      have hdr : xs.drop i = a :: xs.drop (i + 1) := by rw [List.drop_eq_getElem_cons hi, q2]
      simp only [Option.map_some, k1, k2]
      cases r : o a with
      | none =>
        simp only [Option.isSome_none]
        rw [lc_run xs g o hd hs n (i + 1) acc (by omega) (by omega), hdr, List.filterMap_cons_none r]
      | some y =>
        simp only [Option.isSome_some, k3 y r]
        rw [if_pos (szB_of (by omega)), lc_run xs g o hd hs n (i + 1) (acc ++ [y]) (by omega) (by simp; omega), hdr, List.filterMap_cons_some r]
        simp
theorem go_run {body : MS} (N : Nat) (I : Nat → Env → LH → Prop)
    (hs : ∀ i env lh, i < N → I i env lh → ∃ z lh1 e1 e2 l2, d.get i lh = some (some (z, lh1)) ∧ tg z env lh1 = some e1 ∧ body e1 lh1 = some (.nx, e2, l2) ∧ I (i + 1) e2 l2)
    (he : ∀ env lh, I N env lh → d.get N lh = some none) :
    ∀ n i env lh, N - i < n → i ≤ N → I i env lh → ∃ env' lh', mGo d tg body n i env lh = some (.nx, env', lh') ∧ I N env' lh'
  | 0, i, env, lh, h, _, _ => absurd h (Nat.not_lt_zero _)
  | n + 1, i, env, lh, h, hi, q => by
    unfold mGo
    by_cases k : i = N
    · subst k
      rw [he env lh q]
      exact ⟨env, lh, rfl, q⟩
    · obtain ⟨z, lh1, e1, e2, l2, k1, k2, k3, k4⟩ := hs i env lh (by omega) q
      simp only [k1, k2, k3]
      exact go_run N I hs he n (i + 1) e2 l2 (by omega) (by omega) k4
theorem get_rng {lo : Int} {n i : Nat} : (ItD.rng lo n).get i lh = some (if i < n then some (.d (.int (lo + (i : Nat))), lh) else none) := rfl
theorem get_seqD (ds : List PyData) (i : Nat) : (ItD.seq (.d (.list ds))).get i lh = some (ds[i]?.map fun z => (MV.d z, lh)) := by
  show (nxO (ds.map MV.d)[i]? fun z => some (z, lh)) = _
  rw [List.getElem?_map]
  cases ds[i]? <;> rfl
theorem get_seqO {x : MV} {xs : List MV} (h : sqL lh x = some xs) (i : Nat) : (ItD.seq x).get i lh = some (xs[i]?.map fun z => (z, lh)) := by
  show (match sqL lh x with | some xs => nxO xs[i]? fun z => some (z, lh) | none => none) = _
  rw [h]
  show (nxO xs[i]? fun z => some (z, lh)) = _
  cases xs[i]? <;> rfl
theorem cap_seqD (ds : List PyData) : (ItD.seq (.d (.list ds))).cap lh = ds.length := by
  show ((ds.map MV.d).length) = _
  rw [List.length_map]
def kvD (sp : List (Str × PyData)) : List (Key × MV) := sp.map fun p => (.inr p.1, .d p.2)
theorem get_its {j : Nat} {sp : List (Str × PyData)} (h : lh[j]? = some (.fdc (kvD sp))) (i : Nat) : (ItD.its j).get i lh = some (sp[i]?.map fun p => (.d (.tuple [.str p.1, p.2]), lh)) := by
  show (match fdO j lh with | some kvs => nxO kvs[i]? fun p => newT [keyD p.1, p.2] lh | none => none) = _
  unfold fdO
  rw [h]
  simp only [kvD, List.getElem?_map]
  cases q : sp[i]? with
  | none => rfl
  | some p => exact rfl
theorem get_keys {j : Nat} {sp : List (Str × PyData)} (h : lh[j]? = some (.fdc (kvD sp))) (i : Nat) : (ItD.keys j).get i lh = some (sp[i]?.map fun p => (.d (.str p.1), lh)) := by
  show (match fdO j lh with | some kvs => nxO kvs[i]? fun p => some (keyD p.1, lh) | none => none) = _
  unfold fdO
  rw [h]
  simp only [kvD, List.getElem?_map]
  cases q : sp[i]? with
  | none => rfl
  | some p => exact rfl
theorem cap_its {j : Nat} {sp : List (Str × PyData)} (h : lh[j]? = some (.fdc (kvD sp))) : (ItD.its j).cap lh = sp.length := by
  show ((fdO j lh).getD []).length = _
  unfold fdO
  rw [h]
  simp [kvD]
theorem cap_keys {j : Nat} {sp : List (Str × PyData)} (h : lh[j]? = some (.fdc (kvD sp))) : (ItD.keys j).cap lh = sp.length := by
  show ((fdO j lh).getD []).length = _
  unfold fdO
  rw [h]
  simp [kvD]
theorem set_id {i : Nat} {o : MO} (h : lh[i]? = some o) : lh.set i o = lh := by
  apply List.ext_getElem?
  intro j
  rw [List.getElem?_set]
  split
  · subst_vars; rw [h]; split
    · rfl
    · exact absurd (List.getElem?_eq_some_iff.mp h).1 ‹_›
  · rfl
theorem lock_e {i : Nat} {kvs : List (Key × MV)} {de m : ME} {z : MV} (hd : de env lh = some (.ok (.r i), lh)) (h : lh[i]? = some (.dct kvs)) (hm : m env (lh.set i (.fdc kvs)) = some (.ok z, lh.set i (.fdc kvs))) : mLockE de m env lh = some (.ok z, lh) := by
  have hi := (List.getElem?_eq_some_iff.mp h).1
  unfold mLockE ixOf
  simp only [hd, h, hm]
  unfold unlk
  rw [List.getElem?_set_self hi]
  simp only [List.set_set]
  rw [set_id h]
theorem mrg_put : ∀ (sp : List (Str × PyData)) (acc : List (Str × PyData)), ((acc ++ sp).map (·.1)).Nodup → mrgN (kvD acc) (kvD sp) = kvD (acc ++ sp)
  | [], acc, _ => by simp [mrgN, kvD]
  | p :: sp, acc, h => by
    have hp : p.1 ∉ acc.map (·.1) := fun hm => by
      rw [List.map_append, List.nodup_append] at h
      exact h.2.2 _ hm _ (by simp) rfl
    have h2 : putN (kvD acc) (.inr p.1) (.d p.2) = kvD (acc ++ [p]) := by
      unfold putN
      rw [if_neg]
      · simp [kvD]
      · intro hh
        obtain ⟨q, hq, e⟩ := List.any_eq_true.mp hh
        obtain ⟨r, hr, rfl⟩ := List.mem_map.mp hq
        have : r.1 = p.1 := by simpa using e
        exact hp (this ▸ List.mem_map_of_mem hr)
    have := mrg_put sp (acc ++ [p]) (by simpa using h)
    unfold mrgN at this ⊢
    rw [show kvD (p :: sp) = (Sum.inr p.1, MV.d p.2) :: kvD sp from rfl, List.foldl_cons]
    dsimp only
    rw [h2, this]
    simp
theorem mrg_nd {sp : List (Str × PyData)} (h : (sp.map (·.1)).Nodup) : mrgN [] (kvD sp) = kvD sp := mrg_put sp [] h
theorem val_kvD {k : Str} {v : PyData} : ∀ {sp : List (Str × PyData)}, (sp.map (·.1)).Nodup → (k, v) ∈ sp → valM (kvD sp) (.inr k) = some (.d v)
  | p :: sp, h, hm => by
    unfold valM kvD
    rw [List.map_cons, List.find?_cons]
    by_cases e : p.1 = k
    · rcases List.mem_cons.mp hm with rfl | hm
      · simp
      · rw [List.map_cons, List.nodup_cons] at h
        exact absurd (e ▸ List.mem_map_of_mem (f := (·.1)) hm) h.1
    · rcases List.mem_cons.mp hm with rfl | hm
      · exact absurd rfl e
      · rw [List.map_cons, List.nodup_cons] at h
        have := val_kvD h.2 hm
        unfold valM kvD at this
        simp only [Sum.inr.injEq, e, decide_false]
        exact this
theorem mRng1_r {a : ME} {j : Int} {l : LH} (h : a env lh = some (.ok (.d (.int j)), l)) (hb : -(2 ^ 62) ≤ j ∧ j < 2 ^ 62) : mRng1 a env lh = some (.ok (.rng 0 j.toNat), l) := by
  rw [mRng1_e, h]
  show (if decide (-(2 ^ 62) ≤ j ∧ j < 2 ^ 62) = true then _ else none) = _
  rw [if_pos (decide_eq_true hb)]
theorem mRng2_r {a b : ME} {i j : Int} {l l2 : LH} (h : a env lh = some (.ok (.d (.int i)), l)) (h2 : b env l = some (.ok (.d (.int j)), l2)) (hb : -(2 ^ 62) ≤ i ∧ i < 2 ^ 62) (hb2 : -(2 ^ 62) ≤ j ∧ j < 2 ^ 62) : mRng2 a b env lh = some (.ok (.rng i (j - i).toNat), l2) := by
  rw [mRng2_e, h, mB_ok, h2]
  show (if decide (-(2 ^ 62) ≤ i ∧ i < 2 ^ 62) = true ∧ decide (-(2 ^ 62) ≤ j ∧ j < 2 ^ 62) = true then _ else none) = _
  rw [if_pos ⟨decide_eq_true hb, decide_eq_true hb2⟩]
theorem seq_for {P : MR MV → Prop} {it : MI} {body sb : MS} {l : LH} (N : Nat) (I : Nat → Env → LH → Prop) (hit : it env lh = some (.ok d, l)) (hcap : N < d.cap l + 1) (h0 : I 0 env l)
    (hs : ∀ i env lh, i < N → I i env lh → ∃ z lh1 e1 e2 l2, d.get i lh = some (some (z, lh1)) ∧ tg z env lh1 = some e1 ∧ body e1 lh1 = some (.nx, e2, l2) ∧ I (i + 1) e2 l2)
    (he : ∀ env lh, I N env lh → d.get N lh = some none) (hk : ∀ env' lh', I N env' lh' → P (mF (sb env' lh'))) : P (mF (mSeq (mFor it tg body) sb env lh)) := by
  obtain ⟨env', lh', e, hI⟩ := go_run (d := d) (tg := tg) (body := body) N I hs he (d.cap l + 1) 0 env l (by omega) (Nat.zero_le _) h0
  rw [mSeq_e, mFor_e, hit, mK_ok, e]
  exact hk env' lh' hI
end
end Bw

namespace Bw
open PySem L2 TL
/-! deeds, their words, their texts -/
inductive Dee where
  | go (n : Int)
  | sw (xs ys : List Str)
def Dee.d : Dee → PyData
  | .go n => .tuple [.str "go", .int n]
  | .sw xs ys => .tuple [.str "swap", .list (xs.map PyData.str), .list (ys.map PyData.str)]
structure SwN (xs ys : List Str) : Prop where
  x : ∀ w ∈ xs, NmOk w
  y : ∀ w ∈ ys, NmOk w
  xl : xs.length ≤ 8
  yl : ys.length ≤ 8
def Dee.Ok : Dee → Prop
  | .go n => 0 ≤ n ∧ n < 16
  | .sw xs ys => SwN xs ys
def Dee.words : Dee → List Str
  | .go n => ["go", nt n]
  | .sw xs ys => ("swap" : Str) :: (xs ++ ("/" : Str) :: ys)
def Dee.part (d : Dee) : Str := Txt.join " " d.words
/-- no sign of a deed's words is below 47 or a semicolon -/
def WdOk (w : Str) : Prop := ∀ c ∈ tl w, 47 ≤ c ∧ c ≠ 59
theorem NmOk.wd {w : Str} (h : NmOk w) : WdOk w := fun c hc => by have := h.2.2 c hc; omega
theorem nt_wd {n : Int} (h0 : 0 ≤ n) (h1 : n < 16) : WdOk (nt n) := by
  have : ∀ k : Fin 16, ∀ c ∈ tl (nt ((k.1 : Nat) : Int)), 47 ≤ c ∧ c ≠ 59 := by decide +kernel
  have e : n = ((n.toNat : Nat) : Int) := by omega
  rw [e]
  exact this ⟨n.toNat, by omega⟩
theorem Dee.wd {d : Dee} (h : d.Ok) : ∀ w ∈ d.words, WdOk w := by
  have k1 : WdOk "go" := by
    have : ∀ c ∈ tl ("go" : Str), 47 ≤ c ∧ c ≠ 59 := by decide +kernel
    exact this
  have k2 : WdOk "swap" := by
    have : ∀ c ∈ tl ("swap" : Str), 47 ≤ c ∧ c ≠ 59 := by decide +kernel
    exact this
  have k3 : WdOk "/" := by
    have : ∀ c ∈ tl ("/" : Str), 47 ≤ c ∧ c ≠ 59 := by decide +kernel
    exact this
  cases d with
  | go n =>
    intro w hw
    simp only [Dee.words, List.mem_cons, List.not_mem_nil, or_false] at hw
    rcases hw with rfl | rfl
    · exact k1
    · exact nt_wd h.1 h.2
  | sw xs ys =>
    intro w hw
    simp only [Dee.words, List.mem_cons, List.mem_append] at hw
    rcases hw with rfl | hw | rfl | hw
    · exact k2
    · exact (h.x w hw).wd
    · exact k3
    · exact (h.y w hw).wd
theorem Dee.wne (d : Dee) : d.words ≠ [] := by cases d <;> simp [Dee.words]
theorem Dee.split {d : Dee} (h : d.Ok) : Txt.split d.part " " = d.words :=
  split_join (y := " ") (s := 32) (S := []) rfl (by decide +kernel) d.wne fun p hp hc => by have := d.wd h p hp 32 hc; omega
theorem all_id : ∀ {α : Type} (xs : List α), (xs.map fun _ => true).all id = true
  | _, [] => rfl
  | _, _ :: xs => by rw [List.map_cons, List.all_cons, all_id xs]; rfl
theorem inS_abc {c : Nat} (h1 : 97 ≤ c) (h2 : c ≤ 122) : inS ⟨#[c]⟩ "abcdefghijklmnopqrstuvwxyz" = true := by
  have h : ∀ i : Fin 26, 97 + i.val ∈ tl ("abcdefghijklmnopqrstuvwxyz" : Str) := by decide +kernel
  unfold inS
  rw [PySem.StrLaws.found_one, decide_eq_true_eq]
  have := h ⟨c - 97, by omega⟩
  have e : 97 + (c - 97) = c := by omega
  simpa [e] using this
theorem is_name_ok {s : Str} (h : NmOk s) : f_is_name s = some true := by
  obtain ⟨h1, h2, h3⟩ := h
  unfold f_is_name
  have hl : lenS s = some ((tl s).length : Int) := by unfold lenS; rw [len_tl, if_pos (by omega)]
  have e : mapC (fun sign_20 => inS sign_20 ("abcdefghijklmnopqrstuvwxyz" : Str)) (signs s) = some ((signs s).map fun _ => true) := by
    rw [mapC_ok (by simp [signs]; have := len_tl s; simp [tl, Str.length] at *; omega)]
    refine congrArg some (List.map_congr_left fun x hx => ?_)
    obtain ⟨c, hc, rfl⟩ := List.mem_map.mp hx
    exact inS_abc (h3 c hc).1 (h3 c hc).2
  rw [if_neg (by decide), bo hl]
  have g : (!(decide ((1 : Int) ≤ ((tl s).length : Int)) && decide (((tl s).length : Int) ≤ 8))) = false := by
    rw [decide_eq_true (by omega), decide_eq_true (by omega)]; rfl
  rw [g, bo rfl, if_neg (by decide), bo e, all_id]
section
variable {l : LH} {n : Int} {xs ys : List Str} {w : Str}
theorem inS_fig {c : Nat} (h1 : 48 ≤ c) (h2 : c ≤ 57) : inS ⟨#[c]⟩ "0123456789" = true := by
  have h : ∀ i : Fin 10, 48 + i.val ∈ tl ("0123456789" : Str) := by decide +kernel
  unfold inS
  rw [PySem.StrLaws.found_one, decide_eq_true_eq]
  have := h ⟨c - 48, by omega⟩
  have e : 48 + (c - 48) = c := by omega
  simpa [e] using this
theorem gNin_ss {a b : Str} : gNin (.d (.str a)) (.d (.str b)) l = some (.d (.bool (!inS a b)), l) := rfl
theorem gLen_s (h : w.length ≤ 100000) : gLen [.d (.str w)] l = some (.d (.int w.length), l) := by
  unfold gLen altN gLenQ
  have : lenS w = some (w.length : Int) := by unfold lenS; rw [if_pos h]
  simp [sqL, sqT, this]
theorem gInt_s {n : Int} (hl : w.length ≤ 640) (h : PySem.intText? w = some n) : gInt [.d (.str w)] l = some (.d (.int n), l) := by
  show (match (none : Option (MV × LH)) with | some z => some z | none => gIntS [.d (.str w)] l) = _
  show (if w.length ≤ 640 then (PySem.intText? w).map _ else none) = _
  rw [if_pos hl, h]; rfl
theorem ixU_s {i : Int} {c : Str} (h : ixS w i = some c) : ixU (.d (.str w)) (.d (.int i)) l = some (.d (.str c), l) := by
  unfold ixU alt2 ixL ixT ixC ixK sqL sqT dcO
  simp only [vI, vS, h]
  rfl
theorem number_in_gen {c : Str} (h1 : 1 ≤ w.length) (h2 : w.length ≤ 10) (hc : ixS w 0 = some c) (hz : c ≠ ("0" : Str) ∨ w = ("0" : Str)) (hd : ∀ c ∈ tl w, 48 ≤ c ∧ c ≤ 57) (hn : PySem.intText? w = some n) : m_u_number_in [.d (.str w)] l = some (.ok (.d (.int n)), l) := by
  have f1 := gLen_s (l := l) (w := w) (by omega)
  have f2 := ixU_s (l := l) hc
  have f3 := gInt_s (l := l) (w := w) (by omega) hn
  unfold m_u_number_in b_u_number_in
  rw [mFn_e, if_pos (by rfl)]
  show mF (mSeq _ _ [some (.d (.str w)), none] l) = _
  have e1 : mIfS (mOrT (mNotT (mTest (mChain gLe gLe (mC (.int (1 : Int))) (mCB gLen (mCons (mVar 0) mNil)) (mC (.int (10 : Int)))))) (mAndT (mTest (mOp2 gEq (mOp2 ixU (mVar 0) (mC (.int (0 : Int)))) (mC (.str "0")))) (mTest (mOp2 gNe (mVar 0) (mC (.str "0")))))) (mRet (mC .none)) mSkip [some (.d (.str w)), none] l = some (.nx, [some (.d (.str w)), none], l) := by
    have g1 : (1 : Int) ≤ (w.length : Nat) := by omega
    have g2 : ((w.length : Nat) : Int) ≤ 10 := by omega
    rcases hz with hz | hz
    · simp [f1, f2, g1, g2, hz]
    · by_cases hc0 : c = "0"
      · have gz : gNe (.d (.str w)) (.d (.str "0")) l = some (.d (.bool false), l) := by rw [gNe_s, hz]; simp
        simp [-gNe_s, f1, f2, g1, g2, gz, hc0]
      · simp [f1, f2, g1, g2, hc0]
  rw [mSeq_e, e1, mQ_nx]
  refine seq_for (P := fun m => m = _) (d := .chr w) (l := l) w.cps.size (fun _ env l' => l' = l ∧ ∃ x, env = [some (.d (.str w)), x]) rfl (Nat.lt_succ_self _) ⟨rfl, _, rfl⟩ ?_ ?_ ?_
  · rintro i env l' hi ⟨rfl, x, rfl⟩
    obtain ⟨q, hq⟩ : ∃ q, w.cps[i]? = some q := ⟨_, Array.getElem?_eq_getElem hi⟩
    have hm : q ∈ tl w := by
      unfold tl
      exact List.mem_of_getElem? (i := i) (by simpa using hq)
    have hg : gNin (.d (.str ⟨#[q]⟩)) (.d (.str "0123456789")) l' = some (.d (.bool false), l') := by rw [gNin_ss, inS_fig (hd q hm).1 (hd q hm).2]; rfl
    refine ⟨.d (.str ⟨#[q]⟩), l', _, [some (.d (.str w)), some (.d (.str ⟨#[q]⟩))], l', ?_, rfl, ?_, rfl, _, rfl⟩
    · show some ((w.cps[i]?).map fun c => (MV.d (.str ⟨#[c]⟩), l')) = _
      rw [hq]; rfl
    · show mIfS _ _ _ [some (.d (.str w)), some (.d (.str ⟨#[q]⟩))] l' = _
      simp [hg]
  · rintro env l' ⟨rfl, x, rfl⟩
    show some ((w.cps[w.cps.size]?).map fun c => (MV.d (.str ⟨#[c]⟩), l')) = _
    rw [Array.getElem?_eq_none (Nat.le_refl _)]; rfl
  · rintro env l' ⟨rfl, x, rfl⟩
    simp [f3]
theorem number_in_ok (h0 : 0 ≤ n) (h1 : n < 16) : m_u_number_in [.d (.str (nt n))] l = some (.ok (.d (.int n)), l) := by
  have key : ∀ k : Fin 16, (1 ≤ (nt ((k.1 : Nat) : Int)).length ∧ (nt ((k.1 : Nat) : Int)).length ≤ 10) ∧ (∀ c ∈ tl (nt ((k.1 : Nat) : Int)), 48 ≤ c ∧ c ≤ 57) ∧ ((ixS (nt ((k.1 : Nat) : Int)) 0).any fun (c : Str) => decide (c ≠ ("0" : Str) ∨ nt ((k.1 : Nat) : Int) = ("0" : Str))) = true := by decide +kernel
  have e : n = ((n.toNat : Nat) : Int) := by omega
  have hn := PySem.W.KIN.num_reads h0 (show n < 10 ^ 10 by omega)
  obtain ⟨⟨a, b⟩, c, d⟩ := key ⟨n.toNat, by omega⟩
  simp only [← e] at a b c d
  cases q : ixS (nt n) 0 with
  | none => rw [q] at d; cases d
  | some z =>
    rw [q] at d
    exact number_in_gen a b q (of_decide_eq_true d) c hn
end
end Bw

namespace Bw
open PySem L2 TL
theorem szB_of' {n : Nat} (h : n ≤ 100000) : szB n = true := by unfold szB; simpa using h
theorem sqL_r' {l : LH} {i : Nat} {xs : List MV} (h : l[i]? = some (.lst xs)) : sqL l (.r i) = some xs := by
  show (match l[i]? with | some (.lst xs) => some xs | _ => none) = _
  rw [h]
abbrev strV (ps : List Str) : List MV := ps.map fun x => .d (.str x)
theorem strV_d (ps : List Str) : strV ps = (ps.map PyData.str).map MV.d := by rw [List.map_map]; rfl
theorem rdA_strs {l : LH} {i : Nat} {ps : List Str} (h : l[i]? = some (.lst (strV ps))) : rdA l (.r i) = some (.list (ps.map PyData.str)) := by
  rw [rdA_r, h, strV_d]
  simp only [oAll_d, Option.map_some]
section
variable {l : LH} {n : Int} {xs ys : List Str} {w : Str}
@[simp] theorem newT_2 {d e : PyData} : newT [.d d, .d e] l = some (.d (.tuple [d, e]), l) := rfl
theorem going_in_ok (h0 : 0 ≤ n) (h1 : n < 16) : m_u_going_in [.d (.list [.str "go", .str (nt n)])] l = some (.ok (.d (Dee.go n).d), l) := by
  have f1 := number_in_ok (l := l) h0 h1
  have f2 : ixU (.d (.list [.str "go", .str (nt n)])) (.d (.int 1)) l = some (.d (.str (nt n)), l) := rfl
  have g1 : ¬ (15 : Int) < n := by omega
  generalize nt n = w at f1 f2
  unfold m_u_going_in b_u_going_in
  rw [mFn_e]
  simp [-ixU_dl, f1, f2, g1, Dee.d, newT_2]
theorem slash_not {w : Str} (h : NmOk w) : w ≠ "/" := fun e => by
  have := h.2.2 47 (by rw [e]; decide +kernel)
  omega
abbrev swW (xs ys : List Str) : List Str := ("swap" : Str) :: (xs ++ ("/" : Str) :: ys)
theorem cnt_w (h : SwN xs ys) : (swW xs ys).count ("/" : Str) = 1 := by
  have hx : xs.count ("/" : Str) = 0 := List.count_eq_zero.mpr fun hm => slash_not (h.x _ hm) rfl
  have hy : ys.count ("/" : Str) = 0 := List.count_eq_zero.mpr fun hm => slash_not (h.y _ hm) rfl
  have hs : (("swap" : Str) == ("/" : Str)) = false := by decide +kernel
  unfold swW
  rw [List.count_cons, hs, List.count_append, List.count_cons, hx, hy]
  simp
theorem idx_w (h : SwN xs ys) : idxM (swW xs ys) ("/" : Str) = some ((xs.length + 1 : Nat) : Int) := by
  unfold idxM
  rw [Option.map_eq_some_iff]
  refine ⟨xs.length + 1, ?_, rfl⟩
  rw [List.findIdx?_eq_some_iff_getElem]
  refine ⟨by simp, by simp, fun j hj => ?_⟩
  cases j with
  | zero => show ¬ ((("swap" : Str) == ("/" : Str)) = true); decide +kernel
  | succ j =>
    have hjx : j < xs.length := by omega
    have : (swW xs ys)[j + 1]'(by simp; omega) = xs[j] := by simp [List.getElem_append, hjx]
    rw [this]
    have := slash_not (h.x _ (List.getElem_mem hjx))
    simpa using this
theorem cut1 : cutL (swW xs ys) (some 1) (some ((xs.length + 1 : Nat) : Int)) = xs := by
  unfold cutL
  rw [show (some 1 : Option Int) = some ((1 : Nat) : Int) from rfl, HT.sIx_nat, HT.sIx_nat]
  have e1 : min 1 (swW xs ys).length = 1 := by simp
  have e2 : min (xs.length + 1) (swW xs ys).length = xs.length + 1 := by simp
  rw [e1, e2]
  simp
theorem cut2 : cutL (swW xs ys) (some (((xs.length + 1 : Nat) : Int) + 1)) none = ys := by
  unfold cutL
  rw [show (((xs.length + 1 : Nat) : Int) + 1) = ((xs.length + 2 : Nat) : Int) by omega, HT.sIx_nat, HT.sIx_none]
  have e2 : min (xs.length + 2) (swW xs ys).length = xs.length + 2 := by simp
  rw [e2]
  simp
  exact List.take_of_length_le (by omega)
theorem txtsO_d (ws : List Str) : txtsO l (.d (.list (ws.map PyData.str))) = some ws := by
  unfold txtsO
  rw [rdA_d]
  exact sAll_map ws
theorem gCnt_d {ws : List Str} {b : Str} : gCnt (.d (.list (ws.map PyData.str))) [.d (.str b)] l = some (.d (.int (ws.count b : Nat)), l) := by
  unfold gCnt; simp only [txtsO_d]
theorem gIdx_d {ws : List Str} {b : Str} {j : Int} (h : idxM ws b = some j) : gIdx (.d (.list (ws.map PyData.str))) [.d (.str b)] l = some (.d (.int j), l) := by
  unfold gIdx; simp only [txtsO_d, h]; rfl
theorem gSl_dT {ws vs : List Str} {lo hi : Option Int} (h : cutL ws lo hi = vs) (hl : vs.length ≤ 1000) : gSlL true (.d (.list (ws.map PyData.str))) lo hi l = some (.r l.length, l ++ [.lst (strV vs)]) := by
  unfold gSlL
  simp only [sqL_d]
  rw [cutL_map, cutL_map, h, newLt, if_pos (szB_of' (by simp; omega)), strV_d]
theorem gAdd_rs {p q : Nat} (hp : l[p]? = some (.lst (strV xs))) (hq : l[q]? = some (.lst (strV ys))) (hl : xs.length + ys.length ≤ 1000) : gAdd false (.r p) (.r q) l = some (.d (.list ((xs ++ ys).map PyData.str)), l) := by
  unfold gAdd alt2 pu2
  rw [rdA_strs hp, rdA_strs hq]
  show (match ret (none : Option PyData) l with | some z => some z | none => match ret (none : Option PyData) l with | some z => some z | none => gCatL false (.r p) (.r q) l) = _
  simp only [ret_no]
  unfold gCatL
  simp only [sqL_r' hp, sqL_r' hq]
  rw [newLf, ← List.map_append, show ((xs ++ ys).map fun x => MV.d (.str x)) = ((xs ++ ys).map PyData.str).map MV.d from strV_d _, oAll_vD, if_pos (szB_of' (by simp; omega))]
  rfl
def lcN : ME := mCB (puN allP) (mCons (mLc false (mItSeq (mOp2 (gAdd false) (mVar 2) (mVar 3))) (gNm 4) mYes (mCB_ dec_is_name eB f_is_name (mCons (mVar 4) mNil)) [4]) mNil)
theorem bAll_t {α : Type} (xs : List α) : allP [.list (xs.map fun _ => .bool true)] = some (.bool true) := by
  have : bAll (xs.map fun _ => PyData.bool true) = some (xs.map fun _ => true) := by
    induction xs with
    | nil => rfl
    | cons x xs ih => rw [List.map_cons, bAll, ih]; rfl
  show (bAll (xs.map fun _ => PyData.bool true)).map (fun ys => PyData.bool (ys.all id)) = _
  rw [this]
  simp
theorem lcN_ok {x0 x1 x4 : Option MV} {p q : Nat} (h : SwN xs ys) (hp : l[p]? = some (.lst (strV xs))) (hq : l[q]? = some (.lst (strV ys))) : lcN [x0, x1, some (.r p), some (.r q), x4] l = some (.ok (.d (.bool true)), l) := by
  have ha := gAdd_rs hp hq (by have := h.xl; have := h.yl; omega)
  have hl : (xs ++ ys).length ≤ 16 := by have := h.xl; have := h.yl; simp; omega
  have hn : ∀ w ∈ xs ++ ys, NmOk w := fun w hw => by
    rcases List.mem_append.mp hw with hw | hw
    · exact h.x w hw
    · exact h.y w hw
  generalize xs ++ ys = ws at ha hl hn
  have hit : mItSeq (mOp2 (gAdd false) (mVar 2) (mVar 3)) [x0, x1, some (.r p), some (.r q), x4] l = some (.ok (.seq (.d (.list (ws.map PyData.str)))), l) := by
    simp [ha]; rfl
  unfold lcN
  simp only [mCB_e, mCons_e, mNil_e]
  rw [mLc_e, hit, mB_ok]
  rw [lc_run ws (fun x => .d (.str x)) (fun _ => some (.d (.bool true))) (fun i => by rw [get_seqD, List.getElem?_map]; cases ws[i]? <;> rfl) ?_ _ 0 [] (by rw [cap_seqD, List.length_map]; omega) (by simp; omega)]
  · have e : (ws.filterMap fun _ => some (MV.d (.bool true))) = (ws.map fun _ => PyData.bool true).map MV.d := by
      clear ha hl hn hit
      induction ws with
      | nil => rfl
      | cons x ws ih => rw [List.filterMap_cons, ih]; rfl
    simp only [List.drop_zero, List.nil_append, e, mLk_so, newLf, oAll_vD]
    rw [if_pos (szB_of' (by simp; omega))]
    simp only [Option.map_some, mO_so, mB_ok, puN_1, bAll_t, ret_b]
  · intro x hx
    refine ⟨_, rfl, rfl, fun y hy => ?_⟩
    cases hy
    show mCB_ dec_is_name eB f_is_name (mCons (mVar 4) mNil) [x0, x1, some (.r p), some (.r q), some (.d (.str x))] l = _
    unfold mCB_
    simp [dec_is_name, asS, is_name_ok (hn x hx)]
    rfl
theorem swap_in_g {ws : MV} {lc : ME} {l1 l2 : LH} {j : Int} {p q : Nat} (he : b_u_swap_in = mSeq (mIfS (mTest (mOp2 gNe (mBM kdL gCnt (mVar 0) (mCons (mC (.str "/")) mNil)) (mC (.int (1 : Int))))) (mRaise "NoText") mSkip) (mSeq (mAsg (mBM kdL gIdx (mVar 0) (mCons (mC (.str "/")) mNil)) (gNm 1)) (mSeq (mAsg (mSl true (mVar 0) (mPart (mC (.int (1 : Int)))) (mPart (mVar 1))) (gNm 2)) (mSeq (mAsg (mSl true (mVar 0) (mPart (mOp2 (gAdd false) (mVar 1) (mC (.int (1 : Int))))) mNoPart) (gNm 3)) (mSeq (mIfS (mNotT (mTest lc)) (mRaise "NoText") mSkip) (mRet (mTup (mCons (mC (.str "swap")) (mCons (mVar 2) (mCons (mVar 3) mNil)))))))))) 
    (hk : ∀ l, kdL l ws = true) (hc : gCnt ws [.d (.str "/")] l = some (.d (.int 1), l)) (hi : gIdx ws [.d (.str "/")] l = some (.d (.int j), l)) (h1 : gSlL true ws (some 1) (some j) l = some (.r p, l1)) (h2 : gSlL true ws (some (j + 1)) none l1 = some (.r q, l2))
    (hlc : lc [some ws, some (.d (.int j)), some (.r p), some (.r q), none] l2 = some (.ok (.d (.bool true)), l2)) : m_u_swap_in [ws] l = some (.ok (.r l2.length), l2 ++ [.tup [.d (.str "swap"), .r p, .r q]]) := by
  have hn : newT [.d (.str "swap"), .r p, .r q] l2 = some (.r l2.length, l2 ++ [.tup [.d (.str "swap"), .r p, .r q]]) := rfl
  generalize l2 ++ [.tup [.d (.str "swap"), .r p, .r q]] = l3 at hn
  unfold m_u_swap_in mSl mBM mPart mNoPart at *
  rw [he, mFn_e]
  simp [-kdL, hk, hc, hi, h1, h2, hlc, hn]
theorem swap_in_ok (h : SwN xs ys) : m_u_swap_in [.d (.list ((swW xs ys).map PyData.str))] l = some (.ok (.r (l.length + 2)), l ++ [.lst (strV xs), .lst (strV ys), .tup [.d (.str "swap"), .r l.length, .r (l.length + 1)]]) := by
  have hx := h.xl
  have hy := h.yl
  have hc := gCnt_d (l := l) (ws := swW xs ys) (b := "/")
  rw [cnt_w h] at hc
  have h2 : gSlL true (.d (.list ((swW xs ys).map PyData.str))) (some (((xs.length + 1 : Nat) : Int) + 1)) none (l ++ [.lst (strV xs)]) = some (.r (l.length + 1), l ++ [.lst (strV xs), .lst (strV ys)]) := by
    rw [gSl_dT cut2 (by omega)]
    simp
  have r := swap_in_g (lc := lcN) rfl (fun _ => rfl) hc (gIdx_d (idx_w h)) (gSl_dT cut1 (by omega)) h2 (lcN_ok h (by simp) (by rw [List.getElem?_append_right (by omega)]; simp))
  rw [r]
  simp
theorem part_len {d : Dee} (h : d.Ok) : d.part.length ≤ 1000 := by
  have e := join_len " " d.words
  have hs : (" " : Str).length = 1 := rfl
  have key : d.words.length ≤ 18 ∧ ∀ w ∈ d.words, w.length ≤ 10 := by
    cases d with
    | go n =>
      refine ⟨by simp [Dee.words], fun w hw => ?_⟩
      simp only [Dee.words, List.mem_cons, List.not_mem_nil, or_false] at hw
      rcases hw with rfl | rfl
      · decide
      · exact nt_len h.1 (by have := h.2; omega)
    | sw xs ys =>
      have hx := h.xl
      have hy := h.yl
      refine ⟨by simp [Dee.words]; omega, fun w hw => ?_⟩
      simp only [Dee.words, List.mem_cons, List.mem_append] at hw
      rcases hw with rfl | hw | rfl | hw
      · decide
      · have := (h.x w hw).2.1; rw [len_tl]; omega
      · decide
      · have := (h.y w hw).2.1; rw [len_tl]; omega
  have := sum_le 10 key.2
  have e2 := key.1
  show (Txt.join " " d.words).length ≤ 1000
  rw [hs] at e
  omega
/-- what a deed is read to, and what is laid then, at heap length b -/
def Dee.mv (b : Nat) : Dee → MV
  | .go n => .d (Dee.go n).d
  | .sw _ _ => .r (b + 2)
def Dee.blk (b : Nat) : Dee → LH
  | .go _ => []
  | .sw xs ys => [.lst (strV xs), .lst (strV ys), .tup [.d (.str "swap"), .r b, .r (b + 1)]]
theorem deed_in_ok {d : Dee} (h : d.Ok) : m_u_deed_in [.d (.str d.part)] l = some (.ok (d.mv l.length), l ++ d.blk l.length) := by
  have hl := part_len h
  have hp := d.split h
  have f0 : gSplit false (.d (.str d.part)) [.d (.str " ")] l = some (.d (.list (d.words.map PyData.str)), l) := by
    have hw : d.words.length ≤ 18 := by
      cases d with
      | go n => simp [Dee.words]
      | sw xs ys => have := h.xl; have := h.yl; simp [Dee.words]; omega
    show (if ((" " : Str).length == 0) = false ∧ d.part.length + 2 ≤ 100000 then newL false ((Txt.split d.part " ").map fun y => MV.d (.str y)) l else none) = _
    rw [if_pos ⟨rfl, by omega⟩, hp, newLf, show (d.words.map fun y => MV.d (.str y)) = (d.words.map PyData.str).map MV.d from strV_d _, oAll_vD, if_pos (szB_of' (by simp; omega))]
    rfl
  cases d with
  | go n =>
    have f1 := going_in_ok (l := l) h.1 h.2
    have f0' : gSplit false (.d (.str (Dee.go n).part)) [.d (.str " ")] l = some (.d (.list [.str "go", .str (nt n)]), l) := f0
    have f2 : ixU (.d (.list [.str "go", .str (nt n)])) (.d (.int 0)) l = some (.d (.str "go"), l) := rfl
    show m_u_deed_in _ l = some (Rs.ok (MV.d (Dee.go n).d), l ++ [])
    rw [List.append_nil]
    generalize (Dee.go n).part = pp at f0'
    generalize PyData.list [.str "go", .str (nt n)] = ww at f0' f1 f2
    generalize (Dee.go n).d = dd at f1
    unfold m_u_deed_in b_u_deed_in mBM
    rw [mFn_e]
    simp [f0', f1, f2]
  | sw xs ys =>
    have f1 := swap_in_ok (l := l) (xs := xs) (ys := ys) h
    have f2 : ixU (.d (.list ((swW xs ys).map PyData.str))) (.d (.int 0)) l = some (.d (.str "swap"), l) := by
      have : atI (((swW xs ys).map PyData.str).map MV.d) 0 = some (.d (.str "swap")) := by
        unfold atI ixN swW
        simp
        rw [if_pos (by omega)]; rfl
      rw [ixU_dl, this]; rfl
    have f0' : gSplit false (.d (.str (Dee.sw xs ys).part)) [.d (.str " ")] l = some (.d (.list ((swW xs ys).map PyData.str)), l) := f0
    show m_u_deed_in _ l = some (Rs.ok (MV.r (l.length + 2)), l ++ [.lst (strV xs), .lst (strV ys), .tup [.d (.str "swap"), .r l.length, .r (l.length + 1)]])
    generalize (Dee.sw xs ys).part = pp at f0'
    generalize PyData.list ((swW xs ys).map PyData.str) = ww at f0' f1 f2
    generalize l ++ [.lst (strV xs), .lst (strV ys), .tup [.d (.str "swap"), .r l.length, .r (l.length + 1)]] = l2 at f1
    generalize l.length + 2 = k at f1
    unfold m_u_deed_in b_u_deed_in mBM
    rw [mFn_e]
    simp [f0', f1, f2]
end
end Bw

namespace Bw
open PySem L2 TL
/-! comprehensions that change the heap -/
theorem lc_inv {d : ItD} {tg : MTg} {tt : MT} {elt : ME} {vs : List Nat} {env : Env} (N : Nat) (I : Nat → LH → List MV → Prop)
    (hs : ∀ i l acc, i < N → I i l acc → ∃ z l1 e1, d.get i l = some (some (z, l1)) ∧ tg z (mwipe env vs) l1 = some e1 ∧ ((∃ l2, tt e1 l1 = some (.ok false, l2) ∧ I (i + 1) l2 acc) ∨ ∃ l2 y l3, tt e1 l1 = some (.ok true, l2) ∧ elt e1 l2 = some (.ok y, l3) ∧ acc.length < 100000 ∧ I (i + 1) l3 (acc ++ [y])))
    (he : ∀ l acc, I N l acc → d.get N l = some none) :
    ∀ n i l acc, N - i < n → i ≤ N → I i l acc → ∃ l' acc', lcGo d tg tt elt vs env n i l acc = some (l', acc') ∧ I N l' acc'
  | 0, i, l, acc, h, _, _ => absurd h (Nat.not_lt_zero _)
  | n + 1, i, l, acc, h, hi, q => by
    unfold lcGo
    by_cases k : i = N
    · subst k
      rw [he l acc q]
      exact ⟨l, acc, rfl, q⟩
    · obtain ⟨z, l1, e1, k1, k2, k3⟩ := hs i l acc (by omega) q
      simp only [k1, k2]
      rcases k3 with ⟨l2, k3, k4⟩ | ⟨l2, y, l3, k3, k4, k5, k6⟩
      · simp only [k3]
        exact lc_inv N I hs he n (i + 1) l2 acc (by omega) (by omega) k4
      · simp only [k3, k4]
        rw [if_pos (szB_of (by omega))]
        exact lc_inv N I hs he n (i + 1) l3 (acc ++ [y]) (by omega) (by omega) k6
/-! spots that change -/
abbrev Spt := List (Str × Option Int)
def putS (sp : Spt) (k : Str) (v : Option Int) : Spt := sp.map fun q => if q.1 = k then (q.1, v) else q
def putA (sp : Spt) (ks : List Str) (v : Option Int) : Spt := ks.foldl (fun s k => putS s k v) sp
def mvs : Nat → List Dee → List MV
  | _, [] => []
  | b, d :: ds => d.mv b :: mvs (b + (d.blk b).length) ds
def blks : Nat → List Dee → LH
  | _, [] => []
  | b, d :: ds => d.blk b ++ blks (b + (d.blk b).length) ds
theorem blks_snoc (d : Dee) : ∀ (b : Nat) (ds : List Dee), blks b (ds ++ [d]) = blks b ds ++ d.blk (b + (blks b ds).length)
  | b, [] => by simp [blks]
  | b, e :: ds => by
    rw [List.cons_append, blks, blks, blks_snoc d _ ds, List.append_assoc, List.length_append, Nat.add_assoc]
theorem mvs_snoc (d : Dee) : ∀ (b : Nat) (ds : List Dee), mvs b (ds ++ [d]) = mvs b ds ++ [d.mv (b + (blks b ds).length)]
  | b, [] => by simp [mvs, blks]
  | b, e :: ds => by
    rw [List.cons_append, mvs, mvs, mvs_snoc d _ ds, blks, List.length_append, Nat.add_assoc]; rfl
theorem mvs_len : ∀ (b : Nat) (ds : List Dee), (mvs b ds).length = ds.length
  | _, [] => rfl
  | b, d :: ds => by rw [mvs, List.length_cons, mvs_len, List.length_cons]
def textOf (ds : List Dee) : Str := Txt.join "; " (ds.map Dee.part)
theorem mem_join {c : Nat} {S : Str} : ∀ {ws : List Str}, c ∈ tl (Txt.join S ws) → c ∈ tl S ∨ ∃ w ∈ ws, c ∈ tl w
  | [], h => by
    have : tl (Txt.join S []) = [] := rfl
    rw [this] at h; cases h
  | w :: ws, h => by
    rw [tl_join_cons] at h
    rcases List.mem_append.mp h with h | h
    · exact .inr ⟨w, List.mem_cons_self, h⟩
    · obtain ⟨y, hy, hc⟩ := List.mem_flatten.mp h
      obtain ⟨z, hz, rfl⟩ := List.mem_map.mp hy
      rcases List.mem_append.mp hc with hc | hc
      · exact .inl hc
      · exact .inr ⟨z, List.mem_cons_of_mem _ hz, hc⟩
theorem part_semi {d : Dee} (h : d.Ok) : 59 ∉ tl d.part := fun hc => by
  rcases mem_join hc with hc | ⟨w, hw, hc⟩
  · revert hc; decide +kernel
  · exact (d.wd h w hw 59 hc).2 rfl
theorem text_split {ds : List Dee} (hne : ds ≠ []) (h : ∀ d ∈ ds, d.Ok) : Txt.split (textOf ds) "; " = ds.map Dee.part :=
  split_join (y := "; ") (s := 59) (S := [32]) rfl (by decide +kernel) (by simpa using hne) fun p hp => by
    obtain ⟨d, hd, rfl⟩ := List.mem_map.mp hp
    exact part_semi (h d hd)
theorem part_ne (d : Dee) : ∃ c cs, tl d.part = c :: cs := by
  cases d with
  | go n => exact ⟨103, _, by rw [Dee.part, Dee.words, tl_join_cons]; rfl⟩
  | sw xs ys => exact ⟨115, _, by rw [Dee.part, Dee.words, tl_join_cons]; rfl⟩
theorem text_ne {ds : List Dee} (hne : ds ≠ []) : textOf ds ≠ "" := fun e => by
  cases ds with
  | nil => exact hne rfl
  | cons d ds =>
    obtain ⟨c, cs, hp⟩ := part_ne d
    have : tl (textOf (d :: ds)) = [] := by rw [e]; rfl
    unfold textOf at this
    rw [List.map_cons, tl_join_cons, hp] at this
    cases this
section
variable {l : LH} {ds : List Dee}
def lcR : ME := mLc true (mItSeq (mBM kdS (gSplit false) (mVar 0) (mCons (mC (.str "; ")) mNil))) (gNm 1) mYes (mCall m_u_deed_in (mCons (mVar 1) mNil)) [1]
theorem lcR_ok {x1 : Option MV} (hne : ds ≠ []) (h : ∀ d ∈ ds, d.Ok) (hn : ds.length ≤ 1400) (hT : (textOf ds).length + 2 ≤ 100000) : lcR [some (.d (.str (textOf ds))), x1] l = some (.ok (.r (l.length + (blks l.length ds).length)), l ++ (blks l.length ds ++ [.lst (mvs l.length ds)])) := by
  have f0 : gSplit false (.d (.str (textOf ds))) [.d (.str "; ")] l = some (.d (.list ((ds.map Dee.part).map PyData.str)), l) := by
    show (if (("; " : Str).length == 0) = false ∧ (textOf ds).length + 2 ≤ 100000 then newL false ((Txt.split (textOf ds) "; ").map fun y => MV.d (.str y)) l else none) = _
    rw [if_pos ⟨rfl, hT⟩, text_split hne h, newLf, show ((ds.map Dee.part).map fun y => MV.d (.str y)) = ((ds.map Dee.part).map PyData.str).map MV.d from strV_d _, oAll_vD, if_pos (szB_of' (by simp; omega))]
    rfl
  generalize textOf ds = T at f0
  have hit : mItSeq (mBM kdS (gSplit false) (mVar 0) (mCons (mC (.str "; ")) mNil)) [some (.d (.str T)), x1] l = some (.ok (.seq (.d (.list ((ds.map Dee.part).map PyData.str)))), l) := by
    unfold mBM
    simp [-List.map_map, f0]
    rfl
  unfold lcR
  rw [mLc_e, hit, mB_ok]
  have key : ∃ l' acc', lcGo (.seq (.d (.list ((ds.map Dee.part).map PyData.str)))) (gNm 1) mYes (mCall m_u_deed_in (mCons (mVar 1) mNil)) [1] [some (.d (.str T)), x1] ((ItD.seq (.d (.list ((ds.map Dee.part).map PyData.str)))).cap l + 1) 0 l [] = some (l', acc') ∧ (l' = l ++ blks l.length (ds.take ds.length) ∧ acc' = mvs l.length (ds.take ds.length)) := by
    refine lc_inv ds.length (fun i l' acc => l' = l ++ blks l.length (ds.take i) ∧ acc = mvs l.length (ds.take i)) ?_ ?_ _ 0 l [] (by rw [cap_seqD]; simp) (Nat.zero_le _) ⟨by simp [blks], rfl⟩
    · rintro i l' acc hi ⟨rfl, rfl⟩
      have hd := deed_in_ok (l := l ++ blks l.length (ds.take i)) (h ds[i] (List.getElem_mem hi))
      have ht : ds.take (i + 1) = ds.take i ++ [ds[i]] := by rw [List.take_succ_eq_append_getElem hi]
      refine ⟨.d (.str ds[i].part), l ++ blks l.length (ds.take i), _, ?_, rfl, .inr ⟨_, _, _, rfl, ?_, by rw [mvs_len, List.length_take]; omega, by rw [ht, blks_snoc, ← List.append_assoc], by rw [ht, mvs_snoc]⟩⟩
      · rw [get_seqD, List.getElem?_map, List.getElem?_map, List.getElem?_eq_getElem hi]; rfl
      · rw [List.length_append] at hd
        show mCall m_u_deed_in (mCons (mVar 1) mNil) [some (.d (.str T)), some (.d (.str ds[i].part))] _ = _
        rw [mCall_e]
        simp only [mCons_e, mNil_e, mVar_e, List.getElem?_cons_succ, List.getElem?_cons_zero, mB_ok]
        exact hd
    · rintro l' acc ⟨rfl, rfl⟩
      rw [get_seqD, List.getElem?_eq_none (by simp)]; rfl
  obtain ⟨l', acc', e, rfl, rfl⟩ := key
  rw [e, List.take_length, mLk_so, newLt, if_pos (szB_of' (by rw [mvs_len]; omega))]
  simp
theorem read_g {lc : ME} {T : Str} {v : MV} {l2 : LH} (he : b_u_read_plan = mSeq (mIfS (mNotT (mTest (mOp1 (gIsi "str") (mVar 0)))) (mRaise "NoText") mSkip) (mSeq (mIfS (mTest (mOp2 gEq (mVar 0) (mC (.str "")))) (mRet (mLst true mNil)) mSkip) (mRet lc))) (hne : T ≠ "") (h : lc [some (.d (.str T)), none] l = some (.ok v, l2)) : m_u_read_plan [.d (.str T)] l = some (.ok v, l2) := by
  unfold m_u_read_plan
  rw [he, mFn_e]
  simp [isiD, kindD, hne, h]
theorem read_ok (h : ∀ d ∈ ds, d.Ok) (hn : ds.length ≤ 1400) (hT : (textOf ds).length + 2 ≤ 100000) : m_u_read_plan [.d (.str (textOf ds))] l = some (.ok (.r (l.length + (blks l.length ds).length)), l ++ (blks l.length ds ++ [.lst (mvs l.length ds)])) := by
  by_cases hne : ds = []
  · subst hne
    have e : textOf [] = "" := rfl
    rw [e]
    show m_u_read_plan _ l = some (Rs.ok (MV.r (l.length + 0)), l ++ [MO.lst []])
    unfold m_u_read_plan b_u_read_plan
    rw [mFn_e]
    simp [isiD, kindD, szB]
  · exact read_g (lc := lcR) rfl (text_ne hne) (lcR_ok hne h hn hT)
end
end Bw

namespace Bw
open PySem L2 TL
section
variable {L : LH} {ds : List Dee} {d : Dee} {mv : MV} {q : Nat}
/-- the thing mv in the heap L is the deed d -/
def Good (L : LH) (mv : MV) : Dee → Prop
  | .go n => mv = .d (Dee.go n).d
  | .sw xs ys => ∃ i j k, mv = .r i ∧ L[i]? = some (.tup [.d (.str "swap"), .r j, .r k]) ∧ L[j]? = some (.lst (strV xs)) ∧ L[k]? = some (.lst (strV ys))
theorem up_at {J : LH} {i : Nat} {o : MO} (h : L[i]? = some o) : (L ++ J)[i]? = some o := by
  rw [List.getElem?_append_left (List.getElem?_eq_some_iff.mp h).1]; exact h
theorem Good.up {J : LH} (h : Good L mv d) : Good (L ++ J) mv d := by
  cases d with
  | go n => exact h
  | sw xs ys =>
    obtain ⟨i, j, k, e, h1, h2, h3⟩ := h
    exact ⟨i, j, k, e, up_at h1, up_at h2, up_at h3⟩
theorem get3 {P Q : LH} {x y z : MO} : (P ++ x :: y :: z :: Q)[P.length]? = some x ∧ (P ++ x :: y :: z :: Q)[P.length + 1]? = some y ∧ (P ++ x :: y :: z :: Q)[P.length + 2]? = some z := by
  refine ⟨by simp, ?_, ?_⟩
  · rw [List.getElem?_append_right (by omega), show P.length + 1 - P.length = 1 by omega]; rfl
  · rw [List.getElem?_append_right (by omega), show P.length + 2 - P.length = 2 by omega]; rfl
theorem good_mv (P Q : LH) (d : Dee) : Good (P ++ (d.blk P.length ++ Q)) (d.mv P.length) d := by
  cases d with
  | go n => rfl
  | sw xs ys =>
    obtain ⟨h1, h2, h3⟩ := get3 (P := P) (Q := Q) (x := .lst (strV xs)) (y := .lst (strV ys)) (z := .tup [.d (.str "swap"), .r P.length, .r (P.length + 1)])
    exact ⟨P.length + 2, P.length, P.length + 1, rfl, h3, h1, h2⟩
theorem good_all : ∀ (ds : List Dee) (P R : LH), Paired (Good (P ++ (blks P.length ds ++ R))) (mvs P.length ds) ds
  | [], P, R => .nil
  | d :: ds, P, R => by
    have e : P ++ (blks P.length (d :: ds) ++ R) = (P ++ d.blk P.length) ++ (blks (P ++ d.blk P.length).length ds ++ R) := by
      rw [blks, List.length_append, List.append_assoc, List.append_assoc]
    have ih := good_all ds (P ++ d.blk P.length) R
    rw [← e] at ih
    rw [mvs]
    refine .cons ?_ (by rw [List.length_append] at ih; exact ih)
    have g := good_mv P (blks (P.length + (d.blk P.length).length) ds ++ R) d
    rw [blks, List.append_assoc]
    exact g
theorem Paired.at {α β : Type} {R : α → β → Prop} : ∀ {xs : List α} {ys : List β}, Paired R xs ys → ∀ {i : Nat} {y : β}, ys[i]? = some y → ∃ x, xs[i]? = some x ∧ R x y
  | _, _, .cons h t, 0, y, e => by cases e; exact ⟨_, rfl, h⟩
  | _, _, .cons h t, i + 1, y, e => Paired.at t (i := i) e
theorem rd_lstS (n : Nat) {j : Nat} {xs : List Str} (h : L[j]? = some (.lst (strV xs))) : rd (n + 1) L (.r j) = some (.list (xs.map PyData.str)) := by
  unfold rd
  rw [h, strV_d]
  simp only [oAll_d, Option.map_some]
theorem Good.rd (n : Nat) (h : Good L mv d) : rd (n + 2) L mv = some d.d := by
  cases d with
  | go n => cases h; rfl
  | sw xs ys =>
    obtain ⟨i, j, k, rfl, h1, h2, h3⟩ := h
    unfold Bw.rd
    rw [h1]
    have e : oAll (Bw.rd (n + 1) L) [.d (.str "swap"), .r j, .r k] = some [.str "swap", .list (xs.map PyData.str), .list (ys.map PyData.str)] := by
      simp only [oAll, rd_lstS n h2, rd_lstS n h3, rd_d, Option.map_some]
    simp only [e, Option.map_some]
    rfl
theorem rds_good (n : Nat) : ∀ {xs : List MV} {ds : List Dee}, Paired (Good L) xs ds → oAll (rd (n + 2) L) xs = some (ds.map Dee.d)
  | _, _, .nil => rfl
  | _, _, .cons h t => by
    unfold oAll
    rw [h.rd n, rds_good n t]
    rfl
theorem shp_deed (h : d.Ok) : Shp 2 d.d := by
  have hs : ∀ w : Str, (∀ c ∈ tl w, c < 0x110000) → Shp 1 (.str w) := fun w hw => (shp_str hw).mono (by decide)
  cases d with
  | go n =>
    refine (shp_tup (n := 1) fun y hy => ?_)
    simp only [List.mem_cons, List.not_mem_nil, or_false] at hy
    rcases hy with rfl | rfl
    · exact hs _ (by decide +kernel)
    · exact (shp_int n).mono (by decide)
  | sw xs ys =>
    refine (shp_tup (n := 1) fun y hy => ?_)
    simp only [List.mem_cons, List.not_mem_nil, or_false] at hy
    rcases hy with rfl | rfl | rfl
    · exact hs _ (by decide +kernel)
    · exact shp_list fun y hy => by
        obtain ⟨w, hw, rfl⟩ := List.mem_map.mp hy
        exact shp_str fun c hc => by have := (h.x w hw).2.2 c hc; omega
    · exact shp_list fun y hy => by
        obtain ⟨w, hw, rfl⟩ := List.mem_map.mp hy
        exact shp_str fun c hc => by have := (h.y w hw).2.2 c hc; omega
theorem shp_plan (h : ∀ d ∈ ds, d.Ok) : Shp 3 (.list (ds.map Dee.d)) := shp_list fun y hy => by
  obtain ⟨d, hd, rfl⟩ := List.mem_map.mp hy
  exact shp_deed (h d hd)
mutual
theorem eqv_lay : ∀ d : PyData, d.canLay0 = true → PyData.eqv d d = true
  | .none, _ => rfl
  | .bool b, _ => by simp [PyData.eqv]
  | .int i, _ => by simp [PyData.eqv]
  | .str x, _ => by simp [PyData.eqv]
  | .list xs, h => by rw [PyData.eqv]; exact eqvs_lay xs (by simpa [PyData.canLay0] using h)
  | .tuple xs, h => by rw [PyData.eqv]; exact eqvs_lay xs (by simpa [PyData.canLay0] using h)
  | .dict _, h => by simp [PyData.canLay0] at h
theorem eqvs_lay : ∀ xs : List PyData, PyData.canLayAll0 xs = true → PyData.eqvAll xs xs = true
  | [], _ => rfl
  | x :: xs, h => by
    rw [PyData.canLayAll0, Bool.and_eq_true] at h
    rw [PyData.eqvAll, eqv_lay x h.1, eqvs_lay xs h.2]; rfl
end
theorem gNe_rd {x y : MV} {d e : PyData} (hx : rdA L x = some d) (hy : rdA L y = some e) : gNe x y L = gNe (.d d) (.d e) L := by
  unfold gNe alt2 pu2
  rw [hx, hy]
  rfl
theorem gNe_same {d : PyData} (h : SeqAt.shaped d = true) (he : PyData.eqv d d = true) (c : eqSP d d = none) : gNe (.d d) (.d d) L = some (.d (.bool false), L) := by
  show (match ret ((eqSP d d).map notP) L with | some z => some z | none => ret ((eqDP d d).map notP) L) = _
  rw [c]
  show ret ((eqDP d d).map notP) L = _
  unfold eqDP
  rw [if_pos ⟨h, h⟩, he]; rfl
theorem rd_found {xs : List MV} (hq : L[q]? = some (.lst xs)) (hp : Paired (Good L) xs ds) : rdA L (.r q) = some (.list (ds.map Dee.d)) := by
  rw [rdA_r, hq]
  simp only [rds_good 5 hp, Option.map_some]
theorem ixU_tr {i : Int} {a : Nat} {xs : List MV} (g : L[a]? = some (.tup xs)) : ixU (.r a) (.d (.int i)) L = (atI xs i).map fun z => (z, L) := by
  unfold ixU alt2 ixL ixT ixC ixK sqL sqT dcO
  simp only [g, vI, vS]
  cases atI xs i <;> rfl
end
end Bw

namespace Bw
open PySem L2 TL
def IPB : MS := (mSeq (mIfS (mNotT (mTest (mOp1 (gIsi "tuple") (mVar 2)))) (mRet (mC (.bool false))) mSkip) (mSeq (mIfS (mAndT (mTest (mOp2 gEq (mOp2 ixU (mVar 2) (mC (.int (0 : Int)))) (mC (.str "go")))) (mTest (mOp1 (gIsi "bool") (mOp2 ixU (mVar 2) (mC (.int (1 : Int))))))) (mRet (mC (.bool false))) mSkip) (mIfS (mAndT (mTest (mOp2 gEq (mOp2 ixU (mVar 2) (mC (.int (0 : Int)))) (mC (.str "swap")))) (mNotT (mAndT (mTest (mOp1 (gIsi "list") (mOp2 ixU (mVar 2) (mC (.int (1 : Int)))))) (mTest (mOp1 (gIsi "list") (mOp2 ixU (mVar 2) (mC (.int (2 : Int))))))))) (mRet (mC (.bool false))) mSkip)))
def IP0 : MS := (mIfS (mOrT (mNotT (mTest (mOp1 (gIsi "list") (mVar 0)))) (mTest (mOp2 gNe (mVar 0) (mVar 1)))) (mRet (mC (.bool false))) mSkip)
theorem is_plan_eq : b_u_is_plan = mSeq IP0 (mSeq (mFor (mItSeq (mVar 0)) (gNm 2) IPB) (mRet (mC (.bool true)))) := rfl
def MDB : MS := (mIfS (mTest (mOp2 gEq (mOp2 ixU (mVar 5) (mC (.int (0 : Int)))) (mC (.str "swap")))) (mSeq (mDrop (mBM kdL gApp (mOp2 ixU (mVar 5) (mC (.int (1 : Int)))) (mCons (mC (.str "zz")) mNil))) (mDrop (mBM kdL gApp (mOp2 ixU (mVar 5) (mC (.int (2 : Int)))) (mCons (mC (.str "zy")) mNil)))) mSkip)
def ZPB : MS := (mIfS (mAndT (mTest (mOp2 gEq (mOp2 ixU (mVar 5) (mC (.int (0 : Int)))) (mC (.str "swap")))) (mOrT (mTest (mOp2 gNe (mOp2 ixU (mVar 5) (mC (.int (1 : Int)))) (mOp2 (gAdd false) (mOp2 ixU (mVar 6) (mC (.int (1 : Int)))) (mLst false (mCons (mC (.str "zz")) mNil))))) (mTest (mOp2 gNe (mOp2 ixU (mVar 5) (mC (.int (2 : Int)))) (mOp2 (gAdd false) (mOp2 ixU (mVar 6) (mC (.int (2 : Int)))) (mLst false (mCons (mC (.str "zy")) mNil))))))) (mRet (mC (.bool false))) mSkip)
def T018 : MS := (mAsg (mCall m_u_written (mCons (mVar 2) mNil)) (gNm 3))
def T118 : MS := (mAsg (mCall m_u_read_plan (mCons (mVar 3) mNil)) (gNm 4))
def T218 : MS := (mIfS (mNotT (mTest (mCall m_u_is_plan (mCons (mVar 4) (mCons (mVar 2) mNil))))) (mRet (mC (.bool false))) mSkip)
def T418 : MS := (mDrop (mBM kdL gApp (mVar 4) (mCons (mC .none) mNil)))
def T518 : MS := (mIfS (mOrT (mNotT (mTest (mCall m_u_is_plan (mCons (mCall m_u_read_plan (mCons (mVar 3) mNil)) (mCons (mVar 2) mNil))))) (mTest (mOp2 gNe (mCB gLen (mCons (mVar 4) mNil)) (mOp2 (gAdd false) (mCB gLen (mCons (mVar 2) mNil)) (mC (.int (1 : Int))))))) (mRet (mC (.bool false))) mSkip)
def TB : MS := mSeq T018 (mSeq T118 (mSeq T218 (mSeq (mFor (mItSeq (mVar 4)) (gNm 5) MDB) (mSeq T418 (mSeq T518 (mFor (mZip (mVar 4) (mVar 2)) (gTp [5, 6]) ZPB))))))
theorem law_eq : b_u_law = mSeq (mAsg (mCall m_u_plan (mCons (mVar 0) mNil)) (gNm 1)) (mSeq (mFor (mItSeq (mLst false (mCons (mVar 1) (mCons (mSl false (mVar 1) mNoPart (mPart (mOp2 (gFdiv) (mCB gLen (mCons (mVar 1) mNil)) (mC (.int (3 : Int)))))) (mCons (mSl false (mVar 1) mNoPart (mPart (mOp2 (gFdiv) (mCB gLen (mCons (mVar 1) mNil)) (mC (.int (2 : Int)))))) (mCons (mLst false mNil) mNil)))))) (gNm 2) TB) (mRet (mOp2 gEq (mCall m_u_read_plan (mCons (mJn (mC (.str "; ")) (mOp2 (gMul false) (mLst false (mCons (mC (.str "go 1")) (mCons (mC (.str "go 0")) mNil))) (mC (.int (700 : Int))))) mNil)) (mOp2 (gMul false) (mLst false (mCons (mTup (mCons (mC (.str "go")) (mCons (mC (.int (1 : Int))) mNil))) (mCons (mTup (mCons (mC (.str "go")) (mCons (mC (.int (0 : Int))) mNil))) mNil))) (mC (.int (700 : Int))))))) := rfl
section
variable {L : LH} {ds : List Dee} {d : Dee} {mv : MV} {q : Nat}
theorem gIsi_rd {c : String} {x : MV} {e : PyData} (h : rdA L x = some e) : gIsi c x L = some (.d (.bool (isiD c e)), L) := by unfold gIsi pu1; rw [h]; rfl
theorem ipb_ok {x0 x1 : Option MV} (h : Good L mv d) : IPB [x0, x1, some mv] L = some (.nx, [x0, x1, some mv], L) := by
  have ht := gIsi_rd (c := "tuple") (h.rd 6)
  cases d with
  | go n =>
    obtain rfl := h
    unfold IPB
    simp [Dee.d, isiD, kindD, atI, ixN]
  | sw xs ys =>
    obtain ⟨i, j, k, rfl, h1, h2, h3⟩ := h
    have g0 : ixU (.r i) (.d (.int 0)) L = some (.d (.str "swap"), L) := by rw [ixU_tr h1]; rfl
    have g1 : ixU (.r i) (.d (.int 1)) L = some (.r j, L) := by rw [ixU_tr h1]; rfl
    have g2 : ixU (.r i) (.d (.int 2)) L = some (.r k, L) := by rw [ixU_tr h1]; rfl
    have t1 := gIsi_rd (c := "list") (rdA_strs h2)
    have t2 := gIsi_rd (c := "list") (rdA_strs h3)
    have e0 : isiD "tuple" (Dee.sw xs ys).d = true := rfl
    have e1 : isiD "list" (.list (xs.map PyData.str)) = true := rfl
    have e2 : isiD "list" (.list (ys.map PyData.str)) = true := rfl
    rw [e0] at ht
    rw [e1] at t1
    rw [e2] at t2
    unfold IPB
    simp [ht, g0, g1, g2, t1, t2]
theorem is_plan_ok {xs : List MV} (hq : L[q]? = some (.lst xs)) (hp : Paired (Good L) xs ds) (h : ∀ d ∈ ds, d.Ok) (hn : ds.length ≤ 1400) : m_u_is_plan [.r q, .d (.list (ds.map Dee.d))] L = some (.ok (.d (.bool true)), L) := by
  have hs := shp_plan h
  have r := rd_found hq hp
  have f1 := gIsi_rd (c := "list") r
  rw [show isiD "list" (.list (ds.map Dee.d)) = true from rfl] at f1
  have f2 : gNe (.r q) (.d (.list (ds.map Dee.d))) L = some (.d (.bool false), L) := by rw [gNe_rd r (rdA_d _ _)]; exact gNe_same (hs.ok (by decide)) (eqv_lay _ hs.1) rfl
  have hl : xs.length = ds.length := Paired.length hp
  generalize PyData.list (ds.map Dee.d) = pd at f2
  unfold m_u_is_plan
  rw [is_plan_eq, mFn_e, if_pos (by rfl)]
  show mF (mSeq _ _ [some (.r q), some (.d pd), none] L) = _
  have e0 : IP0 [some (.r q), some (.d pd), none] L = some (.nx, [some (.r q), some (.d pd), none], L) := by
    unfold IP0
    simp [f1, f2]
  rw [mSeq_e, e0, mQ_nx]
  have hit : mItSeq (mVar 0) [some (.r q), some (.d pd), none] L = some (.ok (.seq (.r q)), L) := by
    rw [mItSeq_e, mVar_e]
    show mRD (iSeq (.r q) L) L = _
    unfold iSeq
    rw [sqL_r' hq]; rfl
  have hcap : (ItD.seq (.r q)).cap L = xs.length := by unfold ItD.cap; simp only [sqL_r' hq, Option.getD_some]
  refine seq_for (P := fun m => m = _) (d := .seq (.r q)) (l := L) ds.length (fun _ env l' => l' = L ∧ ∃ x, env = [some (.r q), some (.d pd), x]) hit (by omega) ⟨rfl, _, rfl⟩ ?_ ?_ ?_
  · rintro i env l' hi ⟨rfl, x, rfl⟩
    obtain ⟨mv, hx, g⟩ := Bw.Paired.at hp (List.getElem?_eq_getElem hi)
    refine ⟨mv, l', _, _, l', ?_, rfl, ipb_ok g, rfl, _, rfl⟩
    rw [get_seqO (sqL_r' hq), hx]; rfl
  · rintro env l' ⟨rfl, x, rfl⟩
    rw [get_seqO (sqL_r' hq), List.getElem?_eq_none (by omega)]; rfl
  · rintro env l' ⟨rfl, x, rfl⟩
    rfl
/-! what is told is changed -/
def Dee.mod : Dee → Dee
  | .go n => .go n
  | .sw xs ys => .sw (xs ++ [("zz" : Str)]) (ys ++ [("zy" : Str)])
def Dee.bl : Dee → Nat
  | .go _ => 0
  | .sw _ _ => 3
theorem bl_mod (d : Dee) : d.mod.bl = d.bl := by cases d <;> rfl
theorem mv_mod (b : Nat) (d : Dee) : d.mod.mv b = d.mv b := by cases d <;> rfl
theorem blk_len (b : Nat) (d : Dee) : (d.blk b).length = d.bl := by cases d <;> rfl
theorem blks_len : ∀ (b : Nat) (ds : List Dee), (blks b ds).length = (ds.map Dee.bl).sum
  | _, [] => rfl
  | b, d :: ds => by rw [blks, List.length_append, blks_len, blk_len]; rfl
theorem blks_app : ∀ (b : Nat) (A C : List Dee), blks b (A ++ C) = blks b A ++ blks (b + (blks b A).length) C
  | b, [], C => by simp [blks]
  | b, d :: A, C => by rw [List.cons_append, blks, blks, blks_app _ A C, List.append_assoc, List.length_append, Nat.add_assoc]
theorem mvs_at : ∀ {ds : List Dee} {b i : Nat} {d : Dee}, ds[i]? = some d → (mvs b ds)[i]? = some (d.mv (b + ((ds.take i).map Dee.bl).sum))
  | e :: ds, b, 0, d, h => by cases h; rfl
  | e :: ds, b, i + 1, d, h => by
    have h' : ds[i]? = some d := h
    rw [mvs, List.getElem?_cons_succ, mvs_at h', blk_len, List.take_succ_cons, List.map_cons, List.sum_cons, Nat.add_assoc]
theorem bl_mods (ds : List Dee) : ((ds.map Dee.mod).map Dee.bl).sum = (ds.map Dee.bl).sum := by
  rw [List.map_map]; congr 1; exact List.map_congr_left fun d _ => bl_mod d
theorem gApp_r {v : MV} {xs : List MV} (h1 : L[q]? = some (.lst xs)) (h2 : xs.length ≤ 1000) : gApp (.r q) [v] L = some (.d .none, L.set q (.lst (xs ++ [v]))) := by
  have := szB_of' (n := xs.length + 1) (by omega)
  simp [h1, this]
theorem set3 {P Q : LH} {x y z w : MO} : (P ++ x :: y :: z :: Q).set P.length w = P ++ w :: y :: z :: Q ∧ (P ++ x :: y :: z :: Q).set (P.length + 1) w = P ++ x :: w :: z :: Q := by
  refine ⟨by simp, ?_⟩
  rw [List.set_append_right _ _ (by omega), show P.length + 1 - P.length = 1 by omega]; rfl
theorem tup_ix {p j k : Nat} (h : L[p]? = some (.tup [.d (.str "swap"), .r j, .r k])) : ixU (.r p) (.d (.int 0)) L = some (.d (.str "swap"), L) ∧ ixU (.r p) (.d (.int 1)) L = some (.r j, L) ∧ ixU (.r p) (.d (.int 2)) L = some (.r k, L) := by
  refine ⟨?_, ?_, ?_⟩ <;> (rw [ixU_tr h]; rfl)
theorem mod_one {x0 x1 x2 x3 x4 x6 : Option MV} (P T : LH) (h : d.Ok) : MDB [x0, x1, x2, x3, x4, some (d.mv P.length), x6] (P ++ (d.blk P.length ++ T)) = some (.nx, [x0, x1, x2, x3, x4, some (d.mv P.length), x6], P ++ (d.mod.blk P.length ++ T)) := by
  cases d with
  | go n =>
    show MDB [x0, x1, x2, x3, x4, some (.d (Dee.go n).d), x6] (P ++ T) = some (Fw.nx, [x0, x1, x2, x3, x4, some (.d (Dee.go n).d), x6], P ++ T)
    unfold MDB
    simp [Dee.d, atI, ixN]
  | sw xs ys =>
    have hx := h.xl
    have hy := h.yl
    show MDB [x0, x1, x2, x3, x4, some (.r (P.length + 2)), x6] (P ++ .lst (strV xs) :: .lst (strV ys) :: .tup [.d (.str "swap"), .r P.length, .r (P.length + 1)] :: T) = some (Fw.nx, [x0, x1, x2, x3, x4, some (.r (P.length + 2)), x6], P ++ .lst (strV (xs ++ [("zz" : Str)])) :: .lst (strV (ys ++ [("zy" : Str)])) :: .tup [.d (.str "swap"), .r P.length, .r (P.length + 1)] :: T)
    obtain ⟨a1, a2, a3⟩ := get3 (P := P) (Q := T) (x := .lst (strV xs)) (y := .lst (strV ys)) (z := .tup [.d (.str "swap"), .r P.length, .r (P.length + 1)])
    obtain ⟨b1, b2, b3⟩ := get3 (P := P) (Q := T) (x := .lst (strV (xs ++ [("zz" : Str)]))) (y := .lst (strV ys)) (z := .tup [.d (.str "swap"), .r P.length, .r (P.length + 1)])
    have s1 := gApp_r (v := .d (.str "zz")) a1 (by simp; omega)
    rw [set3.1, show strV xs ++ [MV.d (.str "zz")] = strV (xs ++ [("zz" : Str)]) by simp] at s1
    have s2 := gApp_r (v := .d (.str "zy")) b2 (by simp; omega)
    rw [set3.2, show strV ys ++ [MV.d (.str "zy")] = strV (ys ++ [("zy" : Str)]) by simp] at s2
    obtain ⟨g0, g1, _⟩ := tup_ix a3
    obtain ⟨_, _, g2⟩ := tup_ix b3
    have k1 := sqL_r' a1
    have k2 := sqL_r' b2
    generalize (P ++ MO.lst (strV xs) :: .lst (strV ys) :: .tup [.d (.str "swap"), .r P.length, .r (P.length + 1)] :: T) = L1 at *
    generalize (P ++ MO.lst (strV (xs ++ [("zz" : Str)])) :: .lst (strV ys) :: .tup [.d (.str "swap"), .r P.length, .r (P.length + 1)] :: T) = L2 at *
    generalize (P ++ MO.lst (strV (xs ++ [("zz" : Str)])) :: .lst (strV (ys ++ [("zy" : Str)])) :: .tup [.d (.str "swap"), .r P.length, .r (P.length + 1)] :: T) = L3 at *
    generalize P.length + 2 = p2 at *
    generalize P.length + 1 = p1 at *
    generalize P.length = p0 at *
    clear a1 a2 a3 b1 b2 b3
    unfold MDB mBM
    simp [-gApp, g0, g1, g2, s1, s2, k1, k2]
end
end Bw

namespace Bw
open PySem L2 TL
section
variable {L : LH} {ds : List Dee} {d : Dee} {mv : MV} {q : Nat}
theorem mvs_mod : ∀ (b : Nat) (ds : List Dee), mvs b (ds.map Dee.mod) = mvs b ds
  | _, [] => rfl
  | b, d :: ds => by rw [List.map_cons, mvs, mvs, mv_mod, blk_len, blk_len, bl_mod, mvs_mod]
theorem last_at (P : LH) (ms : List Dee) (X : MO) (h : (ms.map Dee.bl).sum = (ds.map Dee.bl).sum) : (P ++ (blks P.length ms ++ [X]))[P.length + (blks P.length ds).length]? = some X := by
  have e : (blks P.length ds).length = (blks P.length ms).length := by rw [blks_len, blks_len, h]
  rw [e, List.getElem?_append_right (by omega), show P.length + (blks P.length ms).length - P.length = (blks P.length ms).length by omega]
  simp
theorem mod_loop {x0 x1 x2 x3 x5 x6 : Option MV} (P : LH) (h : ∀ d ∈ ds, d.Ok) : ∃ y5, mFor (mItSeq (mVar 4)) (gNm 5) MDB [x0, x1, x2, x3, some (.r (P.length + (blks P.length ds).length)), x5, x6] (P ++ (blks P.length ds ++ [.lst (mvs P.length ds)])) = some (.nx, [x0, x1, x2, x3, some (.r (P.length + (blks P.length ds).length)), y5, x6], P ++ (blks P.length (ds.map Dee.mod) ++ [.lst (mvs P.length ds)])) := by
  have mix : ∀ i, ((((ds.take i).map Dee.mod) ++ ds.drop i).map Dee.bl).sum = (ds.map Dee.bl).sum := fun i => by
    rw [List.map_append, List.sum_append, bl_mods, ← List.sum_append, ← List.map_append, List.take_append_drop]
  have hq := last_at (ds := ds) P ds (.lst (mvs P.length ds)) rfl
  have hit : mItSeq (mVar 4) [x0, x1, x2, x3, some (.r (P.length + (blks P.length ds).length)), x5, x6] (P ++ (blks P.length ds ++ [.lst (mvs P.length ds)])) = some (.ok (.seq (.r (P.length + (blks P.length ds).length))), P ++ (blks P.length ds ++ [.lst (mvs P.length ds)])) := by
    rw [mItSeq_e, mVar_e]
    show mRD (iSeq (.r _) _) _ = _
    unfold iSeq
    rw [sqL_r' hq]; rfl
  have hcap : (ItD.seq (.r (P.length + (blks P.length ds).length))).cap (P ++ (blks P.length ds ++ [.lst (mvs P.length ds)])) = ds.length := by unfold ItD.cap; simp only [sqL_r' hq, Option.getD_some, mvs_len]
  generalize hQ : P.length + (blks P.length ds).length = q at *
  have key : ∃ env2 l2, mGo (.seq (.r q)) (gNm 5) MDB ((ItD.seq (.r q)).cap (P ++ (blks P.length ds ++ [.lst (mvs P.length ds)])) + 1) 0 [x0, x1, x2, x3, some (.r q), x5, x6] (P ++ (blks P.length ds ++ [.lst (mvs P.length ds)])) = some (.nx, env2, l2) ∧ ((∃ y5, env2 = [x0, x1, x2, x3, some (.r q), y5, x6]) ∧ l2 = P ++ (blks P.length (((ds.take ds.length).map Dee.mod) ++ ds.drop ds.length) ++ [.lst (mvs P.length ds)])) := by
    refine go_run (d := .seq (.r q)) (tg := gNm 5) (body := MDB) ds.length (fun i env2 l2 => (∃ y5, env2 = [x0, x1, x2, x3, some (.r q), y5, x6]) ∧ l2 = P ++ (blks P.length (((ds.take i).map Dee.mod) ++ ds.drop i) ++ [.lst (mvs P.length ds)])) ?_ ?_ ((ItD.seq (.r q)).cap (P ++ (blks P.length ds ++ [.lst (mvs P.length ds)])) + 1) 0 [x0, x1, x2, x3, some (.r q), x5, x6] (P ++ (blks P.length ds ++ [.lst (mvs P.length ds)])) (by omega) (Nat.zero_le _) ⟨⟨_, rfl⟩, by simp⟩
    · rintro i env2 l2 hi ⟨⟨y5, rfl⟩, rfl⟩
      have hL := last_at (ds := ds) P _ (.lst (mvs P.length ds)) (mix i)
      rw [hQ] at hL
      have hd := List.getElem?_eq_getElem hi
      have hm := mvs_at (b := P.length) hd
      have hdr : ds.drop i = ds[i] :: ds.drop (i + 1) := List.drop_eq_getElem_cons hi
      have e1 : ∀ (x : Dee) (C : List Dee), P ++ (blks P.length ((ds.take i).map Dee.mod ++ x :: C) ++ [MO.lst (mvs P.length ds)]) = (P ++ blks P.length ((ds.take i).map Dee.mod)) ++ (x.blk (P ++ blks P.length ((ds.take i).map Dee.mod)).length ++ (blks ((P ++ blks P.length ((ds.take i).map Dee.mod)).length + x.bl) C ++ [MO.lst (mvs P.length ds)])) := fun x C => by
        rw [blks_app, blks, blk_len, List.length_append]
        simp only [List.append_assoc]
      have hp : P.length + ((ds.take i).map Dee.bl).sum = (P ++ blks P.length ((ds.take i).map Dee.mod)).length := by rw [List.length_append, blks_len, bl_mods]
      rw [hp] at hm
      have one := mod_one (x0 := x0) (x1 := x1) (x2 := x2) (x3 := x3) (x4 := some (.r q)) (x6 := x6) (P ++ blks P.length ((ds.take i).map Dee.mod)) (blks ((P ++ blks P.length ((ds.take i).map Dee.mod)).length + ds[i].bl) (ds.drop (i + 1)) ++ [MO.lst (mvs P.length ds)]) (h ds[i] (List.getElem_mem hi))
      refine ⟨ds[i].mv (P ++ blks P.length ((ds.take i).map Dee.mod)).length, P ++ (blks P.length ((ds.take i).map Dee.mod ++ ds.drop i) ++ [MO.lst (mvs P.length ds)]), _, [x0, x1, x2, x3, some (.r q), some (ds[i].mv (P ++ blks P.length ((ds.take i).map Dee.mod)).length), x6], _, ?_, rfl, ?_, ⟨_, rfl⟩, rfl⟩
      · rw [get_seqO (sqL_r' hL), hm]; rfl
      · rw [hdr, e1]
        have e2 : ((ds.take (i + 1)).map Dee.mod) ++ ds.drop (i + 1) = (ds.take i).map Dee.mod ++ ds[i].mod :: ds.drop (i + 1) := by
          rw [List.take_succ_eq_append_getElem hi, List.map_append, List.append_assoc]; rfl
        rw [e2, e1, bl_mod]
        exact one
    · rintro env2 l2 ⟨_, rfl⟩
      have hL := last_at (ds := ds) P _ (.lst (mvs P.length ds)) (mix ds.length)
      rw [hQ] at hL
      rw [get_seqO (sqL_r' hL), List.getElem?_eq_none (by rw [mvs_len]; omega)]; rfl
  obtain ⟨env2, l2, e, ⟨y5, rfl⟩, rfl⟩ := key
  refine ⟨y5, ?_⟩
  rw [mFor_e, hit, mK_ok, e, List.take_length, List.drop_length, List.append_nil]
theorem gAdd_l2 {xs ys : List Str} (h : xs.length + ys.length ≤ 1000) : gAdd false (.d (.list (xs.map PyData.str))) (.d (.list (ys.map PyData.str))) L = some (.d (.list ((xs ++ ys).map PyData.str)), L) := by
  unfold gAdd alt2 gCatL
  simp only [pu2_d, addP, catP, ret_no, sqL_d]
  rw [← List.map_append, newLf, oAll_vD, List.length_map, if_pos (szB_of' (by simp; omega)), List.map_append]; rfl
theorem zpb_one {x0 x1 x2 x3 x4 : Option MV} (hd : d.Ok) (g : Good L mv d.mod) : ZPB [x0, x1, x2, x3, x4, some mv, some (.d d.d)] L = some (.nx, [x0, x1, x2, x3, x4, some mv, some (.d d.d)], L) := by
  cases d with
  | go n =>
    obtain rfl := g
    unfold ZPB
    simp [Dee.d, atI, ixN]
  | sw xs ys =>
    obtain ⟨i, j, k, rfl, h1, h2, h3⟩ := g
    obtain ⟨g0, g1, g2⟩ := tup_ix h1
    have hx := hd.xl
    have hy := hd.yl
    have nz : ∀ w ∈ [("zz" : Str), "zy"], NmOk w := by
      have : ∀ w ∈ [("zz" : Str), "zy"], 1 ≤ (tl w).length ∧ (tl w).length ≤ 8 ∧ ∀ c ∈ tl w, 97 ≤ c ∧ c ≤ 122 := by decide +kernel
      exact this
    have shp : ∀ ws : List Str, (∀ w ∈ ws, NmOk w) → Shp 1 (.list (ws.map PyData.str)) := fun ws hw => shp_list fun y hy => by
      obtain ⟨w, hm, rfl⟩ := List.mem_map.mp hy
      exact shp_str fun c hc => by have := (hw w hm).2.2 c hc; omega
    have sx := shp (xs ++ [("zz" : Str)]) fun w hw => by
      rcases List.mem_append.mp hw with hw | hw
      · exact hd.x w hw
      · exact nz w (by simp at hw; simp [hw])
    have sy := shp (ys ++ [("zy" : Str)]) fun w hw => by
      rcases List.mem_append.mp hw with hw | hw
      · exact hd.y w hw
      · exact nz w (by simp at hw; simp [hw])
    have n1 : gNe (.r j) (.d (.list ((xs ++ [("zz" : Str)]).map PyData.str))) L = some (.d (.bool false), L) := by rw [gNe_rd (rdA_strs h2) (rdA_d _ _)]; exact gNe_same (sx.ok (by decide)) (eqv_lay _ sx.1) rfl
    have n2 : gNe (.r k) (.d (.list ((ys ++ [("zy" : Str)]).map PyData.str))) L = some (.d (.bool false), L) := by rw [gNe_rd (rdA_strs h3) (rdA_d _ _)]; exact gNe_same (sy.ok (by decide)) (eqv_lay _ sy.1) rfl
    have a1 : gAdd false (.d (.list (xs.map PyData.str))) (.d (.list [.str "zz"])) L = some (.d (.list ((xs ++ [("zz" : Str)]).map PyData.str)), L) := gAdd_l2 (ys := ["zz"]) (by simp; omega)
    have a2 : gAdd false (.d (.list (ys.map PyData.str))) (.d (.list [.str "zy"])) L = some (.d (.list ((ys ++ [("zy" : Str)]).map PyData.str)), L) := gAdd_l2 (ys := ["zy"]) (by simp; omega)
    have d1 : ixU (.d (Dee.sw xs ys).d) (.d (.int 1)) L = some (.d (.list (xs.map PyData.str)), L) := rfl
    have d2 : ixU (.d (Dee.sw xs ys).d) (.d (.int 2)) L = some (.d (.list (ys.map PyData.str)), L) := rfl
    generalize (Dee.sw xs ys).d = dd at d1 d2
    generalize PyData.list ((xs ++ [("zz" : Str)]).map PyData.str) = X1 at n1 a1
    generalize PyData.list ((ys ++ [("zy" : Str)]).map PyData.str) = Y1 at n2 a2
    generalize PyData.list (xs.map PyData.str) = X0 at a1 d1
    generalize PyData.list (ys.map PyData.str) = Y0 at a2 d2
    unfold ZPB
    simp [g0, g1, g2, n1, n2, a1, a2, d1, d2, szB]
theorem zip_loop {x0 x1 x3 x5 x6 : Option MV} {xs : List MV} (h : ∀ d ∈ ds, d.Ok) (hq : L[q]? = some (.lst (xs ++ [.d .none]))) (hp : Paired (Good L) xs (ds.map Dee.mod)) : ∃ y5 y6 L2, mFor (mZip (mVar 4) (mVar 2)) (gTp [5, 6]) ZPB [x0, x1, some (.d (.list (ds.map Dee.d))), x3, some (.r q), x5, x6] L = some (.nx, [x0, x1, some (.d (.list (ds.map Dee.d))), x3, some (.r q), y5, y6], L2) := by
  have hl : xs.length = ds.length := by have := Paired.length hp; rw [List.length_map] at this; exact this
  have hit : mZip (mVar 4) (mVar 2) [x0, x1, some (.d (.list (ds.map Dee.d))), x3, some (.r q), x5, x6] L = some (.ok (.zip (.r q) (.d (.list (ds.map Dee.d)))), L) := by
    show (match sqL L (.r q), sqL L (.d (.list (ds.map Dee.d))) with | some _, some _ => some (Rs.ok (ItD.zip (.r q) (.d (.list (ds.map Dee.d)))), L) | _, _ => _) = _
    rw [sqL_r' hq]
    rfl
  have hcap : (ItD.zip (.r q) (.d (.list (ds.map Dee.d)))).cap L = ds.length + 1 := by unfold ItD.cap; simp only [sqL_r' hq, Option.getD_some, List.length_append, hl]; rfl
  have key : ∃ env2 l2, mGo (.zip (.r q) (.d (.list (ds.map Dee.d)))) (gTp [5, 6]) ZPB ((ItD.zip (.r q) (.d (.list (ds.map Dee.d)))).cap L + 1) 0 [x0, x1, some (.d (.list (ds.map Dee.d))), x3, some (.r q), x5, x6] L = some (.nx, env2, l2) ∧ ((∃ y5 y6, env2 = [x0, x1, some (.d (.list (ds.map Dee.d))), x3, some (.r q), y5, y6]) ∧ ∃ J, l2 = L ++ J) := by
    refine go_run (d := .zip (.r q) (.d (.list (ds.map Dee.d)))) (tg := gTp [5, 6]) (body := ZPB) ds.length (fun i env2 l2 => (∃ y5 y6, env2 = [x0, x1, some (.d (.list (ds.map Dee.d))), x3, some (.r q), y5, y6]) ∧ ∃ J, l2 = L ++ J) ?_ ?_ _ 0 _ _ (by omega) (Nat.zero_le _) ⟨⟨_, _, rfl⟩, [], by simp⟩
    · rintro i env2 l2 hi ⟨⟨y5, y6, rfl⟩, J, rfl⟩
      have hd := List.getElem?_eq_getElem hi
      obtain ⟨mv, hx, g⟩ := Bw.Paired.at hp (i := i) (y := ds[i].mod) (by rw [List.getElem?_map, hd]; rfl)
      have hg : (ItD.zip (.r q) (.d (.list (ds.map Dee.d)))).get i (L ++ J) = nxO (some ()) fun _ => newT [mv, .d ds[i].d] (L ++ J) := by
        show (match sqL (L ++ J) (.r q), sqL (L ++ J) (.d (.list (ds.map Dee.d))) with | some xs, some ys => (match xs[i]?, ys[i]? with | some a, some b => nxO (some ()) fun _ => newT [a, b] (L ++ J) | _, _ => some none) | _, _ => none) = _
        rw [sqL_r' (up_at hq)]
        have e1 : (xs ++ [MV.d .none])[i]? = some mv := by rw [List.getElem?_append_left (by omega)]; exact hx
        have e2 : ((ds.map Dee.d).map MV.d)[i]? = some (.d ds[i].d) := by rw [List.getElem?_map, List.getElem?_map, hd]; rfl
        simp only [sqL_d, e1, e2]
      have hOk := h ds[i] (List.getElem_mem hi)
      have gu := Good.up (J := J) g
      cases hdi : ds[i] with
      | go n =>
        rw [hdi] at hg gu hOk
        have hmv : mv = .d (Dee.go n).d := gu
        subst hmv
        exact ⟨_, _, _, _, _, hg, rfl, zpb_one hOk gu, ⟨_, _, rfl⟩, J, rfl⟩
      | sw ws vs =>
        rw [hdi] at hg gu hOk
        obtain ⟨a, b, c, rfl, k1, k2, k3⟩ := gu
        have gu2 : Good (L ++ J ++ [MO.tup [.r a, .d (Dee.sw ws vs).d]]) (.r a) (Dee.sw ws vs).mod := Good.up ⟨a, b, c, rfl, k1, k2, k3⟩
        refine ⟨.r (L ++ J).length, L ++ J ++ [.tup [.r a, .d (Dee.sw ws vs).d]], [x0, x1, some (.d (.list (ds.map Dee.d))), x3, some (.r q), some (.r a), some (.d (Dee.sw ws vs).d)], _, _, hg.trans rfl, ?_, zpb_one hOk gu2, ⟨_, _, rfl⟩, J ++ [.tup [.r a, .d (Dee.sw ws vs).d]], by rw [List.append_assoc]⟩
        show (match sqT (L ++ J ++ [MO.tup [.r a, .d (Dee.sw ws vs).d]]) (.r (L ++ J).length) with | some xs => gNms [5, 6] xs _ | none => none) = _
        have : sqT (L ++ J ++ [MO.tup [.r a, .d (Dee.sw ws vs).d]]) (.r (L ++ J).length) = some [.r a, .d (Dee.sw ws vs).d] := by
          unfold sqT
          simp
        rw [this]; rfl
    · rintro env2 l2 ⟨_, J, rfl⟩
      show (match sqL (L ++ J) (.r q), sqL (L ++ J) (.d (.list (ds.map Dee.d))) with | some xs, some ys => (match xs[ds.length]?, ys[ds.length]? with | some a, some b => nxO (some ()) fun _ => newT [a, b] (L ++ J) | _, _ => some none) | _, _ => none) = _
      rw [sqL_r' (up_at hq)]
      have e2 : ((ds.map Dee.d).map MV.d)[ds.length]? = none := List.getElem?_eq_none (by simp)
      have e1 : (xs ++ [MV.d .none])[ds.length]? = some (.d .none) := by rw [List.getElem?_append_right (by omega), show ds.length - xs.length = 0 by omega]; rfl
      simp only [sqL_d, e1, e2]
  obtain ⟨env2, l2, e, ⟨y5, y6, rfl⟩, _⟩ := key
  refine ⟨y5, y6, l2, ?_⟩
  rw [mFor_e, hit, mK_ok, e]
end
end Bw

namespace Bw
open PySem L2 TL
def WB : MS := (mIfS (mTest (mOp2 gEq (mOp2 ixU (mVar 2) (mC (.int (0 : Int)))) (mC (.str "go")))) (mDrop (mBM kdL gApp (mVar 1) (mCons (mOp2 (gAdd false) (mC (.str "go ")) (mCB (puN strP) (mCons (mOp2 ixU (mVar 2) (mC (.int (1 : Int)))) mNil))) mNil))) (mDrop (mBM kdL gApp (mVar 1) (mCons (mJn (mC (.str " ")) (mOp2 (gAdd false) (mOp2 (gAdd false) (mOp2 (gAdd false) (mLst false (mCons (mC (.str "swap")) mNil)) (mOp2 ixU (mVar 2) (mC (.int (1 : Int))))) (mLst false (mCons (mC (.str "/")) mNil))) (mOp2 ixU (mVar 2) (mC (.int (2 : Int)))))) mNil))))
theorem written_eq : b_u_written = mSeq (mAsg (mLst true mNil) (gNm 1)) (mSeq (mFor (mItSeq (mVar 0)) (gNm 2) WB) (mRet (mJn (mC (.str "; ")) (mVar 1)))) := rfl
section
variable {L l : LH} {ds : List Dee} {d : Dee} {q : Nat}
theorem go_part (n : Int) : ("go " : Str) ++ nt n = (Dee.go n).part := ext_tl (by
  unfold Dee.part Dee.words
  rw [tl_append, tl_join_cons]
  simp
  rfl)
theorem gAdd_s {a b c : Str} {h : Bool} (e : scatM a b = some c) : gAdd h (.d (.str a)) (.d (.str b)) l = some (.d (.str c), l) := by
  unfold gAdd alt2
  simp only [pu2_d, addP, catP, ret_no, e, Option.map_some, ret_s]
theorem gJn_d {t z : Str} {ws : List Str} (h : joinM t ws = some z) : gJn t (.d (.list (ws.map PyData.str))) l = some (.d (.str z), l) := by
  unfold gJn
  simp only [rdA_d, sAll_map, h]; rfl
theorem gJn_r {t z : Str} {ws : List Str} (hq : l[q]? = some (.lst (strV ws))) (h : joinM t ws = some z) : gJn t (.r q) l = some (.d (.str z), l) := by
  unfold gJn
  simp only [rdA_strs hq, sAll_map, h]; rfl
theorem words_len {d : Dee} (h : d.Ok) : d.words.length ≤ 18 ∧ ∀ w ∈ d.words, w.length ≤ 10 := by
  cases d with
  | go n =>
    refine ⟨by simp [Dee.words], fun w hw => ?_⟩
    simp only [Dee.words, List.mem_cons, List.not_mem_nil, or_false] at hw
    rcases hw with rfl | rfl
    · decide
    · exact nt_len h.1 (by have := h.2; omega)
  | sw xs ys =>
    have hx := h.xl
    have hy := h.yl
    refine ⟨by simp [Dee.words]; omega, fun w hw => ?_⟩
    simp only [Dee.words, List.mem_cons, List.mem_append] at hw
    rcases hw with rfl | hw | rfl | hw
    · decide
    · have := (h.x w hw).2.1; rw [len_tl]; omega
    · decide
    · have := (h.y w hw).2.1; rw [len_tl]; omega
theorem wb_ok {x0 : Option MV} {ps : List Str} (h : d.Ok) (hq : l[q]? = some (.lst (strV ps))) (hp : ps.length ≤ 100) : WB [x0, some (.r q), some (.d d.d)] l = some (.nx, [x0, some (.r q), some (.d d.d)], l.set q (.lst (strV (ps ++ [d.part])))) := by
  have ha : gApp (.r q) [.d (.str d.part)] l = some (.d .none, l.set q (.lst (strV (ps ++ [d.part])))) := by
    rw [gApp_r hq (by simp; omega)]; simp
  have hk := sqL_r' hq
  generalize l.set q (.lst (strV (ps ++ [d.part]))) = l2 at ha
  cases d with
  | go n =>
    have f1 : scatM ("go " : Str) (nt n) = some (Dee.go n).part := by
      rw [scat_ok (by have := nt_len h.1 (by have := h.2; omega); have : ("go " : Str).length = 3 := rfl; omega), go_part]
    have f2 := strM_ok h.1 (show n ≤ 1000000000 by have := h.2; omega)
    have f3 := gAdd_s (l := l) (h := false) f1
    have d0 : ixU (.d (Dee.go n).d) (.d (.int 0)) l = some (.d (.str "go"), l) := rfl
    have d1 : ixU (.d (Dee.go n).d) (.d (.int 1)) l = some (.d (.int n), l) := rfl
    generalize (Dee.go n).d = dd at d0 d1
    generalize (Dee.go n).part = pp at f3 ha
    generalize nt n = nn at f2 f3
    unfold WB mBM
    simp [-gApp, d0, d1, f2, f3, ha, hk]
  | sw xs ys =>
    have hx := h.xl
    have hy := h.yl
    obtain ⟨w1, w2⟩ := words_len h
    have f1 := (join_few (x := " ") w2 (Nat.le_trans (Nat.mul_le_mul_left _ w1) (by decide))).1
    have f3 : gJn " " (.d (.list ((Dee.sw xs ys).words.map PyData.str))) l = some (.d (.str (Dee.sw xs ys).part), l) := gJn_d f1
    have d0 : ixU (.d (Dee.sw xs ys).d) (.d (.int 0)) l = some (.d (.str "swap"), l) := rfl
    have d1 : ixU (.d (Dee.sw xs ys).d) (.d (.int 1)) l = some (.d (.list (xs.map PyData.str)), l) := rfl
    have d2 : ixU (.d (Dee.sw xs ys).d) (.d (.int 2)) l = some (.d (.list (ys.map PyData.str)), l) := rfl
    have a1 : gAdd false (.d (.list [.str "swap"])) (.d (.list (xs.map PyData.str))) l = some (.d (.list ((([("swap" : Str)]) ++ xs).map PyData.str)), l) := gAdd_l2 (xs := ["swap"]) (by simp; omega)
    have a2 : gAdd false (.d (.list ((([("swap" : Str)]) ++ xs).map PyData.str))) (.d (.list [.str "/"])) l = some (.d (.list ((([("swap" : Str)]) ++ xs ++ [("/" : Str)]).map PyData.str)), l) := gAdd_l2 (ys := ["/"]) (by simp; omega)
    have a3 : gAdd false (.d (.list ((([("swap" : Str)]) ++ xs ++ [("/" : Str)]).map PyData.str))) (.d (.list (ys.map PyData.str))) l = some (.d (.list ((Dee.sw xs ys).words.map PyData.str)), l) := by
      rw [gAdd_l2 (by simp; omega)]
      simp [Dee.words]
    generalize (Dee.sw xs ys).d = dd at d0 d1 d2
    generalize (Dee.sw xs ys).part = pp at f3 ha
    generalize PyData.list ((Dee.sw xs ys).words.map PyData.str) = W3 at f3 a3
    generalize PyData.list ((([("swap" : Str)]) ++ xs ++ [("/" : Str)]).map PyData.str) = W2 at a2 a3
    generalize PyData.list ((([("swap" : Str)]) ++ xs).map PyData.str) = W1 at a1 a2
    generalize PyData.list (xs.map PyData.str) = X0 at d1 a1
    generalize PyData.list (ys.map PyData.str) = Y0 at d2 a3
    unfold WB mBM mJn
    simp [-gApp, d0, d1, d2, a1, a2, a3, f3, ha, hk, szB]
theorem text_len (h : ∀ d ∈ ds, d.Ok) (hn : ds.length ≤ 63) : joinM "; " (ds.map Dee.part) = some (textOf ds) ∧ (textOf ds).length + 2 ≤ 100000 := by
  have hs : ("; " : Str).length = 2 := rfl
  have := join_few (x := "; ") (xs := ds.map Dee.part) (n := 1000) (fun y hy => by
    obtain ⟨d, hd, rfl⟩ := List.mem_map.mp hy
    exact part_len (h d hd)) (by rw [hs, List.length_map]; omega)
  refine ⟨this.1, ?_⟩
  have h2 := this.2
  rw [hs, List.length_map] at h2
  show (Txt.join "; " (ds.map Dee.part)).length + 2 ≤ 100000
  omega
theorem written_ok (h : ∀ d ∈ ds, d.Ok) (hn : ds.length ≤ 63) : m_u_written [.d (.list (ds.map Dee.d))] l = some (.ok (.d (.str (textOf ds))), l ++ [.lst (strV (ds.map Dee.part))]) := by
  have hj := (text_len h hn).1
  unfold m_u_written
  rw [written_eq, mFn_e, if_pos (by rfl)]
  show mF (mSeq _ _ [some (.d (.list (ds.map Dee.d))), none, none] l) = _
  have e0 : mAsg (mLst true mNil) (gNm 1) [some (.d (.list (ds.map Dee.d))), none, none] l = some (.nx, [some (.d (.list (ds.map Dee.d))), some (.r l.length), none], l ++ [.lst []]) := by
    simp [szB]
  rw [mSeq_e, e0, mQ_nx]
  have hg : ∀ ps : List Str, (l ++ [MO.lst (strV ps)])[l.length]? = some (.lst (strV ps)) := fun ps => by simp
  have hset : ∀ (ps : List Str) (o : MO), (l ++ [MO.lst (strV ps)]).set l.length o = l ++ [o] := fun ps o => by
    rw [List.set_append_right _ _ (Nat.le_refl _)]; simp
  refine seq_for (P := fun m => m = _) (d := .seq (.d (.list (ds.map Dee.d)))) (l := l ++ [.lst []]) ds.length (fun i env l' => l' = l ++ [.lst (strV ((ds.take i).map Dee.part))] ∧ ∃ x, env = [some (.d (.list (ds.map Dee.d))), some (.r l.length), x]) rfl (by rw [cap_seqD, List.length_map]; omega) ⟨by simp, _, rfl⟩ ?_ ?_ ?_
  · rintro i env l' hi ⟨rfl, x, rfl⟩
    have hd := List.getElem?_eq_getElem hi
    refine ⟨.d ds[i].d, _, _, _, _, ?_, rfl, wb_ok (ps := (ds.take i).map Dee.part) (h ds[i] (List.getElem_mem hi)) (hg _) (by rw [List.length_map, List.length_take]; omega), ?_, _, rfl⟩
    · rw [get_seqD, List.getElem?_map, hd]; rfl
    · rw [hset, List.take_succ_eq_append_getElem hi, List.map_append]; rfl
  · rintro env l' ⟨rfl, x, rfl⟩
    rw [get_seqD, List.getElem?_eq_none (by simp)]; rfl
  · rintro env l' ⟨rfl, x, rfl⟩
    rw [List.take_length]
    have hk := gJn_r (l := l ++ [.lst (strV (ds.map Dee.part))]) (hg (ds.map Dee.part)) hj
    generalize l ++ [.lst (strV (ds.map Dee.part))] = l2 at hk
    generalize textOf ds = T at hk
    generalize PyData.list (ds.map Dee.d) = D
    unfold mJn
    simp [hk]
end
end Bw

namespace Bw
open PySem L2 TL
theorem Paired.imp {α β : Type} {R S : α → β → Prop} (f : ∀ a b, R a b → S a b) : ∀ {xs : List α} {ys : List β}, Paired R xs ys → Paired S xs ys
  | _, _, .nil => .nil
  | _, _, .cons h t => .cons (f _ _ h) (Paired.imp f t)
section
variable {L l : LH} {ds : List Dee} {d : Dee} {q : Nat}
theorem gLen_r {xs : List MV} (h : l[q]? = some (.lst xs)) : gLen [.r q] l = some (.d (.int xs.length), l) := by
  unfold gLen altN gLenQ
  simp only [sqL_r' h]
theorem turn_ok {x0 x1 x3 x4 x5 x6 : Option MV} (h : ∀ d ∈ ds, d.Ok) (hn : ds.length ≤ 63) : ∃ y3 y4 y5 y6 l2, TB [x0, x1, some (.d (.list (ds.map Dee.d))), x3, x4, x5, x6] l = some (.nx, [x0, x1, some (.d (.list (ds.map Dee.d))), y3, y4, y5, y6], l2) := by
  have w := written_ok (l := l) h hn
  obtain ⟨_, hT⟩ := text_len h hn
  generalize hP : l ++ [MO.lst (strV (ds.map Dee.part))] = P at w
  have r := read_ok (l := P) h (by omega) hT
  have hq1 := last_at (ds := ds) P ds (.lst (mvs P.length ds)) rfl
  have p1 := is_plan_ok hq1 (good_all ds P [.lst (mvs P.length ds)]) h (by omega)
  obtain ⟨y5, ml⟩ := mod_loop (x0 := x0) (x1 := x1) (x2 := some (.d (.list (ds.map Dee.d)))) (x3 := some (.d (.str (textOf ds)))) (x5 := x5) (x6 := x6) P h
  have hq2 := last_at (ds := ds) P (ds.map Dee.mod) (.lst (mvs P.length ds)) (bl_mods ds)
  have ap := gApp_r (v := .d .none) hq2 (by rw [mvs_len]; omega)
  have hlen : P.length + (blks P.length ds).length = (P ++ blks P.length (ds.map Dee.mod)).length := by rw [List.length_append, blks_len, blks_len, bl_mods]
  have hset : (P ++ (blks P.length (ds.map Dee.mod) ++ [MO.lst (mvs P.length ds)])).set (P.length + (blks P.length ds).length) (.lst (mvs P.length ds ++ [.d .none])) = P ++ (blks P.length (ds.map Dee.mod) ++ [.lst (mvs P.length ds ++ [.d .none])]) := by
    rw [hlen, ← List.append_assoc, List.set_append_right _ _ (Nat.le_refl _), ← List.append_assoc]; simp
  rw [hset] at ap
  have hk1 := sqL_r' hq2
  have hq3 := last_at (ds := ds) P (ds.map Dee.mod) (.lst (mvs P.length ds ++ [.d .none])) (bl_mods ds)
  have g3 := good_all (ds.map Dee.mod) P [.lst (mvs P.length ds ++ [.d .none])]
  rw [mvs_mod] at g3
  generalize hH1 : P ++ (blks P.length ds ++ [MO.lst (mvs P.length ds)]) = H1 at *
  generalize P ++ (blks P.length (ds.map Dee.mod) ++ [MO.lst (mvs P.length ds)]) = H1' at *
  generalize P ++ (blks P.length (ds.map Dee.mod) ++ [MO.lst (mvs P.length ds ++ [.d .none])]) = H2 at *
  have r2 := read_ok (l := H2) h (by omega) hT
  have hq4 := last_at (ds := ds) H2 ds (.lst (mvs H2.length ds)) rfl
  have p2 := is_plan_ok hq4 (good_all ds H2 [.lst (mvs H2.length ds)]) h (by omega)
  have hq5 := up_at (J := blks H2.length ds ++ [.lst (mvs H2.length ds)]) hq3
  have g5 := Bw.Paired.imp (fun a b h => Good.up (J := blks H2.length ds ++ [.lst (mvs H2.length ds)]) h) g3
  have ll := gLen_r hq5
  generalize H2 ++ (blks H2.length ds ++ [MO.lst (mvs H2.length ds)]) = H3 at *
  generalize hqq : P.length + (blks P.length ds).length = q at *
  generalize H2.length + (blks H2.length ds).length = q2 at *
  obtain ⟨z5, z6, L2, zl⟩ := zip_loop (x0 := x0) (x1 := x1) (x3 := some (.d (.str (textOf ds)))) (x5 := y5) (x6 := x6) h hq5 g5
  have lp : gLen [.d (.list (ds.map Dee.d))] H3 = some (.d (.int ds.length), H3) := by rw [gLen_dl, List.length_map]
  rw [show (mvs P.length ds ++ [MV.d .none]).length = ds.length + 1 by rw [List.length_append, mvs_len]; rfl] at ll
  have hne : gNe (.d (.int ((ds.length + 1 : Nat) : Int))) (.d (.int ((ds.length : Nat) + 1))) H3 = some (.d (.bool false), H3) := by
    rw [gNe_i]; simp
  refine ⟨some (.d (.str (textOf ds))), some (.r q), z5, z6, L2, ?_⟩
  clear g3 g5 hq1 hq2 hq3 hq4 hq5 hset hlen
  generalize PyData.list (ds.map Dee.d) = D at *
  generalize textOf ds = T at *
  have t0 : T018 [x0, x1, some (.d D), x3, x4, x5, x6] l = some (.nx, [x0, x1, some (.d D), some (.d (.str T)), x4, x5, x6], P) := by
    unfold T018
    simp [w]
  have t1 : T118 [x0, x1, some (.d D), some (.d (.str T)), x4, x5, x6] P = some (.nx, [x0, x1, some (.d D), some (.d (.str T)), some (.r q), x5, x6], H1) := by
    unfold T118
    simp [r]
  have t2 : T218 [x0, x1, some (.d D), some (.d (.str T)), some (.r q), x5, x6] H1 = some (.nx, [x0, x1, some (.d D), some (.d (.str T)), some (.r q), x5, x6], H1) := by
    unfold T218
    simp [p1]
  have t4 : T418 [x0, x1, some (.d D), some (.d (.str T)), some (.r q), y5, x6] H1' = some (.nx, [x0, x1, some (.d D), some (.d (.str T)), some (.r q), y5, x6], H2) := by
    unfold T418 mBM
    simp [-gApp, ap, hk1]
  have t5 : T518 [x0, x1, some (.d D), some (.d (.str T)), some (.r q), y5, x6] H2 = some (.nx, [x0, x1, some (.d D), some (.d (.str T)), some (.r q), y5, x6], H3) := by
    unfold T518
    simp [-gLen_dl, r2, p2, ll, lp]
  unfold TB
  rw [mSeq_e, t0, mQ_nx, mSeq_e, t1, mQ_nx, mSeq_e, t2, mQ_nx, mSeq_e, ml, mQ_nx, mSeq_e, t4, mQ_nx, mSeq_e, t5, mQ_nx, zl]
end
end Bw

namespace Bw
open PySem L2 TL
def Q018 : MS := (mAsg (mCT dec_draws (eL eI) f_draws (mCons (mVar 0) (mCons (mVar 1) (mCons (mLst false (mCons (mC (.int (3 : Int))) (mCons (mC (.int (16 : Int))) (mCons (mC (.int (5 : Int))) (mCons (mC (.int (5 : Int))) (mCons (mC (.int (1000003 : Int))) (mCons (mC (.int (4 : Int))) mNil))))))) mNil)))) (gNm 2))
def Q118 : MS := (mAsg (mC (.str "abcdefghijklmnopqrstuvwxyz")) (gNm 3))
def Q218 : MS := (mAsg (mLst false (mCons (mC (.str "go")) (mCons (mC (.str "swap")) (mCons (mC (.str "a")) (mCons (mC (.str "rooms")) (mCons (mC (.str "zzzzzzzz")) (mCons (mC (.str "b")) mNil))))))) (gNm 4))
def Q318 : MS := (mAsg (mLst true mNil) (gNm 5))
def R018 : MS := (mAsg (mOp2 (gAdd false) (mOp2 (gFdiv) (mOp2 ixU (mVar 2) (mC (.int (4 : Int)))) (mOp2 ixU (mLst false (mCons (mC (.int (1 : Int))) (mCons (mC (.int (7 : Int))) (mCons (mC (.int (49 : Int))) (mCons (mC (.int (343 : Int))) (mCons (mC (.int (2401 : Int))) (mCons (mC (.int (11 : Int))) (mCons (mC (.int (121 : Int))) (mCons (mC (.int (1331 : Int))) mNil))))))))) (mOp2 (gMod) (mVar 6) (mC (.int (8 : Int)))))) (mVar 6)) (gNm 7))
def R118 : MS := (mAsg (mOp2 (gMul false) (mOp2 ixU (mVar 3) (mOp2 (gMod) (mVar 7) (mC (.int (26 : Int))))) (mOp2 (gAdd false) (mC (.int (1 : Int))) (mOp2 (gMod) (mOp2 (gFdiv) (mVar 7) (mC (.int (26 : Int)))) (mC (.int (8 : Int)))))) (gNm 8))
def R218 : MS := (mDrop (mBM kdL gApp (mVar 5) (mCons (mOp2 ixU (mLst false (mCons (mVar 8) (mCons (mOp2 ixU (mVar 4) (mOp2 (gMod) (mVar 7) (mC (.int (6 : Int))))) mNil))) (mCB (puN intP) (mCons (mOp2 gEq (mOp2 ixU (mVar 2) (mC (.int (5 : Int)))) (mC (.int (1 : Int)))) mNil))) mNil)))
def Q518 : MS := (mIfS (mTest (mOp2 gEq (mOp2 ixU (mVar 2) (mC (.int (0 : Int)))) (mC (.int (0 : Int))))) (mRet (mTup (mCons (mC (.str "go")) (mCons (mOp2 ixU (mVar 2) (mC (.int (1 : Int)))) mNil)))) mSkip)
def Q618 : MS := (mRet (mTup (mCons (mC (.str "swap")) (mCons (mSl false (mVar 5) mNoPart (mPart (mOp2 ixU (mVar 2) (mC (.int (2 : Int)))))) (mCons (mSl false (mVar 5) (mPart (mOp2 ixU (mVar 2) (mC (.int (2 : Int))))) mNoPart) mNil)))))
def RN18 : MI := (mRng1 (mOp2 (gAdd false) (mOp2 ixU (mVar 2) (mC (.int (2 : Int)))) (mOp2 ixU (mVar 2) (mC (.int (3 : Int))))))
theorem deed_eq : b_u_deed_of = mSeq Q018 (mSeq Q118 (mSeq Q218 (mSeq Q318 (mSeq (mFor RN18 (gNm 6) (mSeq R018 (mSeq R118 R218))) (mSeq Q518 Q618))))) := rfl
def PB18 : MS := (mDrop (mBM kdL gApp (mVar 1) (mCons (mCall m_u_deed_of (mCons (mCB_ dec_cell eI f_cell (mCons (mVar 0) (mCons (mVar 2) mNil))) (mCons (mVar 2) mNil))) mNil)))
def PZ18 : MS := (mRet (mSl false (mVar 1) mNoPart (mPart (mOp2 ixU (mCT dec_draws (eL eI) f_draws (mCons (mCB_ dec_cell eI f_cell (mCons (mVar 0) (mCons (mC (.int (0 : Int))) mNil))) (mCons (mC (.int (0 : Int))) (mCons (mLst false (mCons (mC (.int (64 : Int))) mNil)) mNil)))) (mC (.int (0 : Int)))))))
def PR18 : MI := (mRng2 (mC (.int (1 : Int))) (mCB (puN max2P) (mCons (mC (.int (6 : Int))) (mCons (mCB (puN min2P) (mCons (mCB gLen (mCons (mVar 0) mNil)) (mCons (mC (.int (63 : Int))) mNil))) mNil))))
theorem plan_eq : b_u_plan = mSeq (mAsg (mLst true mNil) (gNm 1)) (mSeq (mFor PR18 (gNm 2) PB18) PZ18) := rfl
section
variable {l : LH} {q : Nat}
abbrev wds6 : PyData := .list [.str "go", .str "swap", .str "a", .str "rooms", .str "zzzzzzzz", .str "b"]
theorem word_at {i : Int} (h0 : 0 ≤ i) (h1 : i < 6) : ∃ w, NmOk w ∧ ∀ l, ixU (.d wds6) (.d (.int i)) l = some (.d (.str w), l) := by
  have key : ∀ w ∈ [("go" : Str), "swap", "a", "rooms", "zzzzzzzz", "b"], 1 ≤ (tl w).length ∧ (tl w).length ≤ 8 ∧ ∀ c ∈ tl w, 97 ≤ c ∧ c ≤ 122 := by decide +kernel
  rcases (show i = 0 ∨ i = 1 ∨ i = 2 ∨ i = 3 ∨ i = 4 ∨ i = 5 by omega) with rfl | rfl | rfl | rfl | rfl | rfl
  · exact ⟨"go", key _ (by simp), fun l => rfl⟩
  · exact ⟨"swap", key _ (by simp), fun l => rfl⟩
  · exact ⟨"a", key _ (by simp), fun l => rfl⟩
  · exact ⟨"rooms", key _ (by simp), fun l => rfl⟩
  · exact ⟨"zzzzzzzz", key _ (by simp), fun l => rfl⟩
  · exact ⟨"b", key _ (by simp), fun l => rfl⟩
theorem pow_at {i : Int} (h0 : 0 ≤ i) (h1 : i < 8) : ∃ p : Int, 1 ≤ p ∧ p ≤ 2401 ∧ ∀ l, ixU (.d (.list [.int 1, .int 7, .int 49, .int 343, .int 2401, .int 11, .int 121, .int 1331])) (.d (.int i)) l = some (.d (.int p), l) := by
  rcases (show i = 0 ∨ i = 1 ∨ i = 2 ∨ i = 3 ∨ i = 4 ∨ i = 5 ∨ i = 6 ∨ i = 7 by omega) with rfl | rfl | rfl | rfl | rfl | rfl | rfl | rfl
  · exact ⟨1, by decide, by decide, fun l => rfl⟩
  · exact ⟨7, by decide, by decide, fun l => rfl⟩
  · exact ⟨49, by decide, by decide, fun l => rfl⟩
  · exact ⟨343, by decide, by decide, fun l => rfl⟩
  · exact ⟨2401, by decide, by decide, fun l => rfl⟩
  · exact ⟨11, by decide, by decide, fun l => rfl⟩
  · exact ⟨121, by decide, by decide, fun l => rfl⟩
  · exact ⟨1331, by decide, by decide, fun l => rfl⟩
theorem gMul_s {h : Bool} {a c : Str} {n : Int} (e : srepM a n = some c) : gMul h (.d (.str a)) (.d (.int n)) l = some (.d (.str c), l) := by
  unfold gMul alt2
  have e1 : pu2 mulP (.d (.str a)) (.d (.int n)) l = none := rfl
  have e2 : pu2 srepP (.d (.str a)) (.d (.int n)) l = some (.d (.str c), l) := by
    rw [pu2_d]
    show ret ((srepM a n).map PyData.str) l = _
    rw [e]; rfl
  rw [e1, e2]
theorem draws6 (n k : Int) : ∃ r0 r1 r2 r3 r4 r5 : Int, f_draws (n, k, [3, 16, 5, 5, 1000003, 4]) = some [r0, r1, r2, r3, r4, r5] ∧ (0 ≤ r0 ∧ r0 < 3) ∧ (0 ≤ r1 ∧ r1 < 16) ∧ (0 ≤ r2 ∧ r2 < 5) ∧ (0 ≤ r3 ∧ r3 < 5) ∧ (0 ≤ r4 ∧ r4 < 1000003) ∧ (0 ≤ r5 ∧ r5 < 4) := by
  obtain ⟨r, er, hb⟩ := draws_ok n k [3, 16, 5, 5, 1000003, 4] (by intro s hs; simp at hs; omega) (by decide)
  cases hb with
  | cons a0 a1 hb => cases hb with
  | cons b0 b1 hb => cases hb with
  | cons c0 c1 hb => cases hb with
  | cons d0 d1 hb => cases hb with
  | cons e0 e1 hb => cases hb with
  | cons f0 f1 hb => cases hb with
  | nil => exact ⟨_, _, _, _, _, _, er, ⟨a0, a1⟩, ⟨b0, b1⟩, ⟨c0, c1⟩, ⟨d0, d1⟩, ⟨e0, e1⟩, ⟨f0, f1⟩⟩
abbrev rowD (r0 r1 r2 r3 r4 r5 : Int) : PyData := .list [.int r0, .int r1, .int r2, .int r3, .int r4, .int r5]
theorem name_turn {x0 x1 x7 x8 : Option MV} {r0 r1 r2 r3 r4 r5 j : Int} {ns : List Str} (h4 : 0 ≤ r4 ∧ r4 < 1000003) (hj : 0 ≤ j ∧ j < 8) (hq : l[q]? = some (.lst (strV ns))) (hl : ns.length ≤ 100) :
    ∃ w y7 y8, NmOk w ∧ mSeq R018 (mSeq R118 R218) [x0, x1, some (.d (rowD r0 r1 r2 r3 r4 r5)), some (.d (.str abc)), some (.d wds6), some (.r q), some (.d (.int j)), x7, x8] l = some (.nx, [x0, x1, some (.d (rowD r0 r1 r2 r3 r4 r5)), some (.d (.str abc)), some (.d wds6), some (.r q), some (.d (.int j)), y7, y8], l.set q (.lst (strV (ns ++ [w])))) := by
  have m0 := Int.emod_nonneg j (show (8 : Int) ≠ 0 by decide)
  have m1 := Int.emod_lt_of_pos j (show (0 : Int) < 8 by decide)
  obtain ⟨p, p0, p1, fp⟩ := pow_at m0 m1
  have e1 : modM j 8 = some (j % 8) := modM_ok (by decide)
  have e2 : fdivM r4 p = some (r4 / p) := fdivM_ok (by omega) (by omega)
  have d0 : 0 ≤ r4 / p := Int.ediv_nonneg h4.1 (by omega)
  have g4 : ixU (.d (rowD r0 r1 r2 r3 r4 r5)) (.d (.int 4)) l = some (.d (.int r4), l) := rfl
  have g5 : ixU (.d (rowD r0 r1 r2 r3 r4 r5)) (.d (.int 5)) l = some (.d (.int r5), l) := rfl
  generalize hn : r4 / p + j = num
  have n0 : 0 ≤ num := by omega
  have a0 := Int.emod_nonneg num (show (26 : Int) ≠ 0 by decide)
  have a1 := Int.emod_lt_of_pos num (show (0 : Int) < 26 by decide)
  have e3 : modM num 26 = some (num % 26) := modM_ok (by decide)
  have e4 : fdivM num 26 = some (num / 26) := fdivM_ok (by decide) (by decide)
  have b0 := Int.emod_nonneg (num / 26) (show (8 : Int) ≠ 0 by decide)
  have b1 := Int.emod_lt_of_pos (num / 26) (show (0 : Int) < 8 by decide)
  have e5 : modM (num / 26) 8 = some (num / 26 % 8) := modM_ok (by decide)
  have c0 := Int.emod_nonneg num (show (6 : Int) ≠ 0 by decide)
  have c1 := Int.emod_lt_of_pos num (show (0 : Int) < 6 by decide)
  have e6 : modM num 6 = some (num % 6) := modM_ok (by decide)
  obtain ⟨w, hw, fw⟩ := word_at c0 c1
  have fa := ixU_s (l := l) (abc_at (num % 26) a0 a1)
  have sr : srepM ⟨#[97 + (num % 26).toNat]⟩ (1 + num / 26 % 8) = some ⟨(List.replicate (1 + num / 26 % 8).toNat (97 + (num % 26).toNat)).toArray⟩ := srepM_ok _ _ rfl _ (by omega) (by omega)
  have fm := gMul_s (l := l) (h := false) sr
  have hnm : NmOk ⟨(List.replicate (1 + num / 26 % 8).toNat (97 + (num % 26).toNat)).toArray⟩ := by
    refine ⟨?_, ?_, fun c hc => ?_⟩
    · show 1 ≤ (List.replicate _ _).length; rw [List.length_replicate]; omega
    · show (List.replicate _ _).length ≤ 8; rw [List.length_replicate]; omega
    · have : c = 97 + (num % 26).toNat := List.eq_of_mem_replicate hc
      omega
  generalize (⟨(List.replicate (1 + num / 26 % 8).toNat (97 + (num % 26).toNat)).toArray⟩ : Str) = nm at fm hnm
  generalize (⟨#[97 + (num % 26).toNat]⟩ : Str) = ch at fa fm
  have hap : ∀ z : Str, gApp (.r q) [.d (.str z)] l = some (.d .none, l.set q (.lst (strV (ns ++ [z])))) := fun z => by rw [gApp_r hq (by simp; omega)]; simp
  have hk := sqL_r' hq
  have fb : ∃ z : Str, NmOk z ∧ ixU (.d (.list [.str nm, .str w])) (.d (.int (b2I (decide (r5 = 1))))) l = some (.d (.str z), l) := by
    by_cases h : r5 = 1
    · exact ⟨w, hw, by rw [decide_eq_true h]; rfl⟩
    · exact ⟨nm, hnm, by rw [decide_eq_false h]; rfl⟩
  obtain ⟨z, hz, fb⟩ := fb
  have hap1 := hap z
  clear hap
  generalize hL2 : l.set q (.lst (strV (ns ++ [z]))) = l2 at hap1
  refine ⟨z, some (.d (.int num)), some (.d (.str nm)), hz, ?_⟩
  generalize rowD r0 r1 r2 r3 r4 r5 = row at g4 g5 ⊢
  have fw1 := fw l
  have fp1 := fp l
  clear fw fp sr
  generalize wds6 = W at fw1 ⊢
  generalize num % 26 = k1 at e3 fa
  generalize num / 26 % 8 = k2 at e5 fm
  generalize num / 26 = k3 at e4 e5
  generalize num % 6 = k4 at e6 fw1
  generalize j % 8 = k5 at e1 fp1
  generalize r4 / p = k6 at e2 hn
  subst hn
  have s0 : R018 [x0, x1, some (.d row), some (.d (.str abc)), some (.d W), some (.r q), some (.d (.int j)), x7, x8] l = some (.nx, [x0, x1, some (.d row), some (.d (.str abc)), some (.d W), some (.r q), some (.d (.int j)), some (.d (.int (k6 + j))), x8], l) := by
    unfold R018
    simp [-ixU_dl, g4, e1, fp1, e2, szB]
  have s1 : R118 [x0, x1, some (.d row), some (.d (.str abc)), some (.d W), some (.r q), some (.d (.int j)), some (.d (.int (k6 + j))), x8] l = some (.nx, [x0, x1, some (.d row), some (.d (.str abc)), some (.d W), some (.r q), some (.d (.int j)), some (.d (.int (k6 + j))), some (.d (.str nm))], l) := by
    unfold R118
    simp [-ixU_dl, e3, fa, e4, e5, fm]
  have s2 : R218 [x0, x1, some (.d row), some (.d (.str abc)), some (.d W), some (.r q), some (.d (.int j)), some (.d (.int (k6 + j))), some (.d (.str nm))] l = some (.nx, [x0, x1, some (.d row), some (.d (.str abc)), some (.d W), some (.r q), some (.d (.int j)), some (.d (.int (k6 + j))), some (.d (.str nm))], l2) := by
    unfold R218 mBM
    simp [-ixU_dl, -gApp, e6, fw1, g5, fb, hap1, hk, szB]
  rw [mSeq_e, s0, mQ_nx, mSeq_e, s1, mQ_nx, s2, hL2]
theorem cutF {α : Type} (xs : List α) (m : Nat) : cutL xs none (some (m : Int)) = xs.take m := by
  unfold cutL
  rw [HT.sIx_nat, HT.sIx_none]
  simp [List.take_eq_take_iff]
theorem cutB {α : Type} (xs : List α) (m : Nat) : cutL xs (some (m : Int)) none = xs.drop m := by
  unfold cutL
  rw [HT.sIx_nat, HT.sIx_none, List.take_of_length_le (by rw [List.length_drop]; omega)]
  by_cases c : m ≤ xs.length
  · rw [Nat.min_eq_left c]
  · rw [Nat.min_eq_right (by omega), List.drop_eq_nil_of_le (Nat.le_refl _), List.drop_eq_nil_of_le (by omega)]
theorem gSl_rF {ws vs : List Str} {lo hi : Option Int} (hq : l[q]? = some (.lst (strV ws))) (h : cutL ws lo hi = vs) (hl : vs.length ≤ 1000) : gSlL false (.r q) lo hi l = some (.d (.list (vs.map PyData.str)), l) := by
  unfold gSlL
  simp only [sqL_r' hq]
  rw [strV_d, cutL_map, cutL_map, h, newLf, oAll_vD, if_pos (szB_of' (by simp; omega))]
  rfl
theorem deed_of_ok (n k : Int) : ∃ d J, Dee.Ok d ∧ m_u_deed_of [.d (.int n), .d (.int k)] l = some (.ok (.d d.d), l ++ J) := by
  obtain ⟨r0, r1, r2, r3, r4, r5, er, h0, h1, h2, h3, h4, h5⟩ := draws6 n k
  unfold m_u_deed_of
  rw [deed_eq, mFn_e, if_pos (by rfl)]
  show ∃ d J, Dee.Ok d ∧ mF (mSeq _ _ [some (.d (.int n)), some (.d (.int k)), none, none, none, none, none, none, none] l) = _
  have e0 : Q018 [some (.d (.int n)), some (.d (.int k)), none, none, none, none, none, none, none] l = some (.nx, [some (.d (.int n)), some (.d (.int k)), some (.d (rowD r0 r1 r2 r3 r4 r5)), none, none, none, none, none, none], l) := by
    have hd : dec_draws [.int n, .int k, .list [.int 3, .int 16, .int 5, .int 5, .int 1000003, .int 4]] = some (n, k, [3, 16, 5, 5, 1000003, 4]) := rfl
    have e : mCT dec_draws (eL eI) f_draws (mCons (mVar 0) (mCons (mVar 1) (mCons (mLst false (mCons (mC (.int (3 : Int))) (mCons (mC (.int (16 : Int))) (mCons (mC (.int (5 : Int))) (mCons (mC (.int (5 : Int))) (mCons (mC (.int (1000003 : Int))) (mCons (mC (.int (4 : Int))) mNil))))))) mNil))) [some (.d (.int n)), some (.d (.int k)), none, none, none, none, none, none, none] l = some (.ok (.d (rowD r0 r1 r2 r3 r4 r5)), l) := by
      unfold mCT
      simp [szB, hd, er]
    unfold Q018
    rw [mAsg_e, e]; rfl
  have e1 : ∀ row, Q118 [some (.d (.int n)), some (.d (.int k)), some (.d row), none, none, none, none, none, none] l = some (.nx, [some (.d (.int n)), some (.d (.int k)), some (.d row), some (.d (.str abc)), none, none, none, none, none], l) := fun row => rfl
  have e2 : ∀ row, Q218 [some (.d (.int n)), some (.d (.int k)), some (.d row), some (.d (.str abc)), none, none, none, none, none] l = some (.nx, [some (.d (.int n)), some (.d (.int k)), some (.d row), some (.d (.str abc)), some (.d wds6), none, none, none, none], l) := fun row => by unfold Q218; simp [szB]
  have e3 : ∀ row, Q318 [some (.d (.int n)), some (.d (.int k)), some (.d row), some (.d (.str abc)), some (.d wds6), none, none, none, none] l = some (.nx, [some (.d (.int n)), some (.d (.int k)), some (.d row), some (.d (.str abc)), some (.d wds6), some (.r l.length), none, none, none], l ++ [.lst []]) := fun row => by unfold Q318; simp [szB]
  rw [mSeq_e, e0, mQ_nx, mSeq_e, e1, mQ_nx, mSeq_e, e2, mQ_nx, mSeq_e, e3, mQ_nx]
  have hg : ∀ ps : List Str, (l ++ [MO.lst (strV ps)])[l.length]? = some (.lst (strV ps)) := fun ps => by simp
  have hset : ∀ (ps : List Str) (o : MO), (l ++ [MO.lst (strV ps)]).set l.length o = l ++ [o] := fun ps o => by
    rw [List.set_append_right _ _ (Nat.le_refl _)]; simp
  have hit : RN18 [some (.d (.int n)), some (.d (.int k)), some (.d (rowD r0 r1 r2 r3 r4 r5)), some (.d (.str abc)), some (.d wds6), some (.r l.length), none, none, none] (l ++ [.lst []]) = some (.ok (.rng 0 (r2 + r3).toNat), l ++ [.lst []]) := mRng1_r (j := r2 + r3) rfl (by omega)
  refine seq_for (P := fun m => ∃ d J, Dee.Ok d ∧ m = some (.ok (.d d.d), l ++ J)) (d := .rng 0 (r2 + r3).toNat) (l := l ++ [.lst []]) (r2 + r3).toNat (fun i env l' => ∃ ns : List Str, (∀ w ∈ ns, NmOk w) ∧ ns.length = i ∧ l' = l ++ [.lst (strV ns)] ∧ ∃ y6 y7 y8, env = [some (.d (.int n)), some (.d (.int k)), some (.d (rowD r0 r1 r2 r3 r4 r5)), some (.d (.str abc)), some (.d wds6), some (.r l.length), y6, y7, y8]) hit (Nat.lt_succ_self _) ⟨[], by simp, rfl, rfl, _, _, _, rfl⟩ ?_ ?_ ?_
  · rintro i env l' hi ⟨ns, hn, rfl, rfl, y6, y7, y8, rfl⟩
    obtain ⟨w, z7, z8, hw, e⟩ := name_turn (x0 := some (.d (.int n))) (x1 := some (.d (.int k))) (x7 := y7) (x8 := y8) (r0 := r0) (r1 := r1) (r2 := r2) (r3 := r3) (r5 := r5) (j := 0 + (ns.length : Nat)) h4 (by omega) (hg ns) (by omega)
    rw [hset] at e
    refine ⟨_, _, _, _, _, by rw [get_rng, if_pos hi], rfl, e, ns ++ [w], fun v hv => ?_, by simp, rfl, _, _, _, rfl⟩
    rcases List.mem_append.mp hv with hv | hv
    · exact hn v hv
    · rw [List.mem_singleton.mp hv]; exact hw
  · rintro env l' ⟨ns, hn, _, rfl, y6, y7, y8, rfl⟩
    rw [get_rng, if_neg (Nat.lt_irrefl _)]
  · rintro env l' ⟨ns, hn, hlen, rfl, y6, y7, y8, rfl⟩
    have g0 : ∀ l, ixU (.d (rowD r0 r1 r2 r3 r4 r5)) (.d (.int 0)) l = some (.d (.int r0), l) := fun _ => rfl
    have g1 : ∀ l, ixU (.d (rowD r0 r1 r2 r3 r4 r5)) (.d (.int 1)) l = some (.d (.int r1), l) := fun _ => rfl
    have g2 : ∀ l, ixU (.d (rowD r0 r1 r2 r3 r4 r5)) (.d (.int 2)) l = some (.d (.int r2), l) := fun _ => rfl
    have hl : ns.length ≤ 8 := by omega
    obtain ⟨m, rfl⟩ : ∃ m : Nat, r2 = (m : Int) := ⟨r2.toNat, by omega⟩
    have s1 := gSl_rF (l := l ++ [.lst (strV ns)]) (hg ns) (cutF ns m) (by rw [List.length_take]; omega)
    have s2 := gSl_rF (l := l ++ [.lst (strV ns)]) (hg ns) (cutB ns m) (by rw [List.length_drop]; omega)
    by_cases hz : r0 = 0
    · refine ⟨.go r1, [.lst (strV ns)], h1, ?_⟩
      generalize l ++ [MO.lst (strV ns)] = l2
      generalize rowD r0 r1 m r3 r4 r5 = row at g0 g1 g2
      have e5 : Q518 [some (.d (.int n)), some (.d (.int k)), some (.d row), some (.d (.str abc)), some (.d wds6), some (.r l.length), y6, y7, y8] l2 = some (.rt (.d (Dee.go r1).d), [some (.d (.int n)), some (.d (.int k)), some (.d row), some (.d (.str abc)), some (.d wds6), some (.r l.length), y6, y7, y8], l2) := by
        unfold Q518
        simp [-ixU_dl, g0, g1, hz, Dee.d]
      rw [mSeq_e, e5]; rfl
    · have hsw : SwN (ns.take m) (ns.drop m) := ⟨fun w hw => hn w (List.mem_of_mem_take hw), fun w hw => hn w (List.mem_of_mem_drop hw), by rw [List.length_take]; omega, by rw [List.length_drop]; omega⟩
      refine ⟨.sw (ns.take m) (ns.drop m), [.lst (strV ns)], hsw, ?_⟩
      generalize l ++ [MO.lst (strV ns)] = l2 at s1 s2 ⊢
      generalize rowD r0 r1 m r3 r4 r5 = row at g0 g1 g2 ⊢
      have hn : newT [.d (.str "swap"), .d (.list ((ns.take m).map PyData.str)), .d (.list ((ns.drop m).map PyData.str))] l2 = some (.d (Dee.sw (ns.take m) (ns.drop m)).d, l2) := rfl
      generalize (Dee.sw (ns.take m) (ns.drop m)).d = dd at hn ⊢
      generalize PyData.list ((ns.take m).map PyData.str) = X0 at s1 hn
      generalize PyData.list ((ns.drop m).map PyData.str) = Y0 at s2 hn
      have e5 : Q518 [some (.d (.int n)), some (.d (.int k)), some (.d row), some (.d (.str abc)), some (.d wds6), some (.r l.length), y6, y7, y8] l2 = some (.nx, [some (.d (.int n)), some (.d (.int k)), some (.d row), some (.d (.str abc)), some (.d wds6), some (.r l.length), y6, y7, y8], l2) := by
        unfold Q518
        simp [-ixU_dl, g0, hz]
      have e6 : Q618 [some (.d (.int n)), some (.d (.int k)), some (.d row), some (.d (.str abc)), some (.d wds6), some (.r l.length), y6, y7, y8] l2 = some (.rt (.d dd), [some (.d (.int n)), some (.d (.int k)), some (.d row), some (.d (.str abc)), some (.d wds6), some (.r l.length), y6, y7, y8], l2) := by
        unfold Q618 mSl mPart mNoPart
        simp [-ixU_dl, g2, s1, s2, hn]
      rw [mSeq_e, e5, mQ_nx, e6]; rfl
end
end Bw

namespace Bw
open PySem L2 TL
section
variable {l : LH} {q : Nat} {ds : List Dee}
abbrev dvs (ds : List Dee) : List MV := (ds.map Dee.d).map MV.d
theorem asL_e {α : Type} {e : α → PyData} {c : PyData → Option α} (h : ∀ x, c (e x) = some x) (xs : List α) : asL c (eL e xs) = some xs := by
  show asAll c (xs.map e) = some xs
  induction xs with
  | nil => rfl
  | cons x xs ih => rw [List.map_cons, asAll, h x, ih]; rfl
theorem decCell (ns : List Int) (k : Int) : dec_cell [.list (ns.map .int), .int k] = some (ns, k) := by
  unfold dec_cell
  show ((asL asI (eL eI ns)).bind fun x0 => (asI (.int k)).bind fun x1 => some (x0, x1)) = _
  rw [asL_e (e := eI) (c := asI) (fun _ => rfl)]
  rfl
theorem set_hd {x y : MO} {J : LH} : (l ++ x :: J).set l.length y = l ++ y :: J := by simp
theorem plan_ok (ns : List Int) (hl : ns.length ≤ 63) : ∃ (ds : List Dee) (l' : LH), (∀ d ∈ ds, Dee.Ok d) ∧ ds.length ≤ 63 ∧ m_u_plan [.d (.list (ns.map .int))] l = some (.ok (.d (.list (ds.map Dee.d))), l') := by
  have fc : ∀ (k : Int) (y1 : Option MV) (l : LH), 0 ≤ k → ∃ c, mCB_ dec_cell eI f_cell (mCons (mVar 0) (mCons (mVar 2) mNil)) [some (.d (.list (ns.map .int))), y1, some (.d (.int k))] l = some (.ok (.d (.int c)), l) := fun k y1 l hk => by
    obtain ⟨c, f0⟩ := cell_ok ns k hk
    refine ⟨c, ?_⟩
    unfold mCB_
    simp only [mCons_e, mVar_e, mNil_e, List.getElem?_cons_zero, List.getElem?_cons_succ, mB_ok, oAll_rdc, oAll_nil, Option.map_some]
    rw [decCell]
    simp only [f0]
    rfl
  obtain ⟨c0, f0⟩ := cell_ok ns 0 (by decide)
  have fz : ∀ y1 y2 l, mCB_ dec_cell eI f_cell (mCons (mVar 0) (mCons (mC (.int (0 : Int))) mNil)) [some (.d (.list (ns.map .int))), y1, y2] l = some (.ok (.d (.int c0)), l) := fun y1 y2 l => by
    unfold mCB_
    simp only [mCons_e, mVar_e, mC_e, mNil_e, List.getElem?_cons_zero, mB_ok, oAll_rdc, oAll_nil, Option.map_some]
    rw [decCell]
    simp only [f0]
    rfl
  obtain ⟨m, hm0, hm1, fd⟩ : ∃ m : Int, 0 ≤ m ∧ m < 64 ∧ f_draws (c0, 0, [64]) = some [m] := by
    obtain ⟨r, er, hb⟩ := draws_ok c0 0 [64] (by intro s hs; simp at hs; omega) (by decide)
    cases hb with
    | cons a0 a1 hb => cases hb with
    | nil => exact ⟨_, a0, a1, er⟩
  obtain ⟨m, rfl⟩ : ∃ k : Nat, m = (k : Int) := ⟨m.toNat, by omega⟩
  have hmx : 0 ≤ maxI 6 (minI (ns.length : Int) 63) ∧ maxI 6 (minI (ns.length : Int) 63) ≤ 63 := by unfold maxI minI; split <;> split <;> omega
  unfold m_u_plan
  rw [plan_eq, mFn_e, if_pos (by rfl)]
  show ∃ (ds : List Dee) (l' : LH), _ ∧ _ ∧ mF (mSeq _ _ [some (.d (.list (ns.map .int))), none, none] l) = _
  have e0 : mAsg (mLst true mNil) (gNm 1) [some (.d (.list (ns.map .int))), none, none] l = some (.nx, [some (.d (.list (ns.map .int))), some (.r l.length), none], l ++ [.lst []]) := by
    simp [-List.map_map, szB]
  rw [mSeq_e, e0, mQ_nx]
  have hit : PR18 [some (.d (.list (ns.map .int))), some (.r l.length), none] (l ++ [.lst []]) = some (.ok (.rng 1 (maxI 6 (minI (ns.length : Int) 63) - 1).toNat), l ++ [.lst []]) := mRng2_r (i := 1) (j := maxI 6 (minI (ns.length : Int) 63)) rfl (by simp) (by decide) (by omega)
  refine seq_for (P := fun mm => ∃ (ds : List Dee) (l' : LH), (∀ d ∈ ds, Dee.Ok d) ∧ ds.length ≤ 63 ∧ mm = some (.ok (.d (.list (ds.map Dee.d))), l')) (d := .rng 1 (maxI 6 (minI (ns.length : Int) 63) - 1).toNat) (l := l ++ [.lst []]) (maxI 6 (minI (ns.length : Int) 63) - 1).toNat (fun i env l' => ∃ (ds : List Dee) (J : LH), (∀ d ∈ ds, Dee.Ok d) ∧ ds.length = i ∧ l' = l ++ .lst (dvs ds) :: J ∧ ∃ y2, env = [some (.d (.list (ns.map .int))), some (.r l.length), y2]) hit (Nat.lt_succ_self _) ⟨[], [], by simp, rfl, rfl, _, rfl⟩ ?_ ?_ ?_
  · rintro i env l' hi ⟨ds, J, hd, rfl, rfl, y2, rfl⟩
    obtain ⟨c, f1⟩ := fc (1 + (ds.length : Nat)) (some (.r l.length)) (l ++ .lst (dvs ds) :: J) (by omega)
    obtain ⟨d, J2, dOk, f2⟩ := deed_of_ok (l := l ++ .lst (dvs ds) :: J) c (1 + (ds.length : Nat))
    have hg : (l ++ .lst (dvs ds) :: J)[l.length]? = some (.lst (dvs ds)) := by simp
    have hg2 : (l ++ .lst (dvs ds) :: J ++ J2)[l.length]? = some (.lst (dvs ds)) := up_at hg
    have hap : gApp (.r l.length) [.d d.d] (l ++ .lst (dvs ds) :: J ++ J2) = some (.d .none, l ++ .lst (dvs (ds ++ [d])) :: (J ++ J2)) := by
      rw [gApp_r hg2 (by simp; omega), List.append_assoc, List.cons_append, set_hd]; simp
    have hk := sqL_r' hg
    refine ⟨_, _, _, [some (.d (.list (ns.map .int))), some (.r l.length), some (.d (.int (1 + (ds.length : Nat))))], l ++ .lst (dvs (ds ++ [d])) :: (J ++ J2), by rw [get_rng, if_pos hi], rfl, ?_, ds ++ [d], J ++ J2, fun x hx => ?_, by simp, rfl, _, rfl⟩
    · show PB18 [some (.d (.list (ns.map .int))), some (.r l.length), some (.d (.int (1 + (ds.length : Nat))))] (l ++ .lst (dvs ds) :: J) = _
      generalize l ++ .lst (dvs ds) :: J ++ J2 = l3 at f2 hap
      generalize l ++ .lst (dvs (ds ++ [d])) :: (J ++ J2) = l4 at hap ⊢
      generalize l ++ .lst (dvs ds) :: J = l2 at f1 f2 hk ⊢
      generalize (1 : Int) + ((ds.length : Nat) : Int) = kk at f1 f2 ⊢
      generalize d.d = dd at f2 hap
      unfold PB18 mBM
      simp [-gApp, -List.map_map, f1, f2, hap, hk]
    · rcases List.mem_append.mp hx with hx | hx
      · exact hd x hx
      · rw [List.mem_singleton.mp hx]; exact dOk
  · rintro env l' ⟨ds, J, _, _, rfl, y2, rfl⟩
    rw [get_rng, if_neg (Nat.lt_irrefl _)]
  · rintro env l' ⟨ds, J, hd, hlen, rfl, y2, rfl⟩
    have hds : ds.length ≤ 63 := by omega
    have hg : (l ++ .lst (dvs ds) :: J)[l.length]? = some (.lst (dvs ds)) := by simp
    have hs : gSlL false (.r l.length) none (some (m : Int)) (l ++ .lst (dvs ds) :: J) = some (.d (.list ((ds.take m).map Dee.d)), l ++ .lst (dvs ds) :: J) := by
      unfold gSlL
      simp only [sqL_r' hg]
      rw [cutL_map, cutL_map, cutF, newLf, oAll_vD, if_pos (szB_of' (by simp; omega))]; rfl
    refine ⟨ds.take m, l ++ .lst (dvs ds) :: J, fun d h => hd d (List.mem_of_mem_take h), by rw [List.length_take]; omega, ?_⟩
    generalize l ++ .lst (dvs ds) :: J = l2 at hs ⊢
    generalize PyData.list ((ds.take m).map Dee.d) = D at hs ⊢
    have hdr : mCT dec_draws (eL eI) f_draws (mCons (mCB_ dec_cell eI f_cell (mCons (mVar 0) (mCons (mC (.int (0 : Int))) mNil))) (mCons (mC (.int (0 : Int))) (mCons (mLst false (mCons (mC (.int (64 : Int))) mNil)) mNil))) [some (.d (.list (ns.map .int))), some (.r l.length), y2] l2 = some (.ok (.d (.list [.int m])), l2) := by
      have hd2 : dec_draws [.int c0, .int 0, .list [.int 64]] = some (c0, 0, [64]) := rfl
      unfold mCT
      simp [-List.map_map, szB, fz, hd2, fd]
    have hix : ixU (.d (.list [.int m])) (.d (.int 0)) l2 = some (.d (.int m), l2) := rfl
    unfold PZ18 mSl mPart mNoPart
    simp [-ixU_dl, -List.map_map, hdr, hix, hs]
end
end Bw

namespace Bw
open PySem L2 TL
section
variable {l : LH} {q : Nat} {ds : List Dee}
def ds14 : List Dee := (List.replicate 700 [Dee.go 1, Dee.go 0]).flatten
theorem ds14_len : ds14.length = 1400 := by
  unfold ds14
  rw [List.length_flatten, List.map_replicate, List.sum_replicate_nat]; rfl
theorem ds14_mem {d : Dee} (h : d ∈ ds14) : d = .go 1 ∨ d = .go 0 := by
  unfold ds14 at h
  obtain ⟨xs, hx, hd⟩ := List.mem_flatten.mp h
  rw [List.eq_of_mem_replicate hx] at hd
  simpa using hd
theorem p1 : (Dee.go 1).part = ("go 1" : Str) := by decide +kernel
theorem p0 : (Dee.go 0).part = ("go 0" : Str) := by decide +kernel
theorem ds14_ok : ∀ d ∈ ds14, Dee.Ok d := fun d h => by
  rcases ds14_mem h with rfl | rfl
  · exact ⟨by decide, by decide⟩
  · exact ⟨by decide, by decide⟩
theorem map14 {α : Type} (f : Dee → α) : ds14.map f = (List.replicate 700 [f (.go 1), f (.go 0)]).flatten := by
  unfold ds14
  rw [List.map_flatten, List.map_replicate]; rfl
theorem gMul_l {a b : PyData} : gMul false (.d (.list [a, b])) (.d (.int 700)) l = some (.d (.list (List.replicate 700 [a, b]).flatten), l) := by
  have e1 : pu2 mulP (.d (.list [a, b])) (.d (.int 700)) l = none := rfl
  have e2 : pu2 srepP (.d (.list [a, b])) (.d (.int 700)) l = none := rfl
  unfold gMul alt2
  rw [e1, e2]
  show gRepL false (.d (.list [a, b])) (.d (.int 700)) l = _
  unfold gRepL
  simp only [sqL_d, vI]
  rw [if_pos (by decide)]
  have e : (List.replicate (700 : Int).toNat ([a, b].map MV.d)).flatten = ((List.replicate 700 [a, b]).flatten).map MV.d := by rw [List.map_flatten, List.map_replicate]; rfl
  have hl : ((List.replicate 700 [a, b]).flatten).length = 1400 := by rw [List.length_flatten, List.map_replicate, List.sum_replicate_nat]; rfl
  rw [e, newLf, oAll_vD, List.length_map, hl, if_pos (by rfl)]
  rfl
theorem text14 : joinM "; " (ds14.map Dee.part) = some (textOf ds14) ∧ (textOf ds14).length + 2 ≤ 100000 := by
  have hs : ("; " : Str).length = 2 := rfl
  have k1 : ("go 1" : Str).length ≤ 4 := by decide
  have k0 : ("go 0" : Str).length ≤ 4 := by decide
  have := join_few (x := "; ") (xs := ds14.map Dee.part) (n := 4) (fun y hy => by
    obtain ⟨d, hd, rfl⟩ := List.mem_map.mp hy
    rcases ds14_mem hd with rfl | rfl
    · rw [p1]; exact k1
    · rw [p0]; exact k0) (by rw [hs, List.length_map, ds14_len]; decide)
  refine ⟨this.1, ?_⟩
  have h2 := this.2
  rw [hs, List.length_map, ds14_len] at h2
  show (Txt.join "; " (ds14.map Dee.part)).length + 2 ≤ 100000
  omega
theorem gEq_rd {x y : MV} {d e : PyData} (hx : rdA l x = some d) (hy : rdA l y = some e) : gEq x y l = gEq (.d d) (.d e) l := by
  unfold gEq alt2 pu2
  rw [hx, hy]
  rfl
def LZk (kk : Int) : MS := mRet (mOp2 gEq (mCall m_u_read_plan (mCons (mJn (mC (.str "; ")) (mOp2 (gMul false) (mLst false (mCons (mC (.str "go 1")) (mCons (mC (.str "go 0")) mNil))) (mC (.int kk)))) mNil)) (mOp2 (gMul false) (mLst false (mCons (mTup (mCons (mC (.str "go")) (mCons (mC (.int (1 : Int))) mNil))) (mCons (mTup (mCons (mC (.str "go")) (mCons (mC (.int (0 : Int))) mNil))) mNil))) (mC (.int kk))))
abbrev LZ : MS := LZk 700
theorem lz_g {env : Env} {T : Str} {PP D : PyData} {q : Nat} {L2 : LH} (m1 : gMul false (.d (.list [.str "go 1", .str "go 0"])) (.d (.int 700)) l = some (.d PP, l)) (m2 : gMul false (.d (.list [.tuple [.str "go", .int 1], .tuple [.str "go", .int 0]])) (.d (.int 700)) L2 = some (.d D, L2))
    (jn : gJn "; " (.d PP) l = some (.d (.str T), l)) (r : m_u_read_plan [.d (.str T)] l = some (.ok (.r q), L2)) (hg : gEq (.r q) (.d D) L2 = some (.d (.bool true), L2)) : LZ env l = some (.rt (.d (.bool true)), env, L2) := by
  have n2 : ∀ (a b : PyData) (l : LH), newT [.d a, .d b] l = some (.d (.tuple [a, b]), l) := fun _ _ _ => rfl
  show LZk 700 env l = _
  generalize (700 : Int) = kk at m1 m2 ⊢
  unfold LZk mJn
  simp [szB, m1, m2, jn, r, hg, n2]
theorem m1_ok : gMul false (.d (.list [.str "go 1", .str "go 0"])) (.d (.int 700)) l = some (.d (.list ((ds14.map Dee.part).map PyData.str)), l) := by
  have e : (ds14.map Dee.part).map PyData.str = (List.replicate 700 [PyData.str "go 1", PyData.str "go 0"]).flatten := by
    rw [List.map_map, map14]
    simp only [Function.comp_apply, p1, p0]
  rw [gMul_l, e]
theorem m2_ok : gMul false (.d (.list [.tuple [.str "go", .int 1], .tuple [.str "go", .int 0]])) (.d (.int 700)) l = some (.d (.list (ds14.map Dee.d)), l) := by
  have e : ds14.map Dee.d = (List.replicate 700 [PyData.tuple [.str "go", .int 1], PyData.tuple [.str "go", .int 0]]).flatten := by
    rw [map14]
    simp only [Dee.d]
  rw [gMul_l, e]
theorem eq14 {x : MV} (rf : rdA l x = some (.list (ds14.map Dee.d))) : gEq x (.d (.list (ds14.map Dee.d))) l = some (.d (.bool true), l) := by
  have hs := shp_plan ds14_ok
  have key : ∀ ws : List PyData, SeqAt.shaped (.list ws) = true → PyData.eqv (.list ws) (.list ws) = true → rdA l x = some (.list ws) → gEq x (.d (.list ws)) l = some (.d (.bool true), l) := fun ws h1 h2 h3 => by
    rw [gEq_rd h3 (rdA_d _ _), gEq_t h1 h1 rfl, h2]
  exact key _ (hs.ok (by decide)) (eqv_lay _ hs.1) rf
theorem rd14 : rdA (l ++ (blks l.length ds14 ++ [.lst (mvs l.length ds14)])) (.r (l.length + (blks l.length ds14).length)) = some (.list (ds14.map Dee.d)) :=
  rd_found (last_at (ds := ds14) l ds14 (.lst (mvs l.length ds14)) rfl) (good_all ds14 l [.lst (mvs l.length ds14)])
theorem read14 : m_u_read_plan [.d (.str (textOf ds14))] l = some (.ok (.r (l.length + (blks l.length ds14).length)), l ++ (blks l.length ds14 ++ [.lst (mvs l.length ds14)])) := read_ok ds14_ok (by rw [ds14_len]; decide) text14.2
theorem lz_ok {env : Env} : ∃ l2, LZ env l = some (.rt (.d (.bool true)), env, l2) := ⟨_, lz_g m1_ok m2_ok (gJn_d text14.1) read14 (eq14 rd14)⟩
theorem its_ok (ds : List Dee) (hn : ds.length ≤ 63) {x0 y2 y3 y4 y5 y6 : Option MV} : mItSeq (mLst false (mCons (mVar 1) (mCons (mSl false (mVar 1) mNoPart (mPart (mOp2 (gFdiv) (mCB gLen (mCons (mVar 1) mNil)) (mC (.int (3 : Int)))))) (mCons (mSl false (mVar 1) mNoPart (mPart (mOp2 (gFdiv) (mCB gLen (mCons (mVar 1) mNil)) (mC (.int (2 : Int)))))) (mCons (mLst false mNil) mNil))))) [x0, some (.d (.list (ds.map Dee.d))), y2, y3, y4, y5, y6] l = some (.ok (.seq (.d (.list ([ds, ds.take (ds.length / 3), ds.take (ds.length / 2), []].map fun e => PyData.list (e.map Dee.d))))), l) := by
  have lp : gLen [.d (.list (ds.map Dee.d))] l = some (.d (.int (ds.length : Nat)), l) := by rw [gLen_dl, List.length_map]
  have f3 : fdivM ((ds.length : Nat) : Int) 3 = some ((ds.length / 3 : Nat) : Int) := by rw [fdivM_ok (by decide) (by decide)]; rfl
  have f2 : fdivM ((ds.length : Nat) : Int) 2 = some ((ds.length / 2 : Nat) : Int) := by rw [fdivM_ok (by decide) (by decide)]; rfl
  have sl : ∀ m : Nat, gSlL false (.d (.list (ds.map Dee.d))) none (some (m : Int)) l = some (.d (.list ((ds.take m).map Dee.d)), l) := fun m => by
    unfold gSlL
    simp only [sqL_d]
    rw [cutL_map, cutL_map, cutF, newLf, oAll_vD, if_pos (szB_of' (by simp; omega))]; rfl
  have s3 := sl (ds.length / 3)
  have s2 := sl (ds.length / 2)
  show _ = some (Rs.ok (ItD.seq (MV.d (.list [.list (ds.map Dee.d), .list ((ds.take (ds.length / 3)).map Dee.d), .list ((ds.take (ds.length / 2)).map Dee.d), .list []]))), l)
  generalize PyData.list ((ds.take (ds.length / 3)).map Dee.d) = A at s3 ⊢
  generalize PyData.list ((ds.take (ds.length / 2)).map Dee.d) = B at s2 ⊢
  generalize PyData.list (ds.map Dee.d) = D at lp s2 s3 ⊢
  generalize ((ds.length / 3 : Nat) : Int) = k3 at f3 s3
  generalize ((ds.length / 2 : Nat) : Int) = k2 at f2 s2
  generalize ((ds.length : Nat) : Int) = k at lp f3 f2
  unfold mSl mPart mNoPart
  simp [-gLen_dl, szB, lp, f3, f2, s3, s2]
  rfl
end
theorem law_true (ns : List Int) (hl : ns.length ≤ 63) : ∃ lh, m_u_law [.d (.list (ns.map .int))] [] = some (.ok (.d (.bool true)), lh) := by
  obtain ⟨ds, l1, hOk, hn, fp⟩ := plan_ok (l := []) ns hl
  have hit := its_ok (l := l1) ds hn (x0 := some (.d (.list (ns.map .int)))) (y2 := none) (y3 := none) (y4 := none) (y5 := none) (y6 := none)
  unfold m_u_law
  rw [law_eq, mFn_e, if_pos (by rfl)]
  show ∃ lh, mF (mSeq _ (mSeq _ LZ) [some (.d (.list (ns.map .int))), none, none, none, none, none, none] []) = _
  have e0 : mAsg (mCall m_u_plan (mCons (mVar 0) mNil)) (gNm 1) [some (.d (.list (ns.map .int))), none, none, none, none, none, none] [] = some (.nx, [some (.d (.list (ns.map .int))), some (.d (.list (ds.map Dee.d))), none, none, none, none, none], l1) := by
    generalize PyData.list (ns.map PyData.int) = N at fp
    generalize PyData.list (ds.map Dee.d) = D at fp
    simp [fp]
  rw [mSeq_e, e0, mQ_nx]
  have hOk4 : ∀ e ∈ [ds, ds.take (ds.length / 3), ds.take (ds.length / 2), []], (∀ d ∈ e, Dee.Ok d) ∧ e.length ≤ 63 := fun e he => by
    simp only [List.mem_cons, List.not_mem_nil, or_false] at he
    rcases he with rfl | rfl | rfl | rfl
    · exact ⟨hOk, hn⟩
    · exact ⟨fun d h => hOk d (List.mem_of_mem_take h), by rw [List.length_take]; omega⟩
    · exact ⟨fun d h => hOk d (List.mem_of_mem_take h), by rw [List.length_take]; omega⟩
    · exact ⟨fun d h => (by cases h), by simp⟩
  generalize hE : [ds, ds.take (ds.length / 3), ds.take (ds.length / 2), []] = es at hit hOk4
  have hlen : es.length = 4 := by rw [← hE]; rfl
  refine seq_for (P := fun m => ∃ lh, m = some (.ok (.d (.bool true)), lh)) (d := .seq (.d (.list (es.map fun e => PyData.list (e.map Dee.d))))) (l := l1) es.length (fun _ env _ => ∃ x0 x1 y2 y3 y4 y5 y6, env = [x0, x1, y2, y3, y4, y5, y6]) hit (by rw [cap_seqD, List.length_map]; omega) ⟨_, _, _, _, _, _, _, rfl⟩ ?_ ?_ ?_
  · rintro i env l' hi ⟨x0, x1, y2, y3, y4, y5, y6, rfl⟩
    have he := List.getElem?_eq_getElem hi
    obtain ⟨a1, a2⟩ := hOk4 es[i] (List.getElem_mem hi)
    obtain ⟨z3, z4, z5, z6, l2, e⟩ := turn_ok (l := l') (x0 := x0) (x1 := x1) (x3 := y3) (x4 := y4) (x5 := y5) (x6 := y6) a1 a2
    refine ⟨.d (.list (es[i].map Dee.d)), l', _, _, l2, ?_, rfl, e, _, _, _, _, _, _, _, rfl⟩
    rw [get_seqD, List.getElem?_map, he]; rfl
  · rintro env l' _
    rw [get_seqD, List.getElem?_eq_none (by simp)]; rfl
  · rintro env l' _
    obtain ⟨l2, e⟩ := lz_ok (l := l') (env := env)
    exact ⟨l2, by rw [e]; rfl⟩
end Bw

set_option maxHeartbeats 0
namespace Bw
open PySem L2
def de0 : He.DefD := ⟨("is_name", none), "is_name", "is_name", defArgs s_is_name, defBody s_is_name, defScope s_is_name, [], []⟩
def de1 : He.DefD := ⟨("number_in", none), "number_in", "number_in", defArgs s_u_number_in, defBody s_u_number_in, defScope s_u_number_in, [], []⟩
def de2 : He.DefD := ⟨("going_in", none), "going_in", "going_in", defArgs s_u_going_in, defBody s_u_going_in, defScope s_u_going_in, [], []⟩
def de3 : He.DefD := ⟨("swap_in", none), "swap_in", "swap_in", defArgs s_u_swap_in, defBody s_u_swap_in, defScope s_u_swap_in, [], []⟩
def de4 : He.DefD := ⟨("deed_in", none), "deed_in", "deed_in", defArgs s_u_deed_in, defBody s_u_deed_in, defScope s_u_deed_in, [], []⟩
def de5 : He.DefD := ⟨("read_plan", none), "read_plan", "read_plan", defArgs s_u_read_plan, defBody s_u_read_plan, defScope s_u_read_plan, [], []⟩
def de6 : He.DefD := ⟨("_law_cell", none), "_law_cell", "_law_cell", defArgs s_cell, defBody s_cell, defScope s_cell, [], []⟩
def de7 : He.DefD := ⟨("_law_draws", none), "_law_draws", "_law_draws", defArgs s_draws, defBody s_draws, defScope s_draws, [], []⟩
def de8 : He.DefD := ⟨("_law_deed_of", none), "_law_deed_of", "_law_deed_of", defArgs s_u_deed_of, defBody s_u_deed_of, defScope s_u_deed_of, [], []⟩
def de9 : He.DefD := ⟨("_law_plan", none), "_law_plan", "_law_plan", defArgs s_u_plan, defBody s_u_plan, defScope s_u_plan, [], []⟩
def de10 : He.DefD := ⟨("_law_written", none), "_law_written", "_law_written", defArgs s_u_written, defBody s_u_written, defScope s_u_written, [], []⟩
def de11 : He.DefD := ⟨("_law_is_plan", none), "_law_is_plan", "_law_is_plan", defArgs s_u_is_plan, defBody s_u_is_plan, defScope s_u_is_plan, [], []⟩
def de12 : He.DefD := ⟨("law", none), "law", "law", defArgs s_u_law, defBody s_u_law, defScope s_u_law, [], []⟩
def fnL : List He.DefD := [de0, de1, de2, de3, de4, de5, de6, de7, de8, de9, de10, de11, de12]
def faL : List He.Fa := [.glo "is_name", .glo "number_in", .glo "going_in", .glo "swap_in", .glo "deed_in", .glo "read_plan", .glo "_law_cell", .glo "_law_draws", .glo "_law_deed_of", .glo "_law_plan", .glo "_law_written", .glo "_law_is_plan", .glo "law", .free "abs", .free "all", .free "bool", .free "enumerate", .free "int", .free "isinstance", .free "len", .free "list", .free "max", .free "min", .free "range", .free "str", .free "tuple", .free "zip", .str "FIGURES" "0123456789", .int "LAST_BAY" 15, .str "LETTERS" "abcdefghijklmnopqrstuvwxyz", .int "LONGEST" 8, .int "MOST_FIGURES" 10, .str "STROKE" "/", .glo "CartError", .glo "NoText"]
def lo0 : List Str := ["CartError", "NoText", "LETTERS", "FIGURES", "LONGEST", "MOST_FIGURES", "is_name", "number_in", "LAST_BAY", "STROKE", "going_in", "swap_in", "deed_in", "read_plan", "_law_cell", "_law_draws", "_law_deed_of", "_law_plan", "_law_written", "_law_is_plan"]
def looseL : List Str := lo0
abbrev RowL : PySem.W.OpenRow := PySem.W.OpenLaw.row PySem.Challenge.rw_baycart_k18_plans_read
abbrev hkL : PySem.W.Hook := hookB 4 faL fnL (uxB xcl xts xhs)
def obL (s : PySem.W.SharedT) : He.AlD × Bool := obsB 4 faL fnL (uxB xcl xts xhs) (HandSHeadRun.getT s)
theorem obL_eq (s : PySem.W.SharedT) : obL s = hkL.obs s.abs := obsB_eq (HandSHeadRun.getT_eq s)
theorem runL (w : World) : HandSHeadRun.RunEq RowL (PySem.W.view RowL.prog [24]) hkL obL 20000 looseL w := by
  intro os
  kernel_rfl
theorem all_ok {P : Program} {w : World} {K : PySem.W.Frag} {h : Heap} {mg : Str → Option Value} {base : Heap} (X : K.In h) (G : h.Ns mainGlobals mg) (c : He.SaysD faL fnL K) (cx : uxB xcl xts xhs K = true) : Ok P w K mg base 5 "law" ["_law_script"] (sp_u_law K) := by
  have m_abs : mg "abs" = none := He.free_ok X G (c.fact 13 (f := .free "abs") rfl)
  have m_all : mg "all" = none := He.free_ok X G (c.fact 14 (f := .free "all") rfl)
  have m_bool : mg "bool" = none := He.free_ok X G (c.fact 15 (f := .free "bool") rfl)
  have m_enumerate : mg "enumerate" = none := He.free_ok X G (c.fact 16 (f := .free "enumerate") rfl)
  have m_int : mg "int" = none := He.free_ok X G (c.fact 17 (f := .free "int") rfl)
  have m_isinstance : mg "isinstance" = none := He.free_ok X G (c.fact 18 (f := .free "isinstance") rfl)
  have m_len : mg "len" = none := He.free_ok X G (c.fact 19 (f := .free "len") rfl)
  have m_list : mg "list" = none := He.free_ok X G (c.fact 20 (f := .free "list") rfl)
  have m_max : mg "max" = none := He.free_ok X G (c.fact 21 (f := .free "max") rfl)
  have m_min : mg "min" = none := He.free_ok X G (c.fact 22 (f := .free "min") rfl)
  have m_range : mg "range" = none := He.free_ok X G (c.fact 23 (f := .free "range") rfl)
  have m_str : mg "str" = none := He.free_ok X G (c.fact 24 (f := .free "str") rfl)
  have m_tuple : mg "tuple" = none := He.free_ok X G (c.fact 25 (f := .free "tuple") rfl)
  have m_zip : mg "zip" = none := He.free_ok X G (c.fact 26 (f := .free "zip") rfl)
  have c_FIGURES : ∃ t, mg "FIGURES" = some (.str "0123456789" t) := He.str_ok X G (c.fact 27 (f := .str "FIGURES" "0123456789") rfl)
  have c_LAST_BAY : ∃ t, mg "LAST_BAY" = some (.int 15 t) := He.int_ok X G (c.fact 28 (f := .int "LAST_BAY" 15) rfl)
  have c_LETTERS : ∃ t, mg "LETTERS" = some (.str "abcdefghijklmnopqrstuvwxyz" t) := He.str_ok X G (c.fact 29 (f := .str "LETTERS" "abcdefghijklmnopqrstuvwxyz") rfl)
  have c_LONGEST : ∃ t, mg "LONGEST" = some (.int 8 t) := He.int_ok X G (c.fact 30 (f := .int "LONGEST" 8) rfl)
  have c_MOST_FIGURES : ∃ t, mg "MOST_FIGURES" = some (.int 10 t) := He.int_ok X G (c.fact 31 (f := .int "MOST_FIGURES" 10) rfl)
  have c_STROKE : ∃ t, mg "STROKE" = some (.str "/" t) := He.str_ok X G (c.fact 32 (f := .str "STROKE" "/") rfl)
  have g_CartError : mg "CartError" = some (.ref (He.ga K "CartError")) := He.glo_ok X G (c.fact 33 (f := .glo "CartError") rfl)
  have g_NoText : mg "NoText" = some (.ref (He.ga K "NoText")) := He.glo_ok X G (c.fact 34 (f := .glo "NoText") rfl)
  have cx0 := ux_x cx
  have XC := xfc_of cx0
  have XH := ux_h cx
  have x_NoText : ExD K mg "NoText" := exd_of cx0 (by decide) (by decide) g_NoText
  have d_is_name : Df K mg "is_name" s_is_name := ⟨c.def_ 0 (d := de0) rfl, He.glo_ok X G (c.fact 0 (f := .glo "is_name") rfl)⟩
  have d_u_number_in : Df K mg "number_in" s_u_number_in := ⟨c.def_ 1 (d := de1) rfl, He.glo_ok X G (c.fact 1 (f := .glo "number_in") rfl)⟩
  have d_u_going_in : Df K mg "going_in" s_u_going_in := ⟨c.def_ 2 (d := de2) rfl, He.glo_ok X G (c.fact 2 (f := .glo "going_in") rfl)⟩
  have d_u_swap_in : Df K mg "swap_in" s_u_swap_in := ⟨c.def_ 3 (d := de3) rfl, He.glo_ok X G (c.fact 3 (f := .glo "swap_in") rfl)⟩
  have d_u_deed_in : Df K mg "deed_in" s_u_deed_in := ⟨c.def_ 4 (d := de4) rfl, He.glo_ok X G (c.fact 4 (f := .glo "deed_in") rfl)⟩
  have d_u_read_plan : Df K mg "read_plan" s_u_read_plan := ⟨c.def_ 5 (d := de5) rfl, He.glo_ok X G (c.fact 5 (f := .glo "read_plan") rfl)⟩
  have d_cell : Df K mg "_law_cell" s_cell := ⟨c.def_ 6 (d := de6) rfl, He.glo_ok X G (c.fact 6 (f := .glo "_law_cell") rfl)⟩
  have d_draws : Df K mg "_law_draws" s_draws := ⟨c.def_ 7 (d := de7) rfl, He.glo_ok X G (c.fact 7 (f := .glo "_law_draws") rfl)⟩
  have d_u_deed_of : Df K mg "_law_deed_of" s_u_deed_of := ⟨c.def_ 8 (d := de8) rfl, He.glo_ok X G (c.fact 8 (f := .glo "_law_deed_of") rfl)⟩
  have d_u_plan : Df K mg "_law_plan" s_u_plan := ⟨c.def_ 9 (d := de9) rfl, He.glo_ok X G (c.fact 9 (f := .glo "_law_plan") rfl)⟩
  have d_u_written : Df K mg "_law_written" s_u_written := ⟨c.def_ 10 (d := de10) rfl, He.glo_ok X G (c.fact 10 (f := .glo "_law_written") rfl)⟩
  have d_u_is_plan : Df K mg "_law_is_plan" s_u_is_plan := ⟨c.def_ 11 (d := de11) rfl, He.glo_ok X G (c.fact 11 (f := .glo "_law_is_plan") rfl)⟩
  have d_u_law : Df K mg "law" s_u_law := ⟨c.def_ 12 (d := de12) rfl, He.glo_ok X G (c.fact 12 (f := .glo "law") rfl)⟩
  have o_draws := ok_draws (P := P) (w := w) (mg := mg) (base := base) d_draws m_abs m_enumerate
  have o_cell := ok_cell (P := P) (w := w) (mg := mg) (base := base) d_cell m_len
  have o_is_name := ok_is_name (P := P) (w := w) (mg := mg) (base := base) d_is_name m_all m_isinstance m_len m_str c_LETTERS c_LONGEST
  have o_u_deed_of := ok_u_deed_of (P := P) (w := w) (mg := mg) (base := base) d_u_deed_of m_int m_range o_draws
  have o_u_plan := ok_u_plan (P := P) (w := w) (mg := mg) (base := base) d_u_plan m_len m_max m_min m_range o_draws o_cell o_u_deed_of
  have o_u_written := ok_u_written (P := P) (w := w) (mg := mg) (base := base) d_u_written m_str
  have o_u_number_in := ok_u_number_in (P := P) (w := w) (mg := mg) (base := base) d_u_number_in m_int m_len c_FIGURES c_MOST_FIGURES
  have o_u_going_in := ok_u_going_in (P := P) (w := w) (mg := mg) (base := base) d_u_going_in m_len c_LAST_BAY o_u_number_in x_NoText
  have o_u_swap_in := ok_u_swap_in (P := P) (w := w) (mg := mg) (base := base) d_u_swap_in m_all c_STROKE o_is_name x_NoText
  have o_u_deed_in := ok_u_deed_in (P := P) (w := w) (mg := mg) (base := base) d_u_deed_in o_u_swap_in o_u_going_in x_NoText
  have o_u_read_plan := ok_u_read_plan (P := P) (w := w) (mg := mg) (base := base) d_u_read_plan m_isinstance m_str o_u_deed_in x_NoText
  have o_u_is_plan := ok_u_is_plan (P := P) (w := w) (mg := mg) (base := base) d_u_is_plan m_bool m_isinstance m_list m_tuple
  have o_u_law := ok_u_law (P := P) (w := w) (mg := mg) (base := base) d_u_law m_len m_zip o_u_read_plan o_u_is_plan o_u_written o_u_plan
  exact o_u_law
end Bw
open PySem PySem.W PySem.Calls PyProof.Rows
abbrev Bw.qL : Program := view Bw.RowL.prog [24]
abbrev Bw.dL : DefRec := HandSHeadRun.topDef Bw.RowL.prog 24
theorem Bw.o_e : opening Bw.RowL.prog = plainProg Bw.RowL.prog.main.scope.names := by kernel_rfl
theorem Bw.o_f : ∀ s, fenceModules? Bw.RowL.prog s = some s := fun s => by kernel_rfl
theorem Bw.o_def : defOf Bw.qL Bw.RowL.name = some (Bw.dL, []) := by kernel_rfl
theorem Bw.o_the : Bw.RowL.prog.theDef Bw.RowL.name = some (Bw.dL.params, Bw.dL.body, Bw.dL.scope) := by kernel_rfl
theorem Bw.o_kw : kwWritten? Bw.dL.params.kwonlyargs Bw.dL.params.kw_defaults = some [] := by kernel_rfl
theorem Bw.o_1 : chainsOk Bw.qL = true := by decide +kernel
theorem Bw.o_2 : opensWell Bw.RowL.prog = true := by decide +kernel
theorem Bw.o_3 : frees Bw.RowL.toRowW = true := by decide +kernel
theorem Bw.o_4 : Bw.RowL.within.isEmpty = true := by decide +kernel
theorem Bw.o_ok : (chainsOk Bw.qL && opensWell Bw.RowL.prog && (frees Bw.RowL.toRowW && Bw.RowL.within.isEmpty)) = true := by rw [Bw.o_1, Bw.o_2, Bw.o_3, Bw.o_4]; rfl
theorem Bw.o_bare : Bw.RowL.prog.bare := ⟨rfl, rfl, rfl, rfl, rfl, by decide +kernel⟩
theorem Bw.o_hw : Bw.RowL.toRowW.promised := by w_witness2
theorem PySem.Challenge.cw_baycart_k18_plans_read_holds : PySem.Challenge.rw_baycart_k18_plans_read.Holds := by
  w_on; o_law
  refine HandSHeadRun.head_any (r := Bw.RowL) (q := Bw.qL) (H := Bw.hkL) (ob := Bw.obL) (M := 20000) (loose := Bw.looseL) (d := Bw.dL) (kwd := []) Bw.obL_eq
    Bw.o_e Bw.o_f Bw.runL Bw.o_def Bw.o_the Bw.o_kw (by rfl) (by first | assumption | decide +kernel) Bw.o_ok Bw.o_bare Bw.o_hw ?hc
  case hc =>
    refine L2.walk_ofE (l := PySem.Challenge.rw_baycart_k18_plans_read) (n := 63) (k := 5) (x := "_law_script") (CX := L2.CX0) rfl (by decide) (by kernel_rfl) ⟨rfl, by decide, by decide⟩ ?F (fun _ _ _ _ z => z)
    intro w mg fa h Y G hmg0
    obtain ⟨K, KX, c, cx⟩ := Y
    have hmg : mg ("law" : PySem.Str) = some (.ref fa) := by
      have e : (HandSHeadRun.topDef Bw.RowL.prog 24).name = ("law" : PySem.Str) := by kernel_rfl
      rw [← e]
      exact hmg0
    have ok0 : ∀ base : Heap, Bw.Ok (PySem.Challenge.rw_baycart_k18_plans_read).prog w K mg base 5 "law" ["_law_script"] (Bw.sp_u_law K) := fun base => Bw.all_ok KX G c cx
    have ef : fa = He.ga K "law" := Bw.ref_inj (hmg.symm.trans (ok0 h).gm)
    obtain ⟨fd, FF⟩ := c.def_ 12 (d := Bw.de12) rfl
    have bnd : ∀ (s : Shared) (u : Value), BindsTo s fd ⟨[u], []⟩ [("_law_script", u)] := fun s u => (L2.FunD.bindsA (ps := ["_law_script"]) FF fun _ _ _ _ _ _ us hl => match us, hl with | [_], _ => rfl) s [u] rfl
    refine ⟨K, fd, Bw.sp_u_law K, KX, bnd, fun H a ns hl _ hS => ?_, fun base hb1 hb2 => ?_⟩
    · obtain ⟨lh, e⟩ := Bw.law_true ns hl
      exact ⟨H, [], [], [], [.d (.list (ns.map .int))], .d (.bool true), lh, rfl, Bw.sm0, .cons (Bw.Dt.lst hS (Bw.Dts.of_ints ns)) .nil, e, fun _ _ _ _ _ _ _ hv => hv.toBl⟩
    obtain ⟨⟨fd2, F2, _, lk⟩, _, _⟩ := ok0 base
    rw [ef, (Bw.lk_of FF).one lk]
    exact F2
