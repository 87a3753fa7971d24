import PyProof.Rows.All
import Wide.All
import OpenK.AllK
import Wide.FinOn
import HandS.ForMost
import HandS.IsInst
import HandS.Zip
import HandS.FStr
import HandS.Flow
import HandS.Style
import HandS.Defaults
import HandS.HeadHook2
import HandS.Strs
import HandS.SetFor
import KE.KStateDown
import HandS.Head0
import HandS.Head1
import HandS.Head2
import HandS.TupAny
import HandS.Sort
import HandS.SortInts
import HandS.TryOnly
import KE.KDictItemsList
import KE.KDictZip
import HandS.ExcValue
import HandS.ExcInit
import HandS.TryElse
import KE.KExcIs
import KE.KTryMore
import HandS.HeadEnd
import HandS.HeadHook1
import HandS.ExcField
import HandS.Walk
import HandS.Conv
import HandS.Deep
import PySem.Challenge.RW_baycart_k50_orders_and_none
set_option Elab.async false
set_option linter.all false
set_option maxRecDepth 100000
set_option maxHeartbeats 8000000
set_option synthInstance.maxHeartbeats 400000
set_option synthInstance.maxSize 2000

namespace Bw
open PySem L2

/-! the state: F what stands for good, cs the objects that may change -/
abbrev Cs := List (Addr × HO)
def Gr (F F' : Hp) : Prop := ∀ a o, F a = some o → F' a = some o
theorem Gr.rfl {F : Hp} : Gr F F := fun _ _ h => h
theorem Gr.tr {F F1 F2 : Hp} (a : Gr F F1) (b : Gr F1 F2) : Gr F F2 := fun x o h => b x o (a x o h)
theorem Gr.new {F : Hp} {p : Addr} {o : HO} (h : F p = none) : Gr F (upd F p o) := fun a u e => by
  rw [upd_ne (ne_of_none e h)]; exact e
structure Sta (F : Hp) (cs : Cs) (H : Hp) : Prop where
  fr : Gr F H
  sep : ∀ p ∈ cs, F p.1 = none
  has : ∀ p ∈ cs, H p.1 = some p.2
  nd : (cs.map (·.1)).Nodup
theorem Gr.back {F F' : Hp} {p : Addr} (e : Gr F F') (h : F' p = none) : F p = none := by
  cases h1 : F p with
  | none => rfl
  | some o => rw [e p o h1] at h; cases h
/-- a new thing that stays -/
theorem Sta.lay {F : Hp} {cs : Cs} {H : Hp} {p : Addr} {o : HO} (s : Sta F cs H) (h : H p = none) : Sta (upd F p o) cs (upd H p o) where
  fr := fun a u e => by
    by_cases q : a = p
    · subst q; rw [upd_same] at e ⊢; exact e
    · rw [upd_ne q] at e ⊢; exact s.fr a u e
  sep := fun c hc => by
    have q : c.1 ≠ p := fun z => by have := s.has c hc; rw [z, h] at this; cases this
    rw [upd_ne q]; exact s.sep c hc
  has := fun c hc => by
    have q : c.1 ≠ p := fun z => by have := s.has c hc; rw [z, h] at this; cases this
    rw [upd_ne q]; exact s.has c hc
  nd := s.nd
/-- a new thing that may change -/
theorem Sta.cell {F : Hp} {cs : Cs} {H : Hp} {p : Addr} {o : HO} (s : Sta F cs H) (h : H p = none) : Sta F ((p, o) :: cs) (upd H p o) where
  fr := fun a u e => by
    have q : a ≠ p := ne_of_none (s.fr a u e) h
    rw [upd_ne q]; exact s.fr a u e
  sep := fun c hc => by
    rcases List.mem_cons.mp hc with rfl | hc
    · exact s.fr.back h
    · exact s.sep c hc
  has := fun c hc => by
    rcases List.mem_cons.mp hc with rfl | hc
    · exact upd_same
    · have q : c.1 ≠ p := fun z => by have := s.has c hc; rw [z, h] at this; cases this
      rw [upd_ne q]; exact s.has c hc
  nd := by
    rw [List.map_cons, List.nodup_cons]
    refine ⟨fun hm => ?_, s.nd⟩
    obtain ⟨c, hc, e⟩ := List.mem_map.mp hm
    have := s.has c hc
    rw [e, h] at this; cases this
/-- the first changing thing is changed -/
theorem Sta.put {F : Hp} {cs : Cs} {H : Hp} {p : Addr} {o o' : HO} (s : Sta F ((p, o) :: cs) H) : Sta F ((p, o') :: cs) (upd H p o') where
  fr := fun a u e => by
    have q : a ≠ p := fun z => by have := s.sep (p, o) List.mem_cons_self; subst z; rw [e] at this; cases this
    rw [upd_ne q]; exact s.fr a u e
  sep := fun c hc => by
    rcases List.mem_cons.mp hc with rfl | hc
    · exact s.sep (p, o) List.mem_cons_self
    · exact s.sep c (List.mem_cons_of_mem _ hc)
  has := fun c hc => by
    rcases List.mem_cons.mp hc with rfl | hc
    · exact upd_same
    · have nd := s.nd
      rw [List.map_cons, List.nodup_cons] at nd
      have q : c.1 ≠ p := fun z => nd.1 (List.mem_map.mpr ⟨c, hc, z⟩)
      rw [upd_ne q]; exact s.has c (List.mem_cons_of_mem _ hc)
  nd := s.nd
/-- the order of the changing things is free -/
theorem Sta.perm {F : Hp} {cs cs' : Cs} {H : Hp} (s : Sta F cs H) (p : cs.Perm cs') : Sta F cs' H where
  fr := s.fr
  sep := fun c hc => s.sep c (p.mem_iff.mpr hc)
  has := fun c hc => s.has c (p.mem_iff.mpr hc)
  nd := (p.map (·.1)).nodup_iff.mp s.nd
theorem Sta.at {F : Hp} {cs : Cs} {H : Hp} {p : Addr} {o : HO} (s : Sta F cs H) (m : (p, o) ∈ cs) : H p = some o := s.has _ m
/-- the first changing thing changes no more -/
theorem Sta.froze {F : Hp} {cs : Cs} {H : Hp} {p : Addr} {o : HO} (s : Sta F ((p, o) :: cs) H) : Sta (upd F p o) cs H where
  fr := fun a u e => by
    by_cases q : a = p
    · subst q; rw [upd_same] at e; rw [← e]; exact s.has (a, o) List.mem_cons_self
    · rw [upd_ne q] at e; exact s.fr a u e
  sep := fun c hc => by
    have nd := s.nd
    rw [List.map_cons, List.nodup_cons] at nd
    have q : c.1 ≠ p := fun z => nd.1 (List.mem_map.mpr ⟨c, hc, z⟩)
    rw [upd_ne q]; exact s.sep c (List.mem_cons_of_mem _ hc)
  has := fun c hc => s.has c (List.mem_cons_of_mem _ hc)
  nd := by
    have nd := s.nd
    rw [List.map_cons, List.nodup_cons] at nd
    exact nd.2
theorem Sta.free {F : Hp} {cs : Cs} {H : Hp} {p : Addr} {o : HO} (s : Sta F ((p, o) :: cs) H) : F p = none := s.sep (p, o) List.mem_cons_self
theorem Sta.gfr {F : Hp} {cs : Cs} {H : Hp} {p : Addr} {o : HO} (s : Sta F ((p, o) :: cs) H) : Gr F (upd F p o) := Gr.new s.free


theorem mem_mid {α : Type} {l1 l2 : List α} {a : α} : a ∈ l1 ++ a :: l2 := by simp
/-- a changing thing is changed -/
theorem Sta.putAt {F : Hp} {l1 l2 : Cs} {H : Hp} {p : Addr} {o o' : HO} (s : Sta F (l1 ++ (p, o) :: l2) H) : Sta F (l1 ++ (p, o') :: l2) (upd H p o') :=
  ((s.perm List.perm_middle).put (o' := o')).perm List.perm_middle.symm
theorem Sta.frozeAt {F : Hp} {l1 l2 : Cs} {H : Hp} {p : Addr} {o : HO} (s : Sta F (l1 ++ (p, o) :: l2) H) : Sta (upd F p o) (l1 ++ l2) H := (s.perm List.perm_middle).froze
theorem Sta.freeAt {F : Hp} {l1 l2 : Cs} {H : Hp} {p : Addr} {o : HO} (s : Sta F (l1 ++ (p, o) :: l2) H) : F p = none := s.sep (p, o) mem_mid
theorem Sta.getAt {F : Hp} {l1 l2 : Cs} {H : Hp} {p : Addr} {o : HO} (s : Sta F (l1 ++ (p, o) :: l2) H) : H p = some o := s.has (p, o) mem_mid
theorem Gr.upd2 {F F' : Hp} {p : Addr} {o : HO} (g : Gr F F') : Gr (upd F p o) (upd F' p o) := fun a u e => by
  by_cases q : a = p
  · subst q; rw [upd_same] at e ⊢; exact e
  · rw [upd_ne q] at e ⊢; exact g a u e
def cut (F : Hp) (p : Addr) : Hp := fun a => if a = p then none else F a
theorem cut_same {F : Hp} {p : Addr} : cut F p p = none := by unfold cut; rw [if_pos rfl]
theorem cut_ne {F : Hp} {p a : Addr} (h : a ≠ p) : cut F p a = F a := by unfold cut; rw [if_neg h]
/-- what was lent comes back -/
theorem Sta.lent {F F2 : Hp} {l1 l2 : Cs} {H2 : Hp} {p : Addr} {o : HO} (g : Gr (upd F p o) F2) (s : Sta F2 (l1 ++ l2) H2) : Sta (cut F2 p) (l1 ++ (p, o) :: l2) H2 := by
  have hp : F2 p = some o := g p o upd_same
  have hn : ∀ c ∈ l1 ++ l2, c.1 ≠ p := fun c hc z => by
    have := s.sep c hc
    rw [z, hp] at this; cases this
  refine Sta.perm (cs := (p, o) :: (l1 ++ l2)) ⟨fun a u e => ?_, fun c hc => ?_, fun c hc => ?_, ?_⟩ List.perm_middle.symm
  · have q : a ≠ p := fun z => by rw [z, cut_same] at e; cases e
    rw [cut_ne q] at e; exact s.fr a u e
  · rcases List.mem_cons.mp hc with rfl | hc
    · exact cut_same
    · rw [cut_ne (hn c hc)]; exact s.sep c hc
  · rcases List.mem_cons.mp hc with rfl | hc
    · exact s.fr p o hp
    · exact s.has c hc
  · rw [List.map_cons, List.nodup_cons]
    refine ⟨fun hm => ?_, s.nd⟩
    obtain ⟨c, hc, e⟩ := List.mem_map.mp hm
    exact hn c hc e
theorem gr_cut {F F2 : Hp} {p : Addr} {o : HO} (h : F p = none) (g : Gr (upd F p o) F2) : Gr F (cut F2 p) := fun a u e => by
  have q : a ≠ p := ne_of_none e h
  rw [cut_ne q]
  exact g a u (by rw [upd_ne q]; exact e)

/-! data -/
mutual
inductive Dt (K : PySem.W.Frag) (F : Hp) : V → PyData → Prop
  | non : Dt K F .non .none
  | bl (b : Bool) : Dt K F (.bl b) (.bool b)
  | int (i : Int) : Dt K F (.int i) (.int i)
  | str (x : Str) : Dt K F (.str x) (.str x)
  | lst {a : Addr} {xs : List V} {ds : List PyData} : SqL K F a xs → Dts K F xs ds → Dt K F (.ref a) (.list ds)
  | tup {a : Addr} {xs : List V} {ds : List PyData} : SqT K F a xs → Dts K F xs ds → Dt K F (.ref a) (.tuple ds)
  | dct {a : Addr} {kvs : List (Key × V)} : F a = some (.dK kvs) → Dt K F (.ref a) (.dict [])
inductive Dts (K : PySem.W.Frag) (F : Hp) : List V → List PyData → Prop
  | nil : Dts K F [] []
  | cons {v : V} {vs : List V} {d : PyData} {ds : List PyData} : Dt K F v d → Dts K F vs ds → Dts K F (v :: vs) (d :: ds)
end
section
variable {K : PySem.W.Frag} {F F' H : Hp}
theorem gr_R {a : Addr} {u : HO} (e : Gr F F') (h : Rd F a u) : Rd F' a u := by
  rcases h with h | ⟨o, h⟩
  · exact .inl (e a _ h)
  · exact .inr ⟨o, e a _ h⟩
theorem gr_T {a : Addr} {xs : List V} (e : Gr F F') (h : SqT K F a xs) : SqT K F' a xs := by
  rcases h with h | h
  · exact .inl (gr_R e h)
  · exact .inr h
theorem gr_L {a : Addr} {xs : List V} (e : Gr F F') (h : SqL K F a xs) : SqL K F' a xs := by
  rcases h with h | h
  · exact .inl (gr_R e h)
  · exact .inr h
theorem rd_L {a : Addr} {xs : List V} (h : Rd F a (.lst xs)) : SqL K F a xs := .inl h
mutual
theorem Dt.gr (e : Gr F F') : ∀ {v : V} {d : PyData}, Dt K F v d → Dt K F' v d
  | _, _, .non => .non
  | _, _, .bl b => .bl b
  | _, _, .int i => .int i
  | _, _, .str x => .str x
  | _, _, .lst h a => .lst (gr_L e h) (Dts.gr e a)
  | _, _, .tup h a => .tup (gr_T e h) (Dts.gr e a)
  | _, _, .dct h => .dct (e _ _ h)
theorem Dts.gr (e : Gr F F') : ∀ {vs : List V} {ds : List PyData}, Dts K F vs ds → Dts K F' vs ds
  | _, _, .nil => .nil
  | _, _, .cons h t => .cons (Dt.gr e h) (Dts.gr e t)
end
theorem Dt.toInt {v : V} {i : Int} (h : Dt K F v (.int i)) : v = .int i := by cases h; rfl
theorem Dt.toStr {v : V} {x : Str} (h : Dt K F v (.str x)) : v = .str x := by cases h; rfl
theorem Dt.toBl {v : V} {b : Bool} (h : Dt K F v (.bool b)) : v = .bl b := by cases h; rfl
theorem Dt.toNon {v : V} (h : Dt K F v .none) : v = .non := by cases h; rfl
theorem Dt.toLst {v : V} {ds : List PyData} (h : Dt K F v (.list ds)) : ∃ a vs, v = .ref a ∧ SqL K F a vs ∧ Dts K F vs ds := by
  cases h with | lst h a => exact ⟨_, _, rfl, h, a⟩
theorem Dt.toTup {v : V} {ds : List PyData} (h : Dt K F v (.tuple ds)) : ∃ a vs, v = .ref a ∧ SqT K F a vs ∧ Dts K F vs ds := by
  cases h with | tup h a => exact ⟨_, _, rfl, h, a⟩
theorem Dts.len : ∀ {vs : List V} {ds : List PyData}, Dts K F vs ds → vs.length = ds.length
  | _, _, .nil => rfl
  | _, _, .cons _ t => by simp [Dts.len t]
theorem Dts.get : ∀ {vs : List V} {ds : List PyData} {i : Nat} {v : V}, Dts K F vs ds → vs[i]? = some v → ∃ d, ds[i]? = some d ∧ Dt K F v d
  | _, _, _, _, .nil, e => by simp at e
  | _, _, 0, _, .cons h _, e => by simp at e; subst e; exact ⟨_, rfl, h⟩
  | _, _, i + 1, v, .cons _ t, e => by
    obtain ⟨d, h1, h2⟩ := Dts.get (i := i) (v := v) t (by simpa using e)
    exact ⟨d, by simpa using h1, h2⟩
theorem Dts.get2 : ∀ {vs : List V} {ds : List PyData} {i : Nat} {d : PyData}, Dts K F vs ds → ds[i]? = some d → ∃ v, vs[i]? = some v ∧ Dt K F v d
  | _, _, _, _, .nil, e => by simp at e
  | _, _, 0, _, .cons h _, e => by simp at e; subst e; exact ⟨_, rfl, h⟩
  | _, _, i + 1, d, .cons _ t, e => by
    obtain ⟨v, h1, h2⟩ := Dts.get2 (i := i) (d := d) t (by simpa using e)
    exact ⟨v, by simpa using h1, h2⟩
theorem Dts.app : ∀ {vs ws : List V} {ds es : List PyData}, Dts K F vs ds → Dts K F ws es → Dts K F (vs ++ ws) (ds ++ es)
  | _, _, _, _, .nil, s => s
  | _, _, _, _, .cons h t, s => .cons h (Dts.app t s)
theorem Dts.drop : ∀ {vs : List V} {ds : List PyData} (n : Nat), Dts K F vs ds → Dts K F (vs.drop n) (ds.drop n)
  | _, _, 0, h => h
  | _, _, _ + 1, .nil => .nil
  | _, _, n + 1, .cons _ t => Dts.drop n t
theorem Dts.take : ∀ {vs : List V} {ds : List PyData} (n : Nat), Dts K F vs ds → Dts K F (vs.take n) (ds.take n)
  | _, _, 0, _ => .nil
  | _, _, _ + 1, .nil => .nil
  | _, _, n + 1, .cons h t => .cons h (Dts.take n t)
theorem Dts.setAt : ∀ {vs : List V} {ds : List PyData} {v : V} {d : PyData} (n : Nat), Dts K F vs ds → Dt K F v d → Dts K F (vs.set n v) (ds.set n d)
  | _, _, _, _, _, .nil, _ => .nil
  | _, _, _, _, 0, .cons _ t, k => .cons k t
  | _, _, _, _, n + 1, .cons h t, k => .cons h (Dts.setAt n t k)
theorem Dts.rep {vs : List V} {ds : List PyData} (h : Dts K F vs ds) : ∀ n : Nat, Dts K F (List.replicate n vs).flatten (List.replicate n ds).flatten
  | 0 => .nil
  | n + 1 => by rw [List.replicate_succ, List.replicate_succ, List.flatten_cons, List.flatten_cons]; exact h.app (Dts.rep h n)
theorem Dts.hd {vs : List V} {d : PyData} {ds : List PyData} (h : Dts K F vs (d :: ds)) : ∃ v ws, vs = v :: ws ∧ Dt K F v d ∧ Dts K F ws ds := by
  cases h with | cons h t => exact ⟨_, _, rfl, h, t⟩
theorem Dts.no {vs : List V} (h : Dts K F vs []) : vs = [] := by cases h; rfl
theorem Dts.one {vs : List V} {d : PyData} (h : Dts K F vs [d]) : ∃ v, vs = [v] ∧ Dt K F v d := by
  cases h with | cons h t => cases t; exact ⟨_, rfl, h⟩
theorem Dts.two {vs : List V} {d e : PyData} (h : Dts K F vs [d, e]) : ∃ v w, vs = [v, w] ∧ Dt K F v d ∧ Dt K F w e := by
  cases h with | cons h t => obtain ⟨w, rfl, k⟩ := t.one; exact ⟨_, _, rfl, h, k⟩
theorem Dts.three {vs : List V} {d e f : PyData} (h : Dts K F vs [d, e, f]) : ∃ v w z, vs = [v, w, z] ∧ Dt K F v d ∧ Dt K F w e ∧ Dt K F z f := by
  cases h with | cons h t => obtain ⟨w, z, rfl, k, l⟩ := t.two; exact ⟨_, _, _, rfl, h, k, l⟩
theorem Dts.four {vs : List V} {d e f g : PyData} (h : Dts K F vs [d, e, f, g]) : ∃ v w z y, vs = [v, w, z, y] ∧ Dt K F v d ∧ Dt K F w e ∧ Dt K F z f ∧ Dt K F y g := by
  cases h with | cons h t => obtain ⟨w, z, y, rfl, k, l, m⟩ := t.three; exact ⟨_, _, _, _, rfl, h, k, l, m⟩
theorem Dts.ints : ∀ {xs : List Int} {vs : List V}, Dts K F vs (xs.map .int) → vs = xs.map V.int
  | [], _, h => by cases h; rfl
  | x :: xs, _, h => by
    cases h with | cons h t => rw [h.toInt, Dts.ints t]; rfl
theorem Dts.bls : ∀ {xs : List Bool} {vs : List V}, Dts K F vs (xs.map .bool) → vs = xs.map V.bl
  | [], _, h => by cases h; rfl
  | x :: xs, _, h => by
    cases h with | cons h t => rw [h.toBl, Dts.bls t]; rfl
theorem Dts.strs : ∀ {xs : List Str} {vs : List V}, Dts K F vs (xs.map .str) → vs = xs.map V.str
  | [], _, h => by cases h; rfl
  | x :: xs, _, h => by
    cases h with | cons h t => rw [h.toStr, Dts.strs t]; rfl
theorem Dts.of_ints : ∀ xs : List Int, Dts K F (xs.map V.int) (xs.map .int)
  | [] => .nil
  | x :: xs => .cons (.int x) (Dts.of_ints xs)
theorem Dts.of_strs : ∀ xs : List Str, Dts K F (xs.map V.str) (xs.map .str)
  | [] => .nil
  | x :: xs => .cons (.str x) (Dts.of_strs xs)
theorem Dts.of_bls : ∀ xs : List Bool, Dts K F (xs.map V.bl) (xs.map .bool)
  | [] => .nil
  | x :: xs => .cons (.bl x) (Dts.of_bls xs)
mutual
theorem Dt.dp : ∀ {v : V} {d : PyData}, Dt K F v d → d.canLay0 = true → Dp K F v d
  | _, _, .non, _ => .non
  | _, _, .bl b, _ => .bl b
  | _, _, .int i, _ => .int i
  | _, _, .str x, _ => .str x
  | _, _, .lst h a, z => .lst h (Dts.dp a (by simpa [PyData.canLay0] using z))
  | _, _, .tup h a, z => .tup h (Dts.dp a (by simpa [PyData.canLay0] using z))
  | _, _, .dct h, z => by simp [PyData.canLay0] at z
theorem Dts.dp : ∀ {vs : List V} {ds : List PyData}, Dts K F vs ds → PyData.canLayAll0 ds = true → DpAll K F vs ds
  | _, _, .nil, _ => .nil
  | _, _, .cons h t, z => by
    rw [PyData.canLayAll0, Bool.and_eq_true] at z
    exact .cons (Dt.dp h z.1) (Dts.dp t z.2)
end
end
end Bw

namespace Bw
open PySem L2
/-! codes -/
abbrev eI : Int → PyData := PyData.int
abbrev eB : Bool → PyData := PyData.bool
abbrev eS : Str → PyData := PyData.str
abbrev eN : Unit → PyData := fun _ => PyData.none
abbrev eD : PyData → PyData := fun d => d
abbrev eL {α : Type} (e : α → PyData) (xs : List α) : PyData := .list (xs.map e)
abbrev eT1 {α : Type} (e : α → PyData) (x : α) : PyData := .tuple [e x]
abbrev eT2 {α β : Type} (e : α → PyData) (f : β → PyData) (x : α × β) : PyData := .tuple [e x.1, f x.2]
abbrev eT3 {α β γ : Type} (e : α → PyData) (f : β → PyData) (g : γ → PyData) (x : α × β × γ) : PyData := .tuple [e x.1, f x.2.1, g x.2.2]
abbrev eT4 {α β γ δ : Type} (e : α → PyData) (f : β → PyData) (g : γ → PyData) (h : δ → PyData) (x : α × β × γ × δ) : PyData := .tuple [e x.1, f x.2.1, g x.2.2.1, h x.2.2.2]
def eO {α : Type} (e : α → PyData) : Option α → PyData
  | none => .none
  | some x => e x
def oV {α : Type} (f : α → V) : Option α → V
  | none => .non
  | some x => f x
/-! what may fail -/
def mulM (a b : Int) : Option Int := if (-(2 ^ 64) < a ∧ a < 2 ^ 64) ∨ (-(2 ^ 64) < b ∧ b < 2 ^ 64) then some (a * b) else none
def modM (a b : Int) : Option Int := if 0 < b then some (a % b) else none
def fdivM (a b : Int) : Option Int := if 0 < b ∧ b < 1073741824 then some (a / b) else none
def powM (a b : Int) : Option Int := if 0 ≤ b ∧ b ≤ 1000000 ∧ a.natAbs < 2 ^ 64 then some (a ^ b.toNat) else none
def appM {α : Type} (xs : List α) (x : α) : Option (List α) := if xs.length < 100000 then some (xs ++ [x]) else none
def catM {α : Type} (xs ys : List α) : Option (List α) := if xs.length + ys.length ≤ 100000 then some (xs ++ ys) else none
def repM {α : Type} (xs : List α) (k : Int) : Option (List α) := if -(2 ^ 63) ≤ k ∧ k < 2 ^ 63 ∧ xs.length * k.toNat ≤ 100000 then some (List.replicate k.toNat xs).flatten else none
def scatM (x y : Str) : Option Str := if x.length + y.length ≤ 100000 then some (x ++ y) else none
def lenS (x : Str) : Option Int := if x.length ≤ 100000 then some (x.length : Int) else none
def ixS (x : Str) (i : Int) : Option Str := if x.length ≤ 100000 then (atI x.cps.toList i).map (fun c => ⟨#[c]⟩) else none
def cutL {α : Type} (xs : List α) (lo hi : Option Int) : List α := (xs.drop (HT.sIx xs.length 0 lo)).take (HT.sIx xs.length xs.length hi - HT.sIx xs.length 0 lo)
def rngL (a b : Int) : List Int := (List.range (b - a).toNat).map fun (i : Nat) => a + ((i : Nat) : Int)
def rngM (a b : Int) : Option (List Int) := if -(2 ^ 62) ≤ a ∧ a < 2 ^ 62 ∧ -(2 ^ 62) ≤ b ∧ b < 2 ^ 62 then some (rngL a b) else none
def setM {α : Type} (xs : List α) (i : Int) (x : α) : Option (List α) := (ixN xs.length i).map fun j => xs.set j x
def strM (n : Int) : Option Str := if n.natAbs.log2 < 1920 then some (toString n) else none
def b2I (b : Bool) : Int := if b then 1 else 0
def absI (i : Int) : Int := if i < 0 then -i else i
def maxI (i j : Int) : Int := if j > i then j else i
def minI (i j : Int) : Int := if j < i then j else i
def signs (x : Str) : List Str := x.cps.toList.map fun c => ⟨#[c]⟩
def enumM {α : Type} (xs : List α) : List (Int × α) := xs.mapIdx fun i x => ((i : Int), x)
def inS (x y : Str) : Bool := !(Builtin.Str.occurrences y x 0 y.length 1).isEmpty
def letM {α β : Type} (x : α) (f : α → β) : β := f x
theorem sz {n : Nat} (h : n ≤ 100000) : n ≤ sizeLine := Nat.le_trans h (by decide)
theorem szl {n : Nat} (h : n < 100000) : n < sizeLine := Nat.lt_of_lt_of_le h (by decide)
theorem mulM_some {a b c : Int} (h : mulM a b = some c) : CMul a b ∧ a * b = c := by
  unfold mulM at h; split at h
  · rename_i q; exact ⟨q, Option.some.inj h⟩
  · cases h
theorem modM_some {a b c : Int} (h : modM a b = some c) : 0 < b ∧ a % b = c := by
  unfold modM at h; split at h
  · rename_i q; exact ⟨q, Option.some.inj h⟩
  · cases h
theorem fdivM_some {a b c : Int} (h : fdivM a b = some c) : CDiv a b ∧ a / b = c := by
  unfold fdivM at h; split at h
  · rename_i q; exact ⟨q, Option.some.inj h⟩
  · cases h
theorem powM_some {a b c : Int} (h : powM a b = some c) : CPow a b ∧ a ^ b.toNat = c := by
  unfold powM at h; split at h
  · rename_i q; exact ⟨q, Option.some.inj h⟩
  · cases h
theorem appM_some {α : Type} {xs ys : List α} {x : α} (h : appM xs x = some ys) : xs.length < 100000 ∧ xs ++ [x] = ys := by
  unfold appM at h; split at h
  · rename_i q; exact ⟨q, Option.some.inj h⟩
  · cases h
theorem catM_some {α : Type} {xs ys zs : List α} (h : catM xs ys = some zs) : xs.length + ys.length ≤ 100000 ∧ xs ++ ys = zs := by
  unfold catM at h; split at h
  · rename_i q; exact ⟨q, Option.some.inj h⟩
  · cases h
theorem repM_some {α : Type} {xs zs : List α} {k : Int} (h : repM xs k = some zs) : (-(2 ^ 63) ≤ k ∧ k < 2 ^ 63 ∧ xs.length * k.toNat ≤ 100000) ∧ (List.replicate k.toNat xs).flatten = zs := by
  unfold repM at h; split at h
  · rename_i q; exact ⟨q, Option.some.inj h⟩
  · cases h
theorem scatM_some {x y z : Str} (h : scatM x y = some z) : x.length + y.length ≤ 100000 ∧ x ++ y = z := by
  unfold scatM at h; split at h
  · rename_i q; exact ⟨q, Option.some.inj h⟩
  · cases h
theorem lenS_some {x : Str} {n : Int} (h : lenS x = some n) : x.length ≤ 100000 ∧ (x.length : Int) = n := by
  unfold lenS at h; split at h
  · rename_i q; exact ⟨q, Option.some.inj h⟩
  · cases h
theorem strM_some {x : Int} {n : Str} (h : strM x = some n) : x.natAbs.log2 < 1920 ∧ toString x = n := by
  unfold strM at h; split at h
  · rename_i q; exact ⟨q, Option.some.inj h⟩
  · cases h
theorem ixS_some {x z : Str} {i : Int} (h : ixS x i = some z) : x.length ≤ 100000 ∧ ∃ c, atI x.cps.toList i = some c ∧ z = ⟨#[c]⟩ := by
  unfold ixS at h; split at h
  · rename_i q
    refine ⟨q, ?_⟩
    cases e : atI x.cps.toList i with
    | none => rw [e] at h; cases h
    | some c => rw [e] at h; exact ⟨c, rfl, (Option.some.inj h).symm⟩
  · cases h
theorem rngM_some {a b : Int} {xs : List Int} (h : rngM a b = some xs) : (-(2 ^ 62) ≤ a ∧ a < 2 ^ 62 ∧ -(2 ^ 62) ≤ b ∧ b < 2 ^ 62) ∧ rngL a b = xs := by
  unfold rngM at h; split at h
  · rename_i q; exact ⟨q, Option.some.inj h⟩
  · cases h
theorem setM_some {α : Type} {xs ys : List α} {i : Int} {x : α} (h : setM xs i x = some ys) : ∃ j, ixN xs.length i = some j ∧ ys = xs.set j x := by
  unfold setM at h
  cases e : ixN xs.length i with
  | none => rw [e] at h; cases h
  | some j => rw [e] at h; exact ⟨j, rfl, (Option.some.inj h).symm⟩
theorem atI_map {α β : Type} (f : α → β) (xs : List α) (i : Int) : atI (xs.map f) i = (atI xs i).map f := by
  unfold atI
  rw [List.length_map]
  cases ixN xs.length i with
  | none => rfl
  | some j => simp
theorem cutL_map {α β : Type} (f : α → β) (xs : List α) (lo hi : Option Int) : cutL (xs.map f) lo hi = (cutL xs lo hi).map f := by
  unfold cutL
  simp [List.map_take, List.map_drop]
theorem bnd {α β : Type} {a : Option α} {f : α → Option β} {r : β} (h : a.bind f = some r) : ∃ x, a = some x ∧ f x = some r := by
  cases a with
  | none => cases h
  | some x => exact ⟨x, rfl, h⟩
theorem lt {α β : Type} {a : α} {f : α → Option β} {r : β} (h : letM a f = some r) : ∃ x, a = x ∧ f x = some r := ⟨a, rfl, h⟩
theorem sm {α : Type} {x y : α} (h : some x = some y) : x = y := Option.some.inj h

/-! triples -/
def Ev (te : TE) (σ : St) (F : Hp) (cs : Cs) (Φ : V → Hp → Prop) (cs' : Cs) : Prop :=
  ∀ F1 H1, Gr F F1 → Sta F1 cs H1 → ∀ Q : VK, (∀ v F2 H2, Gr F1 F2 → Sta F2 cs' H2 → Φ v F2 → Q v H2) → te σ H1 Q
def EvT (tt : TT) (σ : St) (F : Hp) (cs : Cs) (b : Bool) (cs' : Cs) : Prop :=
  ∀ F1 H1, Gr F F1 → Sta F1 cs H1 → ∀ Q : Bool → Hp → Prop, (∀ F2 H2, Gr F1 F2 → Sta F2 cs' H2 → Q b H2) → tt σ H1 Q
def EvA (ta : TA) (σ : St) (F : Hp) (cs : Cs) (Φ : List V → Hp → Prop) (cs' : Cs) : Prop :=
  ∀ F1 H1, Gr F F1 → Sta F1 cs H1 → ∀ Q : List V → Hp → Prop, (∀ vs F2 H2, Gr F1 F2 → Sta F2 cs' H2 → Φ vs F2 → Q vs H2) → ta σ H1 Q
def EvO (to : TO) (σ : St) (F : Hp) (cs : Cs) (o : Option Int) (cs' : Cs) : Prop :=
  ∀ F1 H1, Gr F F1 → Sta F1 cs H1 → ∀ Q : Option Int → Hp → Prop, (∀ F2 H2, Gr F1 F2 → Sta F2 cs' H2 → Q o H2) → to σ H1 Q
abbrev EvD (K : PySem.W.Frag) (te : TE) (σ : St) (F : Hp) (cs : Cs) (d : PyData) (cs' : Cs) : Prop := Ev te σ F cs (fun v F' => Dt K F' v d) cs'
abbrev EvDs (K : PySem.W.Frag) (ta : TA) (σ : St) (F : Hp) (cs : Cs) (ds : List PyData) (cs' : Cs) : Prop := EvA ta σ F cs (fun vs F' => Dts K F' vs ds) cs'
def Src (K : PySem.W.Frag) (J : It) (F : Hp) (ds : List PyData) : Prop := ∀ F1 c1 H1, Gr F F1 → Sta F1 c1 H1 →
  (∀ i, i < ds.length → J.go i H1) ∧ J.stop ds.length H1 ∧ ∀ i v H2 d, ds[i]? = some d → J.yld i H1 v H2 → ∃ F2, Gr F1 F2 ∧ Sta F2 c1 H2 ∧ Dt K F2 v d
def EvI (K : PySem.W.Frag) (wi : TI) (σ : St) (F : Hp) (cs : Cs) (ds : List PyData) (cs' : Cs) : Prop :=
  ∀ F1 H1, Gr F F1 → Sta F1 cs H1 → ∀ R : It → Hp → Prop, (∀ J F2 H2, Gr F1 F2 → Sta F2 cs' H2 → Src K J F2 ds → R J H2) → wi σ H1 R
section
variable {K : PySem.W.Frag} {σ : St} {F F' : Hp} {cs cs1 cs2 cs3 : Cs} {ta tb tc te : TE} {d e : PyData} {as : TA}
theorem Ev.gr {Φ : V → Hp → Prop} (g : Gr F F') (h : Ev te σ F cs Φ cs1) : Ev te σ F' cs Φ cs1 := fun F1 H1 g1 s Q q => h F1 H1 (g.tr g1) s Q q
theorem d_is (h : EvD K te σ F cs d cs1) (q : d = e) : EvD K te σ F cs e cs1 := q ▸ h
theorem d_var {i : Nat} {v : V} (h : σ[i]? = some (some v)) (hd : Dt K F v d) : EvD K (tVar i) σ F cs d cs := fun F1 H1 g s Q q => ⟨v, h, q v F1 H1 .rfl s (Dt.gr g hd)⟩
theorem d_int {i : Int} : EvD K (tC (.int i)) σ F cs (.int i) cs := fun F1 H1 g s Q q => q _ F1 H1 .rfl s (.int i)
theorem d_bl {b : Bool} : EvD K (tC (.bl b)) σ F cs (.bool b) cs := fun F1 H1 g s Q q => q _ F1 H1 .rfl s (.bl b)
theorem d_str {x : Str} : EvD K (tC (.str x)) σ F cs (.str x) cs := fun F1 H1 g s Q q => q _ F1 H1 .rfl s (.str x)
theorem d_non : EvD K (tC .non) σ F cs .none cs := fun F1 H1 g s Q q => q _ F1 H1 .rfl s .non
/-- two operands -/
theorem d_op {r : R2} {z : PyData} (ha : EvD K ta σ F cs d cs1) (hb : EvD K tb σ F cs1 e cs2) (hr : ∀ x y F2 H2, Dt K F2 x d → Dt K F2 y e → Sta F2 cs2 H2 → Gr F F2 → ∀ Q : VK, (∀ v F3 H3, Gr F2 F3 → Sta F3 cs3 H3 → Dt K F3 v z → Q v H3) → r x y H2 Q) : EvD K (tOp r ta tb) σ F cs z cs3 := fun F1 H1 g1 s Q q =>
  ha F1 H1 g1 s _ fun v F2 H2 g2 s2 h2 => hb F2 H2 (g1.tr g2) s2 _ fun w F3 H3 g3 s3 h3 => hr v w F3 H3 (Dt.gr g3 h2) h3 s3 ((g1.tr g2).tr g3) Q fun v F4 H4 g4 s4 h4 => q v F4 H4 ((g2.tr g3).tr g4) s4 h4
theorem d_I0 {g : Int → Int → V} {a b : Int} {z : PyData} (ha : EvD K ta σ F cs (.int a) cs1) (hb : EvD K tb σ F cs1 (.int b) cs2) (hz : ∀ F, Dt K F (g a b) z) : EvD K (tOp (rI0 g) ta tb) σ F cs z cs2 :=
  d_op ha hb fun x y F2 H2 hx hy s _ Q q => by
    cases hx.toInt; cases hy.toInt
    exact ⟨a, b, rfl, rfl, q _ F2 H2 .rfl s (hz _)⟩
theorem d_I {C : Int → Int → Prop} {g : Int → Int → V} {a b : Int} {z : PyData} (ha : EvD K ta σ F cs (.int a) cs1) (hb : EvD K tb σ F cs1 (.int b) cs2) (hc : C a b) (hz : ∀ F, Dt K F (g a b) z) : EvD K (tOp (rI C g) ta tb) σ F cs z cs2 :=
  d_op ha hb fun x y F2 H2 hx hy s _ Q q => by
    cases hx.toInt; cases hy.toInt
    exact ⟨a, b, rfl, rfl, hc, q _ F2 H2 .rfl s (hz _)⟩
variable {a b c : Int}
theorem d_add (ha : EvD K ta σ F cs (.int a) cs1) (hb : EvD K tb σ F cs1 (.int b) cs2) : EvD K (tOp (rI0 fun i j => .int (i + j)) ta tb) σ F cs (.int (a + b)) cs2 := d_I0 ha hb fun _ => .int _
theorem d_sub (ha : EvD K ta σ F cs (.int a) cs1) (hb : EvD K tb σ F cs1 (.int b) cs2) : EvD K (tOp (rI0 fun i j => .int (i - j)) ta tb) σ F cs (.int (a - b)) cs2 := d_I0 ha hb fun _ => .int _
theorem d_lt (ha : EvD K ta σ F cs (.int a) cs1) (hb : EvD K tb σ F cs1 (.int b) cs2) : EvD K (tOp (rI0 fun i j => .bl (decide (i < j))) ta tb) σ F cs (.bool (decide (a < b))) cs2 := d_I0 ha hb fun _ => .bl _
theorem d_le (ha : EvD K ta σ F cs (.int a) cs1) (hb : EvD K tb σ F cs1 (.int b) cs2) : EvD K (tOp (rI0 fun i j => .bl (decide (i ≤ j))) ta tb) σ F cs (.bool (decide (a ≤ b))) cs2 := d_I0 ha hb fun _ => .bl _
theorem d_gt (ha : EvD K ta σ F cs (.int a) cs1) (hb : EvD K tb σ F cs1 (.int b) cs2) : EvD K (tOp (rI0 fun i j => .bl (decide (j < i))) ta tb) σ F cs (.bool (decide (b < a))) cs2 := d_I0 ha hb fun _ => .bl _
theorem d_ge (ha : EvD K ta σ F cs (.int a) cs1) (hb : EvD K tb σ F cs1 (.int b) cs2) : EvD K (tOp (rI0 fun i j => .bl (decide (j ≤ i))) ta tb) σ F cs (.bool (decide (b ≤ a))) cs2 := d_I0 ha hb fun _ => .bl _
theorem d_mul (ha : EvD K ta σ F cs (.int a) cs1) (hb : EvD K tb σ F cs1 (.int b) cs2) (hc : mulM a b = some c) : EvD K (tOp (rI CMul fun i j => .int (i * j)) ta tb) σ F cs (.int c) cs2 := (mulM_some hc).2 ▸ d_I ha hb (mulM_some hc).1 fun _ => .int _
theorem d_mod (ha : EvD K ta σ F cs (.int a) cs1) (hb : EvD K tb σ F cs1 (.int b) cs2) (hc : modM a b = some c) : EvD K (tOp (rI (fun _ j => 0 < j) fun i j => .int (i % j)) ta tb) σ F cs (.int c) cs2 := (modM_some hc).2 ▸ d_I (C := fun _ j => 0 < j) ha hb (modM_some hc).1 fun _ => .int _
theorem d_fdiv (ha : EvD K ta σ F cs (.int a) cs1) (hb : EvD K tb σ F cs1 (.int b) cs2) (hc : fdivM a b = some c) : EvD K (tOp (rI CDiv fun i j => .int (i / j)) ta tb) σ F cs (.int c) cs2 := (fdivM_some hc).2 ▸ d_I ha hb (fdivM_some hc).1 fun _ => .int _
theorem d_pow (ha : EvD K ta σ F cs (.int a) cs1) (hb : EvD K tb σ F cs1 (.int b) cs2) (hc : powM a b = some c) : EvD K (tOp (rI CPow fun i j => .int (i ^ j.toNat)) ta tb) σ F cs (.int c) cs2 := (powM_some hc).2 ▸ d_I ha hb (powM_some hc).1 fun _ => .int _
theorem d_neg (ha : EvD K ta σ F cs (.int a) cs1) : EvD K (tUn (rU fun i => .int (-i)) ta) σ F cs (.int (-a)) cs1 := fun F1 H1 g1 s Q q =>
  ha F1 H1 g1 s _ fun v F2 H2 g2 s2 h2 => ⟨a, h2.toInt, q _ F2 H2 g2 s2 (.int _)⟩
/-- arguments -/
theorem a_nil : EvDs K tNil σ F cs [] cs := fun F1 H1 g s Q q => q [] F1 H1 .rfl s .nil
theorem a_cons {tr : TA} {ds : List PyData} (h : EvD K ta σ F cs d cs1) (hr : EvDs K tr σ F cs1 ds cs2) : EvDs K (tCons ta tr) σ F cs (d :: ds) cs2 := fun F1 H1 g1 s Q q =>
  h F1 H1 g1 s _ fun v F2 H2 g2 s2 h2 => hr F2 H2 (g1.tr g2) s2 _ fun vs F3 H3 g3 s3 h3 => q (v :: vs) F3 H3 (g2.tr g3) s3 (.cons (Dt.gr g3 h2) h3)
/-- a built-in's call -/
theorem d_cb {r : List V → Hp → VK → Prop} {ds : List PyData} {z : PyData} (ha : EvDs K as σ F cs ds cs1) (hr : ∀ vs F2 H2, Dts K F2 vs ds → Sta F2 cs1 H2 → ∀ Q : VK, (∀ v F3 H3, Gr F2 F3 → Sta F3 cs1 H3 → Dt K F3 v z → Q v H3) → r vs H2 Q) : EvD K (tCB r as) σ F cs z cs1 := fun F1 H1 g1 s Q q =>
  ha F1 H1 g1 s _ fun vs F2 H2 g2 s2 h2 => hr vs F2 H2 h2 s2 Q fun v F3 H3 g3 s3 h3 => q v F3 H3 (g2.tr g3) s3 h3
theorem d_abs (ha : EvDs K as σ F cs [.int a] cs1) : EvD K (tCB (fun xs H Q => ∃ i, xs = [.int i] ∧ Q (.int (if i < 0 then -i else i)) H) as) σ F cs (.int (absI a)) cs1 := d_cb ha fun vs F2 H2 h s Q q => by
  obtain ⟨v, rfl, k1⟩ := h.one; cases k1.toInt
  exact ⟨a, rfl, q _ F2 H2 .rfl s (.int _)⟩
theorem d_max2 (ha : EvDs K as σ F cs [.int a, .int b] cs1) : EvD K (tCB (fun xs H Q => ∃ i j, xs = [.int i, .int j] ∧ Q (.int (if j > i then j else i)) H) as) σ F cs (.int (maxI a b)) cs1 := d_cb ha fun vs F2 H2 h s Q q => by
  obtain ⟨v, w, rfl, k1, k2⟩ := h.two; cases k1.toInt; cases k2.toInt
  exact ⟨a, b, rfl, q _ F2 H2 .rfl s (.int _)⟩
theorem d_min2 (ha : EvDs K as σ F cs [.int a, .int b] cs1) : EvD K (tCB (fun xs H Q => ∃ i j, xs = [.int i, .int j] ∧ Q (.int (if j < i then j else i)) H) as) σ F cs (.int (minI a b)) cs1 := d_cb ha fun vs F2 H2 h s Q q => by
  obtain ⟨v, w, rfl, k1, k2⟩ := h.two; cases k1.toInt; cases k2.toInt
  exact ⟨a, b, rfl, q _ F2 H2 .rfl s (.int _)⟩
theorem d_lenL {ds : List PyData} (ha : EvDs K as σ F cs [.list ds] cs1) : EvD K (tCB (fun xs H Q => ∃ p ys, xs = [.ref p] ∧ (SqL K H p ys ∨ SqT K H p ys) ∧ Q (.int ys.length) H) as) σ F cs (.int ds.length) cs1 := d_cb ha fun vs F2 H2 h s Q q => by
  obtain ⟨v, rfl, k1⟩ := h.one
  obtain ⟨p, ys, rfl, hl, hd⟩ := k1.toLst
  exact ⟨p, ys, rfl, .inl (gr_L s.fr hl), q _ F2 H2 .rfl s (by rw [hd.len]; exact .int _)⟩
theorem d_len {α : Type} {e : α → PyData} {xs : List α} (ha : EvDs K as σ F cs [eL e xs] cs1) : EvD K (tCB (fun xs H Q => ∃ p ys, xs = [.ref p] ∧ (SqL K H p ys ∨ SqT K H p ys) ∧ Q (.int ys.length) H) as) σ F cs (.int xs.length) cs1 := by
  have := d_lenL ha
  rw [List.length_map] at this
  exact this
theorem d_lenT {ds : List PyData} (ha : EvDs K as σ F cs [.tuple ds] cs1) : EvD K (tCB (fun xs H Q => ∃ p ys, xs = [.ref p] ∧ (SqL K H p ys ∨ SqT K H p ys) ∧ Q (.int ys.length) H) as) σ F cs (.int ds.length) cs1 := d_cb ha fun vs F2 H2 h s Q q => by
  obtain ⟨v, rfl, k1⟩ := h.one
  obtain ⟨p, ys, rfl, hl, hd⟩ := k1.toTup
  exact ⟨p, ys, rfl, .inr (gr_T s.fr hl), q _ F2 H2 .rfl s (by rw [hd.len]; exact .int _)⟩
theorem d_lenS {x : Str} {n : Int} (ha : EvDs K as σ F cs [.str x] cs1) (hn : lenS x = some n) : EvD K (tCB (fun xs H Q => ∃ z, xs = [.str z] ∧ z.length ≤ sizeLine ∧ Q (.int z.length) H) as) σ F cs (.int n) cs1 := d_cb ha fun vs F2 H2 h s Q q => by
  obtain ⟨v, rfl, k1⟩ := h.one; cases k1.toStr
  obtain ⟨h1, rfl⟩ := lenS_some hn
  exact ⟨x, rfl, sz h1, q _ F2 H2 .rfl s (.int _)⟩
theorem d_intB {b : Bool} (ha : EvDs K as σ F cs [.bool b] cs1) : EvD K (tCB (fun xs H Q => (∃ i, xs = [.int i] ∧ Q (.int i) H) ∨ ∃ k, xs = [.bl k] ∧ Q (.int (if k then 1 else 0)) H) as) σ F cs (.int (b2I b)) cs1 := d_cb ha fun vs F2 H2 h s Q q => by
  obtain ⟨v, rfl, k1⟩ := h.one; cases k1.toBl
  exact .inr ⟨b, rfl, q _ F2 H2 .rfl s (.int _)⟩
theorem d_strI {x : Str} (ha : EvDs K as σ F cs [.int a] cs1) (hn : strM a = some x) : EvD K (tCB (fun xs H Q => ∃ i, xs = [.int i] ∧ i.natAbs.log2 < 1920 ∧ Q (.str (toString i)) H) as) σ F cs (.str x) cs1 := d_cb ha fun vs F2 H2 h s Q q => by
  obtain ⟨v, rfl, k1⟩ := h.one; cases k1.toInt
  obtain ⟨h1, rfl⟩ := strM_some hn
  exact ⟨a, rfl, h1, q _ F2 H2 .rfl s (.str _)⟩
theorem d_sum {xs : List Int} (ha : EvDs K as σ F cs [eL eI xs] cs1) : EvD K (tCB (rSum K) as) σ F cs (.int xs.sum) cs1 := d_cb ha fun vs F2 H2 h s Q q => by
  obtain ⟨v, rfl, k1⟩ := h.one
  obtain ⟨p, ys, rfl, hl, hd⟩ := k1.toLst
  cases hd.ints
  exact ⟨p, xs, rfl, gr_L s.fr hl, q _ F2 H2 .rfl s (.int _)⟩
theorem d_all {xs : List Bool} (ha : EvDs K as σ F cs [eL eB xs] cs1) : EvD K (tCB (rAll K) as) σ F cs (.bool (xs.all id)) cs1 := d_cb ha fun vs F2 H2 h s Q q => by
  obtain ⟨v, rfl, k1⟩ := h.one
  obtain ⟨p, ys, rfl, hl, hd⟩ := k1.toLst
  cases hd.bls
  exact ⟨p, xs, rfl, gr_L s.fr hl, q _ F2 H2 .rfl s (.bl _)⟩
theorem d_any {xs : List Bool} (ha : EvDs K as σ F cs [eL eB xs] cs1) : EvD K (tCB (rAny K) as) σ F cs (.bool (xs.any id)) cs1 := d_cb ha fun vs F2 H2 h s Q q => by
  obtain ⟨v, rfl, k1⟩ := h.one
  obtain ⟨p, ys, rfl, hl, hd⟩ := k1.toLst
  cases hd.bls
  exact ⟨p, xs, rfl, gr_L s.fr hl, q _ F2 H2 .rfl s (.bl _)⟩
theorem d_listL {ds : List PyData} (ha : EvDs K as σ F cs [.list ds] cs1) : EvD K (tCB (fun xs H Q => ∃ p ys, xs = [.ref p] ∧ (SqL K H p ys ∨ SqT K H p ys) ∧ ∀ l, H l = none → Q (.ref l) (upd H l (.lst ys))) as) σ F cs (.list ds) cs1 := d_cb ha fun vs F2 H2 h s Q q => by
  obtain ⟨v, rfl, k1⟩ := h.one
  obtain ⟨p, ys, rfl, hl, hd⟩ := k1.toLst
  exact ⟨p, ys, rfl, .inl (gr_L s.fr hl), fun l nl => q _ _ _ (Gr.new (s.fr.back nl)) (s.lay nl) (.lst (.inl (.inl upd_same)) (hd.gr (Gr.new (s.fr.back nl))))⟩
/-- a new list, a new tuple -/
theorem d_lst {ds : List PyData} (h : EvDs K as σ F cs ds cs1) (hl : ds.length ≤ 100000) : EvD K (tLst as) σ F cs (.list ds) cs1 := fun F1 H1 g1 s Q q =>
  h F1 H1 g1 s _ fun vs F2 H2 g2 s2 h2 => ⟨h2.len.symm ▸ sz hl, fun p hp => q _ _ _ (g2.tr (Gr.new (s2.fr.back hp))) (s2.lay hp) (.lst (.inl (.inl upd_same)) (h2.gr (Gr.new (s2.fr.back hp))))⟩
theorem d_tup {ds : List PyData} (h : EvDs K as σ F cs ds cs1) (hl : ds.length ≤ 100000) : EvD K (tTup as) σ F cs (.tuple ds) cs1 := fun F1 H1 g1 s Q q =>
  h F1 H1 g1 s _ fun vs F2 H2 g2 s2 h2 => ⟨h2.len.symm ▸ sz hl, fun p hp => q _ _ _ (g2.tr (Gr.new (s2.fr.back hp))) (s2.lay hp) (.tup (.inl (.inl upd_same)) (h2.gr (Gr.new (s2.fr.back hp))))⟩
/-- items -/
theorem d_ixLs {ds : List PyData} {z : PyData} (ha : EvD K ta σ F cs (.list ds) cs1) (hb : EvD K tb σ F cs1 (.int b) cs2) (hz : atI ds b = some z) : EvD K (tOp (rIxL K) ta tb) σ F cs z cs2 :=
  d_op ha hb fun x y F2 H2 hx hy s _ Q q => by
    obtain ⟨p, vs, rfl, hl, hd⟩ := hx.toLst; cases hy.toInt
    unfold atI at hz
    rw [← hd.len] at hz
    cases e : ixN vs.length b with
    | none => rw [e] at hz; cases hz
    | some j =>
      rw [e] at hz
      obtain ⟨v, h1, h2⟩ := hd.get2 (show ds[j]? = some z from hz)
      exact ⟨p, vs, b, v, rfl, rfl, gr_L s.fr hl, by unfold atI; rw [e]; exact h1, q v F2 H2 .rfl s h2⟩
theorem d_ix {α : Type} {e : α → PyData} {xs : List α} {x : α} (ha : EvD K ta σ F cs (eL e xs) cs1) (hb : EvD K tb σ F cs1 (.int b) cs2) (hz : atI xs b = some x) : EvD K (tOp (rIxL K) ta tb) σ F cs (e x) cs2 :=
  d_ixLs ha hb (by rw [atI_map, hz]; rfl)
theorem d_ixT {ds : List PyData} {z : PyData} (ha : EvD K ta σ F cs (.tuple ds) cs1) (hb : EvD K tb σ F cs1 (.int b) cs2) (hz : atI ds b = some z) : EvD K (tOp (rIxT K) ta tb) σ F cs z cs2 :=
  d_op ha hb fun x y F2 H2 hx hy s _ Q q => by
    obtain ⟨p, vs, rfl, hl, hd⟩ := hx.toTup; cases hy.toInt
    unfold atI at hz
    rw [← hd.len] at hz
    cases e : ixN vs.length b with
    | none => rw [e] at hz; cases hz
    | some j =>
      rw [e] at hz
      obtain ⟨v, h1, h2⟩ := hd.get2 (show ds[j]? = some z from hz)
      exact ⟨p, vs, b, v, rfl, rfl, gr_T s.fr hl, by unfold atI; rw [e]; exact h1, q v F2 H2 .rfl s h2⟩
theorem d_ixS {x z : Str} (ha : EvD K ta σ F cs (.str x) cs1) (hb : EvD K tb σ F cs1 (.int b) cs2) (hz : ixS x b = some z) : EvD K (tOp rIxS ta tb) σ F cs (.str z) cs2 :=
  d_op ha hb fun v y F2 H2 hx hy s _ Q q => by
    cases hx.toStr; cases hy.toInt
    obtain ⟨h1, c, h2, rfl⟩ := ixS_some hz
    exact ⟨x, b, c, rfl, rfl, sz h1, h2, q _ F2 H2 .rfl s (.str _)⟩
/-- slices -/
theorem o_none : EvO tNoPart σ F cs none cs := fun F1 H1 g s Q q => q F1 H1 .rfl s
theorem o_some (h : EvD K te σ F cs (.int a) cs1) : EvO (tPart te) σ F cs (some a) cs1 := fun F1 H1 g1 s Q q => h F1 H1 g1 s _ fun v F2 H2 g2 s2 h2 => ⟨a, h2.toInt, q F2 H2 g2 s2⟩
theorem d_sl {α : Type} {e : α → PyData} {xs : List α} {tl th : TO} {lo hi : Option Int} (h : EvD K te σ F cs (eL e xs) cs1) (h1 : EvO tl σ F cs1 lo cs2) (h2 : EvO th σ F cs2 hi cs3) : EvD K (tSl (rSlL K) te tl th) σ F cs (eL e (cutL xs lo hi)) cs3 := fun F1 H1 g1 s Q q =>
  h F1 H1 g1 s _ fun v F2 H2 g2 s2 hv => h1 F2 H2 (g1.tr g2) s2 _ fun F3 H3 g3 s3 => h2 F3 H3 ((g1.tr g2).tr g3) s3 _ fun F4 H4 g4 s4 => by
    obtain ⟨p, vs, rfl, hl, hd⟩ := hv.toLst
    have hd' := hd.gr (g3.tr g4)
    refine ⟨p, vs, rfl, gr_L s4.fr (gr_L (g3.tr g4) hl), fun l nl => q _ _ _ ((g2.tr (g3.tr g4)).tr (Gr.new (s4.fr.back nl))) (s4.lay nl) (.lst (.inl (.inl upd_same)) ?_)⟩
    rw [← cutL_map]
    unfold cutV cutL
    rw [hd.len]
    exact ((hd'.gr (Gr.new (s4.fr.back nl))).drop _).take _
/-- == of flat things -/
theorem dec_V {α : Type} [DecidableEq α] {f : α → V} (hf : ∀ x y, f x = f y → x = y) (x y : α) : decide (f x = f y) = decide (x = y) := by
  by_cases h : x = y
  · subst h; simp
  · rw [decide_eq_false h, decide_eq_false (fun q => h (hf x y q))]
theorem d_eqI (ha : EvD K ta σ F cs (.int a) cs1) (hb : EvD K tb σ F cs1 (.int b) cs2) : EvD K (tOp rEq ta tb) σ F cs (.bool (decide (a = b))) cs2 :=
  d_op ha hb fun x y F2 H2 hx hy s _ Q q => by
    cases hx.toInt; cases hy.toInt
    exact ⟨rfl, q _ F2 H2 .rfl s (by rw [dec_V (f := V.int) (fun _ _ h => V.int.inj h)]; exact .bl _)⟩
theorem d_neI (ha : EvD K ta σ F cs (.int a) cs1) (hb : EvD K tb σ F cs1 (.int b) cs2) : EvD K (tOp rNe ta tb) σ F cs (.bool (!decide (a = b))) cs2 :=
  d_op ha hb fun x y F2 H2 hx hy s _ Q q => by
    cases hx.toInt; cases hy.toInt
    exact ⟨rfl, q _ F2 H2 .rfl s (by rw [dec_V (f := V.int) (fun _ _ h => V.int.inj h)]; exact .bl _)⟩
theorem d_eqS {x y : Str} (ha : EvD K ta σ F cs (.str x) cs1) (hb : EvD K tb σ F cs1 (.str y) cs2) : EvD K (tOp rEq ta tb) σ F cs (.bool (decide (x = y))) cs2 :=
  d_op ha hb fun _ _ F2 H2 hx hy s _ Q q => by
    cases hx.toStr; cases hy.toStr
    exact ⟨rfl, q _ F2 H2 .rfl s (by rw [dec_V (f := V.str) (fun _ _ h => V.str.inj h)]; exact .bl _)⟩
theorem d_neS {x y : Str} (ha : EvD K ta σ F cs (.str x) cs1) (hb : EvD K tb σ F cs1 (.str y) cs2) : EvD K (tOp rNe ta tb) σ F cs (.bool (!decide (x = y))) cs2 :=
  d_op ha hb fun _ _ F2 H2 hx hy s _ Q q => by
    cases hx.toStr; cases hy.toStr
    exact ⟨rfl, q _ F2 H2 .rfl s (by rw [dec_V (f := V.str) (fun _ _ h => V.str.inj h)]; exact .bl _)⟩
theorem d_eqB {x y : Bool} (ha : EvD K ta σ F cs (.bool x) cs1) (hb : EvD K tb σ F cs1 (.bool y) cs2) : EvD K (tOp rEq ta tb) σ F cs (.bool (decide (x = y))) cs2 :=
  d_op ha hb fun _ _ F2 H2 hx hy s _ Q q => by
    cases hx.toBl; cases hy.toBl
    exact ⟨rfl, q _ F2 H2 .rfl s (by rw [dec_V (f := V.bl) (fun _ _ h => V.bl.inj h)]; exact .bl _)⟩
theorem d_neB {x y : Bool} (ha : EvD K ta σ F cs (.bool x) cs1) (hb : EvD K tb σ F cs1 (.bool y) cs2) : EvD K (tOp rNe ta tb) σ F cs (.bool (!decide (x = y))) cs2 :=
  d_op ha hb fun _ _ F2 H2 hx hy s _ Q q => by
    cases hx.toBl; cases hy.toBl
    exact ⟨rfl, q _ F2 H2 .rfl s (by rw [dec_V (f := V.bl) (fun _ _ h => V.bl.inj h)]; exact .bl _)⟩
/-- == of data -/
theorem d_eqD (ha : EvD K ta σ F cs d cs1) (hb : EvD K tb σ F cs1 e cs2) (h1 : SeqAt.shaped d = true) (h2 : SeqAt.shaped e = true) : EvD K (tOp (rEqD K) ta tb) σ F cs (.bool (PyData.eqv d e)) cs2 :=
  d_op ha hb fun x y F2 H2 hx hy s _ Q q => ⟨d, e, (hx.gr s.fr).dp (SeqAt.canLay_of_shaped h1), (hy.gr s.fr).dp (SeqAt.canLay_of_shaped h2), h1, h2, q _ F2 H2 .rfl s (.bl _)⟩
theorem d_neD (ha : EvD K ta σ F cs d cs1) (hb : EvD K tb σ F cs1 e cs2) (h1 : SeqAt.shaped d = true) (h2 : SeqAt.shaped e = true) : EvD K (tOp (rNeD K) ta tb) σ F cs (.bool (!PyData.eqv d e)) cs2 :=
  d_op ha hb fun x y F2 H2 hx hy s _ Q q => ⟨d, e, (hx.gr s.fr).dp (SeqAt.canLay_of_shaped h1), (hy.gr s.fr).dp (SeqAt.canLay_of_shaped h2), h1, h2, q _ F2 H2 .rfl s (.bl _)⟩
/-- texts -/
theorem d_scat {x y z : Str} (ha : EvD K ta σ F cs (.str x) cs1) (hb : EvD K tb σ F cs1 (.str y) cs2) (hz : scatM x y = some z) : EvD K (tOp (fun x y H Q => ∃ i j, x = .str i ∧ y = .str j ∧ i.length + j.length ≤ sizeLine ∧ Q (.str (i ++ j)) H) ta tb) σ F cs (.str z) cs2 :=
  d_op ha hb fun _ _ F2 H2 hx hy s _ Q q => by
    cases hx.toStr; cases hy.toStr
    obtain ⟨h1, rfl⟩ := scatM_some hz
    exact ⟨x, y, rfl, rfl, sz h1, q _ F2 H2 .rfl s (.str _)⟩
theorem d_inS {x y : Str} (ha : EvD K ta σ F cs (.str x) cs1) (hb : EvD K tb σ F cs1 (.str y) cs2) : EvD K (tOp (fun x y H Q => ∃ i j, x = .str i ∧ y = .str j ∧ Q (.bl (!(Builtin.Str.occurrences j i 0 j.length 1).isEmpty)) H) ta tb) σ F cs (.bool (inS x y)) cs2 :=
  d_op ha hb fun _ _ F2 H2 hx hy s _ Q q => by
    cases hx.toStr; cases hy.toStr
    exact ⟨x, y, rfl, rfl, q _ F2 H2 .rfl s (.bl _)⟩
theorem d_notinS {x y : Str} (ha : EvD K ta σ F cs (.str x) cs1) (hb : EvD K tb σ F cs1 (.str y) cs2) : EvD K (tOp (fun x y H Q => ∃ i j, x = .str i ∧ y = .str j ∧ Q (.bl (!(!(Builtin.Str.occurrences j i 0 j.length 1).isEmpty))) H) ta tb) σ F cs (.bool (!inS x y)) cs2 :=
  d_op ha hb fun _ _ F2 H2 hx hy s _ Q q => by
    cases hx.toStr; cases hy.toStr
    exact ⟨x, y, rfl, rfl, q _ F2 H2 .rfl s (.bl _)⟩
/-- tests -/
theorem t_test {b : Bool} (h : EvD K te σ F cs (.bool b) cs1) : EvT (tTest te) σ F cs b cs1 := fun F1 H1 g1 s Q q =>
  h F1 H1 g1 s _ fun v F2 H2 g2 s2 h2 => ⟨b, h2.toBl, q F2 H2 g2 s2⟩
theorem t_B {b : Bool} (h : EvD K te σ F cs (.bool b) cs1) : EvT (tB te) σ F cs b cs1 := fun F1 H1 g1 s Q q =>
  h F1 H1 g1 s _ fun v F2 H2 g2 s2 h2 => ⟨b, h2.toBl, q F2 H2 g2 s2⟩
theorem t_not {t : TT} {b : Bool} (h : EvT t σ F cs b cs1) : EvT (tNot t) σ F cs (!b) cs1 := fun F1 H1 g1 s Q q => h F1 H1 g1 s _ fun F2 H2 g2 s2 => q F2 H2 g2 s2
theorem t_and {t u : TT} {a b r : Bool} (h1 : EvT t σ F cs a cs1) (h2 : a = true → EvT u σ F cs1 b cs1) (h3 : a = true → r = b) (h4 : a = false → r = false) : EvT (tAnd t u) σ F cs r cs1 := fun F1 H1 g1 s Q q => h1 F1 H1 g1 s _ fun F2 H2 g2 s2 => by
  cases a with
  | true => rw [h3 rfl] at q; exact h2 rfl F2 H2 (g1.tr g2) s2 Q fun F3 H3 g3 s3 => q F3 H3 (g2.tr g3) s3
  | false => rw [h4 rfl] at q; exact q F2 H2 g2 s2
theorem t_or {t u : TT} {a b r : Bool} (h1 : EvT t σ F cs a cs1) (h2 : a = false → EvT u σ F cs1 b cs1) (h3 : a = false → r = b) (h4 : a = true → r = true) : EvT (tOr t u) σ F cs r cs1 := fun F1 H1 g1 s Q q => h1 F1 H1 g1 s _ fun F2 H2 g2 s2 => by
  cases a with
  | false => rw [h3 rfl] at q; exact h2 rfl F2 H2 (g1.tr g2) s2 Q fun F3 H3 g3 s3 => q F3 H3 (g2.tr g3) s3
  | true => rw [h4 rfl] at q; exact q F2 H2 g2 s2
theorem d_andV {a b r : Bool} (h1 : EvD K ta σ F cs (.bool a) cs1) (h2 : a = true → EvD K tb σ F cs1 (.bool b) cs1) (h3 : a = true → r = b) (h4 : a = false → r = false) : EvD K (tAndV ta tb) σ F cs (.bool r) cs1 := fun F1 H1 g1 s Q q => h1 F1 H1 g1 s _ fun v F2 H2 g2 s2 hv => ⟨a, hv.toBl, by
  cases a with
  | true => rw [h3 rfl] at q; exact h2 rfl F2 H2 (g1.tr g2) s2 Q fun v F3 H3 g3 s3 k => q v F3 H3 (g2.tr g3) s3 k
  | false => rw [h4 rfl] at q; exact q _ F2 H2 g2 s2 (.bl _)⟩
theorem d_orV {a b r : Bool} (h1 : EvD K ta σ F cs (.bool a) cs1) (h2 : a = false → EvD K tb σ F cs1 (.bool b) cs1) (h3 : a = false → r = b) (h4 : a = true → r = true) : EvD K (tOrV ta tb) σ F cs (.bool r) cs1 := fun F1 H1 g1 s Q q => h1 F1 H1 g1 s _ fun v F2 H2 g2 s2 hv => ⟨a, hv.toBl, by
  cases a with
  | false => rw [h3 rfl] at q; exact h2 rfl F2 H2 (g1.tr g2) s2 Q fun v F3 H3 g3 s3 k => q v F3 H3 (g2.tr g3) s3 k
  | true => rw [h4 rfl] at q; exact q _ F2 H2 g2 s2 (.bl _)⟩
theorem d_notV {a : Bool} (h : EvD K ta σ F cs (.bool a) cs1) : EvD K (tNotV ta) σ F cs (.bool (!a)) cs1 := fun F1 H1 g1 s Q q => h F1 H1 g1 s _ fun v F2 H2 g2 s2 hv => ⟨a, hv.toBl, q _ F2 H2 g2 s2 (.bl _)⟩
theorem d_ifE {t : TT} {a : Bool} (h : EvT t σ F cs a cs1) (h1 : a = true → EvD K ta σ F cs1 d cs2) (h2 : a = false → EvD K tb σ F cs1 d cs2) : EvD K (tIf t ta tb) σ F cs d cs2 := fun F1 H1 g1 s Q q => h F1 H1 g1 s _ fun F2 H2 g2 s2 => by
  cases a with
  | true => exact h1 rfl F2 H2 (g1.tr g2) s2 Q fun v F3 H3 g3 s3 k => q v F3 H3 (g2.tr g3) s3 k
  | false => exact h2 rfl F2 H2 (g1.tr g2) s2 Q fun v F3 H3 g3 s3 k => q v F3 H3 (g2.tr g3) s3 k
end
end Bw

namespace Bw
open PySem L2
/-- a new list, which may change -/
def EvC (K : PySem.W.Frag) (te : TE) (σ : St) (F : Hp) (cs : Cs) (ds : List PyData) (cs' : Cs) : Prop :=
  ∀ F1 H1, Gr F F1 → Sta F1 cs H1 → ∀ Q : VK, (∀ p vs F2 H2, Gr F1 F2 → Sta F2 ((p, .lst vs) :: cs') H2 → Dts K F2 vs ds → Q (.ref p) H2) → te σ H1 Q
section
variable {K : PySem.W.Frag} {σ : St} {F F' : Hp} {cs cs1 cs2 cs3 : Cs} {ta tb tc te : TE} {d e : PyData} {as : TA} {a b c : Int}
theorem EvC.dd {ds : List PyData} (h : EvC K te σ F cs ds cs1) : EvD K te σ F cs (.list ds) cs1 := fun F1 H1 g1 s Q q => h F1 H1 g1 s Q fun p vs F2 H2 g2 s2 h2 => q _ _ H2 (g2.tr s2.gfr) s2.froze (.lst (.inl (.inl upd_same)) (h2.gr s2.gfr))
theorem c_is {ds es : List PyData} (h : EvC K te σ F cs ds cs1) (q : ds = es) : EvC K te σ F cs es cs1 := q ▸ h
theorem c_lst {ds : List PyData} (h : EvDs K as σ F cs ds cs1) (hl : ds.length ≤ 100000) : EvC K (tLst as) σ F cs ds cs1 := fun F1 H1 g1 s Q q =>
  h F1 H1 g1 s _ fun vs F2 H2 g2 s2 h2 => ⟨h2.len.symm ▸ sz hl, fun p hp => q p vs F2 _ g2 (s2.cell hp) h2⟩
theorem c_list {ds : List PyData} (ha : EvDs K as σ F cs [.list ds] cs1) : EvC K (tCB (fun xs H Q => ∃ p ys, xs = [.ref p] ∧ (SqL K H p ys ∨ SqT K H p ys) ∧ ∀ l, H l = none → Q (.ref l) (upd H l (.lst ys))) as) σ F cs ds cs1 := fun F1 H1 g1 s Q q => ha F1 H1 g1 s _ fun vs F2 H2 g2 s2 h2 => by
  obtain ⟨v, rfl, k⟩ := h2.one
  obtain ⟨p, ys, rfl, hl, hd⟩ := k.toLst
  exact ⟨p, ys, rfl, .inl (gr_L s2.fr hl), fun l nl => q _ _ _ _ g2 (s2.cell nl) hd⟩
theorem c_sl {α : Type} {e : α → PyData} {xs : List α} {tl th : TO} {lo hi : Option Int} (h : EvD K te σ F cs (eL e xs) cs1) (h1 : EvO tl σ F cs1 lo cs2) (h2 : EvO th σ F cs2 hi cs3) : EvC K (tSl (rSlL K) te tl th) σ F cs ((cutL xs lo hi).map e) cs3 := fun F1 H1 g1 s Q q =>
  h F1 H1 g1 s _ fun v F2 H2 g2 s2 hv => h1 F2 H2 (g1.tr g2) s2 _ fun F3 H3 g3 s3 => h2 F3 H3 ((g1.tr g2).tr g3) s3 _ fun F4 H4 g4 s4 => by
    obtain ⟨p, vs, rfl, hl, hd⟩ := hv.toLst
    have hd' := hd.gr (g3.tr g4)
    refine ⟨p, vs, rfl, gr_L s4.fr (gr_L (g3.tr g4) hl), fun l nl => q _ _ _ _ (g2.tr (g3.tr g4)) (s4.cell nl) ?_⟩
    rw [← cutL_map]
    unfold cutV cutL
    rw [hd.len]
    exact (hd'.drop _).take _
/-- list + list, list * int -/
def rCatS (K : PySem.W.Frag) : R2 := fun x y H Q => ∃ l b xs zs, x = .ref l ∧ y = .ref b ∧ SqL K H l xs ∧ SqL K H b zs ∧ xs.length + zs.length ≤ sizeLine ∧ ∀ p, H p = none → Q (.ref p) (upd H p (.lst (xs ++ zs)))
theorem op_catS {X : Cx} : OpR X (binaryOp .Add) (rCatS X.K) := by
  intro pins s σ H x y v u Q I rx ry h
  obtain ⟨l, b, xs, zs, rfl, rfl, hH, hB, hz, q⟩ := h
  cases rx
  cases ry
  obtain ⟨its, r, pl, _⟩ := I.list hH
  obtain ⟨its2, r2, pl2, _⟩ := I.list hB
  have e1 := r.length
  have e2 := r2.length
  obtain ⟨⟨cls, dd, data, sl⟩, ho, hc, n, hd⟩ := pl.isList
  obtain ⟨⟨cls2, dd2, data2, sl2⟩, ho2, hc2, n2, hd2⟩ := pl2.isList
  simp only at hc hd hc2 hd2
  subst hc hd hc2 hd2
  refine PySem.concat_meets ⟨_, ho, rfl⟩ ⟨_, ho2, rfl⟩ PySem.noFill_list_add PySem.seq_list_add PySem.F.slot_list_add PySem.F.entry_list_add (PySem.F.args_list_add_2 _ _)
    (PyProof.Rows.list_addW l b its.toArray its2.toArray n n2 dd dd2 sl sl2 (by simp only [List.size_toArray]; omega)) ⟨ho, ho2, ?_⟩
  rw [show its.toArray ++ its2.toArray = (its ++ its2).toArray by simp]
  exact ⟨.ref _, _, I.lnew (t' := s.toks) (r.append r2) (by rw [List.length_append]; omega), rfl, q _ I.fresh⟩
theorem c_cat {α : Type} {en : α → PyData} {xs ys zs : List α} (ha : EvD K ta σ F cs (eL en xs) cs1) (hb : EvD K tb σ F cs1 (eL en ys) cs2) (hz : catM xs ys = some zs) : EvC K (tOp (rCatS K) ta tb) σ F cs (zs.map en) cs2 := fun F1 H1 g1 s Q q =>
  ha F1 H1 g1 s _ fun v F2 H2 g2 s2 h2 => hb F2 H2 (g1.tr g2) s2 _ fun w F3 H3 g3 s3 h3 => by
    obtain ⟨p, vs, rfl, hl, hd⟩ := (h2.gr g3).toLst
    obtain ⟨p', ws, rfl, hl', hd'⟩ := h3.toLst
    obtain ⟨h4, rfl⟩ := catM_some hz
    refine ⟨p, p', vs, ws, rfl, rfl, gr_L s3.fr hl, gr_L s3.fr hl', ?_, fun l nl => q _ _ _ _ (g2.tr g3) (s3.cell nl) ?_⟩
    · rw [hd.len, hd'.len, List.length_map, List.length_map]; exact sz h4
    · rw [List.map_append]; exact hd.app hd'
theorem c_rep {α : Type} {en : α → PyData} {xs zs : List α} (ha : EvC K ta σ F cs (xs.map en) cs1) (hb : ∀ cs, EvD K tb σ F cs (.int b) cs) (hz : repM xs b = some zs) : EvC K (tOp rRep ta tb) σ F cs (zs.map en) cs1 := fun F1 H1 g1 s Q q =>
  ha F1 H1 g1 s _ fun p vs F2 H2 g2 s2 h2 => hb _ F2 H2 (g1.tr g2) s2 _ fun w F3 H3 g3 s3 h3 => by
    cases h3.toInt
    obtain ⟨⟨h4, h5, h6⟩, rfl⟩ := repM_some hz
    have s4 := s3.froze
    refine ⟨p, b, vs, rfl, rfl, s3.at List.mem_cons_self, h4, h5, ?_, fun l nl => q _ _ _ _ ((g2.tr g3).tr s3.gfr) (s4.cell nl) ?_⟩
    · rw [h2.len, List.length_map]; exact sz h6
    · have := ((h2.gr g3).gr s3.gfr).rep b.toNat
      rw [List.map_flatten, List.map_replicate]
      exact this
/-- x in a list of ints, of texts -/
theorem inV_int (x : Int) (xs : List Int) : inV (.int x) (xs.map V.int) = xs.any (fun y => y == x) := by
  unfold inV
  rw [List.any_map]
  congr 1
theorem inV_str (x : Str) (xs : List Str) : inV (.str x) (xs.map V.str) = xs.any (fun y => y == x) := by
  unfold inV
  rw [List.any_map]
  congr 1
def inL {α : Type} [BEq α] (x : α) (xs : List α) : Bool := xs.any fun y => y == x
theorem flatI (xs : List Int) : (xs.map V.int).all flatV = true := by rw [List.all_map]; exact List.all_eq_true.mpr fun _ _ => rfl
theorem flatS (xs : List Str) : (xs.map V.str).all flatV = true := by rw [List.all_map]; exact List.all_eq_true.mpr fun _ _ => rfl
theorem d_inI {xs : List Int} (ha : EvD K ta σ F cs (.int a) cs1) (hb : EvD K tb σ F cs1 (eL eI xs) cs2) : EvD K (tOp (rIn K false) ta tb) σ F cs (.bool (inL a xs)) cs2 :=
  d_op ha hb fun x y F2 H2 hx hy s _ Q q => by
    cases hx.toInt
    obtain ⟨p, vs, rfl, hl, hd⟩ := hy.toLst
    cases hd.ints
    refine ⟨p, _, rfl, .inl (gr_L s.fr hl), rfl, flatI xs, q _ F2 H2 .rfl s ?_⟩
    rw [inV_int]; exact .bl _
theorem d_ninI {xs : List Int} (ha : EvD K ta σ F cs (.int a) cs1) (hb : EvD K tb σ F cs1 (eL eI xs) cs2) : EvD K (tOp (rIn K true) ta tb) σ F cs (.bool (!inL a xs)) cs2 :=
  d_op ha hb fun x y F2 H2 hx hy s _ Q q => by
    cases hx.toInt
    obtain ⟨p, vs, rfl, hl, hd⟩ := hy.toLst
    cases hd.ints
    refine ⟨p, _, rfl, .inl (gr_L s.fr hl), rfl, flatI xs, q _ F2 H2 .rfl s ?_⟩
    rw [inV_int]; exact .bl _
theorem d_inSs {x : Str} {xs : List Str} (ha : EvD K ta σ F cs (.str x) cs1) (hb : EvD K tb σ F cs1 (eL eS xs) cs2) : EvD K (tOp (rIn K false) ta tb) σ F cs (.bool (inL x xs)) cs2 :=
  d_op ha hb fun _ y F2 H2 hx hy s _ Q q => by
    cases hx.toStr
    obtain ⟨p, vs, rfl, hl, hd⟩ := hy.toLst
    cases hd.strs
    refine ⟨p, _, rfl, .inl (gr_L s.fr hl), rfl, flatS xs, q _ F2 H2 .rfl s ?_⟩
    rw [inV_str]; exact .bl _
theorem d_ninSs {x : Str} {xs : List Str} (ha : EvD K ta σ F cs (.str x) cs1) (hb : EvD K tb σ F cs1 (eL eS xs) cs2) : EvD K (tOp (rIn K true) ta tb) σ F cs (.bool (!inL x xs)) cs2 :=
  d_op ha hb fun _ y F2 H2 hx hy s _ Q q => by
    cases hx.toStr
    obtain ⟨p, vs, rfl, hl, hd⟩ := hy.toLst
    cases hd.strs
    refine ⟨p, _, rfl, .inl (gr_L s.fr hl), rfl, flatS xs, q _ F2 H2 .rfl s ?_⟩
    rw [inV_str]; exact .bl _
/-- sep.join(xs) -/
def joinM (x : Str) (xs : List Str) : Option Str := if ((xs.map (·.length)).sum + x.length * xs.length) ≤ 100000 then some (Txt.join x xs) else none

/-! walks -/
theorem src_list {p : Addr} {vs : List V} {ds : List PyData} (h : SqL K F p vs) (hd : Dts K F vs ds) : Src K (Itl K p) F ds := fun F1 c1 H1 g s => by
  have q : SqL K H1 p vs := gr_L s.fr (gr_L g h)
  refine ⟨fun i hi => ?_, ⟨vs, q, by rw [hd.len]; exact Nat.le_refl _⟩, fun i v H2 d e y => ?_⟩
  · have hi' : i < vs.length := by rw [hd.len]; exact hi
    exact ⟨vs, vs[i], q, List.getElem?_eq_getElem hi'⟩
  · obtain ⟨rfl, y⟩ := y
    obtain ⟨d', e', h'⟩ := hd.get (y vs q)
    rw [e] at e'; cases e'
    exact ⟨F1, .rfl, s, h'.gr g⟩
theorem src_enum {p : Addr} {vs : List V} {ds : List PyData} (h : SqL K F p vs) (hd : Dts K F vs ds) : Src K (Ite K p) F (ds.mapIdx fun i d => .tuple [.int i, d]) := fun F1 c1 H1 g s => by
  have q : SqL K H1 p vs := gr_L s.fr (gr_L g h)
  refine ⟨fun i hi => ?_, ⟨vs, q, by rw [hd.len]; simp⟩, fun i v H2 d e y => ?_⟩
  · have hi' : i < vs.length := by rw [hd.len]; simpa using hi
    exact ⟨vs, vs[i], q, List.getElem?_eq_getElem hi'⟩
  · obtain ⟨T, x, rfl, nT, rfl, y⟩ := y
    obtain ⟨d', e', h'⟩ := hd.get (y vs q)
    rw [List.getElem?_mapIdx, e'] at e
    cases e
    exact ⟨_, Gr.new (s.fr.back nT), s.lay nT, .tup (.inl (.inl upd_same)) (.cons (.int _) (.cons (h'.gr (g.tr (Gr.new (s.fr.back nT)))) .nil))⟩
theorem src_zip {p p' : Addr} {vs ws : List V} {ds es : List PyData} (h : SqL K F p vs) (hd : Dts K F vs ds) (h' : SqL K F p' ws) (hd' : Dts K F ws es) : Src K (Itz K p p') F (List.zipWith (fun d e => .tuple [d, e]) ds es) := fun F1 c1 H1 g s => by
  have q : SqL K H1 p vs := gr_L s.fr (gr_L g h)
  have q' : SqL K H1 p' ws := gr_L s.fr (gr_L g h')
  refine ⟨fun i hi => ?_, ⟨vs, ws, q, q', by rw [hd.len, hd'.len, List.length_zipWith]; omega⟩, fun i v H2 d e y => ?_⟩
  · rw [List.length_zipWith] at hi
    have h1 : i < vs.length := by rw [hd.len]; omega
    have h2 : i < ws.length := by rw [hd'.len]; omega
    exact ⟨vs, ws, vs[i], ws[i], q, q', List.getElem?_eq_getElem h1, List.getElem?_eq_getElem h2⟩
  · obtain ⟨T, x, z, rfl, nT, rfl, y, y'⟩ := y
    obtain ⟨d1, e1, h1⟩ := hd.get (y vs q)
    obtain ⟨d2, e2, h2⟩ := hd'.get (y' ws q')
    rw [List.getElem?_zipWith, e1, e2] at e
    cases e
    have gg := g.tr (Gr.new (o := .tup [x, z]) (s.fr.back nT))
    exact ⟨_, Gr.new (s.fr.back nT), s.lay nT, .tup (.inl (.inl upd_same)) (.cons (h1.gr gg) (.cons (h2.gr gg) .nil))⟩
theorem i_list {α : Type} {en : α → PyData} {xs : List α} (h : EvD K te σ F cs (eL en xs) cs1) : EvI K (iList K te) σ F cs (xs.map en) cs1 := fun F1 H1 g1 s R q =>
  h F1 H1 g1 s _ fun v F2 H2 g2 s2 h2 => by
    obtain ⟨p, vs, rfl, hs, hd⟩ := h2.toLst
    exact ⟨p, rfl, ⟨vs, gr_L s2.fr hs⟩, q _ F2 H2 g2 s2 (src_list hs hd)⟩
theorem enum_map {α : Type} (en : α → PyData) (xs : List α) : (xs.map en).mapIdx (fun i d => PyData.tuple [.int i, d]) = (enumM xs).map (eT2 eI en) := by
  unfold enumM
  apply List.ext_getElem? 
  intro i
  simp only [List.getElem?_mapIdx, List.getElem?_map]
  cases xs[i]? <;> rfl
theorem i_enum {α : Type} {en : α → PyData} {xs : List α} (h : EvDs K as σ F cs [eL en xs] cs1) : EvI K (iEnum K as) σ F cs ((enumM xs).map (eT2 eI en)) cs1 := fun F1 H1 g1 s R q =>
  h F1 H1 g1 s _ fun v F2 H2 g2 s2 h2 => by
    obtain ⟨v, rfl, k⟩ := h2.one
    obtain ⟨p, vs, rfl, hs, hd⟩ := k.toLst
    refine ⟨p, vs, rfl, gr_L s2.fr hs, q _ F2 H2 g2 s2 ?_⟩
    rw [← enum_map]
    exact src_enum hs hd
theorem zip_map {α β : Type} (en : α → PyData) (em : β → PyData) : ∀ (xs : List α) (ys : List β), List.zipWith (fun d e => PyData.tuple [d, e]) (xs.map en) (ys.map em) = (xs.zip ys).map (eT2 en em)
  | [], _ => rfl
  | _ :: _, [] => rfl
  | x :: xs, y :: ys => by
    simp only [List.map_cons, List.zipWith_cons_cons, List.zip_cons_cons]
    rw [zip_map en em xs ys]
theorem i_zip {α β : Type} {en : α → PyData} {em : β → PyData} {xs : List α} {ys : List β} (h : EvDs K as σ F cs [eL en xs, eL em ys] cs1) : EvI K (iZip K as) σ F cs ((xs.zip ys).map (eT2 en em)) cs1 := fun F1 H1 g1 s R q =>
  h F1 H1 g1 s _ fun v F2 H2 g2 s2 h2 => by
    obtain ⟨v, w, rfl, k1, k2⟩ := h2.two
    obtain ⟨p, vs, rfl, hs, hd⟩ := k1.toLst
    obtain ⟨p', ws, rfl, hs', hd'⟩ := k2.toLst
    refine ⟨p, p', vs, ws, rfl, gr_L s2.fr hs, gr_L s2.fr hs', q _ F2 H2 g2 s2 ?_⟩
    rw [← zip_map]
    exact src_zip hs hd hs' hd'
theorem src_rng {lo : Int} {n : Nat} : Src K (Itr lo n) F ((List.range n).map fun (i : Nat) => PyData.int (lo + (i : Int))) := fun F1 c1 H1 g s => by
  refine ⟨fun i hi => (by simpa using hi : i < n), by show n ≤ _; simp, fun i v H2 d e y => ?_⟩
  obtain ⟨rfl, rfl⟩ := y
  rw [List.getElem?_map] at e
  cases q : (List.range n)[i]? with
  | none => rw [q] at e; cases e
  | some j =>
    rw [q] at e
    have : i = j := by
      obtain ⟨h1, h2⟩ := List.getElem?_eq_some_iff.mp q
      simpa using h2
    subst this
    cases e
    exact ⟨F1, .rfl, s, .int _⟩
theorem i_rng1 {xs : List Int} (h : EvDs K as σ F cs [.int b] cs1) (hx : rngM 0 b = some xs) : EvI K (iRng1 as) σ F cs (xs.map eI) cs1 := fun F1 H1 g1 s R q =>
  h F1 H1 g1 s _ fun v F2 H2 g2 s2 h2 => by
    obtain ⟨v, rfl, k⟩ := h2.one; cases k.toInt
    obtain ⟨⟨_, _, h3, h4⟩, rfl⟩ := rngM_some hx
    refine ⟨b, rfl, h3, h4, q _ F2 H2 g2 s2 ?_⟩
    have := src_rng (K := K) (F := F2) (lo := 0) (n := b.toNat)
    unfold rngL
    rw [List.map_map, Int.sub_zero]
    exact this
theorem i_rng2 {xs : List Int} (h : EvDs K as σ F cs [.int a, .int b] cs1) (hx : rngM a b = some xs) : EvI K (iRng2 as) σ F cs (xs.map eI) cs1 := fun F1 H1 g1 s R q =>
  h F1 H1 g1 s _ fun v F2 H2 g2 s2 h2 => by
    obtain ⟨v, w, rfl, k1, k2⟩ := h2.two; cases k1.toInt; cases k2.toInt
    obtain ⟨h3, rfl⟩ := rngM_some hx
    refine ⟨a, b, rfl, h3, q _ F2 H2 g2 s2 ?_⟩
    have := src_rng (K := K) (F := F2) (lo := a) (n := (b - a).toNat)
    unfold rngL
    rw [List.map_map]
    exact this
theorem i_str {x : Str} (h : EvD K te σ F cs (.str x) cs1) : EvI K (iStr te) σ F cs ((signs x).map eS) cs1 := fun F1 H1 g1 s R q =>
  h F1 H1 g1 s _ fun v F2 H2 g2 s2 h2 => by
    refine ⟨x, h2.toStr, q _ F2 H2 g2 s2 fun F3 c3 H3 g3 s3 => ⟨fun i hi => by simpa [signs, Its] using hi, by simp [signs, Its], fun i v H4 d e y => ?_⟩⟩
    obtain ⟨rfl, c, hc, rfl⟩ := y
    unfold signs at e
    rw [List.map_map, List.getElem?_map, Array.getElem?_toList, hc] at e
    cases e
    exact ⟨F3, .rfl, s3, .str _⟩
end
end Bw

namespace Bw
open PySem L2
/-! what a loop's turn leaves -/
inductive Fl (S R : Type) where
  | nx (s : S) | br (s : S) | rt (r : R)
def forF {α S R : Type} (body : S → α → Option (Fl S R)) : List α → S → Option (Fl S R)
  | [], s => some (.nx s)
  | x :: xs, s => (body s x).bind fun f => match f with
    | .nx s' => forF body xs s'
    | .br s' => some (.br s')
    | .rt r => some (.rt r)
def whileF {S R : Type} (c : S → Option Bool) (body : S → Option (Fl S R)) : Nat → S → Option (Fl S R)
  | 0, _ => none
  | n + 1, s => (c s).bind fun b => if b = true then (body s).bind fun f => match f with
      | .nx s' => whileF c body n s'
      | .br s' => some (.br s')
      | .rt r => some (.rt r)
    else some (.nx s)
def lcM {α β : Type} (f : α → Option (Option β)) : List α → Option (List β)
  | [] => some []
  | x :: xs => (f x).bind fun o => (lcM f xs).bind fun ys => some (match o with
    | some y => y :: ys
    | none => ys)
theorem lcM_len {α β : Type} {f : α → Option (Option β)} : ∀ {xs : List α} {ys : List β}, lcM f xs = some ys → ys.length ≤ xs.length
  | [], ys, h => by cases h; exact Nat.le_refl _
  | x :: xs, ys, h => by
    obtain ⟨o, h1, h⟩ := bnd h
    obtain ⟨zs, h2, h⟩ := bnd h
    have := lcM_len h2
    cases o with
    | none => cases h; exact Nat.le_succ_of_le this
    | some y => cases h; exact Nat.succ_le_succ this
theorem lcM_map {α β : Type} (f : α → β) : ∀ xs : List α, lcM (fun x => some (some (f x))) xs = some (xs.map f)
  | [] => rfl
  | x :: xs => by show (lcM _ xs).bind _ = _; rw [lcM_map f xs]; rfl
theorem lcM_filter {α β : Type} (p : α → Bool) (f : α → β) : ∀ xs : List α, lcM (fun x => some (if p x = true then some (f x) else none)) xs = some ((xs.filter p).map f)
  | [] => rfl
  | x :: xs => by
    show (lcM _ xs).bind _ = _
    rw [lcM_filter p f xs, List.filter_cons]
    by_cases h : p x = true
    · simp [h]
    · simp [h]
section
variable {K : PySem.W.Frag} {σ : St} {F F' : Hp} {cs cs1 cs2 cs3 : Cs} {ta tb tc te : TE} {d e : PyData} {as : TA} {a b c : Int} {nx bk ct : St → Hp → Prop} {rt : VK} {H : Hp} {t u : TS}
/-! statements -/
theorem go {D : Ends} {σ' : St} (e : σ = σ') (h : t D σ' H) : t D σ H := e ▸ h
theorem s_set {i : Nat} {σ' : V → St} (s : Sta F cs H) (h : EvD K te σ F cs d cs1) (hσ : ∀ v, σ.set i (some v) = σ' v) (q : ∀ v F2 H2, Gr F F2 → Sta F2 cs1 H2 → Dt K F2 v d → nx (σ' v) H2) : tAsg te (gName i) ⟨nx, rt, bk, ct⟩ σ H := h F H .rfl s _ fun v F2 H2 g2 s2 h2 => by
  show nx (σ.set i (some v)) H2
  rw [hσ v]; exact q v F2 H2 g2 s2 h2
/-- a flat value -/
theorem s_setV {i : Nat} {σ' : St} {w : V} (hw : ∀ F v, Dt K F v d → v = w) (s : Sta F cs H) (h : EvD K te σ F cs d cs1) (hσ : σ.set i (some w) = σ') (q : ∀ F2 H2, Gr F F2 → Sta F2 cs1 H2 → nx σ' H2) : tAsg te (gName i) ⟨nx, rt, bk, ct⟩ σ H := h F H .rfl s _ fun v F2 H2 g2 s2 h2 => by
  cases hw F2 v h2
  show nx (σ.set i (some w)) H2
  rw [hσ]; exact q F2 H2 g2 s2
theorem s_setC {ds : List PyData} {i : Nat} {σ' : Addr → St} (s : Sta F cs H) (h : EvC K te σ F cs ds cs1) (hσ : ∀ p, σ.set i (some (.ref p)) = σ' p) (q : ∀ p vs F2 H2, Gr F F2 → Sta F2 ((p, .lst vs) :: cs1) H2 → Dts K F2 vs ds → nx (σ' p) H2) : tAsg te (gName i) ⟨nx, rt, bk, ct⟩ σ H := h F H .rfl s _ fun p vs F2 H2 g2 s2 h2 => by
  show nx (σ.set i (some (.ref p))) H2
  rw [hσ p]; exact q p vs F2 H2 g2 s2 h2
theorem s_ret (s : Sta F cs H) (h : EvD K te σ F cs d cs1) (q : ∀ v F2 H2, Gr F F2 → Sta F2 cs1 H2 → Dt K F2 v d → rt v H2) : tRet te ⟨nx, rt, bk, ct⟩ σ H := h F H .rfl s _ q
theorem s_drop (s : Sta F cs H) (h : EvD K te σ F cs d cs1) (q : ∀ F2 H2, Gr F F2 → Sta F2 cs1 H2 → nx σ H2) : tDrop te ⟨nx, rt, bk, ct⟩ σ H := h F H .rfl s _ fun v F2 H2 g2 s2 _ => q F2 H2 g2 s2
theorem s_if {c : TT} {b : Bool} (s : Sta F cs H) (h : EvT c σ F cs b cs1) (qt : b = true → ∀ F2 H2, Gr F F2 → Sta F2 cs1 H2 → t ⟨nx, rt, bk, ct⟩ σ H2) (qf : b = false → ∀ F2 H2, Gr F F2 → Sta F2 cs1 H2 → u ⟨nx, rt, bk, ct⟩ σ H2) : tIfS c t u ⟨nx, rt, bk, ct⟩ σ H :=
  h F H .rfl s _ fun F2 H2 g2 s2 => by
    cases b with
    | true => exact qt rfl F2 H2 g2 s2
    | false => exact qf rfl F2 H2 g2 s2
/-- cells: append, item, pop -/
theorem s_app {l1 l2 : Cs} {i : Nat} {p : Addr} {vs : List V} (s : Sta F (l1 ++ (p, .lst vs) :: l2) H) (hi : σ[i]? = some (some (.ref p))) (h : EvD K te σ F (l1 ++ (p, .lst vs) :: l2) d (l1 ++ (p, .lst vs) :: l2)) (hl : vs.length < 100000)
    (q : ∀ v F2 H2, Gr F F2 → Sta F2 (l1 ++ (p, .lst (vs ++ [v])) :: l2) H2 → Dt K F2 v d → nx σ H2) : tDrop (tBM K "list" rAppend (tVar i) (tCons te tNil)) ⟨nx, rt, bk, ct⟩ σ H :=
  ⟨.ref p, hi, .inl ⟨rfl, _, .inl (.inl s.getAt)⟩, h F H .rfl s _ fun v F2 H2 g2 s2 h2 => ⟨p, vs, v, rfl, rfl, s2.getAt, szl hl, q v F2 _ g2 s2.putAt h2⟩⟩
theorem s_item {l1 l2 : Cs} {i : Nat} {p : Addr} {vs : List V} {ti : TE} {k : Int} {j : Nat} (s : Sta F (l1 ++ (p, .lst vs) :: l2) H) (hi : σ[i]? = some (some (.ref p))) (h : EvD K te σ F (l1 ++ (p, .lst vs) :: l2) d (l1 ++ (p, .lst vs) :: l2))
    (h2 : EvD K ti σ F (l1 ++ (p, .lst vs) :: l2) (.int k) (l1 ++ (p, .lst vs) :: l2)) (hj : ixN vs.length k = some j) (q : ∀ v F2 H2, Gr F F2 → Sta F2 (l1 ++ (p, .lst (vs.set j v)) :: l2) H2 → Dt K F2 v d → nx σ H2) : tAsg te (gSub (tVar i) ti rSetL) ⟨nx, rt, bk, ct⟩ σ H :=
  h F H .rfl s _ fun v F2 H2 g2 s2 hv => ⟨.ref p, hi, h2 F2 H2 g2 s2 _ fun w F3 H3 g3 s3 hw => ⟨p, vs, k, j, rfl, hw.toInt, s3.getAt, hj, q v F3 _ (g2.tr g3) s3.putAt (hv.gr g3)⟩⟩
/-- a cell lent for a flat answer -/
theorem d_lend {l1 l2 : Cs} {p : Addr} {o : HO} {w : V} (hw : ∀ F v, Dt K F v d → v = w) (hd : ∀ F, Dt K F w d) (h : ∀ F1, Gr F F1 → F1 p = none → EvD K te σ (upd F1 p o) (l1 ++ l2) d (l1 ++ l2)) : EvD K te σ F (l1 ++ (p, o) :: l2) d (l1 ++ (p, o) :: l2) := fun F1 H1 g1 s Q q => by
  refine h F1 g1 s.freeAt (upd F1 p o) H1 .rfl s.frozeAt Q fun v F2 H2 g2 s2 h2 => ?_
  cases hw F2 v h2
  exact q w (cut F2 p) H2 (gr_cut s.freeAt g2) (Sta.lent g2 s2) (hd _)
theorem t_lend {l1 l2 : Cs} {p : Addr} {o : HO} {t : TT} {b : Bool} (h : ∀ F1, Gr F F1 → F1 p = none → EvT t σ (upd F1 p o) (l1 ++ l2) b (l1 ++ l2)) : EvT t σ F (l1 ++ (p, o) :: l2) b (l1 ++ (p, o) :: l2) := fun F1 H1 g1 s Q q => by
  refine h F1 g1 s.freeAt (upd F1 p o) H1 .rfl s.frozeAt Q fun F2 H2 g2 s2 => ?_
  exact q (cut F2 p) H2 (gr_cut s.freeAt g2) (Sta.lent g2 s2)
theorem lent_l {p : Addr} {vs : List V} {ds : List PyData} (hn : F p = none) (h : Dts K F vs ds) : Dt K (upd F p (.lst vs)) (.ref p) (.list ds) := .lst (.inl (.inl upd_same)) (h.gr (Gr.new hn))
/-- unpacking -/
theorem u2 {v : V} {d1 d2 : PyData} (h : Dt K F v (.tuple [d1, d2])) : ∃ p v1 v2, v = .ref p ∧ SqT K F p [v1, v2] ∧ Dt K F v1 d1 ∧ Dt K F v2 d2 := by
  obtain ⟨p, vs, rfl, h1, h2⟩ := h.toTup
  obtain ⟨v1, v2, rfl, k1, k2⟩ := h2.two
  exact ⟨p, v1, v2, rfl, h1, k1, k2⟩
theorem u3 {v : V} {d1 d2 d3 : PyData} (h : Dt K F v (.tuple [d1, d2, d3])) : ∃ p v1 v2 v3, v = .ref p ∧ SqT K F p [v1, v2, v3] ∧ Dt K F v1 d1 ∧ Dt K F v2 d2 ∧ Dt K F v3 d3 := by
  obtain ⟨p, vs, rfl, h1, h2⟩ := h.toTup
  obtain ⟨v1, v2, v3, rfl, k1, k2, k3⟩ := h2.three
  exact ⟨p, v1, v2, v3, rfl, h1, k1, k2, k3⟩
theorem u4 {v : V} {d1 d2 d3 d4 : PyData} (h : Dt K F v (.tuple [d1, d2, d3, d4])) : ∃ p v1 v2 v3 v4, v = .ref p ∧ SqT K F p [v1, v2, v3, v4] ∧ Dt K F v1 d1 ∧ Dt K F v2 d2 ∧ Dt K F v3 d3 ∧ Dt K F v4 d4 := by
  obtain ⟨p, vs, rfl, h1, h2⟩ := h.toTup
  obtain ⟨v1, v2, v3, v4, rfl, k1, k2, k3, k4⟩ := h2.four
  exact ⟨p, v1, v2, v3, v4, rfl, h1, k1, k2, k3, k4⟩
/-! loops -/
theorem s_for {α S : Type} {wi : TI} {g : TG} {tb : TS} {xs : List α} {en : α → PyData} (st : S → Hp → St → Cs → Prop) {body : S → α → Option S} {s0 r : S}
    (s : Sta F cs H) (hi : EvI K wi σ F cs (xs.map en) cs1) (h0 : ∀ F', Gr F F' → st s0 F' σ cs1) (hm : xs.foldlM body s0 = some r)
    (turn : ∀ x a b F1 F3 σ1 c1 H3 v (N : St → Hp → Prop), Gr F F1 → st a F1 σ1 c1 → Gr F1 F3 → Sta F3 c1 H3 → Dt K F3 v (en x) → body a x = some b → (∀ F4 σ4 c4 H4, Gr F3 F4 → Sta F4 c4 H4 → st b F4 σ4 c4 → N σ4 H4) →
      g v σ1 H3 fun σ2 H2 => tb ⟨N, rt, nx, N⟩ σ2 H2)
    (done : ∀ F1 σ1 c1 H1, Gr F F1 → Sta F1 c1 H1 → st r F1 σ1 c1 → nx σ1 H1) : tFor wi g tb ⟨nx, rt, bk, ct⟩ σ H :=
  hi F H .rfl s _ fun J F2 H2 g2 s2 hs => by
    refine ⟨fun i m σ1 H1 => m = xs.length - i ∧ i ≤ xs.length ∧ ∃ a F1 c1, Gr F2 F1 ∧ Sta F1 c1 H1 ∧ st a F1 σ1 c1 ∧ (xs.drop i).foldlM body a = some r, ⟨xs.length, by simp, Nat.zero_le _, s0, F2, cs1, .rfl, s2, h0 F2 g2, by simpa using hm⟩, ?_⟩
    rintro i m σ1 H1 ⟨rfl, hi, a, F1, c1, g1, s1, ha, hr⟩
    obtain ⟨hgo, hstop, hy⟩ := hs F1 c1 H1 g1 s1
    by_cases hlt : i < xs.length
    · rw [List.drop_eq_getElem_cons hlt, List.foldlM_cons] at hr
      cases hb : body a xs[i] with
      | none => rw [hb] at hr; cases hr
      | some b =>
        rw [hb] at hr
        refine .inr ⟨hgo i (by simpa using hlt), fun σ2 H2 => ∃ F3 c3, Gr F2 F3 ∧ Sta F3 c3 H2 ∧ st b F3 σ2 c3, fun σ' H' ⟨F3, c3, g3, s3, h3⟩ => ⟨xs.length - (i + 1), by omega, rfl, hlt, b, F3, c3, g3, s3, h3, hr⟩, fun x H' y => ?_⟩
        obtain ⟨F3, g3, s3, d3⟩ := hy i x H' (en xs[i]) (by rw [List.getElem?_map, List.getElem?_eq_getElem hlt]; rfl) y
        exact turn xs[i] a b F1 F3 σ1 c1 H' x _ (g2.tr g1) ha g3 s3 d3 hb fun F4 σ4 c4 H4 g4 s4 h4 => ⟨F4, c4, (g1.tr g3).tr g4, s4, h4⟩
    · have e : i = xs.length := by omega
      subst e
      rw [List.drop_length] at hr
      cases hr
      exact .inl ⟨by simpa using hstop, done F1 σ1 c1 H1 (g2.tr g1) s1 ha⟩
/-- .. that may be left -/
theorem s_forF {α S R : Type} {wi : TI} {g : TG} {tb : TS} {xs : List α} {en : α → PyData} (st : S → Hp → St → Cs → Prop) {body : S → α → Option (Fl S R)} {s0 : S} {r : Fl S R}
    (s : Sta F cs H) (hi : EvI K wi σ F cs (xs.map en) cs1) (h0 : ∀ F', Gr F F' → st s0 F' σ cs1) (hm : forF body xs s0 = some r)
    (done : ∀ z F1 σ1 c1 H1, r = .nx z ∨ r = .br z → Gr F F1 → Sta F1 c1 H1 → st z F1 σ1 c1 → nx σ1 H1)
    (turn : ∀ x a b F1 F3 σ1 c1 H3 v (N B : St → Hp → Prop), Gr F F1 → st a F1 σ1 c1 → Gr F1 F3 → Sta F3 c1 H3 → Dt K F3 v (en x) → body a x = some b → (∀ z F4 σ4 c4 H4, b = .nx z → Gr F3 F4 → Sta F4 c4 H4 → st z F4 σ4 c4 → N σ4 H4) →
      (∀ z F4 σ4 c4 H4, b = .br z → Gr F3 F4 → Sta F4 c4 H4 → st z F4 σ4 c4 → B σ4 H4) → (∀ z, b = .rt z → r = .rt z) →
      g v σ1 H3 fun σ2 H2 => tb ⟨N, rt, B, N⟩ σ2 H2) : tFor wi g tb ⟨nx, rt, bk, ct⟩ σ H :=
  hi F H .rfl s _ fun J F2 H2 g2 s2 hs => by
    refine ⟨fun i m σ1 H1 => m = xs.length - i ∧ i ≤ xs.length ∧ ∃ a F1 c1, Gr F2 F1 ∧ Sta F1 c1 H1 ∧ st a F1 σ1 c1 ∧ forF body (xs.drop i) a = some r, ⟨xs.length, by simp, Nat.zero_le _, s0, F2, cs1, .rfl, s2, h0 F2 g2, by simpa using hm⟩, ?_⟩
    rintro i m σ1 H1 ⟨rfl, hi, a, F1, c1, g1, s1, ha, hr⟩
    obtain ⟨hgo, hstop, hy⟩ := hs F1 c1 H1 g1 s1
    by_cases hlt : i < xs.length
    · rw [List.drop_eq_getElem_cons hlt] at hr
      obtain ⟨b, hb, hr⟩ := bnd (show (body a xs[i]).bind _ = some r from hr)
      refine .inr ⟨hgo i (by simpa using hlt), fun σ2 H2 => ∃ z F3 c3, b = .nx z ∧ Gr F2 F3 ∧ Sta F3 c3 H2 ∧ st z F3 σ2 c3, fun σ' H' ⟨z, F3, c3, e3, g3, s3, h3⟩ => ⟨xs.length - (i + 1), by omega, rfl, hlt, z, F3, c3, g3, s3, h3, by subst e3; exact hr⟩, fun x H' y => ?_⟩
      obtain ⟨F3, g3, s3, d3⟩ := hy i x H' (en xs[i]) (by rw [List.getElem?_map, List.getElem?_eq_getElem hlt]; rfl) y
      refine turn xs[i] a b F1 F3 σ1 c1 H' x _ _ (g2.tr g1) ha g3 s3 d3 hb (fun z F4 σ4 c4 H4 e4 g4 s4 h4 => ⟨z, F4, c4, e4, (g1.tr g3).tr g4, s4, h4⟩) (fun z F4 σ4 c4 H4 e4 g4 s4 h4 => ?_) (fun z e => ?_)
      · subst e4
        exact done z F4 σ4 c4 H4 (.inr (Option.some.inj hr).symm) (((g2.tr g1).tr g3).tr g4) s4 h4
      · subst e
        exact (Option.some.inj hr).symm
    · have e : i = xs.length := by omega
      subst e
      rw [List.drop_length] at hr
      cases hr
      exact .inl ⟨by simpa using hstop, done a F1 σ1 c1 H1 (.inl rfl) (g2.tr g1) s1 ha⟩
/-- a while -/
theorem s_while {S R : Type} {tc : TT} {tb : TS} (st : S → Hp → St → Cs → Prop) {c : S → Option Bool} {body : S → Option (Fl S R)} {s0 : S} {r : Fl S R} {n : Nat}
    (s : Sta F cs H) (h0 : st s0 F σ cs) (hm : whileF c body n s0 = some r)
    (done : ∀ z F1 σ1 c1 H1, r = .nx z ∨ r = .br z → Gr F F1 → Sta F1 c1 H1 → st z F1 σ1 c1 → nx σ1 H1)
    (test : ∀ z k F1 σ1 c1, Gr F F1 → st z F1 σ1 c1 → c z = some k → EvT tc σ1 F1 c1 k c1) (mono : ∀ z F1 F2 σ1 c1, st z F1 σ1 c1 → Gr F1 F2 → st z F2 σ1 c1)
    (turn : ∀ a b F1 σ1 c1 H1 (N B : St → Hp → Prop), Gr F F1 → st a F1 σ1 c1 → Sta F1 c1 H1 → body a = some b → (∀ z F4 σ4 c4 H4, b = .nx z → Gr F1 F4 → Sta F4 c4 H4 → st z F4 σ4 c4 → N σ4 H4) →
      (∀ z F4 σ4 c4 H4, b = .br z → Gr F1 F4 → Sta F4 c4 H4 → st z F4 σ4 c4 → B σ4 H4) → (∀ z, b = .rt z → r = .rt z) →
      tb ⟨N, rt, B, N⟩ σ1 H1) : tWhile tc tb ⟨nx, rt, bk, ct⟩ σ H := by
  refine ⟨fun m σ1 H1 => ∃ a F1 c1, Gr F F1 ∧ Sta F1 c1 H1 ∧ st a F1 σ1 c1 ∧ whileF c body m a = some r, ⟨n, s0, F, cs, .rfl, s, h0, hm⟩, ?_⟩
  rintro m σ1 H1 ⟨a, F1, c1, g1, s1, ha, hr⟩
  cases m with
  | zero => cases hr
  | succ m =>
    obtain ⟨k, hk, hr⟩ := bnd (show (c a).bind _ = some r from hr)
    refine test a k F1 σ1 c1 g1 ha hk F1 H1 .rfl s1 _ fun F2 H2 g2 s2 => ?_
    cases k with
    | false =>
      cases hr
      exact done a F2 σ1 c1 H2 (.inl rfl) (g1.tr g2) s2 (mono a F1 F2 σ1 c1 ha g2)
    | true =>
      obtain ⟨b, hb, hr⟩ := bnd (show (body a).bind _ = some r from hr)
      refine ⟨fun σ2 H2 => ∃ z F3 c3, b = .nx z ∧ Gr F F3 ∧ Sta F3 c3 H2 ∧ st z F3 σ2 c3, fun σ' H' ⟨z, F3, c3, e3, g3, s3, h3⟩ => ⟨m, Nat.lt_succ_self m, z, F3, c3, g3, s3, h3, by subst e3; exact hr⟩, ?_⟩
      refine turn a b F2 σ1 c1 H2 _ _ (g1.tr g2) (mono a F1 F2 σ1 c1 ha g2) s2 hb (fun z F4 σ4 c4 H4 e4 g4 s4 h4 => ⟨z, F4, c4, e4, (g1.tr g2).tr g4, s4, h4⟩) (fun z F4 σ4 c4 H4 e4 g4 s4 h4 => ?_) (fun z e => ?_)
      · subst e4
        exact done z F4 σ4 c4 H4 (.inr (Option.some.inj hr).symm) ((g1.tr g2).tr g4) s4 h4
      · subst e
        exact (Option.some.inj hr).symm
/-! list comprehensions, whose elements change nothing -/
theorem c_lc {α β : Type} {wi : TI} {g : TG} {tt : TT} {vs : List Nat} {xs : List α} {en : α → PyData} {em : β → PyData} {f : α → Option (Option β)} {ys : List β}
    (hi : EvI K wi σ F cs (xs.map en) cs1) (hm : lcM f xs = some ys) (hl : xs.length ≤ 100000)
    (turn : ∀ x o v F1 p us, Gr F F1 → Dt K F1 v (en x) → f x = some o → ∃ σ2 : St, (∀ H (Q : St → Hp → Prop), Sta F1 ((p, .lst us) :: cs1) H → Q σ2 H → g v (wipe σ vs) H Q) ∧ wipe σ2 vs = wipe σ vs ∧
      EvT tt σ2 F1 ((p, .lst us) :: cs1) o.isSome ((p, .lst us) :: cs1) ∧ ∀ y, o = some y → EvD K te σ2 F1 ((p, .lst us) :: cs1) (em y) ((p, .lst us) :: cs1)) :
    EvC K (tLc wi g tt te vs) σ F cs (ys.map em) cs1 := fun F1 H1 g1 s Q q =>
  hi F1 H1 g1 s _ fun J F2 H2 g2 s2 hs => by
    intro p hp
    have s3 : Sta F2 ((p, .lst []) :: cs1) (upd H2 p (.lst [])) := s2.cell hp
    refine ⟨fun i m H4 => m = xs.length - i ∧ i ≤ xs.length ∧ ∃ us done rest F4, us.length ≤ i ∧ Gr F2 F4 ∧ Sta F4 ((p, .lst us) :: cs1) H4 ∧ Dts K F4 us (done.map em) ∧ lcM f (xs.drop i) = some rest ∧ done ++ rest = ys,
      ⟨xs.length, by simp, Nat.zero_le _, [], [], ys, F2, Nat.le_refl _, .rfl, s3, .nil, by simpa using hm, rfl⟩, ?_⟩
    rintro i m H4 ⟨rfl, hi, us, done, rest, F4, hu, g4, s4, hd, hr, he⟩
    obtain ⟨hgo, hstop, hy⟩ := hs F4 _ H4 g4 s4
    by_cases hlt : i < xs.length
    · rw [List.drop_eq_getElem_cons hlt] at hr
      obtain ⟨o, ho, hr⟩ := bnd (show (f xs[i]).bind _ = some rest from hr)
      obtain ⟨zs, hz, hr⟩ := bnd hr
      refine .inr ⟨hgo i (by simpa using hlt), fun H' => i + 1 ≤ xs.length ∧ ∃ us done rest F4, us.length ≤ i + 1 ∧ Gr F2 F4 ∧ Sta F4 ((p, .lst us) :: cs1) H' ∧ Dts K F4 us (done.map em) ∧ lcM f (xs.drop (i + 1)) = some rest ∧ done ++ rest = ys, fun H' h' => ⟨xs.length - (i + 1), by omega, rfl, h'⟩, fun x H' y => ?_⟩
      obtain ⟨F5, g5, s5, d5⟩ := hy i x H' (en xs[i]) (by rw [List.getElem?_map, List.getElem?_eq_getElem hlt]; rfl) y
      obtain ⟨σ2, h1, h2, h3, h4⟩ := turn xs[i] o x F5 p us (g1.tr (g2.tr (g4.tr g5))) d5 ho
      refine h1 H' _ s5 ⟨h2, h3 F5 H' .rfl s5 _ fun F6 H6 g6 s6 => ?_⟩
      cases o with
      | none =>
        cases hr
        exact ⟨hlt, us, done, zs, F6, Nat.le_succ_of_le hu, g4.tr (g5.tr g6), s6, hd.gr (g5.tr g6), hz, he⟩
      | some z =>
        cases hr
        refine (h4 z rfl) F6 H6 g6 s6 _ fun v F7 H7 g7 s7 hv => ⟨us, s7.at List.mem_cons_self, szl (by omega), hlt, us ++ [v], done ++ [z], zs, F7, by rw [List.length_append]; exact Nat.succ_le_succ hu, g4.tr (g5.tr (g6.tr g7)), s7.put, ?_, hz, ?_⟩
        · rw [List.map_append]
          exact (hd.gr (g5.tr (g6.tr g7))).app (.cons hv .nil)
        · rw [List.append_assoc]; exact he
    · have e : i = xs.length := by omega
      subst e
      rw [List.drop_length] at hr
      cases hr
      rw [List.append_nil] at he
      subst he
      exact .inl ⟨by simpa using hstop, q p us F4 H4 (g2.tr g4) s4 hd⟩
theorem t_yes : EvT tYes σ F cs true cs := fun F1 H1 g s Q q => q F1 H1 .rfl s
/-! functions -/
def spP (K : PySem.W.Frag) {α β : Type} (A : α → List PyData) (B : β → PyData) (f : α → Option β) : Sp := fun vs H Q _ => ∃ F cs x y, Dts K F vs (A x) ∧ Sta F cs H ∧ f x = some y ∧ ∀ v F2 H2, Gr F F2 → Sta F2 cs H2 → Dt K F2 v (B y) → Q v H2
theorem d_call {α β : Type} {A : α → List PyData} {B : β → PyData} {f : α → Option β} {x : α} {y : β} {E : XK} (h : EvDs K as σ F cs (A x) cs1) (hf : f x = some y) : EvD K (tCall (spP K A B f) [] E as) σ F cs (B y) cs1 := fun F1 H1 g1 s Q q =>
  h F1 H1 g1 s _ fun vs F2 H2 g2 s2 h2 => ⟨F2, cs1, x, y, by rw [List.append_nil]; exact h2, s2, hf, fun v F3 H3 g3 s3 h3 => q v F3 H3 (g2.tr g3) s3 h3⟩
end
/-! == of typed data -/
def EqE {α : Type} [DecidableEq α] (e : α → PyData) : Prop := ∀ x y, PyData.eqv (e x) (e y) = decide (x = y)
def ShE {α : Type} (n : Nat) (e : α → PyData) : Prop := ∀ x, (e x).canLay0 = true ∧ (e x).depth ≤ n
theorem shp {α : Type} {n : Nat} {e : α → PyData} (h : ShE n e) (hn : n ≤ 64) (x : α) : SeqAt.shaped (e x) = true := by
  unfold SeqAt.shaped
  rw [(h x).1, decide_eq_true (Nat.le_trans (h x).2 hn)]
  rfl
theorem beq_dec {α : Type} [BEq α] [LawfulBEq α] [DecidableEq α] (x y : α) : (x == y) = decide (x = y) := by
  rw [Bool.eq_iff_iff]; simp
theorem eqE_I : EqE eI := fun x y => by simp only [PyData.eqv]; exact beq_dec x y
theorem eqE_B : EqE eB := fun x y => by simp only [PyData.eqv]; exact beq_dec x y
theorem eqE_S : EqE eS := fun x y => by simp only [PyData.eqv]; exact beq_dec x y
theorem eqE_N : EqE eN := fun x y => by simp [PyData.eqv]
theorem eqAll_map {α : Type} [DecidableEq α] {e : α → PyData} (h : EqE e) : ∀ xs ys : List α, PyData.eqvAll (xs.map e) (ys.map e) = decide (xs = ys)
  | [], [] => by simp [PyData.eqvAll]
  | [], _ :: _ => by simp [PyData.eqvAll]
  | _ :: _, [] => by simp [PyData.eqvAll]
  | x :: xs, y :: ys => by
    simp only [List.map_cons, PyData.eqvAll]
    rw [h x y, eqAll_map h xs ys, Bool.eq_iff_iff]
    simp
theorem EqE.l {α : Type} [DecidableEq α] {e : α → PyData} (h : EqE e) : EqE (eL e) := fun xs ys => by
  show PyData.eqv (.list _) (.list _) = _
  simp only [PyData.eqv]
  exact eqAll_map h xs ys
theorem EqE.t2 {α β : Type} [DecidableEq α] [DecidableEq β] {e : α → PyData} {f : β → PyData} (h : EqE e) (k : EqE f) : EqE (eT2 e f) := fun x y => by
  show PyData.eqv (.tuple _) (.tuple _) = _
  simp only [PyData.eqv, PyData.eqvAll]
  rw [h, k, Bool.eq_iff_iff]
  obtain ⟨x1, x2⟩ := x; obtain ⟨y1, y2⟩ := y
  simp
theorem EqE.t3 {α β γ : Type} [DecidableEq α] [DecidableEq β] [DecidableEq γ] {e : α → PyData} {f : β → PyData} {g : γ → PyData} (h : EqE e) (k : EqE f) (l : EqE g) : EqE (eT3 e f g) := fun x y => by
  show PyData.eqv (.tuple _) (.tuple _) = _
  simp only [PyData.eqv, PyData.eqvAll]
  rw [h, k, l, Bool.eq_iff_iff]
  obtain ⟨x1, x2, x3⟩ := x; obtain ⟨y1, y2, y3⟩ := y
  simp
theorem EqE.t4 {α β γ δ : Type} [DecidableEq α] [DecidableEq β] [DecidableEq γ] [DecidableEq δ] {e : α → PyData} {f : β → PyData} {g : γ → PyData} {m : δ → PyData} (h : EqE e) (k : EqE f) (l : EqE g) (n : EqE m) : EqE (eT4 e f g m) := fun x y => by
  show PyData.eqv (.tuple _) (.tuple _) = _
  simp only [PyData.eqv, PyData.eqvAll]
  rw [h, k, l, n, Bool.eq_iff_iff]
  obtain ⟨x1, x2, x3, x4⟩ := x; obtain ⟨y1, y2, y3, y4⟩ := y
  simp
theorem sh_I : ShE 0 eI := fun x => ⟨by simp [PyData.canLay0], by simp [PyData.depth]⟩
theorem sh_B : ShE 0 eB := fun x => ⟨by simp [PyData.canLay0], by simp [PyData.depth]⟩
theorem sh_N : ShE 0 eN := fun x => ⟨by simp [PyData.canLay0], by simp [PyData.depth]⟩
theorem sh_all {α : Type} {n : Nat} {e : α → PyData} (h : ShE n e) : ∀ xs : List α, PyData.canLayAll0 (xs.map e) = true ∧ PyData.depthAll (xs.map e) ≤ n
  | [] => ⟨by simp [PyData.canLayAll0], by simp [PyData.depthAll]⟩
  | x :: xs => by
    obtain ⟨h1, h2⟩ := sh_all h xs
    simp only [List.map_cons, PyData.canLayAll0, PyData.depthAll]
    exact ⟨by rw [(h x).1, h1]; rfl, Nat.max_le.mpr ⟨(h x).2, h2⟩⟩
theorem ShE.l {α : Type} {n : Nat} {e : α → PyData} (h : ShE n e) : ShE (n + 1) (eL e) := fun xs => by
  show (PyData.list _).canLay0 = true ∧ (PyData.list _).depth ≤ _
  simp only [PyData.canLay0, PyData.depth]
  exact ⟨(sh_all h xs).1, Nat.succ_le_succ (sh_all h xs).2⟩
theorem ShE.t2 {α β : Type} {n m : Nat} {e : α → PyData} {f : β → PyData} (h : ShE n e) (k : ShE m f) : ShE (max n m + 1) (eT2 e f) := fun x => by
  show (PyData.tuple _).canLay0 = true ∧ (PyData.tuple _).depth ≤ _
  simp only [PyData.canLay0, PyData.depth, PyData.canLayAll0, PyData.depthAll]
  have := (h x.1).2; have := (k x.2).2
  exact ⟨by rw [(h _).1, (k _).1]; rfl, by omega⟩
theorem ShE.t3 {α β γ : Type} {n m l : Nat} {e : α → PyData} {f : β → PyData} {g : γ → PyData} (h : ShE n e) (k : ShE m f) (j : ShE l g) : ShE (max n (max m l) + 1) (eT3 e f g) := fun x => by
  show (PyData.tuple _).canLay0 = true ∧ (PyData.tuple _).depth ≤ _
  simp only [PyData.canLay0, PyData.depth, PyData.canLayAll0, PyData.depthAll]
  have := (h x.1).2; have := (k x.2.1).2; have := (j x.2.2).2
  exact ⟨by rw [(h _).1, (k _).1, (j _).1]; rfl, by omega⟩
theorem ShE.t4 {α β γ δ : Type} {n m l i : Nat} {e : α → PyData} {f : β → PyData} {g : γ → PyData} {z : δ → PyData} (h : ShE n e) (k : ShE m f) (j : ShE l g) (p : ShE i z) : ShE (max n (max m (max l i)) + 1) (eT4 e f g z) := fun x => by
  show (PyData.tuple _).canLay0 = true ∧ (PyData.tuple _).depth ≤ _
  simp only [PyData.canLay0, PyData.depth, PyData.canLayAll0, PyData.depthAll]
  have := (h x.1).2; have := (k x.2.1).2; have := (j x.2.2.1).2; have := (p x.2.2.2).2
  exact ⟨by rw [(h _).1, (k _).1, (j _).1, (p _).1]; rfl, by omega⟩
section
variable {K : PySem.W.Frag} {σ : St} {F F' : Hp} {cs cs1 cs2 cs3 : Cs} {ta tb tc te : TE}
theorem d_eqT {α : Type} [DecidableEq α] {n : Nat} {e : α → PyData} {x y : α} (he : EqE e) (hs : ShE n e) (hn : n ≤ 64) (ha : EvD K ta σ F cs (e x) cs1) (hb : EvD K tb σ F cs1 (e y) cs2) : EvD K (tOp (rEqD K) ta tb) σ F cs (.bool (decide (x = y))) cs2 :=
  he x y ▸ d_eqD ha hb (shp hs hn x) (shp hs hn y)
theorem d_neT {α : Type} [DecidableEq α] {n : Nat} {e : α → PyData} {x y : α} (he : EqE e) (hs : ShE n e) (hn : n ≤ 64) (ha : EvD K ta σ F cs (e x) cs1) (hb : EvD K tb σ F cs1 (e y) cs2) : EvD K (tOp (rNeD K) ta tb) σ F cs (.bool (!decide (x = y))) cs2 :=
  he x y ▸ d_neD ha hb (shp hs hn x) (shp hs hn y)
def eqTM {α : Type} [DecidableEq α] (e : α → PyData) (x y : α) : Option Bool := if SeqAt.shaped (e x) = true ∧ SeqAt.shaped (e y) = true then some (decide (x = y)) else none
def eqDM (x y : PyData) : Option Bool := if SeqAt.shaped x = true ∧ SeqAt.shaped y = true then some (PyData.eqv x y) else none
theorem d_eqTM {α : Type} [DecidableEq α] {e : α → PyData} {x y : α} {b : Bool} (he : EqE e) (ha : EvD K ta σ F cs (e x) cs1) (hb : EvD K tb σ F cs1 (e y) cs2) (hm : eqTM e x y = some b) : EvD K (tOp (rEqD K) ta tb) σ F cs (.bool b) cs2 := by
  unfold eqTM at hm; split at hm
  · rename_i h; cases hm; exact he x y ▸ d_eqD ha hb h.1 h.2
  · cases hm
theorem d_neTM {α : Type} [DecidableEq α] {e : α → PyData} {x y : α} {b : Bool} (he : EqE e) (ha : EvD K ta σ F cs (e x) cs1) (hb : EvD K tb σ F cs1 (e y) cs2) (hm : eqTM e x y = some b) : EvD K (tOp (rNeD K) ta tb) σ F cs (.bool (!b)) cs2 := by
  unfold eqTM at hm; split at hm
  · rename_i h; cases hm; exact he x y ▸ d_neD ha hb h.1 h.2
  · cases hm
theorem d_eqDM {x y : PyData} {b : Bool} (ha : EvD K ta σ F cs x cs1) (hb : EvD K tb σ F cs1 y cs2) (hm : eqDM x y = some b) : EvD K (tOp (rEqD K) ta tb) σ F cs (.bool b) cs2 := by
  unfold eqDM at hm; split at hm
  · rename_i h; cases hm; exact d_eqD ha hb h.1 h.2
  · cases hm
theorem d_neDM {x y : PyData} {b : Bool} (ha : EvD K ta σ F cs x cs1) (hb : EvD K tb σ F cs1 y cs2) (hm : eqDM x y = some b) : EvD K (tOp (rNeD K) ta tb) σ F cs (.bool (!b)) cs2 := by
  unfold eqDM at hm; split at hm
  · rename_i h; cases hm; exact d_neD ha hb h.1 h.2
  · cases hm
end
end Bw

namespace Bw
open PySem L2
/-! names for readings -/
abbrev rAbs : List V → Hp → VK → Prop := fun xs H Q => ∃ i, xs = [.int i] ∧ Q (.int (if i < 0 then -i else i)) H
abbrev rMax2 : List V → Hp → VK → Prop := fun xs H Q => ∃ i j, xs = [.int i, .int j] ∧ Q (.int (if j > i then j else i)) H
abbrev rMin2 : List V → Hp → VK → Prop := fun xs H Q => ∃ i j, xs = [.int i, .int j] ∧ Q (.int (if j < i then j else i)) H
abbrev rLenL (K : PySem.W.Frag) : List V → Hp → VK → Prop := fun xs H Q => ∃ p ys, xs = [.ref p] ∧ (SqL K H p ys ∨ SqT K H p ys) ∧ Q (.int ys.length) H
abbrev rLenS : List V → Hp → VK → Prop := fun xs H Q => ∃ z, xs = [.str z] ∧ z.length ≤ sizeLine ∧ Q (.int z.length) H
abbrev rInt : List V → Hp → VK → Prop := fun xs H Q => (∃ i, xs = [.int i] ∧ Q (.int i) H) ∨ ∃ k, xs = [.bl k] ∧ Q (.int (if k then 1 else 0)) H
abbrev rStrI : List V → Hp → VK → Prop := fun xs H Q => ∃ i, xs = [.int i] ∧ i.natAbs.log2 < 1920 ∧ Q (.str (toString i)) H
abbrev rListS (K : PySem.W.Frag) : List V → Hp → VK → Prop := fun xs H Q => ∃ p ys, xs = [.ref p] ∧ (SqL K H p ys ∨ SqT K H p ys) ∧ ∀ l, H l = none → Q (.ref l) (upd H l (.lst ys))
abbrev rScat : R2 := fun x y H Q => ∃ i j, x = .str i ∧ y = .str j ∧ i.length + j.length ≤ sizeLine ∧ Q (.str (i ++ j)) H
abbrev rInS : R2 := fun x y H Q => ∃ i j, x = .str i ∧ y = .str j ∧ Q (.bl (!(Builtin.Str.occurrences j i 0 j.length 1).isEmpty)) H
abbrev rNinS : R2 := fun x y H Q => ∃ i j, x = .str i ∧ y = .str j ∧ Q (.bl (!(!(Builtin.Str.occurrences j i 0 j.length 1).isEmpty))) H
abbrev rIsN : R2 := fun x y H Q => y = .non ∧ Q (.bl (decide (x = .non))) H
abbrev rNotN : R2 := fun x y H Q => y = .non ∧ Q (.bl (!decide (x = .non))) H
abbrev rJoin (K : PySem.W.Frag) : V → List V → Hp → VK → Prop := fun x xs H Q => ∃ a p, ∃ ys : List Str, x = .str a ∧ xs = [.ref p] ∧ (SqL K H p (ys.map V.str) ∨ SqT K H p (ys.map V.str)) ∧ (ys.map (·.length)).sum + ys.length * a.length ≤ 16777216 ∧ Q (.str (Txt.join a ys)) H
section
variable {X : Cx}
theorem cr_abs : CallR X (.builtin "abs") rAbs := call_abs
theorem cr_max2 (hc : X.calm = true) : CallR X (.builtin "max") rMax2 := call_max2 hc
theorem cr_min2 (hc : X.calm = true) : CallR X (.builtin "min") rMin2 := call_min2 hc
theorem cr_lenL : CallR X (.builtin "len") (rLenL X.K) := call_len_seq
theorem cr_lenS : CallR X (.builtin "len") rLenS := call_len_str
theorem cr_int : CallR X (.type "int") rInt := call_int1
theorem cr_str : CallR X (.type "str") rStrI := call_str_int
theorem cr_list : CallR X (.type "list") (rListS X.K) := call_list_of
theorem op_scatR : OpR X (binaryOp .Add) rScat := op_add_str
theorem op_inR : OpR X (compareOp .In) rInS := op_in_str
theorem op_ninR : OpR X (compareOp .NotIn) rNinS := op_notin_str
theorem op_isNR : OpR X (compareOp .Is) rIsN := op_isN
theorem op_notNR : OpR X (compareOp .IsNot) rNotN := op_notN
end
theorem bf {b : Bool} (h : b = false) : ¬ b = true := by rw [h]; decide
theorem bt {b : Bool} (h : ¬ b = true) : b = false := by cases b <;> simp_all
theorem isS {α : Type} {c : Bool} {a : α} : (if c = true then some a else none : Option α).isSome = c := by cases c <;> rfl
theorem isSm {α : Type} {c : Bool} {a y : α} (h : (if c = true then some a else none : Option α) = some y) : a = y := by
  cases c with
  | true => exact Option.some.inj h
  | false => cases h
theorem pr2 {α β : Type} {a a' : α} {b b' : β} (h : (a, b) = (a', b')) : a = a' ∧ b = b' := by cases h; exact ⟨rfl, rfl⟩
theorem pr3 {α β γ : Type} {a a' : α} {b b' : β} {c c' : γ} (h : (a, b, c) = (a', b', c')) : a = a' ∧ b = b' ∧ c = c' := by cases h; exact ⟨rfl, rfl, rfl⟩
theorem pr4 {α β γ δ : Type} {a a' : α} {b b' : β} {c c' : γ} {d d' : δ} (h : (a, b, c, d) = (a', b', c', d')) : a = a' ∧ b = b' ∧ c = c' ∧ d = d' := by cases h; exact ⟨rfl, rfl, rfl, rfl⟩
theorem pr5 {α β γ δ ε : Type} {a a' : α} {b b' : β} {c c' : γ} {d d' : δ} {e e' : ε} (h : (a, b, c, d, e) = (a', b', c', d', e')) : a = a' ∧ b = b' ∧ c = c' ∧ d = d' ∧ e = e' := by cases h; exact ⟨rfl, rfl, rfl, rfl, rfl⟩
theorem dt_oI {K : PySem.W.Frag} {F : Hp} (o : Option Int) : Dt K F (oV V.int o) (eO eI o) := by cases o with
  | none => exact .non
  | some x => exact .int x
theorem dt_oS {K : PySem.W.Frag} {F : Hp} (o : Option Str) : Dt K F (oV V.str o) (eO eS o) := by cases o with
  | none => exact .non
  | some x => exact .str x
theorem dt_toI {K : PySem.W.Frag} {F : Hp} {v : V} {o : Option Int} (h : Dt K F v (eO eI o)) : v = oV V.int o := by cases o with
  | none => exact h.toNon
  | some x => exact h.toInt
theorem dt_toS {K : PySem.W.Frag} {F : Hp} {v : V} {o : Option Str} (h : Dt K F v (eO eS o)) : v = oV V.str o := by cases o with
  | none => exact h.toNon
  | some x => exact h.toStr
def mapC {α β : Type} (f : α → β) (xs : List α) : Option (List β) := if xs.length ≤ 100000 then some (xs.map f) else none
def filC {α β : Type} (p : α → Bool) (f : α → β) (xs : List α) : Option (List β) := if xs.length ≤ 100000 then some ((xs.filter p).map f) else none
def lcC {α β : Type} (f : α → Option (Option β)) (xs : List α) : Option (List β) := if xs.length ≤ 100000 then lcM f xs else none
section
variable {K : PySem.W.Frag} {σ : St} {F F' : Hp} {cs cs1 cs2 cs3 : Cs} {ta tb tc te : TE} {d e : PyData} {as : TA} {a b c : Int} {nx bk ct : St → Hp → Prop} {rt : VK} {H : Hp} {t u : TS}
theorem d_mulC (ha : EvD K ta σ F cs (.int a) cs1) (hb : EvD K tb σ F cs1 (.int b) cs2) (hc : CMul a b) : EvD K (tOp (rI CMul fun i j => .int (i * j)) ta tb) σ F cs (.int (a * b)) cs2 := d_I ha hb hc fun _ => .int _
theorem d_modC (ha : EvD K ta σ F cs (.int a) cs1) (hb : EvD K tb σ F cs1 (.int b) cs2) (hc : 0 < b) : EvD K (tOp (rI (fun _ j => 0 < j) fun i j => .int (i % j)) ta tb) σ F cs (.int (a % b)) cs2 := d_I (C := fun _ j => 0 < j) ha hb hc fun _ => .int _
theorem d_fdivC (ha : EvD K ta σ F cs (.int a) cs1) (hb : EvD K tb σ F cs1 (.int b) cs2) (hc : CDiv a b) : EvD K (tOp (rI CDiv fun i j => .int (i / j)) ta tb) σ F cs (.int (a / b)) cs2 := d_I ha hb hc fun _ => .int _
theorem d_powC (ha : EvD K ta σ F cs (.int a) cs1) (hb : EvD K tb σ F cs1 (.int b) cs2) (hc : CPow a b) : EvD K (tOp (rI CPow fun i j => .int (i ^ j.toNat)) ta tb) σ F cs (.int (a ^ b.toNat)) cs2 := d_I ha hb hc fun _ => .int _
theorem d_chain {g g' : Int → Int → Bool} (ha : EvD K ta σ F cs (.int a) cs1) (hb : EvD K tb σ F cs1 (.int b) cs2) (hc : EvD K tc σ F cs2 (.int c) cs2) : EvD K (tChain (rI0 fun i j => .bl (g i j)) (rI0 fun i j => .bl (g' i j)) ta tb tc) σ F cs (.bool (g a b && g' b c)) cs2 := fun F1 H1 g1 s Q q =>
  ha F1 H1 g1 s _ fun v F2 H2 g2 s2 h2 => hb F2 H2 (g1.tr g2) s2 _ fun w F3 H3 g3 s3 h3 => by
    cases h2.toInt; cases h3.toInt
    refine ⟨a, b, rfl, rfl, g a b, rfl, ?_⟩
    cases e : g a b with
    | true => exact hc F3 H3 ((g1.tr g2).tr g3) s3 _ fun z F4 H4 g4 s4 h4 => ⟨b, c, rfl, h4.toInt, q _ F4 H4 ((g2.tr g3).tr g4) s4 (by rw [e, Bool.true_and]; exact .bl _)⟩
    | false => exact q _ F3 H3 (g2.tr g3) s3 (by rw [e, Bool.false_and]; exact .bl _)
theorem t_andP {t u : TT} {a b : Bool} (h1 : EvT t σ F cs a cs1) (h2 : a = true → EvT u σ F cs1 b cs1) : EvT (tAnd t u) σ F cs (a && b) cs1 := t_and h1 h2 (fun h => by rw [h, Bool.true_and]) (fun h => by rw [h, Bool.false_and])
theorem t_orP {t u : TT} {a b : Bool} (h1 : EvT t σ F cs a cs1) (h2 : a = false → EvT u σ F cs1 b cs1) : EvT (tOr t u) σ F cs (a || b) cs1 := t_or h1 h2 (fun h => by rw [h, Bool.false_or]) (fun h => by rw [h, Bool.true_or])
theorem t_andM {t u : TT} {a r : Bool} (h1 : EvT t σ F cs a cs1) (h2 : a = true → EvT u σ F cs1 r cs1) (h4 : a = false → r = false) : EvT (tAnd t u) σ F cs r cs1 := t_and h1 h2 (fun _ => rfl) h4
theorem t_orM {t u : TT} {a r : Bool} (h1 : EvT t σ F cs a cs1) (h2 : a = false → EvT u σ F cs1 r cs1) (h4 : a = true → r = true) : EvT (tOr t u) σ F cs r cs1 := t_or h1 h2 (fun _ => rfl) h4
theorem d_andP {a b : Bool} (h1 : EvD K ta σ F cs (.bool a) cs1) (h2 : a = true → EvD K tb σ F cs1 (.bool b) cs1) : EvD K (tAndV ta tb) σ F cs (.bool (a && b)) cs1 := d_andV h1 h2 (fun h => by rw [h, Bool.true_and]) (fun h => by rw [h, Bool.false_and])
theorem d_orP {a b : Bool} (h1 : EvD K ta σ F cs (.bool a) cs1) (h2 : a = false → EvD K tb σ F cs1 (.bool b) cs1) : EvD K (tOrV ta tb) σ F cs (.bool (a || b)) cs1 := d_orV h1 h2 (fun h => by rw [h, Bool.false_or]) (fun h => by rw [h, Bool.true_or])
theorem d_andM {a r : Bool} (h1 : EvD K ta σ F cs (.bool a) cs1) (h2 : a = true → EvD K tb σ F cs1 (.bool r) cs1) (h4 : a = false → r = false) : EvD K (tAndV ta tb) σ F cs (.bool r) cs1 := d_andV h1 h2 (fun _ => rfl) h4
theorem d_orM {a r : Bool} (h1 : EvD K ta σ F cs (.bool a) cs1) (h2 : a = false → EvD K tb σ F cs1 (.bool r) cs1) (h4 : a = true → r = true) : EvD K (tOrV ta tb) σ F cs (.bool r) cs1 := d_orV h1 h2 (fun _ => rfl) h4
theorem d_join {x z : Str} {xs : List Str} (ha : EvD K ta σ F cs (.str x) cs1) (hb : EvD K tb σ F cs1 (eL eS xs) cs2) (hz : joinM x xs = some z) : EvD K (tM1 (rJoin K) ta tb) σ F cs (.str z) cs2 := fun F1 H1 g1 s Q q =>
  ha F1 H1 g1 s _ fun v F2 H2 g2 s2 h2 => ⟨⟨x, h2.toStr⟩, hb F2 H2 (g1.tr g2) s2 _ fun w F3 H3 g3 s3 h3 => by
    obtain ⟨p, vs, rfl, hl, hd⟩ := h3.toLst
    cases hd.strs
    unfold joinM at hz; split at hz
    · rename_i h; cases hz
      refine ⟨x, p, xs, h2.toStr, rfl, .inl (gr_L s3.fr hl), ?_, q _ F3 H3 (g2.tr g3) s3 (.str _)⟩
      rw [Nat.mul_comm xs.length]
      exact Nat.le_trans h (by decide)
    · cases hz⟩
theorem c_lcC {α β : Type} {wi : TI} {g : TG} {tt : TT} {vs : List Nat} {xs : List α} {en : α → PyData} {em : β → PyData} {f : α → Option (Option β)} {ys : List β}
    (hi : EvI K wi σ F cs (xs.map en) cs1) (hm : lcC f xs = some ys)
    (turn : ∀ x o v F1 p us, Gr F F1 → Dt K F1 v (en x) → f x = some o → ∃ σ2 : St, (∀ H (Q : St → Hp → Prop), Sta F1 ((p, .lst us) :: cs1) H → Q σ2 H → g v (wipe σ vs) H Q) ∧ wipe σ2 vs = wipe σ vs ∧
      EvT tt σ2 F1 ((p, .lst us) :: cs1) o.isSome ((p, .lst us) :: cs1) ∧ ∀ y, o = some y → EvD K te σ2 F1 ((p, .lst us) :: cs1) (em y) ((p, .lst us) :: cs1)) :
    EvC K (tLc wi g tt te vs) σ F cs (ys.map em) cs1 := by
  unfold lcC at hm; split at hm
  · rename_i h; exact c_lc hi hm h turn
  · cases hm
theorem c_mapC {α β : Type} {wi : TI} {g : TG} {tt : TT} {vs : List Nat} {xs : List α} {en : α → PyData} {em : β → PyData} {f : α → β} {ys : List β}
    (hi : EvI K wi σ F cs (xs.map en) cs1) (hm : mapC f xs = some ys)
    (turn : ∀ x o v F1 p us, Gr F F1 → Dt K F1 v (en x) → some (some (f x)) = some o → ∃ σ2 : St, (∀ H (Q : St → Hp → Prop), Sta F1 ((p, .lst us) :: cs1) H → Q σ2 H → g v (wipe σ vs) H Q) ∧ wipe σ2 vs = wipe σ vs ∧
      EvT tt σ2 F1 ((p, .lst us) :: cs1) o.isSome ((p, .lst us) :: cs1) ∧ ∀ y, o = some y → EvD K te σ2 F1 ((p, .lst us) :: cs1) (em y) ((p, .lst us) :: cs1)) :
    EvC K (tLc wi g tt te vs) σ F cs (ys.map em) cs1 := by
  unfold mapC at hm; split at hm
  · rename_i h; cases hm; exact c_lc (f := fun x => some (some (f x))) hi (lcM_map f xs) h turn
  · cases hm
theorem c_filC {α β : Type} {wi : TI} {g : TG} {tt : TT} {vs : List Nat} {xs : List α} {en : α → PyData} {em : β → PyData} {p : α → Bool} {f : α → β} {ys : List β}
    (hi : EvI K wi σ F cs (xs.map en) cs1) (hm : filC p f xs = some ys)
    (turn : ∀ x o v F1 p' us, Gr F F1 → Dt K F1 v (en x) → some (if p x = true then some (f x) else none) = some o → ∃ σ2 : St, (∀ H (Q : St → Hp → Prop), Sta F1 ((p', .lst us) :: cs1) H → Q σ2 H → g v (wipe σ vs) H Q) ∧ wipe σ2 vs = wipe σ vs ∧
      EvT tt σ2 F1 ((p', .lst us) :: cs1) o.isSome ((p', .lst us) :: cs1) ∧ ∀ y, o = some y → EvD K te σ2 F1 ((p', .lst us) :: cs1) (em y) ((p', .lst us) :: cs1)) :
    EvC K (tLc wi g tt te vs) σ F cs (ys.map em) cs1 := by
  unfold filC at hm; split at hm
  · rename_i h; cases hm; exact c_lc (f := fun x => some (if p x = true then some (f x) else none)) hi (lcM_filter p f xs) h turn
  · cases hm
theorem nxt (h : nx σ H) : tNext ⟨nx, rt, bk, ct⟩ σ H := h
theorem tg {g : TG} {v : V} {σ' : St} {Q : St → Hp → Prop} (h1 : ∀ Q : St → Hp → Prop, Q σ' H → g v σ H Q) (h2 : Q σ' H) : g v σ H Q := h1 Q h2
theorem s_asg {g : TG} (s : Sta F cs H) (h : EvD K te σ F cs d cs1) (q : ∀ v F2 H2, Gr F F2 → Sta F2 cs1 H2 → Dt K F2 v d → g v σ H2 nx) : tAsg te g ⟨nx, rt, bk, ct⟩ σ H := h F H .rfl s _ q
theorem s_ifJ {c : TT} {b : Bool} (J : St → Hp → Prop) (s : Sta F cs H) (h : EvT c σ F cs b cs1) (rest : ∀ σ' H', J σ' H' → nx σ' H') (qt : (∀ σ' H', J σ' H' → nx σ' H') → b = true → ∀ F2 H2, Gr F F2 → Sta F2 cs1 H2 → t ⟨nx, rt, bk, ct⟩ σ H2)
    (qf : (∀ σ' H', J σ' H' → nx σ' H') → b = false → ∀ F2 H2, Gr F F2 → Sta F2 cs1 H2 → u ⟨nx, rt, bk, ct⟩ σ H2) : tIfS c t u ⟨nx, rt, bk, ct⟩ σ H := s_if s h (qt rest) (qf rest)
theorem s_appF {α : Type} {vf : α → V} {en : α → PyData} {l1 l2 : Cs} {i : Nat} {p : Addr} {xs ys : List α} {x : α} (hw : ∀ F v x, Dt K F v (en x) → v = vf x) (s : Sta F (l1 ++ (p, .lst (xs.map vf)) :: l2) H) (hi : σ[i]? = some (some (.ref p))) (h : EvD K te σ F (l1 ++ (p, .lst (xs.map vf)) :: l2) (en x) (l1 ++ (p, .lst (xs.map vf)) :: l2)) (hm : appM xs x = some ys)
    (q : ∀ F2 H2, Gr F F2 → Sta F2 (l1 ++ (p, .lst (ys.map vf)) :: l2) H2 → nx σ H2) : tDrop (tBM K "list" rAppend (tVar i) (tCons te tNil)) ⟨nx, rt, bk, ct⟩ σ H := by
  obtain ⟨hl, rfl⟩ := appM_some hm
  refine s_app s hi h (by rw [List.length_map]; exact hl) fun v F2 H2 g2 s2 h2 => q F2 H2 g2 ?_
  cases hw F2 v x h2
  rw [List.map_append]; exact s2
theorem s_appG {α : Type} {en : α → PyData} {l1 l2 : Cs} {i : Nat} {p : Addr} {vs : List V} {xs ys : List α} {x : α} (s : Sta F (l1 ++ (p, .lst vs) :: l2) H) (hf : Dts K F vs (xs.map en)) (hi : σ[i]? = some (some (.ref p))) (h : EvD K te σ F (l1 ++ (p, .lst vs) :: l2) (en x) (l1 ++ (p, .lst vs) :: l2)) (hm : appM xs x = some ys)
    (q : ∀ us F2 H2, Gr F F2 → Sta F2 (l1 ++ (p, .lst us) :: l2) H2 → Dts K F2 us (ys.map en) → nx σ H2) : tDrop (tBM K "list" rAppend (tVar i) (tCons te tNil)) ⟨nx, rt, bk, ct⟩ σ H := by
  obtain ⟨hl, rfl⟩ := appM_some hm
  refine s_app s hi h (by rw [hf.len, List.length_map]; exact hl) fun v F2 H2 g2 s2 h2 => q _ F2 H2 g2 s2 ?_
  rw [List.map_append]; exact (hf.gr g2).app (.cons h2 .nil)
theorem s_itemF {α : Type} {vf : α → V} {en : α → PyData} {l1 l2 : Cs} {i : Nat} {p : Addr} {xs ys : List α} {x : α} {ti : TE} {k : Int} (hw : ∀ F v x, Dt K F v (en x) → v = vf x) (s : Sta F (l1 ++ (p, .lst (xs.map vf)) :: l2) H) (hi : σ[i]? = some (some (.ref p))) (h : EvD K te σ F (l1 ++ (p, .lst (xs.map vf)) :: l2) (en x) (l1 ++ (p, .lst (xs.map vf)) :: l2))
    (h2 : EvD K ti σ F (l1 ++ (p, .lst (xs.map vf)) :: l2) (.int k) (l1 ++ (p, .lst (xs.map vf)) :: l2)) (hm : setM xs k x = some ys) (q : ∀ F2 H2, Gr F F2 → Sta F2 (l1 ++ (p, .lst (ys.map vf)) :: l2) H2 → nx σ H2) : tAsg te (gSub (tVar i) ti rSetL) ⟨nx, rt, bk, ct⟩ σ H := by
  obtain ⟨j, hj, rfl⟩ := setM_some hm
  refine s_item (j := j) s hi h h2 (by rw [List.length_map]; exact hj) fun v F2 H2 g2 s2 hv => q F2 H2 g2 ?_
  cases hw F2 v x hv
  rw [List.map_set]; exact s2
theorem s_itemG {α : Type} {en : α → PyData} {l1 l2 : Cs} {i : Nat} {p : Addr} {vs : List V} {xs ys : List α} {x : α} {ti : TE} {k : Int} (s : Sta F (l1 ++ (p, .lst vs) :: l2) H) (hf : Dts K F vs (xs.map en)) (hi : σ[i]? = some (some (.ref p))) (h : EvD K te σ F (l1 ++ (p, .lst vs) :: l2) (en x) (l1 ++ (p, .lst vs) :: l2))
    (h2 : EvD K ti σ F (l1 ++ (p, .lst vs) :: l2) (.int k) (l1 ++ (p, .lst vs) :: l2)) (hm : setM xs k x = some ys) (q : ∀ us F2 H2, Gr F F2 → Sta F2 (l1 ++ (p, .lst us) :: l2) H2 → Dts K F2 us (ys.map en) → nx σ H2) : tAsg te (gSub (tVar i) ti rSetL) ⟨nx, rt, bk, ct⟩ σ H := by
  obtain ⟨j, hj, rfl⟩ := setM_some hm
  refine s_item (j := j) s hi h h2 (by rw [hf.len, List.length_map]; exact hj) fun v F2 H2 g2 s2 hv => q _ F2 H2 g2 s2 ?_
  rw [List.map_set]; exact (hf.gr g2).setAt j hv
end
/-! isinstance -/
def kindD : PyData → String
  | .none => "NoneType"
  | .bool _ => "bool"
  | .int _ => "int"
  | .str _ => "str"
  | .list _ => "list"
  | .tuple _ => "tuple"
  | .dict _ => "dict"
def isiD (c : String) (d : PyData) : Bool := kindD d == c || (kindD d == "bool" && c == "int")
def isiK : List String := ["int", "str", "bool", "list", "tuple", "dict"]
theorem kit_isi {K : PySem.W.Frag} {c : String} (hc : c ∈ isiK) (d : PyData) : PySem.W.kitOne K (.type (kindD d)) (.type c) = some (isiD c d) := by
  have h : ∀ k ∈ ["NoneType", "bool", "int", "str", "list", "tuple", "dict"], ∀ c ∈ isiK, kitB k c = some (k == c || (k == "bool" && c == "int")) := by decide +kernel
  exact kit_ty (h (kindD d) (by cases d <;> simp [kindD]) c hc)
theorem ty_of {K : PySem.W.Frag} {F H : Hp} {v : V} {d : PyData} (g : Gr F H) (h : Dt K F v d) : TyX K H v (.type (kindD d)) := by
  cases h with
  | non => exact .base .non
  | bl b => exact .base (.bl b)
  | int i => exact .base (.int i)
  | str x => exact .base (.str x)
  | lst hl _ =>
    rcases hl with (h | ⟨o, h⟩) | ⟨o, its, n, h1, h2, h3⟩
    · exact .base (.lst (g _ _ h))
    · exact .base (.frz (g _ _ h))
    · exact .kList h1 h2
  | tup ht _ =>
    rcases ht with (h | ⟨o, h⟩) | ⟨o, its, n, h1, h2, h3⟩
    · exact .base (.tup (g _ _ h))
    · exact .fTuple (g _ _ h)
    · exact .kTuple h1 h2
  | dct h => exact .base (.dK (g _ _ h))
theorem d_isiD {K : PySem.W.Frag} {σ : St} {F : Hp} {cs cs1 : Cs} {ta : TE} {d : PyData} {c : String} (hc : c ∈ isiK) (ha : EvD K ta σ F cs d cs1) : EvD K (tCB (rIsi K) (tCons ta (tCons (tC (.ty c)) tNil))) σ F cs (.bool (isiD c d)) cs1 := fun F1 H1 g1 s Q q =>
  ha F1 H1 g1 s _ fun v F2 H2 g2 s2 h2 => ⟨v, .ty c, .type (kindD d), .type c, isiD c d, rfl, .ty c, ty_of s2.fr h2, kit_isi hc d, q _ F2 H2 g2 s2 (.bl _)⟩
/-! a def that keeps its promise -/
def Lk (K : PySem.W.Frag) (f : Addr) (fd : FuncData) : Prop := ∃ oc od sl, K.lookup f = some ⟨oc, od, .func fd, sl⟩
theorem lk_of {K : PySem.W.Frag} {x qual : Str} {params : Arguments} {body : List Stmt} {scope : Scope} {dvs : List V} {kws : List (Str × V)} {f : Addr} {fd : FuncData} (F : FunD K x qual params body scope dvs kws f fd) : Lk K f fd := by
  obtain ⟨oc, od, dV, kV, doc, pm, an, cdv, ct, osl, _, lk, _⟩ := F.ex
  exact ⟨oc, od, osl, lk⟩
theorem Lk.one {K : PySem.W.Frag} {f : Addr} {fd fd2 : FuncData} (a : Lk K f fd) (b : Lk K f fd2) : fd = fd2 := by
  obtain ⟨_, _, _, e1⟩ := a
  obtain ⟨_, _, _, e2⟩ := b
  rw [e1] at e2
  cases e2
  rfl
structure Ok (P : Program) (w : World) (K : PySem.W.Frag) (mg : Str → Option Value) (base : Heap) (k : Nat) (x : Str) (ps : List Str) (sp : Sp) : Prop where
  ex : ∃ fd, FnOk P w K mg base CX0 k (He.ga K x) fd ps sp ∧ Binds K fd ps [] ∧ Lk K (He.ga K x) fd
  kp : PySem.W.keepIn K (.ref (He.ga K x)) = true
  gm : mg x = some (.ref (He.ga K x))
structure Df (K : PySem.W.Frag) (mg : Str → Option Value) (x : Str) (st : Stmt) : Prop where
  ex : ∃ fd, FunD K x x (defArgs st) (defBody st) (defScope st) [] [] (He.ga K x) fd
  gm : mg x = some (.ref (He.ga K x))
end Bw

/-! set(list) for any kind of key: as many members as unlike keys -/
namespace Bw
open PySem PyProof.Rows
def dups {κ : Type} [BEq κ] : List κ → List κ → List κ
  | acc, [] => acc
  | acc, x :: xs => dups (if acc.any (· == x) then acc else acc ++ [x]) xs
section
variable {κ : Type} [DecidableEq κ] [BEq κ] [LawfulBEq κ]
def met (ks : List κ) (i : Nat) : List κ := dups [] (ks.take i)
theorem dups_app (l : List κ) (x : κ) : ∀ acc, dups acc (l ++ [x]) = (if (dups acc l).any (· == x) then dups acc l else dups acc l ++ [x]) := by
  induction l with
  | nil => intro acc; rfl
  | cons y l ih => intro acc; exact ih _
theorem met_succ (ks : List κ) (i : Nat) (x : κ) (h : ks[i]? = some x) : met ks (i + 1) = (if (met ks i).any (· == x) then met ks i else met ks i ++ [x]) := by
  unfold met
  rw [List.take_add_one, h]
  exact dups_app _ _ _
theorem dups_len (l : List κ) : ∀ acc : List κ, (dups acc l).length ≤ acc.length + l.length := by
  induction l with
  | nil => intro acc; exact Nat.le_refl _
  | cons y l ih =>
    intro acc
    have := ih (if acc.any (· == y) then acc else acc ++ [y])
    have h2 : (if acc.any (· == y) then acc else acc ++ [y]).length ≤ acc.length + 1 := by
      split
      · exact Nat.le_succ _
      · rw [List.length_append]; exact Nat.le_refl _
    show (dups (if acc.any (· == y) then acc else acc ++ [y]) l).length ≤ acc.length + (l.length + 1)
    omega
theorem met_len (ks : List κ) (i : Nat) : (met ks i).length ≤ i := by
  have h := dups_len (ks.take i) ([] : List κ)
  have h2 : (ks.take i).length ≤ i := by rw [List.length_take]; exact Nat.min_le_left _ _
  unfold met
  simp only [List.length_nil, Nat.zero_add] at h
  omega
end
section
variable {prog : Program} {w : World} {A : Around} {R : Result → Shared → Prop} {I : Addr} {fp wr : List Addr} {G : Array GenState → Array GenState → Prop} {n : Nat} {P : Nat → Value → Prop} {St : Nat → Shared → Prop}
variable {κ : Type} [DecidableEq κ] [BEq κ] [LawfulBEq κ] (knd : KeyKind prog w κ)
theorem loopK (W : WalksS prog w A.in1 I fp wr G n P St) (S : Addr) (hSf : S ∉ fp) (ks : List κ) (hval : ∀ i v, P i v → ∃ k, ks[i]? = some k ∧ knd.is k v = true ∧ v.scannable = true) (hb : n + 1 < scanBound) :
    ∀ (k i : Nat) (s : Shared), n - i = k → i ≤ n → St i s → s.heap.SetOf knd S (fun z => (met ks i).any (· == z)) (met ks i).length →
      (∀ s', Moved (S :: wr) G s s' → s'.heap.SetOf knd S (fun z => (met ks n).any (· == z)) (met ks n).length → R (.ok (.ret .none)) s') →
      codeAny (model prog w) A (.builtin "set.update.loop" ⟨[.ref S, .ref I], []⟩) R s := by
  have nw : S ∉ wr := fun h => hSf (W.sub _ h)
  have sb : ∀ b ∈ wr, b ∈ S :: wr := fun b hb => List.mem_cons_of_mem _ hb
  intro k
  induction k with
  | zero =>
    intro i s hk hi hst hS hR
    obtain rfl : i = n := by omega
    refine codeAny_builtin F.entry_set_update_loop ?_
    rw [Around.under_plainId F.plain_set_update_loop _]
    show wpAny _ A.in1 (pyNext (.ref I) >>= _) _ _ s
    refine wpAny_bind (W.done s _ _ hst fun s' hm => ?_)
    show wpAny _ A.in1 (ret Value.none) _ _ s'
    refine wpAny_pure (hR s' (hm.mono sb) ?_)
    obtain ⟨o, es, ep, t, ho, rest⟩ := hS
    exact ⟨o, es, ep, t, hm.heap S _ nw ho, rest⟩
  | succ k ih =>
    intro i s hk hi hst hS hR
    have hlt : i < n := by omega
    refine codeAny_builtin F.entry_set_update_loop ?_
    rw [Around.under_plainId F.plain_set_update_loop _]
    show wpAny _ A.in1 (pyNext (.ref I) >>= _) _ _ s
    refine wpAny_bind (W.item i s _ _ hlt hst fun v s' hP hst' hm => ?_)
    obtain ⟨x, hx, his, hsc⟩ := hval i v hP
    have hS' : s'.heap.SetOf knd S (fun z => (met ks i).any (· == z)) (met ks i).length := by
      obtain ⟨o, es, ep, tb, ho, rest⟩ := hS
      exact ⟨o, es, ep, tb, hm.heap S _ nw ho, rest⟩
    show wpAny _ A.in1 (holding [v] (setAdd S v) >>= _) _ _ s'
    refine wpAny_bind (wpAny_holding ?_)
    unfold setAdd
    refine wpAny_holding ?_
    refine wpAny_bind (knd.pyHash (k := x) his ?_)
    refine wpAny_setAddHashed_of (knd := knd) (s := { s' with toks := s'.toks + 1 }) his hsc hS' (by have := met_len ks i; omega) fun h' hsb hS2 => ?_
    have hSi : h'.SetOf knd S (fun z => (met ks (i + 1)).any (· == z)) (met ks (i + 1)).length := by
      refine SetOf_congr hS2 (fun z => ?_) ?_
      · rw [met_succ ks i x hx]
        by_cases q : (met ks i).any (· == x) = true
        · rw [if_pos q]
          by_cases e : z = x
          · subst e; rw [q]; rfl
          · rw [decide_eq_false e, Bool.or_false]
        · rw [if_neg q, List.any_append]
          by_cases e : z = x
          · subst e; simp
          · have hb2 : (x == z) = false := beq_eq_false_iff_ne.mpr fun h' => e h'.symm
            simp [hb2, e]
      · rw [met_succ ks i x hx]
        by_cases q : (met ks i).any (· == x) = true
        · rw [if_pos q, if_pos q]
        · rw [if_neg q, if_neg q, List.length_append]; rfl
    refine wpAny_pure ⟨plainId_quiet F.plain_set_update_loop _, ih (i + 1) _ (by omega) hlt (W.frame _ s' _ _ hst' (Nat.le_succ _) fun b hb o e => ?_) hSi fun s'' hm'' hS'' => ?_⟩
    · rw [hsb.2 b (fun h : b = S => hSf (by rw [← h]; exact hb))]; exact e
    · refine hR s'' (Moved.trans W.gtrans ((hm.mono sb).then_heap (Nat.le_succ _) fun b o hb e => ?_) hm'') hS''
      rw [hsb.2 b (fun h : b = S => hb (by rw [h]; exact List.mem_cons_self))]; exact e
end
end Bw
namespace Bw
open PySem
section
variable {prog : Program} {w : World} {A : Around} {E : Value → Shared → Prop} {s : Shared}
variable {κ : Type} [DecidableEq κ] [BEq κ] [LawfulBEq κ] (knd : KeyKind prog w κ)
abbrev sO (led : Bool) : Obj := { cls := .type "set", dict := none, data := .set #[] 0 (.fresh 0 0 led) }
theorem call_setK {l : Addr} {items : Array Value} {ks : List κ} {Q : Value → Shared → Prop} (hh : A.handled = none) (hl : s.heap.IsList l items)
    (hi : ∀ (i : Nat) (v : Value), items[i]? = some v → ∃ k, ks[i]? = some k ∧ knd.is k v = true ∧ v.scannable = true) (hb : items.size + 1 < scanBound)
    (h : ∀ (h' : Heap) (tk : Nat), h'.SetOf knd s.heap.objs.size (fun z => (met ks items.size).any (· == z)) (met ks items.size).length → (∀ b o, b < s.heap.objs.size → s.heap.get? b = some o → h'.get? b = some o) → Q (.ref s.heap.objs.size) { s with heap := h', toks := tk }) :
    wpAny (model prog w) A (call (.type "set") [.ref l]) Q E s := by
  obtain ⟨c, tl, hmro⟩ := F.called_set.mro
  have hmade := F.called_set.made
  have hsub := F.called_set.sub
  refine wpAny_call (codeAny_of_tree ?_)
  show wpAny _ _ (callAny (.type "set") _) _ _ _
  refine wpAny_pure ⟨Code.quiet_builtin _ (by decide +kernel), codeAny_builtin F.entry_type_call ?_⟩
  rw [Around.under_plain (weight_type_call_type "set" [.ref l] []) rfl]
  have h1 := F.called_set.notType
  have h2 := F.called_set.canCreate
  have hct := F.typeCall_set_1 (.ref l)
  repeat (any_goals (first | assumption | wp_step))
  refine codeAny_mono (code_set_new_1 (.ref l) (E := E) (Q₁ := fun obj s₁ => ∃ led : Bool, obj = .ref s.heap.objs.size ∧ s₁ = { s with heap := s.heap.push (sO led) }) fun led => ⟨led, rfl, rfl⟩) fun r s₁ hr => ?_
  cases r with
  | error e => exact hr
  | ok fl =>
    cases fl with
    | ret obj =>
      obtain ⟨led, rfl, rfl⟩ := hr
      have hS : (s.heap.push (sO led)).get? s.heap.objs.size = some (sO led) := Heap.get?_push_size _ rfl
      have hT : Shared.TypeIs { s with heap := s.heap.push (sO led) } (.ref s.heap.objs.size) "set" := ⟨_, hS, rfl⟩
      have hli := F.called_set.init.lookup
      have hbi := F.called_set.init.bind (.ref s.heap.objs.size)
      repeat (any_goals (first | assumption | wp_step))
      refine codeAny_mono (codeAny_call_builtin (R := wants (fun r s₂ => r = .none ∧ ∃ h' tk, s₂ = { s with heap := h', toks := tk } ∧ h'.SetOf knd s.heap.objs.size (fun z => (met ks items.size).any (· == z)) (met ks items.size).length ∧
          (∀ b o, b < s.heap.objs.size → s.heap.get? b = some o → h'.get? b = some o)) E) F.called_set.init.plain F.entry_set_init (check_set_init_1 hT ?_)) fun r₂ s₂ hr₂ => ?_
      · obtain ⟨ol, hol, hcl, nl, hdl⟩ := hl
        obtain ⟨ocls, odict, odata, oslots⟩ := ol
        simp only at hcl hdl
        subst hcl; subst hdl
        have hol' : (s.heap.push (sO led)).get? l = some { cls := .type "list", dict := odict, data := .seq items nl, slots := oslots } := Heap.get?_push_of_some _ hol
        have hsls := F.sub_list_set
        have hslf := F.sub_list_frozenset
        have hne : (Value.type "list" == Value.type "dict") = false := by decide
        have hl1 : (s.heap.push (sO led)).IsList l items := ⟨_, hol', rfl, nl, rfl⟩
        unfold Builtin.«set.__init__» noKeywords Builtin.Frozenset.updateFrom
        generalize hPI : pyIter = PI
        wp_walk
        subst hPI
        refine wpAny_pyIter_list hl1 ?_
        refine wpAny_bind (wpAny_runValue ?_)
        have hlS : l < s.heap.objs.size := Heap.lt_size hol
        have hneI : l ≠ (s.heap.push (sO led)).objs.size := by
          rw [Heap.size_push]; exact Nat.ne_of_lt (Nat.lt_succ_of_lt hlS)
        have hSf : s.heap.objs.size ∉ [(s.heap.push (sO led)).objs.size, l] := by
          rw [Heap.size_push]; simp only [List.mem_cons, List.not_mem_nil, or_false, not_or]
          exact ⟨Nat.ne_of_lt (Nat.lt_succ_self _), Nat.ne_of_gt hlS⟩
        refine loopK knd ((Walks.list (by simp [hh]) _ l hneI items).toS) s.heap.objs.size hSf ks hi hb (items.size - 0) 0 _ (by omega) (Nat.zero_le _) ⟨⟨_, Heap.get?_push_size _ rfl, rfl, rfl⟩, (hl1.push _)⟩ ?hS0 ?hR
        case hS0 =>
          exact PyProof.Rows.SetOf_congr ((PyProof.Rows.setObjOf_fresh (knd := knd) led).setOf (Heap.get?_push_of_some _ hS) (by unfold scanBound; omega)) (fun _ => rfl) rfl
        case hR =>
          intro s' hm hS'
          obtain ⟨h', g', d', tk', os'⟩ := s'
          have eg : g' = s.gens := hm.gens
          have ed : d' = s.drawn := hm.drawn
          have eo : os' = s.os := hm.os
          subst eg; subst ed; subst eo
          show wpAny _ _ _ _ _ _
          refine wpAny_pure ?_
          show wpAny _ _ (ret Value.none) _ _ _
          refine wpAny_pure ⟨rfl, h', tk', rfl, hS', fun b o hb e => ?_⟩
          refine hm.heap b o ?_ (Heap.get?_push_of_some _ (Heap.get?_push_of_some _ e))
          simp only [List.mem_cons, List.not_mem_nil, or_false, not_or]
          exact ⟨Nat.ne_of_lt hb, by rw [Heap.size_push]; exact Nat.ne_of_lt (Nat.lt_succ_of_lt hb)⟩
      · cases r₂ with
        | error e => exact hr₂
        | ok fl₂ =>
          cases fl₂ with
          | ret r =>
            obtain ⟨rfl, h', tk, rfl, hS', hk'⟩ := hr₂
            repeat (any_goals (first | assumption | wp_step))
            exact h _ _ hS' hk'
          | _ => exact hr₂.elim
    | _ => exact hr.elim
end
end Bw


namespace Bw
open PySem L2
def tLenSetS (K : PySem.W.Frag) (ta : TE) : TE := fun σ H Q => ta σ H fun x H1 => ∃ (l : Addr) (xs : List Str), x = .ref l ∧ SqL K H1 l (xs.map V.str) ∧ xs.length ≤ 4000 ∧ Q (.int (dups [] xs).length) H1
theorem strs_get : ∀ {xs : List Str} {us : List Value} {i : Nat} {v : Value}, Vals (xs.map V.str) us → us[i]? = some v → ∃ k, xs[i]? = some k ∧ ∃ t, v = .str k t
  | [], _, _, _, .nil, e => by simp at e
  | x :: xs, _, 0, v, .cons r t, e => by
    simp at e; subst e
    exact ⟨x, rfl, r⟩
  | x :: xs, _, i + 1, v, .cons r t, e => by
    obtain ⟨k, h1, h2⟩ := strs_get (i := i) (v := v) t (by simpa using e)
    exact ⟨k, by simpa using h1, h2⟩
theorem met_all {κ : Type} [DecidableEq κ] [BEq κ] (ks : List κ) : met ks ks.length = dups [] ks := by unfold met; rw [List.take_length]
theorem pe_lenSetS {X : Cx} {a : Expr} {ta : TE} {p p2 q pos : Pos} (hc : X.calm = true) (hg : Gl X "len") (hm : X.mg "len" = none) (hg2 : Gl X "set") (hm2 : X.mg "set" = none) (ha : PE X a ta)
    (na : starEach [a] X.env = (false, eval a X.env) :: starEach [] X.env := by rfl) : PE X (.Call (.Name "len" p) [.Call (.Name "set" p2) [a] [] q] [] pos) (tLenSetS X.K ta) := by
  refine ⟨fun pins s σ H Q I h => ?_⟩
  refine PyProof.Rows.Call_ (ld_blt I hg hm boot_len ?_)
  refine PyProof.Rows.callWith_builtin1 (PyProof.Rows.args_cons ?_ rfl) rfl rfl
  refine PyProof.Rows.Call_ (ld_blt I hg2 hm2 PyProof.Rows.boot_set ?_)
  refine PyProof.Rows.callWith_type1 (PyProof.Rows.args_cons (thn (ha.run pins s σ H _ I h) fun v s1 ⟨x, H1, I1, r1, q1⟩ => PyProof.Rows.args_nil ?_) na) na rfl
  obtain ⟨l, xs, rfl, hq, h1, q1⟩ := q1
  cases r1
  obtain ⟨its, r, pl, hz⟩ := I1.list hq
  have hl : its.toArray.size = xs.length := by rw [List.size_toArray, ← r.length, List.length_map]
  refine call_setK (PySem.strKind X.prog X.w) (ks := xs) (I1.ok.hd hc) pl.isList (fun i v hv => ?_) (by rw [hl]; unfold scanBound; omega) fun h' tk hS hk => ?_
  · obtain ⟨k, e1, t, e2⟩ := strs_get (i := i) (v := v) r (by simpa using hv)
    subst e2
    exact ⟨k, e1, strKind_is _ _ _ _, rfl⟩
  · refine PyProof.Rows.args_nil ?_
    rw [hl, met_all] at hS
    obtain ⟨o, es, ep, t, ho, hex, hd, _, _, _, hf, hn⟩ := hS
    have I2 : Inv X pins σ H1 { s1 with heap := h', toks := tk } := I1.kept fun b o e => hk b o (Heap.lt_size e) e
    have hlen := dups_len xs ([] : List Str)
    simp only [List.length_nil, Nat.zero_add] at hlen
    exact call_len_set ho hex hd hf (by rw [hn] <;> omega) ⟨.int (dups [] xs).length, H1, I2.tok _, ⟨_, by rw [hn]⟩, q1⟩
def setLenM (xs : List Str) : Option Int := if xs.length ≤ 4000 then some ((dups [] xs).length : Int) else none
abbrev rSrep : R2 := fun x y H Q => ∃ z n, x = .str z ∧ y = .int n ∧ MulOk z n ∧ Q (.str (Txt.mul z n)) H
theorem op_srep {X : Cx} : OpR X (binaryOp .Mult) rSrep := by
  intro pins s σ H x y v u Q I rx ry h
  obtain ⟨i, j, rfl, rfl, hz, q⟩ := h
  obtain ⟨t, rfl⟩ := rx
  obtain ⟨t', rfl⟩ := ry
  exact SB.mul hz fun t' tk => ⟨.str (Txt.mul i j), H, I.tok _, ⟨_, rfl⟩, q⟩
def srepM (x : Str) (n : Int) : Option Str := if -(2 ^ 63) ≤ n ∧ n < 2 ^ 63 ∧ x.length * n.toNat ≤ 100000 then some (Txt.mul x n) else none
theorem mulOk {x : Str} {n : Int} (h : -(2 ^ 63) ≤ n ∧ n < 2 ^ 63 ∧ x.length * n.toNat ≤ 100000) : MulOk x n := by
  obtain ⟨h1, h2, h3⟩ := h
  refine ⟨?_, fun hn hc => ?_, fun hn hc => ?_⟩
  · rw [Bool.or_eq_false_iff]
    exact ⟨decide_eq_false (by omega), decide_eq_false (by omega)⟩
  · intro hgt
    have hx : (x.length : Int) * n ≤ 100000 := by
      have e : ((x.length * n.toNat : Nat) : Int) = (x.length : Int) * n := by
        rw [Int.natCast_mul, Int.toNat_of_nonneg (by omega)]
      omega
    have h5 : (2 ^ 63 - 1 : Int) / n + 1 ≤ x.length := by omega
    have h6 : (2 ^ 63 - 1 : Int) < ((2 ^ 63 - 1 : Int) / n + 1) * n := Int.lt_ediv_add_one_mul_self _ (by omega)
    have h7 : ((2 ^ 63 - 1 : Int) / n + 1) * n ≤ (x.length : Int) * n := Int.mul_le_mul_of_nonneg_right h5 (by omega)
    omega
  · unfold Builtin.Str.tooLong
    simp only [decide_eq_false_iff_not]
    have : (100000 : Nat) ≤ sizeLine := by decide
    omega
section
variable {K : PySem.W.Frag} {σ : St} {F F' : Hp} {cs cs1 cs2 cs3 : Cs} {ta tb tc te : TE} {d e : PyData} {as : TA} {a b c : Int} {nx bk ct : St → Hp → Prop} {rt : VK} {H : Hp} {t u : TS}
theorem d_srep {x z : Str} (ha : EvD K ta σ F cs (.str x) cs1) (hb : EvD K tb σ F cs1 (.int b) cs2) (hz : srepM x b = some z) : EvD K (tOp rSrep ta tb) σ F cs (.str z) cs2 :=
  d_op ha hb fun _ _ F2 H2 hx hy s _ Q q => by
    cases hx.toStr; cases hy.toInt
    unfold srepM at hz; split at hz
    · rename_i h; cases hz; exact ⟨x, b, rfl, rfl, mulOk h, q _ F2 H2 .rfl s (.str _)⟩
    · cases hz
theorem d_setLen {xs : List Str} {n : Int} (ha : EvD K ta σ F cs (eL eS xs) cs1) (hn : setLenM xs = some n) : EvD K (tLenSetS K ta) σ F cs (.int n) cs1 := fun F1 H1 g1 s Q q =>
  ha F1 H1 g1 s _ fun v F2 H2 g2 s2 h2 => by
    obtain ⟨p, vs, rfl, hl, hd⟩ := h2.toLst
    cases hd.strs
    unfold setLenM at hn; split at hn
    · rename_i h; cases hn; exact ⟨p, xs, rfl, gr_L s2.fr hl, h, q _ F2 H2 g2 s2 (.int _)⟩
    · cases hn
/-- list(x), x a cell -/
theorem c_listC {l1 l2 : Cs} {i : Nat} {p : Addr} {us : List V} {ds : List PyData} (hi : σ[i]? = some (some (.ref p))) (hd : Dts K F us ds) : EvC K (tCB (rListS K) (tCons (tVar i) tNil)) σ F (l1 ++ (p, .lst us) :: l2) ds (l1 ++ (p, .lst us) :: l2) := fun F1 H1 g1 s Q q =>
  ⟨.ref p, hi, p, us, rfl, .inl (.inl (.inl s.getAt)), fun l nl => q _ _ _ _ .rfl (s.cell nl) (hd.gr g1)⟩
/-- x = y.pop(k), y a cell -/
def popM {α : Type} (xs : List α) (k : Int) : Option (α × List α) := if -(2 ^ 63) ≤ k ∧ k < 2 ^ 63 then (seqIndex? k xs.length).bind fun j => (xs[j]?).map fun x => (x, xs.eraseIdx j) else none
theorem popM_some {α : Type} {xs ys : List α} {k : Int} {x : α} (h : popM xs k = some (x, ys)) : (-(2 ^ 63) ≤ k ∧ k < 2 ^ 63) ∧ ∃ j, seqIndex? k xs.length = some j ∧ xs[j]? = some x ∧ ys = xs.eraseIdx j := by
  unfold popM at h; split at h
  · rename_i q
    refine ⟨q, ?_⟩
    obtain ⟨j, h1, h⟩ := bnd h
    cases e : xs[j]? with
    | none => rw [e] at h; cases h
    | some z => rw [e] at h; cases h; exact ⟨j, h1, e, rfl⟩
  · cases h
theorem er_map {α β : Type} (f : α → β) : ∀ (xs : List α) (j : Nat), (xs.eraseIdx j).map f = (xs.map f).eraseIdx j
  | [], _ => rfl
  | _ :: _, 0 => rfl
  | x :: xs, j + 1 => by simp only [List.eraseIdx_cons_succ, List.map_cons, er_map f xs j]
theorem s_popF {α : Type} {vf : α → V} {en : α → PyData} {l1 l2 : Cs} {i j : Nat} {p : Addr} {xs ys : List α} {x : α} {ti : TE} {k : Int} {σ' : St} (hd : ∀ F x, Dt K F (vf x) (en x)) (s : Sta F (l1 ++ (p, .lst (xs.map vf)) :: l2) H) (hi : σ[i]? = some (some (.ref p)))
    (h2 : EvD K ti σ F (l1 ++ (p, .lst (xs.map vf)) :: l2) (.int k) (l1 ++ (p, .lst (xs.map vf)) :: l2)) (hm : popM xs k = some (x, ys)) (hσ : σ.set j (some (vf x)) = σ') (q : ∀ F2 H2, Gr F F2 → Sta F2 (l1 ++ (p, .lst (ys.map vf)) :: l2) H2 → nx σ' H2) : tAsg (tBM K "list" rPopAt (tVar i) (tCons ti tNil)) (gName j) ⟨nx, rt, bk, ct⟩ σ H := by
  obtain ⟨⟨a1, a2⟩, m, b1, b2, rfl⟩ := popM_some hm
  refine ⟨.ref p, hi, .inl ⟨rfl, _, .inl (.inl s.getAt)⟩, h2 F H .rfl s _ fun w F3 H3 g3 s3 hw => ⟨p, xs.map vf, k, m, vf x, rfl, by cases hw.toInt; rfl, s3.getAt, a1, a2, by rw [List.length_map]; exact b1, by rw [List.getElem?_map, b2]; rfl, ?_⟩⟩
  show nx (σ.set j (some (vf x))) _
  rw [hσ]
  refine q F3 _ g3 ?_
  have s4 := s3.putAt (o' := .lst ((xs.map vf).eraseIdx m))
  rw [er_map]
  exact s4
/-- y.remove(k), y a cell of ints -/
def remM (xs : List Int) (k : Int) : Option (List Int) := if inL k xs = true then some (xs.erase k) else none
theorem rem_at {xs : List Int} {k : Int} (h : inL k xs = true) : ∃ j, xs[j]? = some k ∧ (∀ m : Nat, m < j → xs[m]? ≠ some k) ∧ xs.eraseIdx j = xs.erase k := by
  induction xs with
  | nil => cases h
  | cons y xs ih =>
    by_cases e : y = k
    · subst e
      exact ⟨0, rfl, fun m hm => absurd hm (Nat.not_lt_zero m), by simp⟩
    · have h' : inL k xs = true := by
        unfold inL at h ⊢
        rw [List.any_cons] at h
        have q : (y == k) = false := by simpa using e
        rw [q, Bool.false_or] at h
        exact h
      obtain ⟨j, h1, h2, h3⟩ := ih h'
      refine ⟨j + 1, by simpa using h1, fun m hm => ?_, ?_⟩
      · cases m with
        | zero => simpa using e
        | succ m => simpa using h2 m (by omega)
      · rw [List.eraseIdx_cons_succ, h3, List.erase_cons_tail]
        simpa using e
theorem s_remF {l1 l2 : Cs} {i : Nat} {p : Addr} {xs ys : List Int} {ti : TE} {k : Int} (s : Sta F (l1 ++ (p, .lst (xs.map V.int)) :: l2) H) (hi : σ[i]? = some (some (.ref p)))
    (h2 : EvD K ti σ F (l1 ++ (p, .lst (xs.map V.int)) :: l2) (.int k) (l1 ++ (p, .lst (xs.map V.int)) :: l2)) (hm : remM xs k = some ys) (q : ∀ F2 H2, Gr F F2 → Sta F2 (l1 ++ (p, .lst (ys.map V.int)) :: l2) H2 → nx σ H2) : tDrop (tBM K "list" rRemI (tVar i) (tCons ti tNil)) ⟨nx, rt, bk, ct⟩ σ H := by
  unfold remM at hm; split at hm
  · rename_i hin
    cases hm
    obtain ⟨j, e1, e2, e3⟩ := rem_at hin
    refine ⟨.ref p, hi, .inl ⟨rfl, _, .inl (.inl s.getAt)⟩, h2 F H .rfl s _ fun w F3 H3 g3 s3 hw => ⟨p, xs, k, j, rfl, by cases hw.toInt; rfl, s3.getAt, e1, e2, q F3 _ g3 ?_⟩⟩
    rw [e3]
    exact s3.putAt
  · cases hm
theorem d_isV {w : V} (hw : ∀ F v, Dt K F v d → v = w) (ha : EvD K ta σ F cs d cs1) : EvD K (tOp rIsN ta (tC .non)) σ F cs (.bool (decide (w = V.non))) cs1 := fun F1 H1 g1 s Q q =>
  ha F1 H1 g1 s _ fun v F2 H2 g2 s2 h2 => ⟨rfl, by cases hw F2 v h2; exact q _ F2 H2 g2 s2 (.bl _)⟩
theorem d_nisV {w : V} (hw : ∀ F v, Dt K F v d → v = w) (ha : EvD K ta σ F cs d cs1) : EvD K (tOp rNotN ta (tC .non)) σ F cs (.bool (!decide (w = V.non))) cs1 := fun F1 H1 g1 s Q q =>
  ha F1 H1 g1 s _ fun v F2 H2 g2 s2 h2 => ⟨rfl, by cases hw F2 v h2; exact q _ F2 H2 g2 s2 (.bl _)⟩
theorem d_isN (ha : EvD K ta σ F cs PyData.none cs1) : EvD K (tOp rIsN ta (tC .non)) σ F cs (.bool true) cs1 := d_isV (fun _ _ h => Dt.toNon h) ha
theorem d_nisN (ha : EvD K ta σ F cs PyData.none cs1) : EvD K (tOp rNotN ta (tC .non)) σ F cs (.bool false) cs1 := d_nisV (fun _ _ h => Dt.toNon h) ha
theorem d_isOI {o : Option Int} (ha : EvD K ta σ F cs (eO eI o) cs1) : EvD K (tOp rIsN ta (tC .non)) σ F cs (.bool o.isNone) cs1 := d_is (d_isV (fun _ _ h => dt_toI h) ha) (by cases o <;> rfl)
theorem d_nisOI {o : Option Int} (ha : EvD K ta σ F cs (eO eI o) cs1) : EvD K (tOp rNotN ta (tC .non)) σ F cs (.bool (!o.isNone)) cs1 := d_is (d_nisV (fun _ _ h => dt_toI h) ha) (by cases o <;> rfl)
end
end Bw
theorem Bw.sta0 {H : L2.Hp} : Bw.Sta H [] H := ⟨fun _ _ e => e, by simp, by simp, by simp⟩

namespace Bw
open PySem L2
/-! expressions that change cells -/
section
variable {K : PySem.W.Frag} {σ : St} {F F' : Hp} {cs cs1 cs2 cs3 : Cs} {ta tb tc te : TE} {d e : PyData} {as : TA} {a b c : Int} {nx bk ct : St → Hp → Prop} {rt : VK} {H : Hp} {t u : TS}
theorem d_lendX {l1 l2 m1 m2 : Cs} {p : Addr} {o : HO} {w : V} (hw : ∀ F v, Dt K F v d → v = w) (hd : ∀ F, Dt K F w d) (h : ∀ F1, Gr F F1 → F1 p = none → EvD K te σ (upd F1 p o) (l1 ++ l2) d (m1 ++ m2)) : EvD K te σ F (l1 ++ (p, o) :: l2) d (m1 ++ (p, o) :: m2) := fun F1 H1 g1 s Q q => by
  refine h F1 g1 s.freeAt (upd F1 p o) H1 .rfl s.frozeAt Q fun v F2 H2 g2 s2 h2 => ?_
  cases hw F2 v h2
  exact q w (cut F2 p) H2 (gr_cut s.freeAt g2) (Sta.lent g2 s2) (hd _)
theorem t_lendX {l1 l2 m1 m2 : Cs} {p : Addr} {o : HO} {t : TT} {b : Bool} (h : ∀ F1, Gr F F1 → F1 p = none → EvT t σ (upd F1 p o) (l1 ++ l2) b (m1 ++ m2)) : EvT t σ F (l1 ++ (p, o) :: l2) b (m1 ++ (p, o) :: m2) := fun F1 H1 g1 s Q q => by
  refine h F1 g1 s.freeAt (upd F1 p o) H1 .rfl s.frozeAt Q fun F2 H2 g2 s2 => ?_
  exact q (cut F2 p) H2 (gr_cut s.freeAt g2) (Sta.lent g2 s2)
/-! functions that change cells -/
inductive Ar where
  | d (x : PyData)
  | c (us : List V)
inductive ArgR (K : PySem.W.Frag) (F : Hp) : List V → List Ar → Cs → Prop
  | nil : ArgR K F [] [] []
  | d {v : V} {x : PyData} {vs : List V} {as : List Ar} {cs : Cs} : Dt K F v x → ArgR K F vs as cs → ArgR K F (v :: vs) (.d x :: as) cs
  | c {p : Addr} {us : List V} {vs : List V} {as : List Ar} {cs : Cs} : ArgR K F vs as cs → ArgR K F (.ref p :: vs) (.c us :: as) ((p, .lst us) :: cs)
theorem ArgR.no {vs : List V} {cs : Cs} (h : ArgR K F vs [] cs) : vs = [] ∧ cs = [] := by cases h; exact ⟨rfl, rfl⟩
theorem ArgR.hd {vs : List V} {x : PyData} {as : List Ar} {cs : Cs} (h : ArgR K F vs (.d x :: as) cs) : ∃ v ws, vs = v :: ws ∧ Dt K F v x ∧ ArgR K F ws as cs := by
  cases h with | d h t => exact ⟨_, _, rfl, h, t⟩
theorem ArgR.hc {vs : List V} {us : List V} {as : List Ar} {cs : Cs} (h : ArgR K F vs (.c us :: as) cs) : ∃ p ws cs', vs = .ref p :: ws ∧ cs = (p, .lst us) :: cs' ∧ ArgR K F ws as cs' := by
  cases h with | c t => exact ⟨_, _, _, rfl, rfl, t⟩
theorem ArgR.len : ∀ {vs : List V} {as : List Ar} {cs : Cs}, ArgR K F vs as cs → vs.length = as.length
  | _, _, _, .nil => rfl
  | _, _, _, .d _ t => by rw [List.length_cons, List.length_cons, t.len]
  | _, _, _, .c t => by rw [List.length_cons, List.length_cons, t.len]
def upC : Cs → List (List V) → Cs
  | c :: cs, us :: uss => (c.1, .lst us) :: upC cs uss
  | _, _ => []
def spC (K : PySem.W.Frag) {α β : Type} (A : α → List Ar) (B : β → PyData) (C : β → List (List V)) (f : α → Option β) : Sp := fun vs H Q _ => ∃ F cc cs x y, ArgR K F vs (A x) cc ∧ Sta F (cc ++ cs) H ∧ f x = some y ∧ ∀ v F2 H2, Gr F F2 → Sta F2 (upC cc (C y) ++ cs) H2 → Dt K F2 v (B y) → Q v H2
def EvR (K : PySem.W.Frag) (ta : TA) (σ : St) (F : Hp) (cs : Cs) (as : List Ar) (cc : Cs) (cs' : Cs) : Prop := EvA ta σ F cs (fun vs F' => ArgR K F' vs as cc) cs'
theorem ArgR.gr (g : Gr F F') : ∀ {vs : List V} {as : List Ar} {cs : Cs}, ArgR K F vs as cs → ArgR K F' vs as cs
  | _, _, _, .nil => .nil
  | _, _, _, .d h t => .d (h.gr g) (t.gr g)
  | _, _, _, .c t => .c (t.gr g)
theorem r_nil : EvR K tNil σ F cs [] [] cs := fun F1 H1 g s Q q => q _ F1 H1 .rfl s .nil
theorem r_d {xs : List Ar} {cc : Cs} (h : EvD K te σ F cs d cs1) (h2 : EvR K as σ F cs1 xs cc cs2) : EvR K (tCons te as) σ F cs (.d d :: xs) cc cs2 := fun F1 H1 g1 s Q q =>
  h F1 H1 g1 s _ fun v F2 H2 g2 s2 hv => h2 F2 H2 (g1.tr g2) s2 _ fun vs F3 H3 g3 s3 hvs => q _ F3 H3 (g2.tr g3) s3 (.d (hv.gr g3) hvs)
theorem r_c {xs : List Ar} {cc : Cs} {i : Nat} {p : Addr} {us : List V} (hi : σ[i]? = some (some (.ref p))) (h2 : EvR K as σ F cs xs cc cs2) : EvR K (tCons (tVar i) as) σ F cs (.c us :: xs) ((p, .lst us) :: cc) cs2 := fun F1 H1 g1 s Q q =>
  ⟨.ref p, hi, h2 F1 H1 g1 s _ fun vs F3 H3 g3 s3 hvs => q _ F3 H3 g3 s3 (.c hvs)⟩
theorem d_callC {α β : Type} {A : α → List Ar} {B : β → PyData} {C : β → List (List V)} {f : α → Option β} {x : α} {y : β} {E : XK} {cc cs' : Cs} (h : EvR K as σ F cs (A x) cc cs1) (hp : cs1.Perm (cc ++ cs')) (hf : f x = some y) (hq : (upC cc (C y) ++ cs').Perm cs2) : EvD K (tCall (spC K A B C f) [] E as) σ F cs (B y) cs2 := fun F1 H1 g1 s Q q =>
  h F1 H1 g1 s _ fun vs F2 H2 g2 s2 h2 => ⟨F2, cc, cs', x, y, by rw [List.append_nil]; exact h2, s2.perm hp, hf, fun v F3 H3 g3 s3 h3 => q v F3 H3 (g2.tr g3) (s3.perm hq) h3⟩
/-! comprehensions whose elements change cells -/
def lcS {S α β : Type} (f : S → α → Option (S × Option β)) : S → List α → Option (S × List β)
  | s, [] => some (s, [])
  | s, x :: xs => (f s x).bind fun p => (lcS f p.1 xs).bind fun q => some (q.1, match p.2 with
    | some y => y :: q.2
    | none => q.2)
def lcSC {S α β : Type} (f : S → α → Option (S × Option β)) (s : S) (xs : List α) : Option (S × List β) := if xs.length ≤ 100000 then lcS f s xs else none
theorem c_lcS {S α β : Type} {wi : TI} {g : TG} {tt : TT} {vs : List Nat} {xs : List α} {en : α → PyData} {em : β → PyData} {f : S → α → Option (S × Option β)} {ys : List β} {s0 s1 : S} (cc : S → Cs)
    (hi : EvI K wi σ F cs (xs.map en) (cc s0)) (hm : lcSC f s0 xs = some (s1, ys))
    (turn : ∀ x z z' o v F1 p us, Gr F F1 → Dt K F1 v (en x) → f z x = some (z', o) → ∃ σ2 : St, (∀ H (Q : St → Hp → Prop), Sta F1 ((p, .lst us) :: cc z) H → Q σ2 H → g v (wipe σ vs) H Q) ∧ wipe σ2 vs = wipe σ vs ∧
      EvT tt σ2 F1 ((p, .lst us) :: cc z) o.isSome ((p, .lst us) :: cc z) ∧ (o = none → z' = z) ∧ ∀ y, o = some y → EvD K te σ2 F1 ((p, .lst us) :: cc z) (em y) ((p, .lst us) :: cc z')) :
    EvC K (tLc wi g tt te vs) σ F cs (ys.map em) (cc s1) := fun F1 H1 g1 s Q q => by
  unfold lcSC at hm
  split at hm
  case isFalse => cases hm
  rename_i hl
  refine hi F1 H1 g1 s _ fun J F2 H2 g2 s2 hs => ?_
  intro p hp
  have s3 : Sta F2 ((p, .lst []) :: cc s0) (upd H2 p (.lst [])) := s2.cell hp
  refine ⟨fun i m H4 => m = xs.length - i ∧ i ≤ xs.length ∧ ∃ us done rest z F4, us.length ≤ i ∧ Gr F2 F4 ∧ Sta F4 ((p, .lst us) :: cc z) H4 ∧ Dts K F4 us (done.map em) ∧ lcS f z (xs.drop i) = some (s1, rest) ∧ done ++ rest = ys,
    ⟨xs.length, by simp, Nat.zero_le _, [], [], ys, s0, F2, Nat.le_refl _, .rfl, s3, .nil, by simpa using hm, rfl⟩, ?_⟩
  rintro i m H4 ⟨rfl, hi, us, done, rest, z, F4, hu, g4, s4, hd, hr, he⟩
  obtain ⟨hgo, hstop, hy⟩ := hs F4 _ H4 g4 s4
  by_cases hlt : i < xs.length
  · rw [List.drop_eq_getElem_cons hlt] at hr
    obtain ⟨⟨z', o⟩, ho, hr⟩ := bnd (show (f z xs[i]).bind _ = some (s1, rest) from hr)
    obtain ⟨⟨s1', zs⟩, hz, hr⟩ := bnd hr
    dsimp only at hz hr
    refine .inr ⟨hgo i (by simpa using hlt), fun H' => i + 1 ≤ xs.length ∧ ∃ us done rest z F4, us.length ≤ i + 1 ∧ Gr F2 F4 ∧ Sta F4 ((p, .lst us) :: cc z) H' ∧ Dts K F4 us (done.map em) ∧ lcS f z (xs.drop (i + 1)) = some (s1, rest) ∧ done ++ rest = ys, fun H' h' => ⟨xs.length - (i + 1), by omega, rfl, h'⟩, fun x H' y => ?_⟩
    obtain ⟨F5, g5, s5, d5⟩ := hy i x H' (en xs[i]) (by rw [List.getElem?_map, List.getElem?_eq_getElem hlt]; rfl) y
    obtain ⟨σ2, h1, h2, h3, hn, h4⟩ := turn xs[i] z z' o x F5 p us (g1.tr (g2.tr (g4.tr g5))) d5 ho
    refine h1 H' _ s5 ⟨h2, h3 F5 H' .rfl s5 _ fun F6 H6 g6 s6 => ?_⟩
    cases o with
    | none =>
      cases hr
      cases hn rfl
      exact ⟨hlt, us, done, zs, z, F6, Nat.le_succ_of_le hu, g4.tr (g5.tr g6), s6, hd.gr (g5.tr g6), hz, he⟩
    | some y1 =>
      cases hr
      refine (h4 y1 rfl) F6 H6 g6 s6 _ fun v F7 H7 g7 s7 hv => ⟨us, s7.at List.mem_cons_self, szl (by omega), hlt, us ++ [v], done ++ [y1], zs, z', F7, by rw [List.length_append]; exact Nat.succ_le_succ hu, g4.tr (g5.tr (g6.tr g7)), s7.put, ?_, hz, ?_⟩
      · rw [List.map_append]
        exact (hd.gr (g5.tr (g6.tr g7))).app (.cons hv .nil)
      · rw [List.append_assoc]; exact he
  · have e : i = xs.length := by omega
    subst e
    rw [List.drop_length] at hr
    cases hr
    rw [List.append_nil] at he
    subst he
    exact .inl ⟨by simpa using hstop, q p us F4 H4 (g2.tr g4) s4 hd⟩
/-! changes of a cell, where the values change other cells -/
theorem s_appX {k1 k2 l1 l2 : Cs} {i : Nat} {p : Addr} {vs : List V} (s : Sta F (k1 ++ (p, .lst vs) :: k2) H) (hi : σ[i]? = some (some (.ref p))) (h : EvD K te σ F (k1 ++ (p, .lst vs) :: k2) d (l1 ++ (p, .lst vs) :: l2)) (hl : vs.length < 100000)
    (q : ∀ v F2 H2, Gr F F2 → Sta F2 (l1 ++ (p, .lst (vs ++ [v])) :: l2) H2 → Dt K F2 v d → nx σ H2) : tDrop (tBM K "list" rAppend (tVar i) (tCons te tNil)) ⟨nx, rt, bk, ct⟩ σ H :=
  ⟨.ref p, hi, .inl ⟨rfl, _, .inl (.inl s.getAt)⟩, h F H .rfl s _ fun v F2 H2 g2 s2 h2 => ⟨p, vs, v, rfl, rfl, s2.getAt, szl hl, q v F2 _ g2 s2.putAt h2⟩⟩
theorem s_appFX {α : Type} {vf : α → V} {en : α → PyData} {k1 k2 l1 l2 : Cs} {i : Nat} {p : Addr} {xs ys : List α} {x : α} (hw : ∀ F v x, Dt K F v (en x) → v = vf x) (s : Sta F (k1 ++ (p, .lst (xs.map vf)) :: k2) H) (hi : σ[i]? = some (some (.ref p))) (h : EvD K te σ F (k1 ++ (p, .lst (xs.map vf)) :: k2) (en x) (l1 ++ (p, .lst (xs.map vf)) :: l2)) (hm : appM xs x = some ys)
    (q : ∀ F2 H2, Gr F F2 → Sta F2 (l1 ++ (p, .lst (ys.map vf)) :: l2) H2 → nx σ H2) : tDrop (tBM K "list" rAppend (tVar i) (tCons te tNil)) ⟨nx, rt, bk, ct⟩ σ H := by
  obtain ⟨hl, rfl⟩ := appM_some hm
  refine s_appX s hi h (by rw [List.length_map]; exact hl) fun v F2 H2 g2 s2 h2 => q F2 H2 g2 ?_
  cases hw F2 v x h2
  rw [List.map_append]; exact s2
theorem s_appGX {α : Type} {en : α → PyData} {k1 k2 l1 l2 : Cs} {i : Nat} {p : Addr} {vs : List V} {xs ys : List α} {x : α} (s : Sta F (k1 ++ (p, .lst vs) :: k2) H) (hf : Dts K F vs (xs.map en)) (hi : σ[i]? = some (some (.ref p))) (h : EvD K te σ F (k1 ++ (p, .lst vs) :: k2) (en x) (l1 ++ (p, .lst vs) :: l2)) (hm : appM xs x = some ys)
    (q : ∀ us F2 H2, Gr F F2 → Sta F2 (l1 ++ (p, .lst us) :: l2) H2 → Dts K F2 us (ys.map en) → nx σ H2) : tDrop (tBM K "list" rAppend (tVar i) (tCons te tNil)) ⟨nx, rt, bk, ct⟩ σ H := by
  obtain ⟨hl, rfl⟩ := appM_some hm
  refine s_appX s hi h (by rw [hf.len, List.length_map]; exact hl) fun v F2 H2 g2 s2 h2 => q _ F2 H2 g2 s2 ?_
  rw [List.map_append]; exact (hf.gr g2).app (.cons h2 .nil)
theorem s_itemX {k1 k2 m1 m2 l1 l2 : Cs} {i : Nat} {p : Addr} {vs : List V} {ti : TE} {k : Int} {j : Nat} (s : Sta F (k1 ++ (p, .lst vs) :: k2) H) (hi : σ[i]? = some (some (.ref p))) (h : EvD K te σ F (k1 ++ (p, .lst vs) :: k2) d (m1 ++ (p, .lst vs) :: m2))
    (h2 : EvD K ti σ F (m1 ++ (p, .lst vs) :: m2) (.int k) (l1 ++ (p, .lst vs) :: l2)) (hj : ixN vs.length k = some j) (q : ∀ v F2 H2, Gr F F2 → Sta F2 (l1 ++ (p, .lst (vs.set j v)) :: l2) H2 → Dt K F2 v d → nx σ H2) : tAsg te (gSub (tVar i) ti rSetL) ⟨nx, rt, bk, ct⟩ σ H :=
  h F H .rfl s _ fun v F2 H2 g2 s2 hv => ⟨.ref p, hi, h2 F2 H2 g2 s2 _ fun w F3 H3 g3 s3 hw => ⟨p, vs, k, j, rfl, hw.toInt, s3.getAt, hj, q v F3 _ (g2.tr g3) s3.putAt (hv.gr g3)⟩⟩
theorem s_itemFX {α : Type} {vf : α → V} {en : α → PyData} {k1 k2 m1 m2 l1 l2 : Cs} {i : Nat} {p : Addr} {xs ys : List α} {x : α} {ti : TE} {k : Int} (hw : ∀ F v x, Dt K F v (en x) → v = vf x) (s : Sta F (k1 ++ (p, .lst (xs.map vf)) :: k2) H) (hi : σ[i]? = some (some (.ref p))) (h : EvD K te σ F (k1 ++ (p, .lst (xs.map vf)) :: k2) (en x) (m1 ++ (p, .lst (xs.map vf)) :: m2))
    (h2 : EvD K ti σ F (m1 ++ (p, .lst (xs.map vf)) :: m2) (.int k) (l1 ++ (p, .lst (xs.map vf)) :: l2)) (hm : setM xs k x = some ys) (q : ∀ F2 H2, Gr F F2 → Sta F2 (l1 ++ (p, .lst (ys.map vf)) :: l2) H2 → nx σ H2) : tAsg te (gSub (tVar i) ti rSetL) ⟨nx, rt, bk, ct⟩ σ H := by
  obtain ⟨j, hj, rfl⟩ := setM_some hm
  refine s_itemX (j := j) s hi h h2 (by rw [List.length_map]; exact hj) fun v F2 H2 g2 s2 hv => q F2 H2 g2 ?_
  cases hw F2 v x hv
  rw [List.map_set]; exact s2
theorem s_itemGX {α : Type} {en : α → PyData} {k1 k2 m1 m2 l1 l2 : Cs} {i : Nat} {p : Addr} {vs : List V} {xs ys : List α} {x : α} {ti : TE} {k : Int} (s : Sta F (k1 ++ (p, .lst vs) :: k2) H) (hf : Dts K F vs (xs.map en)) (hi : σ[i]? = some (some (.ref p))) (h : EvD K te σ F (k1 ++ (p, .lst vs) :: k2) (en x) (m1 ++ (p, .lst vs) :: m2))
    (h2 : EvD K ti σ F (m1 ++ (p, .lst vs) :: m2) (.int k) (l1 ++ (p, .lst vs) :: l2)) (hm : setM xs k x = some ys) (q : ∀ us F2 H2, Gr F F2 → Sta F2 (l1 ++ (p, .lst us) :: l2) H2 → Dts K F2 us (ys.map en) → nx σ H2) : tAsg te (gSub (tVar i) ti rSetL) ⟨nx, rt, bk, ct⟩ σ H := by
  obtain ⟨j, hj, rfl⟩ := setM_some hm
  refine s_itemX (j := j) s hi h h2 (by rw [hf.len, List.length_map]; exact hj) fun v F2 H2 g2 s2 hv => q _ F2 H2 g2 s2 ?_
  rw [List.map_set]; exact (hf.gr g2).setAt j hv
end
end Bw
namespace Bw
open PySem L2
section
variable {K : PySem.W.Frag} {σ : St} {F F' : Hp} {cs cs1 cs2 cs3 : Cs} {ta tb tc te : TE} {d e : PyData} {as : TA} {a b c : Int} {nx bk ct : St → Hp → Prop} {rt : VK} {H : Hp} {t u : TS}
theorem s_augI {i : Nat} {σ' : St} {w b : Int} {f : Int → Int → Int} (hx : σ[i]? = some (some (.int w))) (s : Sta F cs H) (h : EvD K te σ F cs (.int b) cs1) (hσ : σ.set i (some (.int (f w b))) = σ') (q : ∀ F2 H2, Gr F F2 → Sta F2 cs1 H2 → nx σ' H2) : tAug i te (ipI f) ⟨nx, rt, bk, ct⟩ σ H :=
  ⟨.int w, hx, h F H .rfl s _ fun v F2 H2 g2 s2 h2 => ⟨w, b, rfl, h2.toInt, by show nx (σ.set i (some (.int (f w b)))) H2; rw [hσ]; exact q F2 H2 g2 s2⟩⟩
def rGetL (K : PySem.W.Frag) : V → V → Hp → VK → Prop := rIxL K
/-- o[i] op= e, o a cell of ints -/
theorem s_augS {k1 k2 m1 m2 l1 l2 : Cs} {i : Nat} {p : Addr} {xs ys : List Int} {ti : TE} {k w b : Int} {f : Int → Int → Int} (s : Sta F (k1 ++ (p, .lst (xs.map V.int)) :: k2) H) (hi : σ[i]? = some (some (.ref p))) (h1 : EvD K ti σ F (k1 ++ (p, .lst (xs.map V.int)) :: k2) (.int k) (m1 ++ (p, .lst (xs.map V.int)) :: m2)) (hg : atI xs k = some w)
    (h2 : EvD K te σ F (m1 ++ (p, .lst (xs.map V.int)) :: m2) (.int b) (l1 ++ (p, .lst (xs.map V.int)) :: l2)) (hm : setM xs k (f w b) = some ys) (q : ∀ F2 H2, Gr F F2 → Sta F2 (l1 ++ (p, .lst (ys.map V.int)) :: l2) H2 → nx σ H2) : tAugS (tVar i) ti te (rIxL K) (ipI f) rSetL ⟨nx, rt, bk, ct⟩ σ H := by
  obtain ⟨j, hj, rfl⟩ := setM_some hm
  refine ⟨.ref p, hi, h1 F H .rfl s _ fun v F2 H2 g2 s2 hv => ⟨p, xs.map V.int, k, .int w, rfl, hv.toInt, .inl (.inl s2.getAt), by rw [atI_map, hg]; rfl, h2 F2 H2 g2 s2 _ fun y F3 H3 g3 s3 hy => ⟨w, b, rfl, hy.toInt, p, xs.map V.int, k, j, rfl, hv.toInt, s3.getAt, by rw [List.length_map]; exact hj, q F3 _ (g2.tr g3) ?_⟩⟩⟩
  rw [List.map_set]; exact s3.putAt
theorem s_popFX {α : Type} {vf : α → V} {en : α → PyData} {k1 k2 l1 l2 : Cs} {i j : Nat} {p : Addr} {xs ys : List α} {x : α} {ti : TE} {k : Int} {σ' : St} (hd : ∀ F x, Dt K F (vf x) (en x)) (s : Sta F (k1 ++ (p, .lst (xs.map vf)) :: k2) H) (hi : σ[i]? = some (some (.ref p)))
    (h2 : EvD K ti σ F (k1 ++ (p, .lst (xs.map vf)) :: k2) (.int k) (l1 ++ (p, .lst (xs.map vf)) :: l2)) (hm : popM xs k = some (x, ys)) (hσ : σ.set j (some (vf x)) = σ') (q : ∀ F2 H2, Gr F F2 → Sta F2 (l1 ++ (p, .lst (ys.map vf)) :: l2) H2 → nx σ' H2) : tAsg (tBM K "list" rPopAt (tVar i) (tCons ti tNil)) (gName j) ⟨nx, rt, bk, ct⟩ σ H := by
  obtain ⟨⟨a1, a2⟩, m, b1, b2, rfl⟩ := popM_some hm
  refine ⟨.ref p, hi, .inl ⟨rfl, _, .inl (.inl s.getAt)⟩, h2 F H .rfl s _ fun w F3 H3 g3 s3 hw => ⟨p, xs.map vf, k, m, vf x, rfl, by cases hw.toInt; rfl, s3.getAt, a1, a2, by rw [List.length_map]; exact b1, by rw [List.getElem?_map, b2]; rfl, ?_⟩⟩
  show nx (σ.set j (some (vf x))) _
  rw [hσ]
  refine q F3 _ g3 ?_
  have s4 := s3.putAt (o' := .lst ((xs.map vf).eraseIdx m))
  rw [er_map]
  exact s4
theorem s_remFX {k1 k2 l1 l2 : Cs} {i : Nat} {p : Addr} {xs ys : List Int} {ti : TE} {k : Int} (s : Sta F (k1 ++ (p, .lst (xs.map V.int)) :: k2) H) (hi : σ[i]? = some (some (.ref p)))
    (h2 : EvD K ti σ F (k1 ++ (p, .lst (xs.map V.int)) :: k2) (.int k) (l1 ++ (p, .lst (xs.map V.int)) :: l2)) (hm : remM xs k = some ys) (q : ∀ F2 H2, Gr F F2 → Sta F2 (l1 ++ (p, .lst (ys.map V.int)) :: l2) H2 → nx σ H2) : tDrop (tBM K "list" rRemI (tVar i) (tCons ti tNil)) ⟨nx, rt, bk, ct⟩ σ H := by
  unfold remM at hm; split at hm
  · rename_i hin
    cases hm
    obtain ⟨j, e1, e2, e3⟩ := rem_at hin
    refine ⟨.ref p, hi, .inl ⟨rfl, _, .inl (.inl s.getAt)⟩, h2 F H .rfl s _ fun w F3 H3 g3 s3 hw => ⟨p, xs, k, j, rfl, by cases hw.toInt; rfl, s3.getAt, e1, e2, q F3 _ g3 ?_⟩⟩
    rw [e3]
    exact s3.putAt
  · cases hm
/-! f-strings -/
def EvJ (K : PySem.W.Frag) (ts : List TE) (σ : St) (F : Hp) (cs : Cs) (acc out : Str) (cs' : Cs) : Prop :=
  ∀ F1 H1, Gr F F1 → Sta F1 cs H1 → ∀ Q : Str → Hp → Prop, (∀ F2 H2, Gr F1 F2 → Sta F2 cs' H2 → Q out H2) → tJs ts acc σ H1 Q
theorem j_nil {acc : Str} : EvJ K [] σ F cs acc acc cs := fun F1 H1 g s Q q => q F1 H1 .rfl s
theorem j_cons {acc x y out : Str} {ts : List TE} (h : EvD K te σ F cs (.str x) cs1) (hy : scatM acc x = some y) (h2 : EvJ K ts σ F cs1 y out cs2) : EvJ K (te :: ts) σ F cs acc out cs2 := fun F1 H1 g1 s Q q =>
  h F1 H1 g1 s _ fun v F2 H2 g2 s2 hv => by
    obtain ⟨hl, rfl⟩ := scatM_some hy
    refine ⟨x, hv.toStr, ?_, h2 F2 H2 (g1.tr g2) s2 Q fun F3 H3 g3 s3 => q F3 H3 (g2.tr g3) s3⟩
    rw [TL.len_tl, TL.tl_append, List.length_append, ← TL.len_tl, ← TL.len_tl]
    exact sz hl
theorem d_fstr {ts : List TE} {out : Str} (h : EvJ K ts σ F cs Str.empty out cs1) : EvD K (fun σ H Q => tJs ts Str.empty σ H fun out H1 => Q (.str out) H1) σ F cs (.str out) cs1 := fun F1 H1 g1 s Q q =>
  h F1 H1 g1 s _ fun F2 H2 g2 s2 => q _ F2 H2 g2 s2 (.str _)
theorem d_fmtS {x : Str} (h : EvD K te σ F cs (.str x) cs1) (hl : lenS x = some a) : EvD K (tFmt te) σ F cs (.str x) cs1 := fun F1 H1 g1 s Q q =>
  h F1 H1 g1 s _ fun v F2 H2 g2 s2 hv => .inl ⟨x, hv.toStr, sz (lenS_some hl).1, q _ F2 H2 g2 s2 (.str _)⟩
theorem d_fmtI {x : Str} (h : EvD K te σ F cs (.int a) cs1) (hn : strM a = some x) : EvD K (tFmt te) σ F cs (.str x) cs1 := fun F1 H1 g1 s Q q =>
  h F1 H1 g1 s _ fun v F2 H2 g2 s2 hv => by
    obtain ⟨h1, rfl⟩ := strM_some hn
    exact .inr ⟨a, hv.toInt, h1, q _ F2 H2 g2 s2 (.str _)⟩
end
end Bw
namespace Bw
open PySem L2
theorem get_list {X : Cx} : PGet X (rIxL X.K) := by
  intro pins s σ H x y v u Q I rx ry h
  obtain ⟨p, xs, i, z, rfl, rfl, hq, he, q⟩ := h
  cases rx
  obtain ⟨t, rfl⟩ := ry
  obtain ⟨its, r, pl, hz⟩ := I.list hq
  obtain ⟨j, h1, h2, h3, h4, h5⟩ := atI_get he
  obtain ⟨w, ew, rw'⟩ := r.get h2
  have hl := r.length
  have hn := line63
  have fin : EP X pins σ Q w s := ⟨z, H, I, rw', q⟩
  by_cases h0 : 0 ≤ i
  · have hj : i.toNat = j := by
      rw [seqIndex_of h0 h5] at h1
      exact Option.some.inj h1
    exact wpAny_getItem_list pl.isList h0 (by omega) (by rw [hj]; simpa using ew) fin
  · have hj : (i + (its.toArray.size : Int)).toNat = j := by
      rw [seqIndex_neg (by omega) h4] at h1
      rw [List.size_toArray, ← hl]
      exact Option.some.inj h1
    exact wpAny_getItem_list_neg pl.isList (by omega) (by rw [List.size_toArray] <;> omega) (by omega) (by rw [hj]; simpa using ew) fin
end Bw
namespace Bw
open PySem L2
section
variable {K : PySem.W.Frag} {σ : St} {F F' : Hp} {cs cs1 cs2 cs3 : Cs} {ta tb tc te : TE} {d e : PyData} {as : TA} {a b c : Int} {nx bk ct : St → Hp → Prop} {rt : VK} {H : Hp} {t u : TS}
/-! what keeps the state true: another order, fewer cells -/
def Sb (c c' : Cs) : Prop := ∀ F H, Sta F c H → Sta F c' H
theorem sb_rfl : Sb cs cs := fun _ _ s => s
theorem sb_perm (p : cs.Perm cs1) : Sb cs cs1 := fun _ _ s => s.perm p
theorem sb_drop {c : Addr × HO} : Sb (c :: cs) cs := fun F H s => ⟨s.fr, fun p hp => s.sep p (List.mem_cons_of_mem _ hp), fun p hp => s.has p (List.mem_cons_of_mem _ hp), by have := s.nd; rw [List.map_cons, List.nodup_cons] at this; exact this.2⟩
theorem Sb.tr (h : Sb cs cs1) (k : Sb cs1 cs2) : Sb cs cs2 := fun F H s => k F H (h F H s)
/-- a function that changes cells, and tells data -/
theorem d_callX {α β : Type} {A : α → List Ar} {B : β → PyData} {C : β → List (List V)} {f : α → Option β} {x : α} {y : β} {E : XK} {cc cs' : Cs} (h : EvR K as σ F cs (A x) cc cs1) (hp : Sb cs1 (cc ++ cs')) (hf : f x = some y) (hq : Sb (upC cc (C y) ++ cs') cs2) : EvD K (tCall (spC K A B C f) [] E as) σ F cs (B y) cs2 := fun F1 H1 g1 s Q q =>
  h F1 H1 g1 s _ fun vs F2 H2 g2 s2 h2 => ⟨F2, cc, cs', x, y, by rw [List.append_nil]; exact h2, hp _ _ s2, hf, fun v F3 H3 g3 s3 h3 => q v F3 H3 (g2.tr g3) (hq _ _ s3) h3⟩
/-- .. that tells a new list -/
def spF (K : PySem.W.Frag) {α β : Type} (A : α → List Ar) (B : β → List PyData) (C : β → List (List V)) (f : α → Option β) : Sp := fun vs H Q _ => ∃ F cc cs x y, ArgR K F vs (A x) cc ∧ Sta F (cc ++ cs) H ∧ f x = some y ∧ ∀ p us F2 H2, Gr F F2 → Sta F2 ((p, .lst us) :: (upC cc (C y) ++ cs)) H2 → Dts K F2 us (B y) → Q (.ref p) H2
theorem c_callX {α β : Type} {A : α → List Ar} {B : β → List PyData} {C : β → List (List V)} {f : α → Option β} {x : α} {y : β} {E : XK} {cc cs' : Cs} (h : EvR K as σ F cs (A x) cc cs1) (hp : Sb cs1 (cc ++ cs')) (hf : f x = some y) (hq : ∀ z, Sb (z :: (upC cc (C y) ++ cs')) (z :: cs2)) : EvC K (tCall (spF K A B C f) [] E as) σ F cs (B y) cs2 := fun F1 H1 g1 s Q q =>
  h F1 H1 g1 s _ fun vs F2 H2 g2 s2 h2 => ⟨F2, cc, cs', x, y, by rw [List.append_nil]; exact h2, hp _ _ s2, hf, fun p us F3 H3 g3 s3 h3 => q p us F3 H3 (g2.tr g3) (hq _ _ _ s3) h3⟩
/-- an argument that is a new list of flat things -/
theorem r_n {xs : List Ar} {cc : Cs} {ds : List PyData} {us : List V} (h : EvC K te σ F cs ds cs1) (hu : ∀ F vs, Dts K F vs ds → vs = us) (h2 : ∀ p, EvR K as σ F ((p, .lst us) :: cs1) xs cc cs2) : True := trivial
theorem s_retC {ds : List PyData} (s : Sta F cs H) (h : EvC K te σ F cs ds cs1) (q : ∀ p us F2 H2, Gr F F2 → Sta F2 ((p, .lst us) :: cs1) H2 → Dts K F2 us ds → rt (.ref p) H2) : tRet te ⟨nx, rt, bk, ct⟩ σ H := h F H .rfl s _ q
theorem s_retV {i : Nat} {v : V} (hi : σ[i]? = some (some v)) (q : rt v H) : tRet (tVar i) ⟨nx, rt, bk, ct⟩ σ H := ⟨v, hi, q⟩
def fuel : Nat := 100000
end
end Bw
namespace Bw
open PySem L2
section
variable {K : PySem.W.Frag} {σ : St} {F F' : Hp} {cs cs1 cs2 cs3 : Cs} {ta tb tc te : TE} {d e : PyData} {as : TA}
/-- the first argument is a new list of flat things, which nobody keeps -/
theorem d_callN {α β : Type} {A : α → List Ar} {B : β → PyData} {C : β → List (List V)} {f : α → Option β} {x : α} {y : β} {E : XK} {cc cs' : Cs} {ds : List PyData} {us : List V} {xs : List Ar} (h : EvC K te σ F cs ds cs1) (hu : ∀ F vs, Dts K F vs ds → vs = us) (hA : A x = .c us :: xs) (h2 : ∀ p, EvR K as σ F ((p, .lst us) :: cs1) xs cc ((p, .lst us) :: cs2))
    (hp : ∀ p, Sb ((p, .lst us) :: cs2) ((p, .lst us) :: cc ++ cs')) (hf : f x = some y) (hq : ∀ p, Sb (upC ((p, .lst us) :: cc) (C y) ++ cs') cs3) : EvD K (tCall (spC K A B C f) [] E (tCons te as)) σ F cs (B y) cs3 := fun F1 H1 g1 s Q q =>
  h F1 H1 g1 s _ fun p vs F2 H2 g2 s2 hv => by
    cases hu F2 vs hv
    refine h2 p F2 H2 (g1.tr g2) s2 _ fun ws F3 H3 g3 s3 h3 => ⟨F3, (p, .lst us) :: cc, cs', x, y, by rw [List.append_nil, hA]; exact .c h3, hp p _ _ s3, hf, fun v F4 H4 g4 s4 h4 => q v F4 H4 ((g2.tr g3).tr g4) (hq p _ _ s4) h4⟩
theorem c_callN {α β : Type} {A : α → List Ar} {B : β → List PyData} {C : β → List (List V)} {f : α → Option β} {x : α} {y : β} {E : XK} {cc cs' : Cs} {ds : List PyData} {us : List V} {xs : List Ar} (h : EvC K te σ F cs ds cs1) (hu : ∀ F vs, Dts K F vs ds → vs = us) (hA : A x = .c us :: xs) (h2 : ∀ p, EvR K as σ F ((p, .lst us) :: cs1) xs cc ((p, .lst us) :: cs2))
    (hp : ∀ p, Sb ((p, .lst us) :: cs2) ((p, .lst us) :: cc ++ cs')) (hf : f x = some y) (hq : ∀ p z, Sb (z :: (upC ((p, .lst us) :: cc) (C y) ++ cs')) (z :: cs3)) : EvC K (tCall (spF K A B C f) [] E (tCons te as)) σ F cs (B y) cs3 := fun F1 H1 g1 s Q q =>
  h F1 H1 g1 s _ fun p vs F2 H2 g2 s2 hv => by
    cases hu F2 vs hv
    refine h2 p F2 H2 (g1.tr g2) s2 _ fun ws F3 H3 g3 s3 h3 => ⟨F3, (p, .lst us) :: cc, cs', x, y, by rw [List.append_nil, hA]; exact .c h3, hp p _ _ s3, hf, fun p' us' F4 H4 g4 s4 h4 => q p' us' F4 H4 ((g2.tr g3).tr g4) (hq p _ _ _ s4) h4⟩
end
end Bw

namespace Bw
open PySem L2
section
variable {K : PySem.W.Frag} {σ : St} {F F' : Hp} {cs cs1 cs2 cs3 : Cs} {ta tb tc te : TE} {d e : PyData} {as : TA} {a b c : Int} {nx bk ct : St → Hp → Prop} {rt : VK} {H : Hp} {t u : TS}
/-- a cell lent for a new list of flat things -/
theorem c_lendX {l1 l2 m1 m2 : Cs} {p : Addr} {o : HO} {ds : List PyData} {ws : List V} (hw : ∀ F vs, Dts K F vs ds → vs = ws) (hd : ∀ F, Dts K F ws ds) (h : ∀ F1, Gr F F1 → F1 p = none → EvC K te σ (upd F1 p o) (l1 ++ l2) ds (m1 ++ m2)) : EvC K te σ F (l1 ++ (p, o) :: l2) ds (m1 ++ (p, o) :: m2) := fun F1 H1 g1 s Q q => by
  refine h F1 g1 s.freeAt (upd F1 p o) H1 .rfl s.frozeAt Q fun p' vs F2 H2 g2 s2 h2 => ?_
  cases hw F2 vs h2
  exact q p' ws (cut F2 p) H2 (gr_cut s.freeAt g2) (Sta.lent (l1 := (p', .lst ws) :: m1) g2 s2) (hd _)
/-- xs.count(k) -/
theorem d_cntI {xs : List Int} (ha : EvD K ta σ F cs (eL eI xs) cs1) (hb : EvD K tb σ F cs1 (.int b) cs2) : EvD K (tBM K "list" (rCntI K) ta (tCons tb tNil)) σ F cs (.int ((xs.count b : Nat) : Int)) cs2 := fun F1 H1 g1 s Q q =>
  ha F1 H1 g1 s _ fun v F2 H2 g2 s2 h2 => by
    obtain ⟨p, vs, rfl, hl, hd⟩ := h2.toLst
    cases hd.ints
    exact ⟨.inl ⟨rfl, _, gr_L s2.fr hl⟩, hb F2 H2 (g1.tr g2) s2 _ fun w F3 H3 g3 s3 h3 => ⟨p, xs, b, rfl, by rw [h3.toInt], gr_L s3.fr (gr_L g3 hl), q _ F3 H3 (g2.tr g3) s3 (.int _)⟩⟩
/-- y.extend(new list) -/
theorem s_ext {k1 k2 l1 l2 : Cs} {i : Nat} {p : Addr} {vs : List V} {ds : List PyData} (s : Sta F (k1 ++ (p, .lst vs) :: k2) H) (hi : σ[i]? = some (some (.ref p))) (h : EvC K te σ F (k1 ++ (p, .lst vs) :: k2) ds (l1 ++ (p, .lst vs) :: l2)) (hl : vs.length + ds.length ≤ 100000)
    (q : ∀ us F2 H2, Gr F F2 → Sta F2 (l1 ++ (p, .lst (vs ++ us)) :: l2) H2 → Dts K F2 us ds → nx σ H2) : tDrop (tBM K "list" rExtend (tVar i) (tCons te tNil)) ⟨nx, rt, bk, ct⟩ σ H :=
  ⟨.ref p, hi, .inl ⟨rfl, _, .inl (.inl s.getAt)⟩, h F H .rfl s _ fun b us F2 H2 g2 s2 h2 => ⟨p, b, vs, us, rfl, rfl, Sta.getAt (l1 := (b, .lst us) :: l1) s2, s2.at List.mem_cons_self, by rw [h2.len]; exact sz hl, q us _ _ (g2.tr s2.gfr) s2.froze.putAt (h2.gr s2.gfr)⟩⟩
theorem s_extFX {α : Type} {vf : α → V} {en : α → PyData} {k1 k2 l1 l2 : Cs} {i : Nat} {p : Addr} {xs ys zs : List α} (hw : ∀ F vs (ys : List α), Dts K F vs (ys.map en) → vs = ys.map vf) (s : Sta F (k1 ++ (p, .lst (xs.map vf)) :: k2) H) (hi : σ[i]? = some (some (.ref p))) (h : EvC K te σ F (k1 ++ (p, .lst (xs.map vf)) :: k2) (ys.map en) (l1 ++ (p, .lst (xs.map vf)) :: l2)) (hm : catM xs ys = some zs)
    (q : ∀ F2 H2, Gr F F2 → Sta F2 (l1 ++ (p, .lst (zs.map vf)) :: l2) H2 → nx σ H2) : tDrop (tBM K "list" rExtend (tVar i) (tCons te tNil)) ⟨nx, rt, bk, ct⟩ σ H := by
  obtain ⟨hl, rfl⟩ := catM_some hm
  refine s_ext s hi h (by rw [List.length_map, List.length_map]; exact hl) fun us F2 H2 g2 s2 h2 => q F2 H2 g2 ?_
  cases hw F2 us ys h2
  rw [List.map_append]; exact s2
theorem s_extGX {α : Type} {en : α → PyData} {k1 k2 l1 l2 : Cs} {i : Nat} {p : Addr} {vs : List V} {xs ys zs : List α} (s : Sta F (k1 ++ (p, .lst vs) :: k2) H) (hf : Dts K F vs (xs.map en)) (hi : σ[i]? = some (some (.ref p))) (h : EvC K te σ F (k1 ++ (p, .lst vs) :: k2) (ys.map en) (l1 ++ (p, .lst vs) :: l2)) (hm : catM xs ys = some zs)
    (q : ∀ us F2 H2, Gr F F2 → Sta F2 (l1 ++ (p, .lst us) :: l2) H2 → Dts K F2 us (zs.map en) → nx σ H2) : tDrop (tBM K "list" rExtend (tVar i) (tCons te tNil)) ⟨nx, rt, bk, ct⟩ σ H := by
  obtain ⟨hl, rfl⟩ := catM_some hm
  refine s_ext s hi h (by rw [hf.len, List.length_map, List.length_map]; exact hl) fun us F2 H2 g2 s2 h2 => q _ F2 H2 g2 s2 ?_
  rw [List.map_append]; exact (hf.gr g2).app h2
/-- y.clear() -/
theorem s_clr {l1 l2 : Cs} {i : Nat} {p : Addr} {vs : List V} (s : Sta F (l1 ++ (p, .lst vs) :: l2) H) (hi : σ[i]? = some (some (.ref p))) (q : Sta F (l1 ++ (p, .lst []) :: l2) (upd H p (.lst [])) → nx σ (upd H p (.lst []))) : tDrop (tBM0 K "list" rClear (tVar i)) ⟨nx, rt, bk, ct⟩ σ H :=
  ⟨.ref p, hi, .inl ⟨rfl, _, .inl (.inl s.getAt)⟩, p, vs, rfl, rfl, s.getAt, q s.putAt⟩
end
end Bw

namespace Bw
open PySem L2
/-! things of any kind: casts -/
def Ck {α : Type} (e : α → PyData) (c : PyData → Option α) : Prop := ∀ d x, c d = some x → d = e x
def asI : PyData → Option Int
  | .int i => some i
  | _ => none
def asB : PyData → Option Bool
  | .bool b => some b
  | _ => none
def asS : PyData → Option Str
  | .str x => some x
  | _ => none
def asN : PyData → Option Unit
  | .none => some ()
  | _ => none
def asAll {α : Type} (c : PyData → Option α) : List PyData → Option (List α)
  | [] => some []
  | d :: ds => (c d).bind fun x => (asAll c ds).bind fun xs => some (x :: xs)
def asL {α : Type} (c : PyData → Option α) : PyData → Option (List α)
  | .list ds => asAll c ds
  | _ => none
def asD (d : PyData) : Option PyData := some d
def asLD : PyData → Option (List PyData)
  | .list ds => some ds
  | _ => none
def asTD : PyData → Option (List PyData)
  | .tuple ds => some ds
  | _ => none
def asT2 {α β : Type} (c : PyData → Option α) (c' : PyData → Option β) : PyData → Option (α × β)
  | .tuple [a, b] => (c a).bind fun x => (c' b).bind fun y => some (x, y)
  | _ => none
def asT3 {α β γ : Type} (c : PyData → Option α) (c' : PyData → Option β) (c'' : PyData → Option γ) : PyData → Option (α × β × γ)
  | .tuple [a, b, d] => (c a).bind fun x => (c' b).bind fun y => (c'' d).bind fun z => some (x, y, z)
  | _ => none
def asT4 {α β γ δ : Type} (c : PyData → Option α) (c' : PyData → Option β) (c'' : PyData → Option γ) (c3 : PyData → Option δ) : PyData → Option (α × β × γ × δ)
  | .tuple [a, b, d, e] => (c a).bind fun x => (c' b).bind fun y => (c'' d).bind fun z => (c3 e).bind fun w => some (x, y, z, w)
  | _ => none
def asO {α : Type} (c : PyData → Option α) : PyData → Option (Option α)
  | .none => some none
  | d => (c d).bind fun x => some (some x)
theorem ck_D : Ck eD asD := fun d x h => by cases h; rfl
theorem ck_I : Ck eI asI := fun d x h => by cases d <;> first | (cases h; rfl) | cases h
theorem ck_B : Ck eB asB := fun d x h => by cases d <;> first | (cases h; rfl) | cases h
theorem ck_S : Ck eS asS := fun d x h => by cases d <;> first | (cases h; rfl) | cases h
theorem ck_N : Ck eN asN := fun d x h => by cases d <;> first | (cases h; rfl) | cases h
theorem ck_all {α : Type} {e : α → PyData} {c : PyData → Option α} (k : Ck e c) : ∀ {ds : List PyData} {xs : List α}, asAll c ds = some xs → ds = xs.map e
  | [], xs, h => by cases h; rfl
  | d :: ds, xs, h => by
    obtain ⟨x, h1, h⟩ := bnd h
    obtain ⟨ys, h2, h⟩ := bnd h
    cases h
    rw [k d x h1, ck_all k h2]; rfl
theorem ck_L {α : Type} {e : α → PyData} {c : PyData → Option α} (k : Ck e c) : Ck (eL e) (asL c) := fun d x h => by
  cases d with
  | list ds => exact congrArg PyData.list (ck_all k (show asAll c ds = some x from h))
  | _ => cases h
theorem ck_LD : Ck (eL eD) asLD := fun d x h => by
  cases d with
  | list ds =>
    cases h
    exact congrArg PyData.list (List.map_id' x).symm
  | _ => cases h
theorem ck_TD {d : PyData} {x : List PyData} (h : asTD d = some x) : d = .tuple x := by
  cases d with
  | tuple ds => cases h; rfl
  | _ => cases h
theorem ck_T2 {α β : Type} {e : α → PyData} {c : PyData → Option α} {e' : β → PyData} {c' : PyData → Option β} (k : Ck e c) (k' : Ck e' c') : Ck (eT2 e e') (asT2 c c') := fun d x h => by
  unfold asT2 at h
  split at h
  · obtain ⟨y, h1, h⟩ := bnd h
    obtain ⟨z, h2, h⟩ := bnd h
    cases h
    rw [k _ _ h1, k' _ _ h2]
  · cases h
theorem ck_T3 {α β γ : Type} {e : α → PyData} {c : PyData → Option α} {e' : β → PyData} {c' : PyData → Option β} {e2 : γ → PyData} {c2 : PyData → Option γ} (k : Ck e c) (k' : Ck e' c') (k2 : Ck e2 c2) : Ck (eT3 e e' e2) (asT3 c c' c2) := fun d x h => by
  unfold asT3 at h
  split at h
  · obtain ⟨y, h1, h⟩ := bnd h
    obtain ⟨z, h2, h⟩ := bnd h
    obtain ⟨z', h3, h⟩ := bnd h
    cases h
    rw [k _ _ h1, k' _ _ h2, k2 _ _ h3]
  · cases h
theorem ck_T4 {α β γ δ : Type} {e : α → PyData} {c : PyData → Option α} {e' : β → PyData} {c' : PyData → Option β} {e2 : γ → PyData} {c2 : PyData → Option γ} {e3 : δ → PyData} {c3 : PyData → Option δ} (k : Ck e c) (k' : Ck e' c') (k2 : Ck e2 c2) (k3 : Ck e3 c3) : Ck (eT4 e e' e2 e3) (asT4 c c' c2 c3) := fun d x h => by
  unfold asT4 at h
  split at h
  · obtain ⟨y, h1, h⟩ := bnd h
    obtain ⟨z, h2, h⟩ := bnd h
    obtain ⟨z', h3, h⟩ := bnd h
    obtain ⟨z2, h4, h⟩ := bnd h
    cases h
    rw [k _ _ h1, k' _ _ h2, k2 _ _ h3, k3 _ _ h4]
  · cases h
theorem ck_O {α : Type} {e : α → PyData} {c : PyData → Option α} (k : Ck e c) : Ck (eO e) (asO c) := fun d x h => by
  unfold asO at h
  split at h
  · cases h; rfl
  · obtain ⟨y, h1, h⟩ := bnd h
    cases h
    exact k _ _ h1
/-! .. and the other way -/
def Cv {α β : Type} (e : α → PyData) (e' : β → PyData) (g : α → β) : Prop := ∀ x, e x = e' (g x)
theorem cv_id {α : Type} {e : α → PyData} : Cv e e (fun x => x) := fun _ => rfl
theorem cv_D {α : Type} {e : α → PyData} : Cv e eD e := fun _ => rfl
theorem cv_some {α β : Type} {e : α → PyData} {e' : β → PyData} {g : α → β} (h : Cv e e' g) : Cv e (eO e') (fun x => some (g x)) := fun x => h x
theorem cv_none {β : Type} {e' : β → PyData} : Cv eN (eO e') (fun _ => (none : Option β)) := fun _ => rfl
theorem cv_O {α β : Type} {e : α → PyData} {e' : β → PyData} {g : α → β} (h : Cv e e' g) : Cv (eO e) (eO e') (fun x => x.map g) := fun x => by cases x with
  | none => rfl
  | some y => exact h y
theorem cv_OD {α : Type} {e : α → PyData} : Cv (eO e) eD (eO e) := fun _ => rfl
theorem cv_L {α β : Type} {e : α → PyData} {e' : β → PyData} {g : α → β} (h : Cv e e' g) : Cv (eL e) (eL e') (fun xs => xs.map g) := fun xs => by
  show PyData.list _ = PyData.list _
  rw [List.map_map]
  exact congrArg PyData.list (List.map_congr_left fun x _ => h x)
theorem cv_T2 {α α' β β' : Type} {e : α → PyData} {e' : α' → PyData} {g : α → α'} {f : β → PyData} {f' : β' → PyData} {k : β → β'} (h : Cv e e' g) (h' : Cv f f' k) : Cv (eT2 e f) (eT2 e' f') (fun x => (g x.1, k x.2)) := fun x => by
  show PyData.tuple _ = PyData.tuple _
  rw [h, h']
theorem cv_T3 {α α' β β' γ γ' : Type} {e : α → PyData} {e' : α' → PyData} {g : α → α'} {f : β → PyData} {f' : β' → PyData} {k : β → β'} {i : γ → PyData} {i' : γ' → PyData} {m : γ → γ'} (h : Cv e e' g) (h' : Cv f f' k) (h2 : Cv i i' m) : Cv (eT3 e f i) (eT3 e' f' i') (fun x => (g x.1, k x.2.1, m x.2.2)) := fun x => by
  show PyData.tuple _ = PyData.tuple _
  rw [h, h', h2]
theorem cv_T4 {α α' β β' γ γ' δ δ' : Type} {e : α → PyData} {e' : α' → PyData} {g : α → α'} {f : β → PyData} {f' : β' → PyData} {k : β → β'} {i : γ → PyData} {i' : γ' → PyData} {m : γ → γ'} {u : δ → PyData} {u' : δ' → PyData} {w : δ → δ'} (h : Cv e e' g) (h' : Cv f f' k) (h2 : Cv i i' m) (h3 : Cv u u' w) : Cv (eT4 e f i u) (eT4 e' f' i' u') (fun x => (g x.1, k x.2.1, m x.2.2.1, w x.2.2.2)) := fun x => by
  show PyData.tuple _ = PyData.tuple _
  rw [h, h', h2, h3]
/-! what is asked of things of any kind -/
def ixD : PyData → Int → Option PyData
  | .list ds, i => atI ds i
  | .tuple ds, i => atI ds i
  | .str x, i => (ixS x i).map PyData.str
  | _, _ => none
def lenD : PyData → Option Int
  | .list ds => some ds.length
  | .tuple ds => some ds.length
  | .str x => lenS x
  | _ => none
abbrev rLenG (K : PySem.W.Frag) : List V → Hp → VK → Prop := fun xs H Q => ∃ x n, xs = [x] ∧ LenV K x H n ∧ Q (.int n) H
theorem cr_lenG {X : Cx} : CallR X (.builtin "len") (rLenG X.K) := call_len
section
variable {K : PySem.W.Frag} {σ : St} {F F' : Hp} {cs cs1 cs2 cs3 : Cs} {ta tb tc te : TE} {d e : PyData} {as : TA} {a b c : Int}
theorem d_ixD {z : PyData} (ha : EvD K ta σ F cs d cs1) (hb : EvD K tb σ F cs1 (.int b) cs2) (hz : ixD d b = some z) : EvD K (tOp (rIx K) ta tb) σ F cs z cs2 := by
  intro F1 H1 g1 s Q q
  refine ha F1 H1 g1 s _ fun v F2 H2 g2 s2 h2 => hb F2 H2 (g1.tr g2) s2 _ fun w F3 H3 g3 s3 h3 => ?_
  cases d with
  | list ds =>
    refine .inl ?_
    have k := d_ixLs (K := K) (σ := [some v, some w]) (F := F3) (cs := cs2) (ta := tVar 0) (tb := tVar 1) (d_var rfl (h2.gr g3)) (d_var rfl h3) hz F3 H3 .rfl s3 Q fun v F4 H4 g4 s4 h4 => q v F4 H4 (g2.tr (g3.tr g4)) s4 h4
    obtain ⟨v', e', w', e'', k⟩ := k
    cases e'; cases e''; exact k
  | tuple ds =>
    refine .inr (.inl ?_)
    have k := d_ixT (K := K) (σ := [some v, some w]) (F := F3) (cs := cs2) (ta := tVar 0) (tb := tVar 1) (d_var rfl (h2.gr g3)) (d_var rfl h3) hz F3 H3 .rfl s3 Q fun v F4 H4 g4 s4 h4 => q v F4 H4 (g2.tr (g3.tr g4)) s4 h4
    obtain ⟨v', e', w', e'', k⟩ := k
    cases e'; cases e''; exact k
  | str x =>
    have hz : (ixS x b).map PyData.str = some z := hz
    cases hx : ixS x b with
    | none => rw [hx] at hz; cases hz
    | some y =>
      rw [hx] at hz; cases hz
      refine .inr (.inr ?_)
      have k := d_ixS (K := K) (σ := [some v, some w]) (F := F3) (cs := cs2) (ta := tVar 0) (tb := tVar 1) (d_var rfl (h2.gr g3)) (d_var rfl h3) hx F3 H3 .rfl s3 Q fun v F4 H4 g4 s4 h4 => q v F4 H4 (g2.tr (g3.tr g4)) s4 h4
      obtain ⟨v', e', w', e'', k⟩ := k
      cases e'; cases e''; exact k
  | none => cases hz
  | bool _ => cases hz
  | int _ => cases hz
  | dict _ => cases hz
theorem d_lenD {n : Int} (ha : EvDs K as σ F cs [d] cs1) (hn : lenD d = some n) : EvD K (tCB (rLenG K) as) σ F cs (.int n) cs1 := d_cb ha fun vs F2 H2 h s Q q => by
  obtain ⟨v, rfl, k1⟩ := h.one
  cases d with
  | list ds =>
    obtain ⟨p, ys, rfl, hl, hd⟩ := k1.toLst
    cases hn
    exact ⟨_, ys.length, rfl, .inl ⟨ys, gr_L s.fr hl, rfl⟩, q _ F2 H2 .rfl s (by rw [hd.len]; exact .int _)⟩
  | tuple ds =>
    obtain ⟨p, ys, rfl, hl, hd⟩ := k1.toTup
    cases hn
    exact ⟨_, ys.length, rfl, .inr ⟨ys, gr_T s.fr hl, rfl⟩, q _ F2 H2 .rfl s (by rw [hd.len]; exact .int _)⟩
  | str x =>
    cases k1.toStr
    obtain ⟨h1, rfl⟩ := lenS_some hn
    exact ⟨_, x.length, rfl, ⟨sz h1, rfl⟩, q _ F2 H2 .rfl s (.int _)⟩
  | none => cases hn
  | bool _ => cases hn
  | int _ => cases hn
  | dict _ => cases hn
/-- is True, is False -/
def isBlD (b : Bool) : PyData → Bool
  | .bool c => decide (c = b)
  | _ => false
/-- a walk over a tuple -/
theorem src_tup {p : Addr} {vs : List V} {ds : List PyData} (h : SqT K F p vs) (hd : Dts K F vs ds) : Src K (Itt K p) F ds := fun F1 c1 H1 g s => by
  have q : SqT K H1 p vs := gr_T s.fr (gr_T g h)
  refine ⟨fun i hi => ?_, ⟨vs, q, by rw [hd.len]; exact Nat.le_refl _⟩, fun i v H2 d e y => ?_⟩
  · have hi' : i < vs.length := by rw [hd.len]; exact hi
    exact ⟨vs, vs[i], q, List.getElem?_eq_getElem hi'⟩
  · obtain ⟨rfl, y⟩ := y
    obtain ⟨d', e', h'⟩ := hd.get (y vs q)
    rw [e] at e'; cases e'
    exact ⟨F1, .rfl, s, h'.gr g⟩
theorem i_tup {ds : List PyData} (h : EvD K te σ F cs (.tuple ds) cs1) : EvI K (iTup K te) σ F cs ds cs1 := fun F1 H1 g1 s R q =>
  h F1 H1 g1 s _ fun v F2 H2 g2 s2 h2 => by
    obtain ⟨p, vs, rfl, hs, hd⟩ := h2.toTup
    exact ⟨p, rfl, ⟨vs, gr_T s2.fr hs⟩, q _ F2 H2 g2 s2 (src_tup hs hd)⟩
/-- xs[::-1] -/
theorem c_rev {α : Type} {en : α → PyData} {xs : List α} (h : EvD K te σ F cs (eL en xs) cs1) : EvC K (tRevL K te) σ F cs (xs.reverse.map en) cs1 := fun F1 H1 g1 s Q q =>
  h F1 H1 g1 s _ fun v F2 H2 g2 s2 hv => by
    obtain ⟨p, vs, rfl, hl, hd⟩ := hv.toLst
    refine ⟨p, vs, rfl, gr_L s2.fr hl, fun l nl => q _ _ _ _ g2 (s2.cell nl) ?_⟩
    have : ∀ {us : List V} {ds : List PyData}, Dts K F2 us ds → Dts K F2 us.reverse ds.reverse := by
      intro us ds h
      induction us generalizing ds with
      | nil => cases h; exact .nil
      | cons u us ih => cases h with | cons a b => rw [List.reverse_cons, List.reverse_cons]; exact (ih b).app (.cons a .nil)
    rw [List.map_reverse]
    exact this hd
/-- slices of a tuple -/
theorem d_slT {ds : List PyData} {tl th : TO} {lo hi : Option Int} (h : EvD K te σ F cs (.tuple ds) cs1) (h1 : EvO tl σ F cs1 lo cs2) (h2 : EvO th σ F cs2 hi cs3) : EvD K (tSl (rSlA K) te tl th) σ F cs (.tuple (cutL ds lo hi)) cs3 := fun F1 H1 g1 s Q q =>
  h F1 H1 g1 s _ fun v F2 H2 g2 s2 hv => h1 F2 H2 (g1.tr g2) s2 _ fun F3 H3 g3 s3 => h2 F3 H3 ((g1.tr g2).tr g3) s3 _ fun F4 H4 g4 s4 => by
    obtain ⟨p, vs, rfl, hl, hd⟩ := hv.toTup
    have hd' := hd.gr (g3.tr g4)
    refine ⟨p, vs, rfl, gr_T s4.fr (gr_T (g3.tr g4) hl), fun hw => q _ F4 H4 (g2.tr (g3.tr g4)) s4 ?_, fun _ l nl => q _ _ _ ((g2.tr (g3.tr g4)).tr (Gr.new (s4.fr.back nl))) (s4.lay nl) (.tup (.inl (.inl upd_same)) ?_)⟩
    · have e : cutL ds lo hi = ds := by
        unfold cutL
        rw [← hd.len, hw.1, hw.2, List.drop_zero, Nat.sub_zero, hd.len, List.take_length]
      rw [e]
      exact .tup (gr_T (g3.tr g4) hl) hd'
    · unfold cutV cutL
      rw [hd.len]
      exact ((hd'.gr (Gr.new (s4.fr.back nl))).drop _).take _
end
end Bw

namespace Bw
open PySem L2
abbrev eT0 : Unit → PyData := fun _ => .tuple []
/-! is True, is False, is None of anything -/
def rIsBl : R2 := fun x y H Q => ∃ b, y = .bl b ∧ Q (.bl (decide (x = .bl b))) H
def rNisBl : R2 := fun x y H Q => ∃ b, y = .bl b ∧ Q (.bl (!decide (x = .bl b))) H
theorem relV_bool {x : V} {v : Value} {b : Bool} (r : RelV x v) : plainIs v (.bool b) = true ∧ (v == Value.bool b) = decide (x = .bl b) := by
  cases x with
  | bl c =>
    cases (show v = Value.bool c from r)
    refine ⟨rfl, ?_⟩
    by_cases h : c = b
    · subst h; simp
    · rw [decide_eq_false (fun z => h (V.bl.inj z))]
      exact beq_eq_false_iff_ne.mpr fun z => h (Value.bool.inj z)
  | non => cases (show v = Value.none from r); exact ⟨rfl, rfl⟩
  | ref a => cases (show v = Value.ref a from r); exact ⟨rfl, rfl⟩
  | ty n => cases (show v = Value.type n from r); exact ⟨rfl, rfl⟩
  | int i => obtain ⟨t, rfl⟩ := r; exact ⟨rfl, rfl⟩
  | str i => obtain ⟨t, rfl⟩ := r; exact ⟨rfl, rfl⟩
  | byt i => obtain ⟨t, rfl⟩ := r; exact ⟨rfl, rfl⟩
  | flt i => obtain ⟨t, rfl⟩ := r; exact ⟨rfl, rfl⟩
theorem op_isB {X : Cx} : OpR X (compareOp .Is) rIsBl := by
  intro pins s σ H x y v u Q I rx ry h
  obtain ⟨b, rfl, q⟩ := h
  cases (show u = Value.bool b from ry)
  obtain ⟨h1, h2⟩ := relV_bool (b := b) rx
  exact wpAny_is_plain h1 ⟨.bl _, H, I, by rw [h2]; rfl, q⟩
theorem op_nisB {X : Cx} : OpR X (compareOp .IsNot) rNisBl := by
  intro pins s σ H x y v u Q I rx ry h
  obtain ⟨b, rfl, q⟩ := h
  cases (show u = Value.bool b from ry)
  obtain ⟨h1, h2⟩ := relV_bool (b := b) rx
  exact wpAny_isNot_plain h1 ⟨.bl _, H, I, by rw [h2]; rfl, q⟩
def isNoD : PyData → Bool
  | .none => true
  | _ => false
section
variable {K : PySem.W.Frag} {σ : St} {F F' : Hp} {cs cs1 cs2 cs3 : Cs} {ta tb tc te : TE} {d e : PyData} {as : TA} {a b c : Int}
theorem Dt.noD {v : V} (h : Dt K F v d) : decide (v = V.non) = isNoD d := by cases h <;> rfl
theorem Dt.blD {v : V} {b : Bool} (h : Dt K F v d) : decide (v = V.bl b) = isBlD b d := by
  cases h with
  | bl c =>
    show decide (V.bl c = V.bl b) = decide (c = b)
    by_cases q : c = b
    · subst q; simp
    · rw [decide_eq_false q, decide_eq_false (fun z => q (V.bl.inj z))]
  | _ => rfl
theorem d_isD (ha : EvD K ta σ F cs d cs1) : EvD K (tOp rIsN ta (tC .non)) σ F cs (.bool (isNoD d)) cs1 := fun F1 H1 g1 s Q q =>
  ha F1 H1 g1 s _ fun v F2 H2 g2 s2 h2 => ⟨rfl, q _ F2 H2 g2 s2 (by rw [h2.noD]; exact .bl _)⟩
theorem d_nisD (ha : EvD K ta σ F cs d cs1) : EvD K (tOp rNotN ta (tC .non)) σ F cs (.bool (!isNoD d)) cs1 := fun F1 H1 g1 s Q q =>
  ha F1 H1 g1 s _ fun v F2 H2 g2 s2 h2 => ⟨rfl, q _ F2 H2 g2 s2 (by rw [h2.noD]; exact .bl _)⟩
theorem d_isBl {b : Bool} (ha : EvD K ta σ F cs d cs1) : EvD K (tOp rIsBl ta (tC (.bl b))) σ F cs (.bool (isBlD b d)) cs1 := fun F1 H1 g1 s Q q =>
  ha F1 H1 g1 s _ fun v F2 H2 g2 s2 h2 => ⟨b, rfl, q _ F2 H2 g2 s2 (by rw [h2.blD]; exact .bl _)⟩
theorem d_nisBl {b : Bool} (ha : EvD K ta σ F cs d cs1) : EvD K (tOp rNisBl ta (tC (.bl b))) σ F cs (.bool (!isBlD b d)) cs1 := fun F1 H1 g1 s Q q =>
  ha F1 H1 g1 s _ fun v F2 H2 g2 s2 h2 => ⟨b, rfl, q _ F2 H2 g2 s2 (by rw [h2.blD]; exact .bl _)⟩
/-! a dict of which nothing is asked but its kind -/
theorem d_dict0 : EvD K tDNewK σ F cs (.dict []) cs := fun F1 H1 g1 s Q q => fun p hp => q _ _ _ (Gr.new (s.fr.back hp)) (s.lay hp) (.dct upd_same)
/-- {k: v}, both written, a text for a key -/
theorem d_dict1 {x : Str} {w : V} : EvD K (tDisp [(tC (.str x), tC w)]) σ F cs (.dict []) cs := fun F1 H1 g1 s Q q => fun p hp => by
  refine ⟨upd_same, [(Sum.inr x, w)], rfl, by show 1 ≤ 15; decide, ?_⟩
  rw [upd_upd]
  exact q _ _ _ (Gr.new (s.fr.back hp)) (s.lay hp) (.dct upd_same)
/-! formats -/
def fmtD : PyData → Option Str
  | .int i => strM i
  | .str x => (lenS x).bind fun _ => some x
  | _ => none
theorem d_fmtD {x : Str} (h : EvD K te σ F cs d cs1) (hn : fmtD d = some x) : EvD K (tFmt te) σ F cs (.str x) cs1 := by
  cases d with
  | int i => exact d_fmtI h hn
  | str y =>
    obtain ⟨n, h1, h2⟩ := bnd (show (lenS y).bind (fun _ => some y) = some x from hn)
    cases h2
    exact d_fmtS h h1
  | none => cases hn
  | bool _ => cases hn
  | list _ => cases hn
  | tuple _ => cases hn
  | dict _ => cases hn
end
end Bw

namespace Bw
open PySem L2
/-! i in range(lo, hi) -/
def rInRng : R2 := fun x y H Q => ∃ i a lo hi, x = V.int i ∧ y = V.ref a ∧ H a = some (.rng lo hi) ∧ Q (.bl (decide (lo ≤ i ∧ i < hi))) H
def rNinRng : R2 := fun x y H Q => ∃ i a lo hi, x = V.int i ∧ y = V.ref a ∧ H a = some (.rng lo hi) ∧ Q (.bl (!decide (lo ≤ i ∧ i < hi))) H
abbrev rRange2 : List V → Hp → VK → Prop := fun vs H Q => ∃ i j, vs = [V.int i, V.int j] ∧ ∀ p, H p = none → Q (.ref p) (upd H p (.rng i j))
theorem op_inRng {X : Cx} : OpR X (compareOp .In) rInRng := op_in_rng
theorem op_ninRng {X : Cx} : OpR X (compareOp .NotIn) rNinRng := by
  intro pins s σ H x y v u Q I rx ry h
  obtain ⟨i, a, lo, hi, rfl, rfl, ha, q⟩ := h
  obtain ⟨k, rfl⟩ := rx
  obtain rfl : u = Value.ref a := ry
  obtain ⟨t1, t2, t3, ho⟩ := I.hok a _ ha
  show wpAny _ _ (contains (Value.ref a) (Value.int i k) >>= fun b => pure (Value.bool (!b))) _ _ s
  refine wpAny_bind (wpAny_contains_slot (T := "range") ⟨_, ho, rfl⟩ F.slot_range_contains (call_meets F.slot_range_contains ⟨_, ho, rfl⟩ F.entry_range_contains (F.args_range_contains_2 _ _)
    (q_contains a lo hi i t1 t2 t3 k) ⟨ho, wpAny_truthy_bool (wpAny_pure ⟨.bl _, H, I, rfl, ?_⟩)⟩))
  rw [place1]
  exact q
theorem cr_range2' {X : Cx} : CallR X (.type "range") rRange2 := cr_range2
section
variable {K : PySem.W.Frag} {σ : St} {F F' : Hp} {cs cs1 cs2 cs3 : Cs} {ta tb tc te : TE} {d e : PyData} {as : TA} {a b c : Int}
theorem d_inRng (ha : EvD K ta σ F cs (.int a) cs1) (hb : EvDs K as σ F cs1 [.int b, .int c] cs2) : EvD K (tOp rInRng ta (tCB rRange2 as)) σ F cs (.bool (decide (b ≤ a ∧ a < c))) cs2 := fun F1 H1 g1 s Q q =>
  ha F1 H1 g1 s _ fun v F2 H2 g2 s2 h2 => hb F2 H2 (g1.tr g2) s2 _ fun vs F3 H3 g3 s3 h3 => by
    cases h2.toInt
    obtain ⟨w, z, rfl, k1, k2⟩ := h3.two; cases k1.toInt; cases k2.toInt
    exact ⟨b, c, rfl, fun p hp => ⟨a, p, b, c, rfl, rfl, upd_same, q _ _ _ ((g2.tr g3).tr (Gr.new (s3.fr.back hp))) (s3.lay hp) (.bl _)⟩⟩
theorem d_ninRng (ha : EvD K ta σ F cs (.int a) cs1) (hb : EvDs K as σ F cs1 [.int b, .int c] cs2) : EvD K (tOp rNinRng ta (tCB rRange2 as)) σ F cs (.bool (!decide (b ≤ a ∧ a < c))) cs2 := fun F1 H1 g1 s Q q =>
  ha F1 H1 g1 s _ fun v F2 H2 g2 s2 h2 => hb F2 H2 (g1.tr g2) s2 _ fun vs F3 H3 g3 s3 h3 => by
    cases h2.toInt
    obtain ⟨w, z, rfl, k1, k2⟩ := h3.two; cases k1.toInt; cases k2.toInt
    exact ⟨b, c, rfl, fun p hp => ⟨a, p, b, c, rfl, rfl, upd_same, q _ _ _ ((g2.tr g3).tr (Gr.new (s3.fr.back hp))) (s3.lay hp) (.bl _)⟩⟩
end
end Bw

namespace Bw
open PySem L2
/-- an expression that tells a known value and changes nothing -/
def VP (to : TE) (σ : St) (F : Hp) (cs : Cs) (v : V) : Prop := ∀ F1 H1, Gr F F1 → Sta F1 cs H1 → ∀ Q : VK, Q v H1 → to σ H1 Q
section
variable {K : PySem.W.Frag} {σ : St} {F F' : Hp} {cs cs1 cs2 cs3 : Cs} {ta tb tc te : TE} {d e : PyData} {as : TA} {a b c : Int} {nx bk ct : St → Hp → Prop} {rt : VK} {H : Hp} {t u : TS}
theorem vp_var {i : Nat} {v : V} (h : σ[i]? = some (some v)) : VP (tVar i) σ F cs v := fun F1 H1 g s Q q => ⟨v, h, q⟩
theorem vp_tup {to : TE} {t : Addr} {vs : List V} {k : Int} {v : V} (h : VP to σ F cs (.ref t)) (ht : SqT K F t vs) (hk : atI vs k = some v) : VP (tOp (rIxT K) to (tC (.int k))) σ F cs v := fun F1 H1 g s Q q =>
  h F1 H1 g s _ ⟨t, vs, k, v, rfl, rfl, gr_T s.fr (gr_T g ht), hk, q⟩
theorem VP.gr {to : TE} {v : V} (g : Gr F F') (h : VP to σ F cs v) : VP to σ F' cs v := fun F1 H1 g1 s Q q => h F1 H1 (g.tr g1) s Q q
theorem d_vp {v : V} (h : VP te σ F cs v) (hd : Dt K F v d) : EvD K te σ F cs d cs := fun F1 H1 g s Q q => h F1 H1 g s Q (q v F1 H1 .rfl s (hd.gr g))
/-! the readings, opened -/
theorem o_asg {g : TG} (h : te σ H fun v H' => g v σ H' nx) : tAsg te g ⟨nx, rt, bk, ct⟩ σ H := h
theorem o_ret (h : te σ H rt) : tRet te ⟨nx, rt, bk, ct⟩ σ H := h
theorem o_drop (h : te σ H fun _ H' => nx σ H') : tDrop te ⟨nx, rt, bk, ct⟩ σ H := h
theorem o_name {i : Nat} {v : V} {σ' : St} {Q : St → Hp → Prop} (e : σ.set i (some v) = σ') (h : Q σ' H) : gName i v σ H Q := by show Q (σ.set i (some v)) H; rw [e]; exact h
theorem o_tup {Q : VK} (h : as σ H fun vs H1 => vs.length ≤ sizeLine ∧ ∀ p, H1 p = none → Q (.ref p) (upd H1 p (.tup vs))) : tTup as σ H Q := h
theorem o_cons {Q : List V → Hp → Prop} (h : te σ H fun v H1 => as σ H1 fun vs H2 => Q (v :: vs) H2) : tCons te as σ H Q := h
theorem o_nil {Q : List V → Hp → Prop} (h : Q [] H) : tNil σ H Q := h
theorem o_d {Q : VK} (s : Sta F cs H) (h : EvD K te σ F cs d cs1) (q : ∀ v F2 H2, Gr F F2 → Sta F2 cs1 H2 → Dt K F2 v d → Q v H2) : te σ H Q := h F H .rfl s Q q
theorem o_c {Q : VK} {ds : List PyData} (s : Sta F cs H) (h : EvC K te σ F cs ds cs1) (q : ∀ p us F2 H2, Gr F F2 → Sta F2 ((p, .lst us) :: cs1) H2 → Dts K F2 us ds → Q (.ref p) H2) : te σ H Q := h F H .rfl s Q q
theorem o_v {Q : VK} {v : V} (s : Sta F cs H) (h : VP te σ F cs v) (q : Q v H) : te σ H Q := h F H .rfl s Q q
/-- the tuple itself stands for good -/
theorem o_tupN {n : Nat} {vs : List V} {Q : VK} (s : Sta F cs H) (hn : vs.length ≤ 1000) (q : ∀ p, Gr F (upd F p (.tup vs)) → Sta (upd F p (.tup vs)) cs (upd H p (.tup vs)) → Q (.ref p) (upd H p (.tup vs))) : vs.length ≤ sizeLine ∧ ∀ p, H p = none → Q (.ref p) (upd H p (.tup vs)) :=
  ⟨Nat.le_trans hn (by decide), fun p hp => q p (Gr.new (s.fr.back hp)) (s.lay hp)⟩
theorem sq_new {p : Addr} {vs : List V} : SqT K (upd F p (.tup vs)) p vs := .inl (.inl upd_same)
theorem dt_t {p : Addr} {vs : List V} {ds : List PyData} (h : SqT K F p vs) (hd : Dts K F vs ds) : Dt K F (.ref p) (.tuple ds) := .tup h hd
theorem s_appV {k1 k2 l1 l2 : Cs} {to : TE} {p : Addr} {vs : List V} (s : Sta F (k1 ++ (p, .lst vs) :: k2) H) (hi : VP to σ F (k1 ++ (p, .lst vs) :: k2) (.ref p)) (h : EvD K te σ F (k1 ++ (p, .lst vs) :: k2) d (l1 ++ (p, .lst vs) :: l2)) (hl : vs.length < 100000)
    (q : ∀ v F2 H2, Gr F F2 → Sta F2 (l1 ++ (p, .lst (vs ++ [v])) :: l2) H2 → Dt K F2 v d → nx σ H2) : tDrop (tBM K "list" rAppend to (tCons te tNil)) ⟨nx, rt, bk, ct⟩ σ H :=
  hi F H .rfl s _ ⟨.inl ⟨rfl, _, .inl (.inl s.getAt)⟩, h F H .rfl s _ fun v F2 H2 g2 s2 h2 => ⟨p, vs, v, rfl, rfl, s2.getAt, szl hl, q v F2 _ g2 s2.putAt h2⟩⟩
theorem s_appFV {α : Type} {vf : α → V} {en : α → PyData} {k1 k2 l1 l2 : Cs} {to : TE} {p : Addr} {xs ys : List α} {x : α} (hw : ∀ F v x, Dt K F v (en x) → v = vf x) (s : Sta F (k1 ++ (p, .lst (xs.map vf)) :: k2) H) (hi : VP to σ F (k1 ++ (p, .lst (xs.map vf)) :: k2) (.ref p)) (h : EvD K te σ F (k1 ++ (p, .lst (xs.map vf)) :: k2) (en x) (l1 ++ (p, .lst (xs.map vf)) :: l2)) (hm : appM xs x = some ys)
    (q : ∀ F2 H2, Gr F F2 → Sta F2 (l1 ++ (p, .lst (ys.map vf)) :: l2) H2 → nx σ H2) : tDrop (tBM K "list" rAppend to (tCons te tNil)) ⟨nx, rt, bk, ct⟩ σ H := by
  obtain ⟨hl, rfl⟩ := appM_some hm
  refine s_appV s hi h (by rw [List.length_map]; exact hl) fun v F2 H2 g2 s2 h2 => q F2 H2 g2 ?_
  cases hw F2 v x h2
  rw [List.map_append]; exact s2
theorem s_appGV {α : Type} {en : α → PyData} {k1 k2 l1 l2 : Cs} {to : TE} {p : Addr} {vs : List V} {xs ys : List α} {x : α} (s : Sta F (k1 ++ (p, .lst vs) :: k2) H) (hf : Dts K F vs (xs.map en)) (hi : VP to σ F (k1 ++ (p, .lst vs) :: k2) (.ref p)) (h : EvD K te σ F (k1 ++ (p, .lst vs) :: k2) (en x) (l1 ++ (p, .lst vs) :: l2)) (hm : appM xs x = some ys)
    (q : ∀ us F2 H2, Gr F F2 → Sta F2 (l1 ++ (p, .lst us) :: l2) H2 → Dts K F2 us (ys.map en) → nx σ H2) : tDrop (tBM K "list" rAppend to (tCons te tNil)) ⟨nx, rt, bk, ct⟩ σ H := by
  obtain ⟨hl, rfl⟩ := appM_some hm
  refine s_appV s hi h (by rw [hf.len, List.length_map]; exact hl) fun v F2 H2 g2 s2 h2 => q _ F2 H2 g2 s2 ?_
  rw [List.map_append]; exact (hf.gr g2).app (.cons h2 .nil)
theorem s_itemV {k1 k2 m1 m2 l1 l2 : Cs} {to : TE} {p : Addr} {vs : List V} {ti : TE} {k : Int} {j : Nat} (s : Sta F (k1 ++ (p, .lst vs) :: k2) H) (hi : VP to σ F (m1 ++ (p, .lst vs) :: m2) (.ref p)) (h : EvD K te σ F (k1 ++ (p, .lst vs) :: k2) d (m1 ++ (p, .lst vs) :: m2))
    (h2 : EvD K ti σ F (m1 ++ (p, .lst vs) :: m2) (.int k) (l1 ++ (p, .lst vs) :: l2)) (hj : ixN vs.length k = some j) (q : ∀ v F2 H2, Gr F F2 → Sta F2 (l1 ++ (p, .lst (vs.set j v)) :: l2) H2 → Dt K F2 v d → nx σ H2) : tAsg te (gSub to ti rSetL) ⟨nx, rt, bk, ct⟩ σ H :=
  h F H .rfl s _ fun v F2 H2 g2 s2 hv => hi F2 H2 g2 s2 _ (h2 F2 H2 g2 s2 _ fun w F3 H3 g3 s3 hw => ⟨p, vs, k, j, rfl, hw.toInt, s3.getAt, hj, q v F3 _ (g2.tr g3) s3.putAt (hv.gr g3)⟩)
theorem s_itemFV {α : Type} {vf : α → V} {en : α → PyData} {k1 k2 m1 m2 l1 l2 : Cs} {to : TE} {p : Addr} {xs ys : List α} {x : α} {ti : TE} {k : Int} (hw : ∀ F v x, Dt K F v (en x) → v = vf x) (s : Sta F (k1 ++ (p, .lst (xs.map vf)) :: k2) H) (hi : VP to σ F (m1 ++ (p, .lst (xs.map vf)) :: m2) (.ref p)) (h : EvD K te σ F (k1 ++ (p, .lst (xs.map vf)) :: k2) (en x) (m1 ++ (p, .lst (xs.map vf)) :: m2))
    (h2 : EvD K ti σ F (m1 ++ (p, .lst (xs.map vf)) :: m2) (.int k) (l1 ++ (p, .lst (xs.map vf)) :: l2)) (hm : setM xs k x = some ys) (q : ∀ F2 H2, Gr F F2 → Sta F2 (l1 ++ (p, .lst (ys.map vf)) :: l2) H2 → nx σ H2) : tAsg te (gSub to ti rSetL) ⟨nx, rt, bk, ct⟩ σ H := by
  obtain ⟨j, hj, rfl⟩ := setM_some hm
  refine s_itemV (j := j) s hi h h2 (by rw [List.length_map]; exact hj) fun v F2 H2 g2 s2 hv => q F2 H2 g2 ?_
  cases hw F2 v x hv
  rw [List.map_set]; exact s2
theorem s_itemGV {α : Type} {en : α → PyData} {k1 k2 m1 m2 l1 l2 : Cs} {to : TE} {p : Addr} {vs : List V} {xs ys : List α} {x : α} {ti : TE} {k : Int} (s : Sta F (k1 ++ (p, .lst vs) :: k2) H) (hf : Dts K F vs (xs.map en)) (hi : VP to σ F (m1 ++ (p, .lst vs) :: m2) (.ref p)) (h : EvD K te σ F (k1 ++ (p, .lst vs) :: k2) (en x) (m1 ++ (p, .lst vs) :: m2))
    (h2 : EvD K ti σ F (m1 ++ (p, .lst vs) :: m2) (.int k) (l1 ++ (p, .lst vs) :: l2)) (hm : setM xs k x = some ys) (q : ∀ us F2 H2, Gr F F2 → Sta F2 (l1 ++ (p, .lst us) :: l2) H2 → Dts K F2 us (ys.map en) → nx σ H2) : tAsg te (gSub to ti rSetL) ⟨nx, rt, bk, ct⟩ σ H := by
  obtain ⟨j, hj, rfl⟩ := setM_some hm
  refine s_itemV (j := j) s hi h h2 (by rw [hf.len, List.length_map]; exact hj) fun v F2 H2 g2 s2 hv => q _ F2 H2 g2 s2 ?_
  rw [List.map_set]; exact (hf.gr g2).setAt j hv
theorem s_augSV {k1 k2 m1 m2 l1 l2 : Cs} {to : TE} {p : Addr} {xs ys : List Int} {ti : TE} {k w b : Int} {f : Int → Int → Int} (s : Sta F (k1 ++ (p, .lst (xs.map V.int)) :: k2) H) (hi : VP to σ F (k1 ++ (p, .lst (xs.map V.int)) :: k2) (.ref p)) (h1 : EvD K ti σ F (k1 ++ (p, .lst (xs.map V.int)) :: k2) (.int k) (m1 ++ (p, .lst (xs.map V.int)) :: m2)) (hg : atI xs k = some w)
    (h2 : EvD K te σ F (m1 ++ (p, .lst (xs.map V.int)) :: m2) (.int b) (l1 ++ (p, .lst (xs.map V.int)) :: l2)) (hm : setM xs k (f w b) = some ys) (q : ∀ F2 H2, Gr F F2 → Sta F2 (l1 ++ (p, .lst (ys.map V.int)) :: l2) H2 → nx σ H2) : tAugS to ti te (rIxL K) (ipI f) rSetL ⟨nx, rt, bk, ct⟩ σ H := by
  obtain ⟨j, hj, rfl⟩ := setM_some hm
  refine hi F H .rfl s _ (h1 F H .rfl s _ fun v F2 H2 g2 s2 hv => ⟨p, xs.map V.int, k, .int w, rfl, hv.toInt, .inl (.inl s2.getAt), by rw [atI_map, hg]; rfl, h2 F2 H2 g2 s2 _ fun y F3 H3 g3 s3 hy => ⟨w, b, rfl, hy.toInt, p, xs.map V.int, k, j, rfl, hv.toInt, s3.getAt, by rw [List.length_map]; exact hj, q F3 _ (g2.tr g3) ?_⟩⟩)
  rw [List.map_set]; exact s3.putAt
theorem s_popFV {α : Type} {vf : α → V} {en : α → PyData} {k1 k2 l1 l2 : Cs} {to : TE} {j : Nat} {p : Addr} {xs ys : List α} {x : α} {ti : TE} {k : Int} {σ' : St} (hd : ∀ F x, Dt K F (vf x) (en x)) (s : Sta F (k1 ++ (p, .lst (xs.map vf)) :: k2) H) (hi : VP to σ F (k1 ++ (p, .lst (xs.map vf)) :: k2) (.ref p))
    (h2 : EvD K ti σ F (k1 ++ (p, .lst (xs.map vf)) :: k2) (.int k) (l1 ++ (p, .lst (xs.map vf)) :: l2)) (hm : popM xs k = some (x, ys)) (hσ : σ.set j (some (vf x)) = σ') (q : ∀ F2 H2, Gr F F2 → Sta F2 (l1 ++ (p, .lst (ys.map vf)) :: l2) H2 → nx σ' H2) : tAsg (tBM K "list" rPopAt to (tCons ti tNil)) (gName j) ⟨nx, rt, bk, ct⟩ σ H := by
  obtain ⟨⟨a1, a2⟩, m, b1, b2, rfl⟩ := popM_some hm
  refine hi F H .rfl s _ ⟨.inl ⟨rfl, _, .inl (.inl s.getAt)⟩, h2 F H .rfl s _ fun w F3 H3 g3 s3 hw => ⟨p, xs.map vf, k, m, vf x, rfl, by cases hw.toInt; rfl, s3.getAt, a1, a2, by rw [List.length_map]; exact b1, by rw [List.getElem?_map, b2]; rfl, ?_⟩⟩
  show nx (σ.set j (some (vf x))) _
  rw [hσ]
  refine q F3 _ g3 ?_
  have s4 := s3.putAt (o' := .lst ((xs.map vf).eraseIdx m))
  rw [er_map]
  exact s4
theorem s_remFV {k1 k2 l1 l2 : Cs} {to : TE} {p : Addr} {xs ys : List Int} {ti : TE} {k : Int} (s : Sta F (k1 ++ (p, .lst (xs.map V.int)) :: k2) H) (hi : VP to σ F (k1 ++ (p, .lst (xs.map V.int)) :: k2) (.ref p))
    (h2 : EvD K ti σ F (k1 ++ (p, .lst (xs.map V.int)) :: k2) (.int k) (l1 ++ (p, .lst (xs.map V.int)) :: l2)) (hm : remM xs k = some ys) (q : ∀ F2 H2, Gr F F2 → Sta F2 (l1 ++ (p, .lst (ys.map V.int)) :: l2) H2 → nx σ H2) : tDrop (tBM K "list" rRemI to (tCons ti tNil)) ⟨nx, rt, bk, ct⟩ σ H := by
  unfold remM at hm; split at hm
  · rename_i hin
    cases hm
    obtain ⟨j, e1, e2, e3⟩ := rem_at hin
    refine hi F H .rfl s _ ⟨.inl ⟨rfl, _, .inl (.inl s.getAt)⟩, h2 F H .rfl s _ fun w F3 H3 g3 s3 hw => ⟨p, xs, k, j, rfl, by cases hw.toInt; rfl, s3.getAt, e1, e2, q F3 _ g3 ?_⟩⟩
    rw [e3]
    exact s3.putAt
  · cases hm
theorem s_extV {k1 k2 l1 l2 : Cs} {to : TE} {p : Addr} {vs : List V} {ds : List PyData} (s : Sta F (k1 ++ (p, .lst vs) :: k2) H) (hi : VP to σ F (k1 ++ (p, .lst vs) :: k2) (.ref p)) (h : EvC K te σ F (k1 ++ (p, .lst vs) :: k2) ds (l1 ++ (p, .lst vs) :: l2)) (hl : vs.length + ds.length ≤ 100000)
    (q : ∀ us F2 H2, Gr F F2 → Sta F2 (l1 ++ (p, .lst (vs ++ us)) :: l2) H2 → Dts K F2 us ds → nx σ H2) : tDrop (tBM K "list" rExtend to (tCons te tNil)) ⟨nx, rt, bk, ct⟩ σ H :=
  hi F H .rfl s _ ⟨.inl ⟨rfl, _, .inl (.inl s.getAt)⟩, h F H .rfl s _ fun b us F2 H2 g2 s2 h2 => ⟨p, b, vs, us, rfl, rfl, Sta.getAt (l1 := (b, .lst us) :: l1) s2, s2.at List.mem_cons_self, by rw [h2.len]; exact sz hl, q us _ _ (g2.tr s2.gfr) s2.froze.putAt (h2.gr s2.gfr)⟩⟩
theorem s_extFV {α : Type} {vf : α → V} {en : α → PyData} {k1 k2 l1 l2 : Cs} {to : TE} {p : Addr} {xs ys zs : List α} (hw : ∀ F vs (ys : List α), Dts K F vs (ys.map en) → vs = ys.map vf) (s : Sta F (k1 ++ (p, .lst (xs.map vf)) :: k2) H) (hi : VP to σ F (k1 ++ (p, .lst (xs.map vf)) :: k2) (.ref p)) (h : EvC K te σ F (k1 ++ (p, .lst (xs.map vf)) :: k2) (ys.map en) (l1 ++ (p, .lst (xs.map vf)) :: l2)) (hm : catM xs ys = some zs)
    (q : ∀ F2 H2, Gr F F2 → Sta F2 (l1 ++ (p, .lst (zs.map vf)) :: l2) H2 → nx σ H2) : tDrop (tBM K "list" rExtend to (tCons te tNil)) ⟨nx, rt, bk, ct⟩ σ H := by
  obtain ⟨hl, rfl⟩ := catM_some hm
  refine s_extV s hi h (by rw [List.length_map, List.length_map]; exact hl) fun us F2 H2 g2 s2 h2 => q F2 H2 g2 ?_
  cases hw F2 us ys h2
  rw [List.map_append]; exact s2
theorem s_extGV {α : Type} {en : α → PyData} {k1 k2 l1 l2 : Cs} {to : TE} {p : Addr} {vs : List V} {xs ys zs : List α} (s : Sta F (k1 ++ (p, .lst vs) :: k2) H) (hf : Dts K F vs (xs.map en)) (hi : VP to σ F (k1 ++ (p, .lst vs) :: k2) (.ref p)) (h : EvC K te σ F (k1 ++ (p, .lst vs) :: k2) (ys.map en) (l1 ++ (p, .lst vs) :: l2)) (hm : catM xs ys = some zs)
    (q : ∀ us F2 H2, Gr F F2 → Sta F2 (l1 ++ (p, .lst us) :: l2) H2 → Dts K F2 us (zs.map en) → nx σ H2) : tDrop (tBM K "list" rExtend to (tCons te tNil)) ⟨nx, rt, bk, ct⟩ σ H := by
  obtain ⟨hl, rfl⟩ := catM_some hm
  refine s_extV s hi h (by rw [hf.len, List.length_map, List.length_map]; exact hl) fun us F2 H2 g2 s2 h2 => q _ F2 H2 g2 s2 ?_
  rw [List.map_append]; exact (hf.gr g2).app h2
theorem s_clrV {l1 l2 : Cs} {to : TE} {p : Addr} {vs : List V} (s : Sta F (l1 ++ (p, .lst vs) :: l2) H) (hi : VP to σ F (l1 ++ (p, .lst vs) :: l2) (.ref p)) (q : Sta F (l1 ++ (p, .lst []) :: l2) (upd H p (.lst [])) → nx σ (upd H p (.lst []))) : tDrop (tBM0 K "list" rClear to) ⟨nx, rt, bk, ct⟩ σ H :=
  hi F H .rfl s _ ⟨.inl ⟨rfl, _, .inl (.inl s.getAt)⟩, p, vs, rfl, rfl, s.getAt, q s.putAt⟩
end
def Su (c c' : Cs) : Prop := ∃ l, c.Perm (l ++ c')
theorem su_rfl {cs : Cs} : Su cs cs := ⟨[], .refl _⟩
theorem su_perm {cs cs1 : Cs} (p : cs.Perm cs1) : Su cs cs1 := ⟨[], p⟩
theorem su_drop {c : Addr × HO} {cs : Cs} : Su (c :: cs) cs := ⟨[c], .refl _⟩
theorem Su.tr {cs cs1 cs2 : Cs} (h : Su cs cs1) (k : Su cs1 cs2) : Su cs cs2 := by
  obtain ⟨l, h⟩ := h
  obtain ⟨m, k⟩ := k
  exact ⟨l ++ m, h.trans (by rw [List.append_assoc]; exact k.append_left l)⟩
theorem sta_tl : ∀ {l : Cs} {cs : Cs} {F H : Hp}, Sta F (l ++ cs) H → Sta F cs H
  | [], _, _, _, s => s
  | c :: l, cs, F, H, s => sta_tl (l := l) (sb_drop (c := c) (cs := l ++ cs) F H s)
theorem Su.sb {cs cs1 : Cs} (h : Su cs cs1) : Sb cs cs1 := fun F H s => by
  obtain ⟨l, h⟩ := h
  exact sta_tl (s.perm h)
theorem su_app {cs cs1 c : Cs} (h : Su cs cs1) : Su (c ++ cs) (c ++ cs1) := by
  obtain ⟨l, h⟩ := h
  refine ⟨l, (h.append_left c).trans ?_⟩
  rw [← List.append_assoc, ← List.append_assoc]
  exact List.perm_append_comm.append_right cs1
section
variable {K : PySem.W.Frag} {σ : St} {F F' : Hp} {cs cs1 cs2 cs3 : Cs} {ta tb tc te : TE} {d e : PyData} {as : TA} {a b c : Int} {nx bk ct : St → Hp → Prop} {rt : VK} {H : Hp} {t u : TS}
/-- list(path) -/
theorem c_listV {l1 l2 : Cs} {to : TE} {p : Addr} {us : List V} {ds : List PyData} (hi : VP to σ F (l1 ++ (p, .lst us) :: l2) (.ref p)) (hd : Dts K F us ds) : EvC K (tCB (rListS K) (tCons to tNil)) σ F (l1 ++ (p, .lst us) :: l2) ds (l1 ++ (p, .lst us) :: l2) := fun F1 H1 g1 s Q q =>
  hi F1 H1 g1 s _ ⟨p, us, rfl, .inl (.inl (.inl s.getAt)), fun l nl => q _ _ _ _ .rfl (s.cell nl) (hd.gr g1)⟩
/-! a function that tells a new thing, some parts of which may change -/
def spR (K : PySem.W.Frag) {α β : Type} (A : α → List Ar) (C : β → List (List V)) (R : β → Hp → V → Cs → Prop) (f : α → Option β) : Sp := fun vs H Q _ => ∃ F cc cs x y, ArgR K F vs (A x) cc ∧ Sta F (cc ++ cs) H ∧ f x = some y ∧ ∀ v c F2 H2, Gr F F2 → Sta F2 (c ++ (upC cc (C y) ++ cs)) H2 → R y F2 v c → Q v H2
theorem o_callR {α β : Type} {A : α → List Ar} {C : β → List (List V)} {R : β → Hp → V → Cs → Prop} {f : α → Option β} {x : α} {y : β} {E : XK} {cc cs' : Cs} {Q : VK} (s : Sta F cs H) (h : EvR K as σ F cs (A x) cc cs1) (hp : Sb cs1 (cc ++ cs')) (hf : f x = some y) (hq : Su (upC cc (C y) ++ cs') cs2)
    (q : ∀ v c F2 H2, Gr F F2 → Sta F2 (c ++ cs2) H2 → R y F2 v c → Q v H2) : tCall (spR K A C R f) [] E as σ H Q :=
  h F H .rfl s _ fun vs F2 H2 g2 s2 h2 => ⟨F2, cc, cs', x, y, by rw [List.append_nil]; exact h2, hp _ _ s2, hf, fun v c F3 H3 g3 s3 r => q v c F3 H3 (g2.tr g3) ((su_app hq).sb _ _ s3) r⟩
theorem d_callR {α β : Type} {A : α → List Ar} {C : β → List (List V)} {R : β → Hp → V → Cs → Prop} {B : β → PyData} {f : α → Option β} {x : α} {y : β} {E : XK} {cc cs' : Cs} (hR : ∀ y F H v c cs, R y F v c → Sta F (c ++ cs) H → ∃ F', Gr F F' ∧ Sta F' cs H ∧ Dt K F' v (B y)) (h : EvR K as σ F cs (A x) cc cs1) (hp : Sb cs1 (cc ++ cs')) (hf : f x = some y) (hq : Su (upC cc (C y) ++ cs') cs2) : EvD K (tCall (spR K A C R f) [] E as) σ F cs (B y) cs2 := fun F1 H1 g1 s Q q =>
  h F1 H1 g1 s _ fun vs F2 H2 g2 s2 h2 => ⟨F2, cc, cs', x, y, by rw [List.append_nil]; exact h2, hp _ _ s2, hf, fun v c F3 H3 g3 s3 r => by
    obtain ⟨F4, g4, s4, d4⟩ := hR y F3 H3 v c cs2 r ((su_app hq).sb _ _ s3)
    exact q v F4 H3 ((g2.tr g3).tr g4) s4 d4⟩
end
end Bw

namespace Bw
open PySem L2
/-! data without lists -/
mutual
def noL : PyData → Bool
  | .list _ => false
  | .dict _ => false
  | .tuple ds => noLs ds
  | _ => true
def noLs : List PyData → Bool
  | [] => true
  | d :: ds => noL d && noLs ds
end
section
variable {K : PySem.W.Frag} {F F2 : Hp} {p : Addr} {us : List V}
mutual
theorem Dt.cutL (hp : F2 p = some (.lst us)) : ∀ {v : V} {d : PyData}, Dt K F2 v d → noL d = true → Dt K (cut F2 p) v d
  | _, _, .non, _ => .non
  | _, _, .bl b, _ => .bl b
  | _, _, .int i, _ => .int i
  | _, _, .str x, _ => .str x
  | _, _, .lst h a, n => by simp [noL] at n
  | _, _, .dct h, n => by simp [noL] at n
  | _, _, .tup (a := a) (ds := ds) h k, n => by
    have n' : noLs ds = true := by simpa [noL] using n
    refine .tup ?_ (Dts.cutL hp k n')
    rcases h with (h | ⟨o, h⟩) | h
    · refine .inl (.inl ?_)
      rw [cut_ne (fun z => by rw [z, hp] at h; cases h)]; exact h
    · refine .inl (.inr ⟨o, ?_⟩)
      rw [cut_ne (fun z => by rw [z, hp] at h; cases h)]; exact h
    · exact .inr h
theorem Dts.cutL (hp : F2 p = some (.lst us)) : ∀ {vs : List V} {ds : List PyData}, Dts K F2 vs ds → noLs ds = true → Dts K (cut F2 p) vs ds
  | _, _, .nil, _ => .nil
  | _, _, .cons h t, n => by
    rw [noLs, Bool.and_eq_true] at n
    exact .cons (Dt.cutL hp h n.1) (Dts.cutL hp t n.2)
end
end
def Nl {α : Type} (e : α → PyData) : Prop := ∀ x, noL (e x) = true
theorem nl_I : Nl eI := fun _ => rfl
theorem nl_B : Nl eB := fun _ => rfl
theorem nl_S : Nl eS := fun _ => rfl
theorem nl_N : Nl eN := fun _ => rfl
theorem nl_O {α : Type} {e : α → PyData} (h : Nl e) : Nl (eO e) := fun x => by cases x with
  | none => rfl
  | some y => exact h y
theorem nl_T2 {α β : Type} {e : α → PyData} {f : β → PyData} (h : Nl e) (k : Nl f) : Nl (eT2 e f) := fun x => by show (noL (e x.1) && (noL (f x.2) && true)) = true; rw [h, k]; rfl
theorem nl_T3 {α β γ : Type} {e : α → PyData} {f : β → PyData} {g : γ → PyData} (h : Nl e) (k : Nl f) (l : Nl g) : Nl (eT3 e f g) := fun x => by show (noL (e x.1) && (noL (f x.2.1) && (noL (g x.2.2) && true))) = true; rw [h, k, l]; rfl
theorem nl_T4 {α β γ δ : Type} {e : α → PyData} {f : β → PyData} {g : γ → PyData} {i : δ → PyData} (h : Nl e) (k : Nl f) (l : Nl g) (m : Nl i) : Nl (eT4 e f g i) := fun x => by show (noL (e x.1) && (noL (f x.2.1) && (noL (g x.2.2.1) && (noL (i x.2.2.2) && true)))) = true; rw [h, k, l, m]; rfl
theorem nls {α : Type} {e : α → PyData} (h : Nl e) : ∀ xs : List α, noLs (xs.map e) = true
  | [] => rfl
  | x :: xs => by show (noL (e x) && noLs (xs.map e)) = true; rw [h, nls h xs]; rfl
section
variable {K : PySem.W.Frag} {σ : St} {F F' : Hp} {cs cs1 cs2 cs3 : Cs} {ta tb tc te : TE} {d e : PyData} {as : TA}
theorem Ev.grC {ds : List PyData} (g : Gr F F') (h : EvC K te σ F cs ds cs1) : EvC K te σ F' cs ds cs1 := fun F1 H1 g1 s Q q => h F1 H1 (g.tr g1) s Q q
theorem Ev.grR {xs : List Ar} {cc : Cs} (g : Gr F F') (h : EvR K as σ F cs xs cc cs1) : EvR K as σ F' cs xs cc cs1 := fun F1 H1 g1 s Q q => h F1 H1 (g.tr g1) s Q q
theorem r_cv {xs : List Ar} {cc : Cs} {to : TE} {p : Addr} {us : List V} (hi : VP to σ F cs (.ref p)) (h2 : EvR K as σ F cs xs cc cs2) : EvR K (tCons to as) σ F cs (.c us :: xs) ((p, .lst us) :: cc) cs2 := fun F1 H1 g1 s Q q =>
  hi F1 H1 g1 s _ (h2 F1 H1 g1 s _ fun vs F2 H2 g2 s2 h => q _ F2 H2 g2 s2 (.c h))
/-- the first argument is a new list of flat things, which nobody keeps -/
theorem o_callRN {α β : Type} {A : α → List Ar} {C : β → List (List V)} {R : β → Hp → V → Cs → Prop} {f : α → Option β} {x : α} {y : β} {E : XK} {cc cs' : Cs} {ds : List PyData} {us : List V} {xs : List Ar} {H : Hp} {Q : VK} (s : Sta F cs H) (h : EvC K te σ F cs ds cs1) (hu : ∀ F vs, Dts K F vs ds → vs = us) (hA : A x = .c us :: xs) (h2 : ∀ p, EvR K as σ F ((p, .lst us) :: cs1) xs cc ((p, .lst us) :: cs2))
    (hp : ∀ p, Sb ((p, .lst us) :: cs2) ((p, .lst us) :: cc ++ cs')) (hf : f x = some y) (hq : ∀ p, Su (upC ((p, .lst us) :: cc) (C y) ++ cs') cs3) (q : ∀ v c F2 H2, Gr F F2 → Sta F2 (c ++ cs3) H2 → R y F2 v c → Q v H2) : tCall (spR K A C R f) [] E (tCons te as) σ H Q :=
  h F H .rfl s _ fun p vs F2 H2 g2 s2 hv => by
    cases hu F2 vs hv
    exact h2 p F2 H2 g2 s2 _ fun ws F3 H3 g3 s3 h3 => ⟨F3, (p, .lst us) :: cc, cs', x, y, by rw [List.append_nil, hA]; exact .c h3, hp p _ _ s3, hf, fun v c F4 H4 g4 s4 r => q v c F4 H4 ((g2.tr g3).tr g4) ((su_app (hq p)).sb _ _ s4) r⟩
theorem d_callRN {α β : Type} {A : α → List Ar} {C : β → List (List V)} {R : β → Hp → V → Cs → Prop} {B : β → PyData} {f : α → Option β} {x : α} {y : β} {E : XK} {cc cs' : Cs} {ds : List PyData} {us : List V} {xs : List Ar} (hR : ∀ y F H v c cs, R y F v c → Sta F (c ++ cs) H → ∃ F', Gr F F' ∧ Sta F' cs H ∧ Dt K F' v (B y)) (h : EvC K te σ F cs ds cs1) (hu : ∀ F vs, Dts K F vs ds → vs = us) (hA : A x = .c us :: xs) (h2 : ∀ p, EvR K as σ F ((p, .lst us) :: cs1) xs cc ((p, .lst us) :: cs2))
    (hp : ∀ p, Sb ((p, .lst us) :: cs2) ((p, .lst us) :: cc ++ cs')) (hf : f x = some y) (hq : ∀ p, Su (upC ((p, .lst us) :: cc) (C y) ++ cs') cs3) : EvD K (tCall (spR K A C R f) [] E (tCons te as)) σ F cs (B y) cs3 := fun F1 H1 g1 s Q q =>
  o_callRN s (Ev.grC g1 h) hu hA (fun p => Ev.grR g1 (h2 p)) hp hf hq fun v c F3 H3 g3 s3 r => by
    obtain ⟨F4, g4, s4, d4⟩ := hR y F3 H3 v c cs3 r s3
    exact q v F4 H3 (g3.tr g4) s4 d4
theorem d_lendT {l1 l2 m1 m2 : Cs} {p : Addr} {us : List V} (hn : noL d = true) (h : ∀ F1, Gr F F1 → F1 p = none → EvD K te σ (upd F1 p (.lst us)) (l1 ++ l2) d (m1 ++ m2)) : EvD K te σ F (l1 ++ (p, .lst us) :: l2) d (m1 ++ (p, .lst us) :: m2) := fun F1 H1 g1 s Q q => by
  refine h F1 g1 s.freeAt (upd F1 p (.lst us)) H1 .rfl s.frozeAt Q fun v F2 H2 g2 s2 h2 => ?_
  exact q v (cut F2 p) H2 (gr_cut s.freeAt g2) (Sta.lent g2 s2) (h2.cutL (g2 p _ upd_same) hn)
theorem c_lendT {l1 l2 m1 m2 : Cs} {p : Addr} {us : List V} {ds : List PyData} (hn : noLs ds = true) (h : ∀ F1, Gr F F1 → F1 p = none → EvC K te σ (upd F1 p (.lst us)) (l1 ++ l2) ds (m1 ++ m2)) : EvC K te σ F (l1 ++ (p, .lst us) :: l2) ds (m1 ++ (p, .lst us) :: m2) := fun F1 H1 g1 s Q q => by
  refine h F1 g1 s.freeAt (upd F1 p (.lst us)) H1 .rfl s.frozeAt Q fun a vs F2 H2 g2 s2 h2 => ?_
  exact q a vs (cut F2 p) H2 (gr_cut s.freeAt g2) (Sta.lent (l1 := (a, .lst vs) :: m1) g2 s2) (h2.cutL (g2 p _ upd_same) hn)
end
end Bw

namespace Bw
open PySem L2
/-! dicts with flat keys and flat values -/
def lookK {κ ν : Type} [DecidableEq κ] (d : List (κ × ν)) (k : κ) : Option ν := (d.find? fun p => decide (p.1 = k)).map (·.2)
def putKV {κ ν : Type} [DecidableEq κ] (d : List (κ × ν)) (k : κ) (v : ν) : List (κ × ν) := if (d.any fun p => decide (p.1 = k)) = true then d.map (fun p => if p.1 = k then (p.1, v) else p) else d ++ [(k, v)]
def hasK {κ ν : Type} [DecidableEq κ] (d : List (κ × ν)) (k : κ) : Bool := (lookK d k).isSome
def putM {κ ν : Type} [DecidableEq κ] (d : List (κ × ν)) (k : κ) (v : ν) : Option (List (κ × ν)) := if d.length < 100000 then some (putKV d k v) else none
def kvE {κ ν : Type} (kf : κ → Key) (vf : ν → V) (d : List (κ × ν)) : List (Key × V) := d.map fun p => (kf p.1, vf p.2)
def Inj {κ : Type} (kf : κ → Key) : Prop := ∀ a b, kf a = kf b → a = b
abbrev kS : Str → Key := fun x => Sum.inr x
abbrev kI : Int → Key := fun x => Sum.inl x
theorem inj_S : Inj kS := fun _ _ h => Sum.inr.inj h
theorem inj_I : Inj kI := fun _ _ h => Sum.inl.inj h
section
variable {κ ν : Type} [DecidableEq κ] {kf : κ → Key} {vf : ν → V}
theorem val_kv (hk : Inj kf) : ∀ (d : List (κ × ν)) (k : κ), valV (kvE kf vf d) (kf k) = (lookK d k).map vf
  | [], _ => rfl
  | p :: d, k => by
    have ih := val_kv hk d k
    unfold valV kvE lookK at ih ⊢
    rw [List.map_cons, List.find?_cons, List.find?_cons]
    by_cases h : p.1 = k
    · rw [decide_eq_true h, decide_eq_true (congrArg kf h)]; rfl
    · rw [decide_eq_false h, decide_eq_false (fun z => h (hk _ _ z))]; exact ih
theorem put_kv (hk : Inj kf) (d : List (κ × ν)) (k : κ) (v : ν) : putK (kvE kf vf d) (kf k) (vf v) = kvE kf vf (putKV d k v) := by
  have e : ∀ d : List (κ × ν), ((kvE kf vf d).any fun kv => decide (kv.1 = kf k)) = d.any fun p => decide (p.1 = k) := fun d => by
    unfold kvE
    rw [List.any_map]
    congr 1
    funext p
    by_cases h : p.1 = k
    · simp [h]
    · have : ¬ kf p.1 = kf k := fun z => h (hk _ _ z)
      simp [h, this]
  unfold putK putKV
  rw [e]
  by_cases q : (d.any fun p => decide (p.1 = k)) = true
  · rw [if_pos q, if_pos q]
    unfold kvE
    rw [List.map_map, List.map_map]
    apply List.map_congr_left
    intro p _
    show (if kf p.1 = kf k then (kf p.1, vf v) else (kf p.1, vf p.2)) = _
    by_cases h : p.1 = k
    · rw [if_pos (congrArg kf h)]; show _ = (kf (if p.1 = k then (p.1, v) else p).1, vf (if p.1 = k then (p.1, v) else p).2); rw [if_pos h]
    · rw [if_neg (fun z => h (hk _ _ z))]; show _ = (kf (if p.1 = k then (p.1, v) else p).1, vf (if p.1 = k then (p.1, v) else p).2); rw [if_neg h]
  · rw [if_neg q, if_neg q]
    unfold kvE
    rw [List.map_append]; rfl
theorem putM_some {d e : List (κ × ν)} {k : κ} {v : ν} (h : putM d k v = some e) : d.length < 100000 ∧ putKV d k v = e := by
  unfold putM at h; split at h
  · rename_i q; exact ⟨q, Option.some.inj h⟩
  · cases h
end
/-- how a key's value stands -/
structure KfOk {κ : Type} (kf : κ → Key) (ek : κ → PyData) : Prop where
  inj : Inj kf
  v : ∀ K F v x, Dt K F v (ek x) → v = kV (kf x)
theorem kf_S : KfOk kS eS := ⟨inj_S, fun _ _ _ _ h => h.toStr⟩
theorem kf_I : KfOk kI eI := ⟨inj_I, fun _ _ _ _ h => h.toInt⟩
section
variable {K : PySem.W.Frag} {σ : St} {F F' : Hp} {cs cs1 cs2 cs3 : Cs} {ta tb tc te td : TE} {d e : PyData} {as : TA} {a b c : Int} {nx bk ct : St → Hp → Prop} {rt : VK} {H : Hp} {t u : TS}
variable {κ ν : Type} [DecidableEq κ] {kf : κ → Key} {vf : ν → V} {ek : κ → PyData} {ev : ν → PyData}
/-- a new dict -/
theorem o_dict0 {Q : VK} (s : Sta F cs H) (q : ∀ p H2, Sta F ((p, .dK (kvE kf vf [])) :: cs) H2 → Q (.ref p) H2) : tDNewK σ H Q := fun p hp => q p _ (s.cell hp)
/-- k in d -/
theorem d_din {D : List (κ × ν)} {k : κ} {p : Addr} (hk : KfOk kf ek) (ha : EvD K ta σ F cs (ek k) cs1) (hd : VP td σ F cs1 (.ref p)) (hF : F p = some (.dK (kvE kf vf D))) : EvD K (tDIn ta td) σ F cs (.bool (hasK D k)) cs1 := fun F1 H1 g1 s Q q =>
  ha F1 H1 g1 s _ fun v F2 H2 g2 s2 h2 => hd F2 H2 (g1.tr g2) s2 _ ⟨p, valV (kvE kf vf D) (kf k), rfl, by rw [hk.v K F2 v k h2]; exact DGet.k (s2.fr _ _ ((g1.tr g2) _ _ hF)), by
    rw [val_kv hk.inj, Option.isSome_map]; exact q _ F2 H2 g2 s2 (.bl _)⟩
theorem d_dnin {D : List (κ × ν)} {k : κ} {p : Addr} (hk : KfOk kf ek) (ha : EvD K ta σ F cs (ek k) cs1) (hd : VP td σ F cs1 (.ref p)) (hF : F p = some (.dK (kvE kf vf D))) : EvD K (tDNotIn ta td) σ F cs (.bool (!hasK D k)) cs1 := fun F1 H1 g1 s Q q =>
  ha F1 H1 g1 s _ fun v F2 H2 g2 s2 h2 => hd F2 H2 (g1.tr g2) s2 _ ⟨p, valV (kvE kf vf D) (kf k), rfl, by rw [hk.v K F2 v k h2]; exact DGet.k (s2.fr _ _ ((g1.tr g2) _ _ hF)), by
    rw [val_kv hk.inj, Option.isSome_map]; exact q _ F2 H2 g2 s2 (.bl _)⟩
/-- d[k] -/
theorem d_dget {D : List (κ × ν)} {k : κ} {x : ν} {p : Addr} (hk : KfOk kf ek) (hv : ∀ F x, Dt K F (vf x) (ev x)) (hd : VP td σ F cs (.ref p)) (ha : EvD K ta σ F cs (ek k) cs1) (hF : F p = some (.dK (kvE kf vf D))) (hx : lookK D k = some x) : EvD K (tDGet td ta) σ F cs (ev x) cs1 := fun F1 H1 g1 s Q q =>
  hd F1 H1 g1 s _ (ha F1 H1 g1 s _ fun v F2 H2 g2 s2 h2 => ⟨p, vf x, rfl, by
    have := DGet.k (k := kf k) (s2.fr _ _ ((g1.tr g2) _ _ hF))
    rw [val_kv hk.inj, hx] at this
    rw [hk.v K F2 v k h2]; exact this, q _ F2 H2 g2 s2 (hv _ _)⟩)
/-- len(d) -/
abbrev rLenD : List V → Hp → VK → Prop := fun xs H Q => ∃ a kvs, xs = [V.ref a] ∧ H a = some (.dK kvs) ∧ Q (.int kvs.length) H
theorem d_lenK {D : List (κ × ν)} {p : Addr} (hd : VP td σ F cs (.ref p)) (hF : F p = some (.dK (kvE kf vf D))) : EvD K (tCB rLenD (tCons td tNil)) σ F cs (.int D.length) cs := fun F1 H1 g1 s Q q =>
  hd F1 H1 g1 s _ ⟨p, _, rfl, s.fr _ _ (g1 _ _ hF), q _ F1 H1 .rfl s (by unfold kvE; rw [List.length_map]; exact .int _)⟩
/-- d[k] = v, d a cell -/
theorem s_dput {k1 k2 m1 m2 l1 l2 : Cs} {D D2 : List (κ × ν)} {k : κ} {x : ν} {p : Addr} (hk : KfOk kf ek) (hw : ∀ F v x, Dt K F v (ev x) → v = vf x) (s : Sta F (k1 ++ (p, .dK (kvE kf vf D)) :: k2) H) (h : EvD K te σ F (k1 ++ (p, .dK (kvE kf vf D)) :: k2) (ev x) (m1 ++ (p, .dK (kvE kf vf D)) :: m2))
    (hd : VP td σ F (m1 ++ (p, .dK (kvE kf vf D)) :: m2) (.ref p)) (ha : EvD K ta σ F (m1 ++ (p, .dK (kvE kf vf D)) :: m2) (ek k) (l1 ++ (p, .dK (kvE kf vf D)) :: l2)) (hm : putM D k x = some D2)
    (q : ∀ F2 H2, Gr F F2 → Sta F2 (l1 ++ (p, .dK (kvE kf vf D2)) :: l2) H2 → nx σ H2) : sDPut td ta te ⟨nx, rt, bk, ct⟩ σ H :=
  h F H .rfl s _ fun v F2 H2 g2 s2 hv => hd F2 H2 g2 s2 _ (ha F2 H2 g2 s2 _ fun y F3 H3 g3 s3 hy => by
    obtain ⟨hl, rfl⟩ := putM_some hm
    refine ⟨p, _, rfl, ?_, q F3 _ (g2.tr g3) (s3.putAt (o' := .dK (kvE kf vf (putKV D k x))))⟩
    rw [hk.v K F3 y k hy, hw F2 v x hv, ← put_kv hk.inj]
    exact DPut.k s3.getAt (by unfold kvE; rw [List.length_map]; exact szl hl))
/-- .. for a new name -/
theorem s_setDict {i : Nat} {σ' : Addr → St} (s : Sta F cs H) (hσ : ∀ p, σ.set i (some (.ref p)) = σ' p) (q : ∀ p H2, Sta F ((p, .dK (kvE kf vf [])) :: cs) H2 → nx (σ' p) H2) : tAsg tDNewK (gName i) ⟨nx, rt, bk, ct⟩ σ H := fun p hp => by
  show nx (σ.set i (some (.ref p))) _
  rw [hσ]
  exact q p _ (s.cell hp)
end
/-! what no tuple is, cut out -/
def nTup (o : HO) : Prop := ∀ xs, o ≠ .tup xs ∧ ∀ ob, o ≠ .frz ob (.tup xs)
theorem nt_d (kvs : List (Key × V)) : nTup (.dK kvs) := fun xs => ⟨fun z => (nomatch z), fun _ z => (nomatch z)⟩
theorem nt_l (kvs : List V) : nTup (.lst kvs) := fun xs => ⟨fun z => (nomatch z), fun _ z => (nomatch z)⟩
section
variable {K : PySem.W.Frag} {F F2 : Hp} {p : Addr} {o : HO}
mutual
theorem Dt.cutO (hp : F2 p = some o) (ho : nTup o) : ∀ {v : V} {d : PyData}, Dt K F2 v d → noL d = true → Dt K (cut F2 p) v d
  | _, _, .non, _ => .non
  | _, _, .bl b, _ => .bl b
  | _, _, .int i, _ => .int i
  | _, _, .str x, _ => .str x
  | _, _, .lst h a, n => by simp [noL] at n
  | _, _, .dct h, n => by simp [noL] at n
  | _, _, .tup (a := a) (ds := ds) h k, n => by
    have n' : noLs ds = true := by simpa [noL] using n
    refine .tup ?_ (Dts.cutO hp ho k n')
    rcases h with (h | ⟨ob, h⟩) | h
    · refine .inl (.inl ?_)
      rw [cut_ne (fun z => by rw [z, hp] at h; exact (ho _).1 (Option.some.inj h))]; exact h
    · refine .inl (.inr ⟨ob, ?_⟩)
      rw [cut_ne (fun z => by rw [z, hp] at h; exact (ho _).2 ob (Option.some.inj h))]; exact h
    · exact .inr h
theorem Dts.cutO (hp : F2 p = some o) (ho : nTup o) : ∀ {vs : List V} {ds : List PyData}, Dts K F2 vs ds → noLs ds = true → Dts K (cut F2 p) vs ds
  | _, _, .nil, _ => .nil
  | _, _, .cons h t, n => by
    rw [noLs, Bool.and_eq_true] at n
    exact .cons (Dt.cutO hp ho h n.1) (Dts.cutO hp ho t n.2)
end
end
section
variable {K : PySem.W.Frag} {σ : St} {F F' : Hp} {cs cs1 cs2 cs3 : Cs} {ta tb tc te : TE} {d e : PyData} {as : TA}
theorem d_lendO {l1 l2 m1 m2 : Cs} {p : Addr} {o : HO} (ho : nTup o) (hn : noL d = true) (h : ∀ F1, Gr F F1 → F1 p = none → EvD K te σ (upd F1 p o) (l1 ++ l2) d (m1 ++ m2)) : EvD K te σ F (l1 ++ (p, o) :: l2) d (m1 ++ (p, o) :: m2) := fun F1 H1 g1 s Q q => by
  refine h F1 g1 s.freeAt (upd F1 p o) H1 .rfl s.frozeAt Q fun v F2 H2 g2 s2 h2 => ?_
  exact q v (cut F2 p) H2 (gr_cut s.freeAt g2) (Sta.lent g2 s2) (h2.cutO (g2 p _ upd_same) ho hn)
theorem c_lendO {l1 l2 m1 m2 : Cs} {p : Addr} {o : HO} {ds : List PyData} (ho : nTup o) (hn : noLs ds = true) (h : ∀ F1, Gr F F1 → F1 p = none → EvC K te σ (upd F1 p o) (l1 ++ l2) ds (m1 ++ m2)) : EvC K te σ F (l1 ++ (p, o) :: l2) ds (m1 ++ (p, o) :: m2) := fun F1 H1 g1 s Q q => by
  refine h F1 g1 s.freeAt (upd F1 p o) H1 .rfl s.frozeAt Q fun a vs F2 H2 g2 s2 h2 => ?_
  exact q a vs (cut F2 p) H2 (gr_cut s.freeAt g2) (Sta.lent (l1 := (a, .lst vs) :: m1) g2 s2) (h2.cutO (g2 p _ upd_same) ho hn)
theorem sb_drop2 {z c : Addr × HO} : Sb (z :: c :: cs) (z :: cs) := Sb.tr (sb_perm (.swap c z cs)) sb_drop
/-- xs.insert(i, x), a cell -/
def insM {α : Type} (xs : List α) (i : Int) (x : α) : Option (List α) := if xs.length < 100000 ∧ 0 ≤ i ∧ i < 2 ^ 63 then some (xs.take i.toNat ++ [x] ++ xs.drop i.toNat) else none
abbrev rInsert : V → List V → Hp → VK → Prop := fun x vs H Q => ∃ (l : Addr) (xs : List V) (i : Int) (y : V), x = .ref l ∧ vs = [.int i, y] ∧ H l = some (.lst xs) ∧ xs.length < sizeLine ∧ 0 ≤ i ∧ i < 2 ^ 63 ∧ Q .non (upd H l (.lst (xs.take i.toNat ++ [y] ++ xs.drop i.toNat)))
theorem s_insFV {α : Type} {vf : α → V} {en : α → PyData} {k1 k2 m1 m2 l1 l2 : Cs} {to ti : TE} {p : Addr} {xs ys : List α} {x : α} {k : Int} {nx bk ct : St → Hp → Prop} {rt : VK} {H : Hp} (hw : ∀ F v x, Dt K F v (en x) → v = vf x) (s : Sta F (k1 ++ (p, .lst (xs.map vf)) :: k2) H) (hi : VP to σ F (k1 ++ (p, .lst (xs.map vf)) :: k2) (.ref p))
    (h1 : EvD K ti σ F (k1 ++ (p, .lst (xs.map vf)) :: k2) (.int k) (m1 ++ (p, .lst (xs.map vf)) :: m2)) (h : EvD K te σ F (m1 ++ (p, .lst (xs.map vf)) :: m2) (en x) (l1 ++ (p, .lst (xs.map vf)) :: l2)) (hm : insM xs k x = some ys)
    (q : ∀ F2 H2, Gr F F2 → Sta F2 (l1 ++ (p, .lst (ys.map vf)) :: l2) H2 → nx σ H2) : tDrop (tBM K "list" rInsert to (tCons ti (tCons te tNil))) ⟨nx, rt, bk, ct⟩ σ H := by
  unfold insM at hm; split at hm
  · rename_i hl
    cases hm
    refine hi F H .rfl s _ ⟨.inl ⟨rfl, _, .inl (.inl s.getAt)⟩, h1 F H .rfl s _ fun v F2 H2 g2 s2 hv => h F2 H2 g2 s2 _ fun w F3 H3 g3 s3 hx => ⟨p, xs.map vf, k, w, rfl, by rw [hv.toInt], s3.getAt, by rw [List.length_map]; exact szl hl.1, hl.2.1, hl.2.2, q F3 _ (g2.tr g3) ?_⟩⟩
    cases hw F3 w x hx
    rw [List.map_append, List.map_append, List.map_take, List.map_drop]
    exact s3.putAt
  · cases hm
end
end Bw

namespace Bw
open PySem L2
theorem eqE_OI : EqE (eO eI) := fun x y => by
  cases x <;> cases y <;> simp [eO, PyData.eqv]
  exact beq_dec _ _
theorem eqE_OS : EqE (eO eS) := fun x y => by
  cases x <;> cases y <;> simp [eO, PyData.eqv]
  exact beq_dec _ _
theorem eqE_OB : EqE (eO eB) := fun x y => by
  cases x <;> cases y <;> simp [eO, PyData.eqv]
  exact beq_dec _ _
theorem sh_OI : ShE 0 (eO eI) := fun x => by cases x <;> exact ⟨by simp [eO, PyData.canLay0], by simp [eO, PyData.depth]⟩
theorem sh_OB : ShE 0 (eO eB) := fun x => by cases x <;> exact ⟨by simp [eO, PyData.canLay0], by simp [eO, PyData.depth]⟩
section
variable {K : PySem.W.Frag} {σ : St} {F F' : Hp} {cs cs1 cs2 cs3 : Cs} {ta tb tc te : TE} {d e : PyData} {as : TA} {nx bk ct : St → Hp → Prop} {rt : VK} {H : Hp}
theorem sqT_cut {p a : Addr} {o : HO} {xs : List V} (hp : F p = some o) (ho : nTup o) (h : SqT K F a xs) : SqT K (cut F p) a xs := by
  rcases h with (h | ⟨ob, h⟩) | h
  · refine .inl (.inl ?_)
    rw [cut_ne (fun z => by rw [z, hp] at h; exact (ho _).1 (Option.some.inj h))]; exact h
  · refine .inl (.inr ⟨ob, ?_⟩)
    rw [cut_ne (fun z => by rw [z, hp] at h; exact (ho _).2 ob (Option.some.inj h))]; exact h
  · exact .inr h
theorem i_tupM {α : Type} {en : α → PyData} {xs : List α} (h : EvD K te σ F cs (.tuple (xs.map en)) cs1) : EvI K (iTup K te) σ F cs (xs.map en) cs1 := i_tup h
/-- xs.pop(k), nothing kept -/
theorem s_popFD {α : Type} {vf : α → V} {k1 k2 l1 l2 : Cs} {to : TE} {p : Addr} {xs ys : List α} {x : α} {ti : TE} {k : Int} (s : Sta F (k1 ++ (p, .lst (xs.map vf)) :: k2) H) (hi : VP to σ F (k1 ++ (p, .lst (xs.map vf)) :: k2) (.ref p))
    (h2 : EvD K ti σ F (k1 ++ (p, .lst (xs.map vf)) :: k2) (.int k) (l1 ++ (p, .lst (xs.map vf)) :: l2)) (hm : popM xs k = some (x, ys)) (q : ∀ F2 H2, Gr F F2 → Sta F2 (l1 ++ (p, .lst (ys.map vf)) :: l2) H2 → nx σ H2) : tDrop (tBM K "list" rPopAt to (tCons ti tNil)) ⟨nx, rt, bk, ct⟩ σ H := by
  obtain ⟨⟨a1, a2⟩, m, b1, b2, rfl⟩ := popM_some hm
  refine hi F H .rfl s _ ⟨.inl ⟨rfl, _, .inl (.inl s.getAt)⟩, h2 F H .rfl s _ fun w F3 H3 g3 s3 hw => ⟨p, xs.map vf, k, m, vf x, rfl, by cases hw.toInt; rfl, s3.getAt, a1, a2, by rw [List.length_map]; exact b1, by rw [List.getElem?_map, b2]; rfl, ?_⟩⟩
  have s4 := s3.putAt (o' := .lst ((xs.map vf).eraseIdx m))
  refine q F3 _ g3 ?_
  rw [er_map]; exact s4
theorem Dts.erase : ∀ {vs : List V} {ds : List PyData} (n : Nat), Dts K F vs ds → Dts K F (vs.eraseIdx n) (ds.eraseIdx n)
  | _, _, _, .nil => .nil
  | _, _, 0, .cons _ t => t
  | _, _, n + 1, .cons h t => .cons h (Dts.erase n t)
theorem s_popGD {α : Type} {en : α → PyData} {k1 k2 l1 l2 : Cs} {to : TE} {p : Addr} {vs : List V} {xs ys : List α} {x : α} {ti : TE} {k : Int} (s : Sta F (k1 ++ (p, .lst vs) :: k2) H) (hf : Dts K F vs (xs.map en)) (hi : VP to σ F (k1 ++ (p, .lst vs) :: k2) (.ref p))
    (h2 : EvD K ti σ F (k1 ++ (p, .lst vs) :: k2) (.int k) (l1 ++ (p, .lst vs) :: l2)) (hm : popM xs k = some (x, ys)) (q : ∀ us F2 H2, Gr F F2 → Sta F2 (l1 ++ (p, .lst us) :: l2) H2 → Dts K F2 us (ys.map en) → nx σ H2) : tDrop (tBM K "list" rPopAt to (tCons ti tNil)) ⟨nx, rt, bk, ct⟩ σ H := by
  obtain ⟨⟨a1, a2⟩, m, b1, b2, rfl⟩ := popM_some hm
  have hl : vs.length = xs.length := by rw [hf.len, List.length_map]
  have hm' : m < vs.length := by rw [hl]; exact (List.getElem?_eq_some_iff.mp b2).1
  refine hi F H .rfl s _ ⟨.inl ⟨rfl, _, .inl (.inl s.getAt)⟩, h2 F H .rfl s _ fun w F3 H3 g3 s3 hw => ⟨p, vs, k, m, vs[m], rfl, by cases hw.toInt; rfl, s3.getAt, a1, a2, by rw [hl]; exact b1, List.getElem?_eq_getElem hm', ?_⟩⟩
  refine q _ F3 _ g3 (s3.putAt (o' := .lst (vs.eraseIdx m))) ?_
  rw [er_map]
  exact Dts.erase m (hf.gr g3)
end
end Bw

namespace Bw
open PySem PySem.Calls PyProof.Rows PySem.W
/-! list(zip(a, b)) -/
/-- the pairs told so far, each in a tuple of its own -/
structure ZG (xs ys : Array Value) (lo : Addr) (h : Heap) (as : List Addr) : Prop where
  rise : as.Pairwise (· < ·)
  above : ∀ a ∈ as, lo < a
  pairs : ∀ (j : Nat) (a : Addr), as[j]? = some a → ∃ x y, xs[j]? = some x ∧ ys[j]? = some y ∧ h.get? a = some { cls := .type "tuple", data := .seq #[x, y] }
theorem ZG.there {xs ys : Array Value} {lo : Addr} {h : Heap} {as : List Addr} (g : ZG xs ys lo h as) {a : Addr} (ha : a ∈ as) : a < h.objs.size := by
  obtain ⟨j, hj⟩ := List.mem_iff_getElem?.mp ha
  obtain ⟨_, _, _, _, e⟩ := g.pairs j a hj
  exact Heap.lt_size e
structure ZSt (h : Heap) (z TI TO i1 i2 l1 l2 S : Addr) (i : Nat) : Prop where
  ti : IsPair h TI (.ref i1) (.ref i2)
  it1 : h.IsListIter i1 l1 i
  it2 : h.IsListIter i2 l2 i
  out : (IsZip h z TI TO .none ∧ ∃ x y, IsPair h TO x y) ∨ ∃ T f oT, IsZipHeld h z TI TO T f ∧ h.get? T = some oT ∧ T ≠ z ∧ T ≠ i1 ∧ T ≠ i2 ∧ T ≠ S
theorem ZSt.keep {h h' : Heap} {z TI TO i1 i2 l1 l2 S : Addr} {i : Nat} (st : ZSt h z TI TO i1 i2 l1 l2 S i) (k : ∀ b o, b ≠ S → h.get? b = some o → h'.get? b = some o)
    (n1 : TI ≠ S) (n2 : i1 ≠ S) (n3 : i2 ≠ S) (n4 : z ≠ S) (n5 : TO ≠ S) : ZSt h' z TI TO i1 i2 l1 l2 S i where
  ti := k _ _ n1 st.ti
  it1 := st.it1.at fun o e => k _ o n2 e
  it2 := st.it2.at fun o e => k _ o n3 e
  out := by
    rcases st.out with ⟨a, x, y, b⟩ | ⟨T, f, oT, a, b, c1, c2, c3, c4⟩
    · exact .inl ⟨k _ _ n4 a, x, y, k _ _ n5 b⟩
    · exact .inr ⟨T, f, oT, k _ _ n4 a, k _ _ c4 b, c1, c2, c3, c4⟩
section
variable {prog : Program} {w : World} {A : Around} {E : Value → Shared → Prop} {s : Shared} {z TI TO i1 i2 l1 l2 S : Addr} {xs ys : Array Value}
theorem zl_item {i : Nat} {x y : Value} {Q : Option Value → Shared → Prop} (D : ZipApart z TI TO i1 i2 l1 l2) (st : ZSt s.heap z TI TO i1 i2 l1 l2 S i) (hS : S < s.heap.objs.size) (hl1 : s.heap.IsList l1 xs) (hl2 : s.heap.IsList l2 ys)
    (hx : xs[i]? = some x) (hy : ys[i]? = some y)
    (hQ : ∀ h', ZSt h' z TI TO i1 i2 l1 l2 S (i + 1) → IsPair h' s.heap.objs.size x y → h'.objs.size = s.heap.objs.size + 1 →
      (∀ c o, c ≠ z → c ≠ TO → c ≠ i1 → c ≠ i2 → s.heap.get? c = some o → h'.get? c = some o) → Q (some (.ref s.heap.objs.size)) { s with heap := h' }) : wpAny (model prog w) A (pyNext (.ref z)) Q E s := by
  have li1 : i1 < s.heap.objs.size := let ⟨_, e, _⟩ := st.it1; Heap.lt_size e
  have li2 : i2 < s.heap.objs.size := let ⟨_, e, _⟩ := st.it2; Heap.lt_size e
  rcases st.out with ⟨hz, a, b, hTO⟩ | ⟨T, f, oT, hz, hT, c1, c2, c3, c4⟩
  · have lz : z < s.heap.objs.size := Heap.lt_size hz
    exact wpAny_pyNext_zip_item D hz st.ti hTO st.it1 st.it2 hl1 hl2 hx hy fun h' hz' _ h1' h2' hp hsz hk =>
      hQ h' ⟨hk _ _ D.TIz D.TITO D.TIi1 D.TIi2 st.ti, h1', h2', .inr ⟨_, false, _, hz', hp, Nat.ne_of_gt lz, Nat.ne_of_gt li1, Nat.ne_of_gt li2, Nat.ne_of_gt hS⟩⟩ hp hsz hk
  · exact wpAny_pyNext_zip_item_held D hz hT st.ti st.it1 st.it2 hl1 hl2 hx hy fun h' hz' h1' h2' hp hsz hk =>
      hQ h' ⟨hk _ _ D.TIz D.TIi1 D.TIi2 st.ti, h1', h2', .inr ⟨T, true, oT, hz', hk _ _ c1 c2 c3 hT, c1, c2, c3, c4⟩⟩ hp hsz fun c o q1 _ q3 q4 e => hk c o q1 q3 q4 e
theorem zl_done {i : Nat} {Q : Option Value → Shared → Prop} (hh : A.handled = none) (D : ZipApart z TI TO i1 i2 l1 l2) (st : ZSt s.heap z TI TO i1 i2 l1 l2 S i) (hl1 : s.heap.IsList l1 xs) (hl2 : s.heap.IsList l2 ys)
    (hend : xs[i]? = none ∨ ys[i]? = none)
    (hQ : ∀ h', (∀ c o, c ≠ z → c ≠ TO → c ≠ i1 → c ≠ i2 → s.heap.get? c = some o → h'.get? c = some o) → Q none { s with heap := h' }) : wpAny (model prog w) A (pyNext (.ref z)) Q E s := by
  rcases st.out with ⟨hz, a, b, hTO⟩ | ⟨T, f, oT, hz, hT, c1, c2, c3, c4⟩
  · exact wpAny_pyNext_zip_end hh D hz st.ti hTO st.it1 st.it2 hl1 hl2 hend hQ
  · exact wpAny_pyNext_zip_end_held hh D hz hT st.ti st.it1 st.it2 hl1 hl2 hend fun h' hk => hQ h' fun c o q1 _ q3 q4 e => hk c o q1 q3 q4 e
end
section
variable {prog : Program} {w : World} {A : Around} {s : Shared} {R : Result → Shared → Prop} {z TI TO i1 i2 l1 l2 S : Addr} {xs ys : Array Value}
theorem zl_loop (hh : A.handled = none) (D : ZipApart z TI TO i1 i2 l1 l2) (nz : z < S) (nTI : TI < S) (nTO : TO < S) (n1 : i1 < S) (n2 : i2 < S) (nl1 : l1 < S) (nl2 : l2 < S) (hn : min xs.size ys.size ≤ sizeLine) (res : Value) {h₁ : Heap}
    (hR : ∀ h' tk acc c as, (∀ b o, b ≠ S → b ≠ z → b ≠ TO → b ≠ i1 → b ≠ i2 → h₁.get? b = some o → h'.get? b = some o) → h'.get? S = some { cls := .type "list", dict := none, data := .seq acc c, slots := #[] } → as.length = min xs.size ys.size →
      ZG xs ys S h' as → acc.toList = as.map Value.ref → R (.ok (.ret res)) { s with heap := h', toks := tk }) :
    ∀ (k i : Nat) (h : Heap) (tk c : Nat) (acc : Array Value) (as : List Addr), min xs.size ys.size - i = k → i ≤ min xs.size ys.size → ZSt h z TI TO i1 i2 l1 l2 S i → h.IsList l1 xs → h.IsList l2 ys →
      (∀ b o, b ≠ S → b ≠ z → b ≠ TO → b ≠ i1 → b ≠ i2 → h₁.get? b = some o → h.get? b = some o) →
      h.get? S = some { cls := .type "list", dict := none, data := .seq acc c, slots := #[] } → acc.toList = as.map Value.ref → as.length = i → ZG xs ys S h as →
      codeAny (model prog w) A (.builtin "list.extend.loop" ⟨[.ref S, .ref z, res], []⟩) R { s with heap := h, toks := tk } := by
  have a1 : S ≠ z := Nat.ne_of_gt nz
  have a2 : S ≠ TO := Nat.ne_of_gt nTO
  have a3 : S ≠ i1 := Nat.ne_of_gt n1
  have a4 : S ≠ i2 := Nat.ne_of_gt n2
  have gt : ∀ {b : Addr}, S < b → b ≠ S ∧ b ≠ z ∧ b ≠ TO ∧ b ≠ i1 ∧ b ≠ i2 := fun {b} hb => ⟨Nat.ne_of_gt hb, Nat.ne_of_gt (Nat.lt_trans nz hb), Nat.ne_of_gt (Nat.lt_trans nTO hb), Nat.ne_of_gt (Nat.lt_trans n1 hb), Nat.ne_of_gt (Nat.lt_trans n2 hb)⟩
  intro k
  induction k with
  | zero =>
    intro i h tk c acc as hk hi st hl1 hl2 hkeep hS hacc hal hG
    have hin : i = min xs.size ys.size := by omega
    refine codeAny_builtin PySem.F.entry_extend_loop ?_
    rw [Around.under_plainId PySem.F.plain_extend_loop _]
    show wpAny _ A.in1 (pyNext (.ref z) >>= _) _ _ _
    have hend : xs[i]? = none ∨ ys[i]? = none := by
      by_cases q : xs.size ≤ i
      · exact .inl (Array.getElem?_eq_none q)
      · exact .inr (Array.getElem?_eq_none (by omega))
    refine wpAny_bind (zl_done (s := { s with heap := h, toks := tk }) (A := A.in1) hh D st hl1 hl2 hend fun h' he => ?_)
    refine wpAny_pure (hR h' tk acc c as (fun b o q0 q1 q2 q3 q4 e => he b o q1 q2 q3 q4 (hkeep b o q0 q1 q2 q3 q4 e)) (he S _ a1 a2 a3 a4 hS) (by omega) ⟨hG.rise, hG.above, fun j a hj => ?_⟩ hacc)
    obtain ⟨x, y, e1, e2, e3⟩ := hG.pairs j a hj
    obtain ⟨_, q1, q2, q3, q4⟩ := gt (hG.above a (List.mem_of_getElem? hj))
    exact ⟨x, y, e1, e2, he a _ q1 q2 q3 q4 e3⟩
  | succ k ih =>
    intro i h tk c acc as hk hi st hl1 hl2 hkeep hS hacc hal hG
    have hlt : i < min xs.size ys.size := by omega
    have hx : xs[i]? = some xs[i] := Array.getElem?_eq_getElem (by omega)
    have hy : ys[i]? = some ys[i] := Array.getElem?_eq_getElem (by omega)
    generalize xs[i] = x at hx
    generalize ys[i] = y at hy
    have hsz : acc.size = i := by rw [← Array.length_toList, hacc, List.length_map, hal]
    refine codeAny_builtin PySem.F.entry_extend_loop ?_
    rw [Around.under_plainId PySem.F.plain_extend_loop _]
    show wpAny _ A.in1 (pyNext (.ref z) >>= _) _ _ _
    refine wpAny_bind (zl_item (s := { s with heap := h, toks := tk }) (S := S) D st (Heap.lt_size hS) hl1 hl2 hx hy fun h' st' ht hz hkp => ?_)
    dsimp only at ht hz hkp ⊢
    have hS' := hkp S _ a1 a2 a3 a4 hS
    have up : ∀ b o, b ≠ S → h'.get? b = some o → (h'.update S (Obj.mapSeq (·.push (Value.ref h.objs.size)))).get? b = some o := fun b o hb e => (Heap.get?_update_other _ _ (Ne.symm hb)).trans e
    have hSl : S < h.objs.size := Heap.lt_size hS
    show wpAny _ A.in1 (updateSeq S (·.push (Value.ref h.objs.size)) >>= _) _ _ _
    refine wpAny_bind ?_
    refine wpAny_updateSeq hS' rfl (wpAny_pure ⟨plainId_quiet PySem.F.plain_extend_loop _, ih (i + 1) _ tk _ (acc.push (Value.ref h.objs.size)) (as ++ [h.objs.size]) (by omega) hlt
      (st'.keep up (Nat.ne_of_lt nTI) (Nat.ne_of_lt n1) (Nat.ne_of_lt n2) (Nat.ne_of_lt nz) (Nat.ne_of_lt nTO)) (hl1.at fun o e => up l1 o (Nat.ne_of_lt nl1) (hkp l1 o D.l1z D.l1TO D.l1i1 D.l1i2 e)) (hl2.at fun o e => up l2 o (Nat.ne_of_lt nl2) (hkp l2 o D.l2z D.l2TO D.l2i1 D.l2i2 e))
      (fun b o q0 q1 q2 q3 q4 e => up b o q0 (hkp b o q1 q2 q3 q4 (hkeep b o q0 q1 q2 q3 q4 e))) (Heap.get?_update_self _ hS' rfl) (by rw [Array.toList_push, hacc, List.map_append]; rfl) (by rw [List.length_append, hal]; rfl) ⟨?_, ?_, ?_⟩⟩) (by rw [hsz]; omega) (by show (acc.push (Value.ref h.objs.size)).size ≤ sizeLine + 1; rw [Array.size_push, hsz]; omega)
    · refine List.pairwise_append.mpr ⟨hG.rise, List.pairwise_singleton _ _, fun a ha b hb => ?_⟩
      rw [List.mem_singleton.mp hb]
      exact hG.there ha
    · intro a ha
      rcases List.mem_append.mp ha with ha | ha
      · exact hG.above a ha
      · rw [List.mem_singleton.mp ha]; exact hSl
    · intro j b hj
      rcases Nat.lt_trichotomy j as.length with h1 | h1 | h1
      · rw [List.getElem?_append_left h1] at hj
        obtain ⟨x', y', e1, e2, e3⟩ := hG.pairs j b hj
        obtain ⟨q0, q1, q2, q3, q4⟩ := gt (hG.above b (List.mem_of_getElem? hj))
        exact ⟨x', y', e1, e2, up b _ q0 (hkp b _ q1 q2 q3 q4 e3)⟩
      · subst h1
        have hb : h.objs.size = b := by simpa using hj
        subst hb
        subst hal
        exact ⟨x, y, hx, hy, up _ _ (Nat.ne_of_gt hSl) ht⟩
      · have hnone : (as ++ [h.objs.size])[j]? = none := List.getElem?_eq_none (by rw [List.length_append, List.length_singleton]; omega)
        rw [hnone] at hj; cases hj
end
theorem zl_len : typeLookup (.type "zip") "__len__" = pure none := by rw [typeLookup_type, builtinLookup_eq_fast]; kernel_rfl
theorem zl_hin : typeLookup (.type "zip") "__length_hint__" = pure none := by rw [typeLookup_type, builtinLookup_eq_fast]; kernel_rfl
section
variable {prog : Program} {w : World} {A : Around} {E : Value → Shared → Prop} {s : Shared} {z TI TO i1 i2 l1 l2 S : Addr} {xs ys : Array Value}
theorem zl_hint {r : Addr} {Q : Bool → Shared → Prop} (hT : s.TypeIs (.ref r) "zip") (h : Q true s) : wpAny (model prog w) A (Builtin.List.listLengthHint (.ref r)) Q E s := by
  unfold Builtin.List.listLengthHint
  refine wpAny_bind (wpAny_specialOf hT zl_len ?_)
  refine wpAny_ite_split (fun hab => absurd hab (by decide)) (fun _ => ?_)
  refine wpAny_ite_split (fun hab => absurd hab (by decide)) (fun _ => ?_)
  refine wpAny_bind (wpAny_specialOf hT zl_hin ?_)
  exact wpAny_pure h
theorem zl_extend {R : Result → Shared → Prop} (hh : A.handled = none) (D : ZipApart z TI TO i1 i2 l1 l2) (st : ZSt s.heap z TI TO i1 i2 l1 l2 S 0) (hl1 : s.heap.IsList l1 xs) (hl2 : s.heap.IsList l2 ys)
    (nz : z < S) (nTI : TI < S) (nTO : TO < S) (n1 : i1 < S) (n2 : i2 < S) (nl1 : l1 < S) (nl2 : l2 < S) (hz : IsZip s.heap z TI TO .none) (res : Value) (c₀ : Nat) (hS : s.heap.get? S = some { cls := .type "list", data := .seq #[] c₀ })
    (hR : ∀ h' tk acc c as, (∀ b o, b ≠ S → b ≠ z → b ≠ TO → b ≠ i1 → b ≠ i2 → s.heap.get? b = some o → h'.get? b = some o) → h'.get? S = some { cls := .type "list", dict := none, data := .seq acc c, slots := #[] } → as.length = min xs.size ys.size →
      ZG xs ys S h' as → acc.toList = as.map Value.ref → R (.ok (.ret res)) { s with heap := h', toks := tk }) (hn : min xs.size ys.size ≤ sizeLine) :
    wpAny (model prog w) A.in1 (Builtin.List.listExtendWith (.ref S) (.ref z) res)
      (fun fin s' => match fin with | .done f => R (.ok f) s' | .again c' => c'.quiet = true ∧ codeAny (model prog w) A c' R s') (fun e s' => R (.error e) s') s := by
  have hT : s.TypeIs (.ref z) "zip" := ⟨_, hz, rfl⟩
  have key : ∀ (h : Heap) (c₁ tk : Nat), (∀ b o, b ≠ S → s.heap.get? b = some o → h.get? b = some o) →
      h.get? S = some { cls := .type "list", data := .seq #[] c₁ } → codeAny (model prog w) A (.builtin "list.extend.loop" ⟨[.ref S, .ref z, res], []⟩) R { s with heap := h, toks := tk } := by
    intro h c₁ tk hk hS₁
    exact zl_loop (s := s) (h₁ := s.heap) hh D nz nTI nTO n1 n2 nl1 nl2 hn res hR (min xs.size ys.size) 0 h tk c₁ #[] [] (Nat.sub_zero _) (Nat.zero_le _)
      (st.keep hk (Nat.ne_of_lt nTI) (Nat.ne_of_lt n1) (Nat.ne_of_lt n2) (Nat.ne_of_lt nz) (Nat.ne_of_lt nTO)) (hl1.at fun o e => hk _ o (Nat.ne_of_lt nl1) e) (hl2.at fun o e => hk _ o (Nat.ne_of_lt nl2) e)
      (fun b o hb _ _ _ _ e => hk b o hb e) hS₁ rfl rfl ⟨List.Pairwise.nil, (fun _ ha => nomatch ha), (fun j a hj => by simp at hj)⟩
  unfold Builtin.List.listExtendWith
  refine wpAny_bind (wpAny_typeOf (T := "zip") hT ?_)
  have h1 : Builtin.List.listSameRef (.ref S) (.ref z) = false := by simp [Builtin.List.listSameRef, Nat.ne_of_gt nz]
  have h2 : (Value.type "zip" == Value.type "list") = false := by decide
  have h3 : (Value.type "zip" == Value.type "tuple") = false := by decide
  simp only [h1, h2, h3, Bool.or_false, Bool.false_eq_true, if_false]
  refine wpAny_bind (wpAny_pyIter_zip hz ?_)
  refine wpAny_bind (wpAny_holding (zl_hint hT ?_))
  refine wpAny_ite_split (fun _ => ?_) (fun hab => absurd rfl hab)
  refine wpAny_bind (wpAny_rule ?_)
  refine wpAny_bind ?_
  show wpAny _ _ (updateSeq S (·.push .none) >>= fun _ => updateSeq S (·.pop)) _ _ _
  refine wpAny_bind (wpAny_updateSeq hS rfl ?_)
  have hS₂ := Heap.get?_update_self (Obj.mapSeq (·.push Value.none)) hS rfl
  refine wpAny_updateSeq (hz := by seq_fits) hS₂ rfl ?_
  have hS₃ := Heap.get?_update_self (Obj.mapSeq (·.pop)) hS₂ rfl
  refine wpAny_pure ⟨plainId_quiet PySem.F.plain_extend_loop _, key _ _ _ (fun b o hb e => ?_) hS₃⟩
  exact (Heap.get?_update_other _ _ (Ne.symm hb)).trans ((Heap.get?_update_other _ _ (Ne.symm hb)).trans e)
theorem zl_init {R : Result → Shared → Prop} (hh : A.handled = none) (D : ZipApart z TI TO i1 i2 l1 l2) (st : ZSt s.heap z TI TO i1 i2 l1 l2 S 0) (hl1 : s.heap.IsList l1 xs) (hl2 : s.heap.IsList l2 ys)
    (nz : z < S) (nTI : TI < S) (nTO : TO < S) (n1 : i1 < S) (n2 : i2 < S) (nl1 : l1 < S) (nl2 : l2 < S) (hz : IsZip s.heap z TI TO .none) (hS : s.heap.get? S = some { cls := .type "list", data := .seq #[] })
    (hR : ∀ h' tk acc c as, (∀ b o, b ≠ S → b ≠ z → b ≠ TO → b ≠ i1 → b ≠ i2 → s.heap.get? b = some o → h'.get? b = some o) → h'.get? S = some { cls := .type "list", dict := none, data := .seq acc c, slots := #[] } → as.length = min xs.size ys.size →
      ZG xs ys S h' as → acc.toList = as.map Value.ref → R (.ok (.ret .none)) { s with heap := h', toks := tk }) (hn : min xs.size ys.size ≤ sizeLine) :
    wpAny (model prog w) A.in1 (Builtin.«list.__init__» ⟨[.ref S, .ref z], []⟩)
      (fun fin s' => match fin with | .done f => R (.ok f) s' | .again c' => c'.quiet = true ∧ codeAny (model prog w) A c' R s') (fun e s' => R (.error e) s') s := by
  show wpAny _ _ (do let old ← Builtin.List.listItems (.ref S); Builtin.List.listUpdate (.ref S) (fun _ => #[]); letGo old.toList.reverse; Builtin.List.listExtendWith (.ref S) (.ref z) .none) _ _ s
  refine wpAny_bind ?_
  unfold Builtin.List.listItems
  refine wpAny_bind (wpAny_seqItems hS rfl (wpAny_pure ?_))
  show wpAny _ _ (updateSeq S (fun _ => #[]) >>= fun _ => letGo (#[] : Array Value).toList.reverse >>= fun _ => Builtin.List.listExtendWith (.ref S) (.ref z) .none) _ _ s
  refine wpAny_bind (wpAny_updateSeq hS rfl ?_)
  have hS₂ := Heap.get?_update_self (Obj.mapSeq (fun _ => (#[] : Array Value))) hS rfl
  have oth : ∀ b o, b ≠ S → s.heap.get? b = some o → (s.heap.update S (Obj.mapSeq (fun _ => (#[] : Array Value)))).get? b = some o :=
    fun b o hb e => (Heap.get?_update_other _ _ (Ne.symm hb)).trans e
  refine wpAny_bind (wpAny_letGo ?_)
  refine zl_extend hh D (st.keep oth (Nat.ne_of_lt nTI) (Nat.ne_of_lt n1) (Nat.ne_of_lt n2) (Nat.ne_of_lt nz) (Nat.ne_of_lt nTO)) (hl1.at fun o e => oth _ o (Nat.ne_of_lt nl1) e) (hl2.at fun o e => oth _ o (Nat.ne_of_lt nl2) e)
    nz nTI nTO n1 n2 nl1 nl2 (oth _ _ (Nat.ne_of_lt nz) hz) .none _ hS₂ (fun h' tk acc c as hk hS' hl hG hacc => ?_) hn
  exact hR h' tk acc c as (fun b o q0 q1 q2 q3 q4 e => hk b o q0 q1 q2 q3 q4 (oth b o q0 e)) hS' hl hG hacc
theorem zl_call {Q : Value → Shared → Prop} {a b : Value} (hh : A.handled = none) (D : ZipApart z TI TO i1 i2 l1 l2) (hz : IsZip s.heap z TI TO .none) (hTI : IsPair s.heap TI (.ref i1) (.ref i2)) (hTO : IsPair s.heap TO a b) (h1 : s.heap.IsListIter i1 l1 0) (h2 : s.heap.IsListIter i2 l2 0)
    (hl1 : s.heap.IsList l1 xs) (hl2 : s.heap.IsList l2 ys) (hn : min xs.size ys.size ≤ sizeLine)
    (hQ : ∀ h' tk acc c as, (∀ b o, b ≠ z → b ≠ TO → b ≠ i1 → b ≠ i2 → s.heap.get? b = some o → h'.get? b = some o) → h'.get? s.heap.objs.size = some { cls := .type "list", dict := none, data := .seq acc c, slots := #[] } → as.length = min xs.size ys.size →
      ZG xs ys s.heap.objs.size h' as → acc.toList = as.map Value.ref → Q (.ref s.heap.objs.size) { s with heap := h', toks := tk }) :
    wpAny (model prog w) A (call (.type "list") [.ref z]) Q E s := by
  refine callType_codes (Q₁ := fun obj s₁ => obj = .ref s.heap.objs.size ∧ s₁ = { s with heap := s.heap.push { cls := .type "list", data := .seq #[] } }) PySem.F.called_list (PySem.F.typeCall_list_1 _) PySem.F.entry_list_init
    (code_list_new _ ⟨rfl, rfl⟩) fun obj s₁ h₁ => ?_
  obtain ⟨rfl, rfl⟩ := h₁
  have hS : (s.heap.push { cls := .type "list", data := .seq #[] }).get? s.heap.objs.size = some { cls := .type "list", data := .seq #[] } := Heap.get?_push_size _ rfl
  have pk : ∀ b o, s.heap.get? b = some o → (s.heap.push { cls := .type "list", data := .seq #[] }).get? b = some o := fun b o e => Heap.get?_push_of_some _ e
  have li1 : i1 < s.heap.objs.size := let ⟨_, e, _⟩ := h1; Heap.lt_size e
  have li2 : i2 < s.heap.objs.size := let ⟨_, e, _⟩ := h2; Heap.lt_size e
  have ll1 : l1 < s.heap.objs.size := let ⟨_, e, _⟩ := hl1; Heap.lt_size e
  have ll2 : l2 < s.heap.objs.size := let ⟨_, e, _⟩ := hl2; Heap.lt_size e
  refine ⟨⟨_, hS, rfl⟩, PySem.F.args_list_init_2 _ _, zl_init (A := A.in1) hh D ⟨pk _ _ hTI, h1.at fun o e => pk _ o e, h2.at fun o e => pk _ o e, .inl ⟨pk _ _ hz, _, _, pk _ _ hTO⟩⟩ (hl1.at fun o e => pk _ o e) (hl2.at fun o e => pk _ o e)
    (Heap.lt_size hz) (Heap.lt_size hTI) (Heap.lt_size hTO) li1 li2 ll1 ll2 (pk _ _ hz) hS (fun h' tk acc c as hk hS' hl hG hacc => ?_) hn⟩
  exact ⟨rfl, hQ h' tk acc c as (fun b o q1 q2 q3 q4 e => hk b o (Nat.ne_of_lt (Heap.lt_size e)) q1 q2 q3 q4 (Heap.get?_push_of_some _ e)) hS' hl hG hacc⟩
end
end Bw
namespace Bw
open PySem L2
/-! the laid pairs -/
def layT : Hp → List (V × V) → List Addr → Hp
  | H, p :: ps, t :: ts => layT (upd H t (.tup [p.1, p.2])) ps ts
  | H, _, _ => H
def freT : Hp → List (V × V) → List Addr → Prop
  | H, p :: ps, t :: ts => H t = none ∧ freT (upd H t (.tup [p.1, p.2])) ps ts
  | _, [], [] => True
  | _, _, _ => False
theorem layT_ne : ∀ (ts : List Addr) (ps : List (V × V)) (H : Hp) (b : Addr), b ∉ ts → layT H ps ts b = H b
  | [], [], _, _, _ => rfl
  | [], _ :: _, _, _, _ => rfl
  | _ :: _, [], _, _, _ => rfl
  | t :: ts, p :: ps, H, b, h => by
    show layT (upd H t _) ps ts b = _
    have n : b ≠ t := fun q => h (by rw [q]; exact List.mem_cons_self)
    rw [layT_ne ts ps _ b fun q => h (List.mem_cons_of_mem _ q), upd_ne n]
theorem freT_of : ∀ (ts : List Addr) (ps : List (V × V)) (H : Hp), ts.length = ps.length → ts.Nodup → (∀ t ∈ ts, H t = none) → freT H ps ts
  | [], [], _, _, _, _ => trivial
  | [], _ :: _, _, h, _, _ => by simp at h
  | _ :: _, [], _, h, _, _ => by simp at h
  | t :: ts, p :: ps, H, hl, nd, hn => by
    rw [List.nodup_cons] at nd
    refine ⟨hn t List.mem_cons_self, freT_of ts ps _ (by simpa using hl) nd.2 fun u hu => ?_⟩
    have n : u ≠ t := fun q => nd.1 (by rw [← q]; exact hu)
    rw [upd_ne n]
    exact hn u (List.mem_cons_of_mem _ hu)
theorem layT_at : ∀ (ts : List Addr) (ps : List (V × V)) (H : Hp) (j : Nat) (t : Addr) (p : V × V), ts.Nodup → ts[j]? = some t → ps[j]? = some p → layT H ps ts t = some (.tup [p.1, p.2])
  | [], _, _, _, _, _, _, h, _ => by simp at h
  | _ :: _, [], _, _, _, _, _, _, h => by simp at h
  | u :: ts, q :: ps, H, j, t, p, nd, h1, h2 => by
    rw [List.nodup_cons] at nd
    show layT (upd H u _) ps ts t = _
    cases j with
    | zero =>
      simp only [List.getElem?_cons_zero, Option.some.injEq] at h1 h2
      subst h1; subst h2
      rw [layT_ne ts ps _ _ nd.1, upd_same]
    | succ j => exact layT_at ts ps _ j t p nd.2 (by simpa using h1) (by simpa using h2)
def tListZip (K : PySem.W.Frag) (ta : TA) : TE := fun σ H Q => ta σ H fun vs H1 => ∃ a b xs ys, vs = [.ref a, .ref b] ∧ SqL K H1 a xs ∧ SqL K H1 b ys ∧
  ∀ (ts : List Addr) (l : Addr), freT H1 (xs.zip ys) ts → layT H1 (xs.zip ys) ts l = none → Q (.ref l) (upd (layT H1 (xs.zip ys) ts) l (.lst (ts.map V.ref)))
/-- many things laid at once -/
theorem inv_many {X : Cx} {pins : List (Addr × Obj)} {σ : St} {H H' : Hp} {s : Shared} {h' : Heap} {t' : Nat} (I : Inv X pins σ H s) (k : ∀ b u, s.heap.get? b = some u → h'.get? b = some u)
    (same : ∀ b, b < s.heap.objs.size → H' b = H b) (new : ∀ b o, s.heap.objs.size ≤ b → H' b = some o → ObjOk X.prog X.w H' h' b o) : Inv X pins σ H' { s with heap := h', toks := t' } := by
  refine I.un ⟨fun b o e _ _ _ => k b o e, fun b o e _ _ _ => ⟨o.slots, k b o e⟩, fun b o e n _ => (same b (Heap.lt_size e)).trans n, fun b o e _ => ⟨o, k b o e⟩, fun b xs e => (same b (I.hok.lt e)).trans e, fun b o u e => (same b (I.hok.lt e)).trans e, fun b ps e => ⟨#[], by rw [same b (I.hok.lt e), e]; simp⟩⟩ fun b o e => ?_
  by_cases q : b < s.heap.objs.size
  · rw [same b q] at e
    exact (I.hok b o e).stay (fun c u _ z => k c u z) (fun c z => (same c (I.hok.lt z)).trans z) fun c xs z => (same c (I.hok.lt z)).trans z
  · exact new b o (Nat.le_of_not_lt q) e
theorem vals_refs : ∀ as : List Addr, Vals (as.map V.ref) (as.map Value.ref)
  | [] => .nil
  | _ :: as => .cons rfl (vals_refs as)
section
variable {X : Cx} {e e2 : Expr} {ta : TA} {p p0 pos pos0 : Pos}
theorem pe_listzip (hg0 : Gl X "list") (hm0 : X.mg "list" = none) (hg : Gl X "zip") (hm : X.mg "zip" = none) (ha : PA X [e, e2] ta) (hc : X.calm = true)
    (hs : starEach [e, e2] X.env = (false, eval e X.env) :: starEach [e2] X.env := by rfl) (hpl : (backTo pos (starEach [e2] X.env)).any (·.1) = false := by rfl) :
    PE X (.Call (.Name "list" p0) [.Call (.Name "zip" p) [e, e2] [] pos] [] pos0) (tListZip X.K ta) := by
  refine ⟨fun pins s σ H Q I h => ?_⟩
  refine wpAny_Call_Name_kw (ld_blt I hg0 hm0 PyProof.Rows.boot_list ?_)
  refine PyProof.Rows.callWith_type1 (Calls.spliced_cons ?_) rfl rfl
  refine PyProof.Rows.Call_ (ld_blt I hg hm PyProof.Rows.boot_zip (PyProof.Rows.callWith_type1 (thn (ha.run pos pins s σ H _ I h) fun us s1 ⟨vs, H1, I1, r1, q1⟩ => ?_) hs hpl))
  obtain ⟨a, b, xs, ys, ex, hqx, hqy, q⟩ := q1
  subst ex
  cases r1 with
  | cons r rr =>
    cases rr with
    | cons r' rr =>
      cases rr
      cases r
      cases r'
      obtain ⟨its, rv, p1, z1⟩ := I1.list hqx
      obtain ⟨its2, rv2, p2, z2⟩ := I1.list hqy
      have la : a < s1.heap.objs.size := p1.lt
      have lb : b < s1.heap.objs.size := p2.lt
      have e1 := rv.length
      have e2 := rv2.length
      refine call_zip_2 p1.isList p2.isList fun h' hz hTI hTO h1 h2 hsz hk => ?_
      refine Calls.spliced_nil ?_
      refine zl_call (s := { s1 with heap := h' }) (xs := its.toArray) (ys := its2.toArray) (I.ok.hd hc) (PySem.W.ktu_apart s1.heap.objs.size a b la lb) hz hTI hTO h1 h2 (p1.isList.at fun o x => hk _ o x) (p2.isList.at fun o x => hk _ o x) (by simp only [List.size_toArray]; omega) fun h'' tk acc c as hk2 hl hlen hG hacc => ?_
      dsimp only at hl hlen hG ⊢
      have keep : ∀ b o, s1.heap.get? b = some o → h''.get? b = some o := fun b o x => by
        have bl : b < s1.heap.objs.size := Heap.lt_size x
        have up : ∀ k : Nat, b ≠ s1.heap.objs.size + k := fun k => Nat.ne_of_lt (Nat.lt_of_lt_of_le bl (Nat.le_add_right _ _))
        exact hk2 b o (up 4) (up 3) (up 0) (up 1) (hk b o x)
      have sz' : s1.heap.objs.size ≤ h'.objs.size := by rw [hsz]; exact Nat.le_add_right _ _
      have nd : as.Nodup := hG.rise.imp fun hab => Nat.ne_of_lt hab
      have hab : ∀ t ∈ as, s1.heap.objs.size + 5 < t := fun t ht => hsz ▸ hG.above t ht
      have zl : (xs.zip ys).length = as.length := by rw [List.length_zip, hlen]; simp only [List.size_toArray]; omega
      have nl : h'.objs.size ∉ as := fun hm => Nat.lt_irrefl _ (hG.above _ hm)
      have fr : ∀ t ∈ as, H1 t = none := fun t ht => I1.hok.fresh (Nat.le_of_lt (Nat.lt_of_le_of_lt (Nat.le_add_right _ 5) (hab t ht)))
      have ln : layT H1 (xs.zip ys) as h'.objs.size = none := by rw [layT_ne _ _ _ _ nl]; exact I1.hok.fresh sz'
      have I2 : Inv X pins σ (upd (layT H1 (xs.zip ys) as) h'.objs.size (.lst (as.map V.ref))) { s1 with heap := h'', toks := tk } := by
        refine inv_many I1 keep (fun b hb => ?_) fun b o hb ho => ?_
        · rw [upd_ne (Nat.ne_of_lt (Nat.lt_of_lt_of_le hb sz')), layT_ne _ _ _ _ fun hm => Nat.lt_irrefl _ (Nat.lt_trans (Nat.lt_of_lt_of_le hb (Nat.le_add_right _ 5)) (hab b hm))]
        · by_cases q1 : b = h'.objs.size
          · subst q1
            rw [upd_same] at ho
            cases ho
            refine ⟨by rw [List.length_map, ← zl, List.length_zip]; omega, acc.toList, c, ?_, by rw [Array.toArray_toList]; exact hl⟩
            rw [hacc]
            exact vals_refs as
          · rw [upd_ne q1] at ho
            by_cases q2 : b ∈ as
            · obtain ⟨j, hj⟩ := List.mem_iff_getElem?.mp q2
              have hjl : j < as.length := (List.getElem?_eq_some_iff.mp hj).1
              have hjz : (xs.zip ys)[j]? = some (xs.zip ys)[j] := List.getElem?_eq_getElem (by omega)
              have hat := layT_at as (xs.zip ys) H1 j b _ nd hj hjz
              rw [hat] at ho
              cases ho
              obtain ⟨x, y, x1, y1, hT⟩ := hG.pairs j b hj
              have hx : xs[j]? = some (xs.zip ys)[j].1 := by
                rw [List.getElem_zip]; exact List.getElem?_eq_getElem _
              have hy : ys[j]? = some (xs.zip ys)[j].2 := by
                rw [List.getElem_zip]; exact List.getElem?_eq_getElem _
              obtain ⟨u, hu1, ru⟩ := rv.get hx
              obtain ⟨u2, hu2, ru2⟩ := rv2.get hy
              have x1' : its[j]? = some x := by simpa using x1
              have y1' : its2[j]? = some y := by simpa using y1
              rw [hu1] at x1'; cases x1'
              rw [hu2] at y1'; cases y1'
              exact ⟨by show 2 ≤ sizeLine; decide, [_, _], .cons ru (.cons ru2 .nil), ⟨_, hT, rfl, _, rfl⟩⟩
            · rw [layT_ne _ _ _ _ q2, I1.hok.fresh hb] at ho
              cases ho
      exact ⟨.ref h'.objs.size, _, I2, rfl, q as _ (freT_of _ _ _ zl.symm nd fr) ln⟩
end
section
variable {K : PySem.W.Frag} {σ : St} {F : Hp} {cs cs1 : Cs} {as : TA}
theorem lay_sta : ∀ (vs ws : List V) (ds es : List PyData) (ts : List Addr) (F H : Hp), Sta F cs H → freT H (vs.zip ws) ts → Dts K F vs ds → Dts K F ws es → ∃ F', Gr F F' ∧ Sta F' cs (layT H (vs.zip ws) ts) ∧ Dts K F' (ts.map V.ref) (List.zipWith (fun d e => PyData.tuple [d, e]) ds es)
  | [], _, _, _, ts, F, H, s, f, h1, h2 => by
    cases h1
    cases ts with
    | nil => exact ⟨F, Gr.rfl, s, .nil⟩
    | cons t ts => exact absurd f id
  | _ :: _, [], _, _, ts, F, H, s, f, h1, h2 => by
    cases h1
    cases h2
    cases ts with
    | nil => exact ⟨F, Gr.rfl, s, .nil⟩
    | cons t ts => exact absurd f id
  | v :: vs, w :: ws, _, _, ts, F, H, s, f, h1, h2 => by
    cases h1 with
    | cons a1 b1 =>
      cases h2 with
      | cons a2 b2 =>
        cases ts with
        | nil => exact absurd f id
        | cons t ts =>
          obtain ⟨nt, f⟩ := f
          have g0 : Gr F (upd F t (.tup [v, w])) := Gr.new (s.fr.back nt)
          obtain ⟨F', g, s', d⟩ := lay_sta vs ws _ _ ts _ _ (s.lay nt) f (b1.gr g0) (b2.gr g0)
          exact ⟨F', g0.tr g, s', .cons (.tup (.inl (.inl (g _ _ upd_same))) (.cons (a1.gr (g0.tr g)) (.cons (a2.gr (g0.tr g)) .nil))) d⟩
theorem c_listzip {α β : Type} {en : α → PyData} {em : β → PyData} {xs : List α} {ys : List β} (h : EvDs K as σ F cs [eL en xs, eL em ys] cs1) : EvC K (tListZip K as) σ F cs ((xs.zip ys).map (eT2 en em)) cs1 := fun F1 H1 g1 s Q q =>
  h F1 H1 g1 s _ fun v F2 H2 g2 s2 h2 => by
    obtain ⟨v, w, rfl, k1, k2⟩ := h2.two
    obtain ⟨p, vs, rfl, hs, hd⟩ := k1.toLst
    obtain ⟨p', ws, rfl, hs', hd'⟩ := k2.toLst
    refine ⟨p, p', vs, ws, rfl, gr_L s2.fr hs, gr_L s2.fr hs', fun ts l f nl => ?_⟩
    obtain ⟨F3, g3, s3, d3⟩ := lay_sta vs ws _ _ ts F2 H2 s2 f hd hd'
    rw [zip_map] at d3
    exact q l _ F3 _ (g2.tr g3) (s3.cell nl) d3
end
end Bw

namespace Bw
open PySem L2
/-! sorted, of ints -/
def insI (x : Int) : List Int → List Int
  | [] => [x]
  | y :: ys => if x ≤ y then x :: y :: ys else y :: insI x ys
def srtI : List Int → List Int
  | [] => []
  | x :: xs => insI x (srtI xs)
theorem insI_perm (x : Int) : ∀ ys, (insI x ys).Perm (x :: ys)
  | [] => List.Perm.refl _
  | y :: ys => by
    unfold insI
    split
    · exact List.Perm.refl _
    · exact ((insI_perm x ys).cons y).trans (List.Perm.swap x y ys)
theorem srtI_perm : ∀ xs, (srtI xs).Perm xs
  | [] => List.Perm.refl _
  | x :: xs => (insI_perm x _).trans ((srtI_perm xs).cons x)
theorem insI_sort (x : Int) : ∀ ys, ys.Pairwise (· ≤ ·) → (insI x ys).Pairwise (· ≤ ·)
  | [], _ => List.pairwise_singleton _ _
  | y :: ys, h => by
    rw [List.pairwise_cons] at h
    unfold insI
    split
    · rename_i q
      rw [List.pairwise_cons]
      exact ⟨fun z hz => by rcases List.mem_cons.mp hz with rfl | hz; (exact q); (exact Int.le_trans q (h.1 z hz)), List.pairwise_cons.mpr h⟩
    · rename_i q
      rw [List.pairwise_cons]
      refine ⟨fun z hz => ?_, insI_sort x ys h.2⟩
      rcases List.mem_cons.mp ((insI_perm x ys).mem_iff.mp hz) with rfl | hz
      · omega
      · exact h.1 z hz
theorem srtI_sort : ∀ xs, (srtI xs).Pairwise (· ≤ ·)
  | [] => List.Pairwise.nil
  | x :: xs => insI_sort x _ (srtI_sort xs)
theorem sort_uniq : ∀ (xs ys : List Int), xs.Perm ys → xs.Pairwise (· ≤ ·) → ys.Pairwise (· ≤ ·) → xs = ys
  | [], ys, p, _, _ => (List.Perm.nil_eq p)
  | x :: xs, [], p, _, _ => by have := p.length_eq; simp at this
  | x :: xs, y :: ys, p, h1, h2 => by
    rw [List.pairwise_cons] at h1 h2
    have e : x = y := by
      have hx : x ∈ y :: ys := p.mem_iff.mp List.mem_cons_self
      have hy : y ∈ x :: xs := p.mem_iff.mpr List.mem_cons_self
      rcases List.mem_cons.mp hx with e | hx
      · exact e
      · rcases List.mem_cons.mp hy with e | hy
        · exact e.symm
        · have := h1.1 y hy; have := h2.1 x hx; omega
    subst e
    rw [sort_uniq xs ys (List.Perm.cons_inv p) h1.2 h2.2]
section
variable {K : PySem.W.Frag} {σ : St} {F : Hp} {cs cs1 : Cs} {as : TA}
theorem c_sortedI {xs : List Int} (h : EvDs K as σ F cs [eL eI xs] cs1) : EvC K (tCB (rSortedI K) as) σ F cs ((srtI xs).map eI) cs1 := fun F1 H1 g1 s Q q =>
  h F1 H1 g1 s _ fun v F2 H2 g2 s2 h2 => by
    obtain ⟨v, rfl, k1⟩ := h2.one
    obtain ⟨p, vs, rfl, hs, hd⟩ := k1.toLst
    have := hd.ints
    subst this
    refine ⟨p, xs, rfl, gr_L s2.fr hs, fun ns' l pr so nl => ?_⟩
    rw [sort_uniq ns' (srtI xs) (pr.trans (srtI_perm xs).symm) so (srtI_sort xs)]
    exact q l _ F2 _ g2 (s2.cell nl) (Dts.of_ints _)
theorem d_sortedI {xs : List Int} (h : EvDs K as σ F cs [eL eI xs] cs1) : EvD K (tCB (rSortedI K) as) σ F cs (eL eI (srtI xs)) cs1 := (c_sortedI h).dd
/-- max, min of a list -/
def maxL : List Int → Option Int
  | [] => none
  | x :: xs => some (xs.foldl max x)
def minL : List Int → Option Int
  | [] => none
  | x :: xs => some (xs.foldl min x)
theorem foldl_max : ∀ (xs : List Int) (x : Int), (xs.foldl max x = x ∨ xs.foldl max x ∈ xs) ∧ x ≤ xs.foldl max x ∧ ∀ y ∈ xs, y ≤ xs.foldl max x
  | [], x => ⟨.inl rfl, Int.le_refl _, fun y hy => by cases hy⟩
  | z :: xs, x => by
    obtain ⟨h1, h2, h3⟩ := foldl_max xs (max x z)
    rw [List.foldl_cons]
    refine ⟨?_, by omega, fun y hy => ?_⟩
    · rcases h1 with h1 | h1
      · rw [h1]
        by_cases q : z ≤ x
        · left; omega
        · right; have : max x z = z := by omega
          rw [this]; exact List.mem_cons_self
      · exact .inr (List.mem_cons_of_mem _ h1)
    · rcases List.mem_cons.mp hy with rfl | hy
      · omega
      · exact h3 y hy
theorem foldl_min : ∀ (xs : List Int) (x : Int), (xs.foldl min x = x ∨ xs.foldl min x ∈ xs) ∧ xs.foldl min x ≤ x ∧ ∀ y ∈ xs, xs.foldl min x ≤ y
  | [], x => ⟨.inl rfl, Int.le_refl _, fun y hy => by cases hy⟩
  | z :: xs, x => by
    obtain ⟨h1, h2, h3⟩ := foldl_min xs (min x z)
    rw [List.foldl_cons]
    refine ⟨?_, by omega, fun y hy => ?_⟩
    · rcases h1 with h1 | h1
      · rw [h1]
        by_cases q : x ≤ z
        · left; omega
        · right; have : min x z = z := by omega
          rw [this]; exact List.mem_cons_self
      · exact .inr (List.mem_cons_of_mem _ h1)
    · rcases List.mem_cons.mp hy with rfl | hy
      · omega
      · exact h3 y hy
theorem d_maxL {xs : List Int} {m : Int} (h : EvDs K as σ F cs [eL eI xs] cs1) (hm : maxL xs = some m) : EvD K (tCB (rMax K) as) σ F cs (.int m) cs1 := fun F1 H1 g1 s Q q =>
  h F1 H1 g1 s _ fun v F2 H2 g2 s2 h2 => by
    obtain ⟨v, rfl, k1⟩ := h2.one
    obtain ⟨p, vs, rfl, hs, hd⟩ := k1.toLst
    have := hd.ints
    subst this
    cases xs with
    | nil => cases hm
    | cons x xs =>
      cases hm
      obtain ⟨a1, a2, a3⟩ := foldl_max xs x
      refine ⟨p, x :: xs, rfl, gr_L s2.fr hs, by simp, fun m hm hle => ?_⟩
      have e : m = xs.foldl max x := by
        have b1 : xs.foldl max x ≤ m := by
          rcases a1 with e | e
          · rw [e]; exact hle x List.mem_cons_self
          · exact hle _ (List.mem_cons_of_mem _ e)
        have b2 : m ≤ xs.foldl max x := by
          rcases List.mem_cons.mp hm with rfl | hm
          · exact a2
          · exact a3 m hm
        omega
      rw [e]
      exact q _ F2 H2 g2 s2 (.int _)
theorem d_minL {xs : List Int} {m : Int} (h : EvDs K as σ F cs [eL eI xs] cs1) (hm : minL xs = some m) : EvD K (tCB (rMin K) as) σ F cs (.int m) cs1 := fun F1 H1 g1 s Q q =>
  h F1 H1 g1 s _ fun v F2 H2 g2 s2 h2 => by
    obtain ⟨v, rfl, k1⟩ := h2.one
    obtain ⟨p, vs, rfl, hs, hd⟩ := k1.toLst
    have := hd.ints
    subst this
    cases xs with
    | nil => cases hm
    | cons x xs =>
      cases hm
      obtain ⟨a1, a2, a3⟩ := foldl_min xs x
      refine ⟨p, x :: xs, rfl, gr_L s2.fr hs, by simp, fun m hm hle => ?_⟩
      have e : m = xs.foldl min x := by
        have b1 : m ≤ xs.foldl min x := by
          rcases a1 with e | e
          · rw [e]; exact hle x List.mem_cons_self
          · exact hle _ (List.mem_cons_of_mem _ e)
        have b2 : xs.foldl min x ≤ m := by
          rcases List.mem_cons.mp hm with rfl | hm
          · exact a2
          · exact a3 m hm
        omega
      rw [e]
      exact q _ F2 H2 g2 s2 (.int _)
end
end Bw
namespace Bw
open PySem L2
section
variable {K : PySem.W.Frag} {σ : St} {F : Hp} {cs cs1 cs2 : Cs} {ta tb : TE} {b : Int}
theorem d_ixTH {α : Type} {e : α → PyData} {xs : List α} {z : α} (ha : EvD K ta σ F cs (.tuple (xs.map e)) cs1) (hb : EvD K tb σ F cs1 (.int b) cs2) (hz : atI xs b = some z) : EvD K (tOp (rIxT K) ta tb) σ F cs (e z) cs2 :=
  d_ixT ha hb (by rw [atI_map, hz]; rfl)
theorem dts_D {α : Type} {e : α → PyData} {xs : List α} {us : List V} (h : Dts K F us (xs.map e)) : Dts K F us ((xs.map e).map eD) := by
  have : (xs.map e).map eD = xs.map e := by rw [List.map_map]; rfl
  rw [this]; exact h
end
end Bw
namespace Bw
open PySem L2
section
variable {K : PySem.W.Frag} {F : Hp}
def tup2M {α : Type} : List α → Option (α × α)
  | [a, b] => some (a, b)
  | _ => none
def tup3M {α : Type} : List α → Option (α × α × α)
  | [a, b, c] => some (a, b, c)
  | _ => none
theorem tup2M_eq {α : Type} {xs : List α} {p : α × α} (h : tup2M xs = some p) : xs = [p.1, p.2] := by
  unfold tup2M at h; split at h
  · cases h; rfl
  · cases h
theorem tup3M_eq {α : Type} {xs : List α} {p : α × α × α} (h : tup3M xs = some p) : xs = [p.1, p.2.1, p.2.2] := by
  unfold tup3M at h; split at h
  · cases h; rfl
  · cases h
theorem ul2 {v : V} {d1 d2 : PyData} (h : Dt K F v (.list [d1, d2])) : ∃ p v1 v2, v = .ref p ∧ SqL K F p [v1, v2] ∧ Dt K F v1 d1 ∧ Dt K F v2 d2 := by
  obtain ⟨p, vs, rfl, h1, h2⟩ := h.toLst
  obtain ⟨v1, v2, rfl, k1, k2⟩ := h2.two
  exact ⟨p, v1, v2, rfl, h1, k1, k2⟩
theorem ul3 {v : V} {d1 d2 d3 : PyData} (h : Dt K F v (.list [d1, d2, d3])) : ∃ p v1 v2 v3, v = .ref p ∧ SqL K F p [v1, v2, v3] ∧ Dt K F v1 d1 ∧ Dt K F v2 d2 ∧ Dt K F v3 d3 := by
  obtain ⟨p, vs, rfl, h1, h2⟩ := h.toLst
  cases h2 with
  | cons a1 h2 =>
    obtain ⟨v2, v3, rfl, k2, k3⟩ := h2.two
    exact ⟨p, _, v2, v3, rfl, h1, a1, k2, k3⟩
end
end Bw

namespace Bw
open PySem L2
/-! exceptions that are kept -/
/-- an exception of the class at C, its dict at d (none: it has none), at a -/
def ExK (C : Addr) (d : Option Addr) (a : Addr) : HO := .ext fun h => ∃ (oe : Obj) (vs : Array Value), h.get? a = some oe ∧ oe.cls = .ref C ∧ oe.dict = d ∧ oe.data = .fields vs
def DOk (H : Hp) (d : Option Addr) : Prop := match d with
  | none => True
  | some dd => ∃ fs, H dd = some (.xd fs)
theorem exK_ok {P : Program} {w : World} {H : Hp} {h : Heap} {a C : Addr} {dd : Option Addr} {oe : Obj} {vs : Array Value} (e : h.get? a = some oe) (c : oe.cls = .ref C) (d : oe.dict = dd) (hd : oe.data = .fields vs) : ObjOk P w H h a (ExK C dd a) :=
  ⟨⟨oe, vs, e, c, d, hd⟩, ⟨oe, e⟩, fun _ _ ⟨o, v, q, r⟩ k => ⟨o, v, k o q, r⟩⟩
/-- what is known of an exception class -/
def ExC (K : PySem.W.Frag) (C : Addr) : Bool := (PySem.W.clsIn K C).isSome && PySem.W.findIn K (.ref C) "__getattribute__" == some (some (.builtin "BaseException.__getattribute__")) && (PySem.W.findIn K (.ref C) "__getattr__").isSome &&
  PySem.W.subIn K (.ref C) (.type "BaseException") == some true && PySem.W.findIn K (.ref C) "__class__" == some (some (.builtin "object.__class__")) && PySem.W.specialIn K (.builtin "object.__class__") "__get__" == some (some (.builtin "getset_descriptor.__get__")) &&
  PySem.W.takesIn K (.builtin "object.__class__") == some true && PySem.W.mroIn K C (.type "object") == some true
theorem kit_ex {K : PySem.W.Frag} {C x : Addr} {ox : Obj} {od : Option Obj} (h : ExC K C = true) : PySem.W.KitX K (.ref x) (.ref C) (fun h => PySem.W.InstAt h x ox C od) := by
  unfold ExC at h
  simp only [Bool.and_eq_true, beq_iff_eq] at h
  obtain ⟨⟨⟨⟨⟨⟨⟨h1, h2⟩, h3⟩, h4⟩, h5⟩, h6⟩, h7⟩, h8⟩ := h
  obtain ⟨gt, h3⟩ := Option.isSome_iff_exists.mp h3
  exact PySem.W.kitx_exc h1 h2 h3 h4 h5 h6 h7 h8
def rIsiE (K : PySem.W.Frag) : List V → Hp → VK → Prop := fun xs H Q => ∃ (a C : Addr) (d : Option Addr) (c : V) (u : Value) (b : Bool), xs = [.ref a, c] ∧ ClsV c u ∧ H a = some (ExK C d a) ∧ DOk H d ∧ ExC K C = true ∧ PySem.W.kitOne K (.ref C) u = some b ∧ Q (.bl b) H
def rIsiTE (K : PySem.W.Frag) : List V → Hp → VK → Prop := fun xs H Q => ∃ (a C : Addr) (d : Option Addr) (tp : Addr) (cs : List V) (us : List Value) (b : Bool), xs = [.ref a, .ref tp] ∧ H tp = some (.tup cs) ∧ Paired ClsV cs us ∧ H a = some (ExK C d a) ∧ DOk H d ∧ ExC K C = true ∧ PySem.W.kitAny K (.ref C) us = some b ∧ Q (.bl b) H
section
variable {X : Cx}
theorem exK_at {pins : List (Addr × Obj)} {σ : St} {H : Hp} {s : Shared} {a C : Addr} {d : Option Addr} (I : Inv X pins σ H s) (h : H a = some (ExK C d a)) (hx : DOk H d) : ∃ oe od, PySem.W.InstAt s.heap a oe C od := by
  have x : ObjOk X.prog X.w H s.heap a (.ext fun h => ∃ (oe : Obj) (vs : Array Value), h.get? a = some oe ∧ oe.cls = .ref C ∧ oe.dict = d ∧ oe.data = .fields vs) := I.hok a _ h
  obtain ⟨⟨oe, vs, e, c, dd, hd⟩, _⟩ := x
  obtain ⟨oc, od, dt, sl⟩ := oe
  dsimp only at c dd hd
  subst c dd hd
  cases od with
  | none => exact ⟨_, none, e, rfl, rfl, trivial⟩
  | some z =>
    obtain ⟨fs, hz⟩ := hx
    obtain ⟨mA, hns, hr⟩ := (show ObjOk X.prog X.w H s.heap z (.xd fs) from I.hok z _ hz)
    obtain ⟨oz, ho, hl⟩ := lookIn_ns hns
    exact ⟨_, some oz, e, rfl, rfl, ho⟩
theorem cr_isiE : CallR X (.builtin "isinstance") (rIsiE X.K) := by
  intro pins s σ H xs us Q I r h
  obtain ⟨a, C, d, c, u, b, rfl, k, ha, hd, hC, e, q⟩ := h
  obtain ⟨u1, u2, rfl, r1, r2⟩ := vals2 r
  have e2 := k.eq r2
  subst e2
  cases (show u1 = Value.ref a from r1)
  obtain ⟨oe, od, J⟩ := exK_at I ha hd
  exact PySem.W.kia_one (kit_ex (ox := oe) (od := od) hC) I.kIn J e (fun z => nomatch z) fun tk => ⟨.bl b, H, I.tok tk, rfl, q⟩
theorem cr_isiTE : CallR X (.builtin "isinstance") (rIsiTE X.K) := by
  intro pins s σ H xs us Q I r h
  obtain ⟨a, C, d, tp, cs, ws, b, rfl, hT, k, ha, hd, hC, e, q⟩ := h
  obtain ⟨u1, u2, rfl, r1, r2⟩ := vals2 r
  cases (show u2 = Value.ref tp from r2)
  cases (show u1 = Value.ref a from r1)
  obtain ⟨oe, od, J⟩ := exK_at I ha hd
  obtain ⟨_, its, rv, o, h1, h2, n, h3⟩ := (show ObjOk X.prog X.w H s.heap tp (.tup cs) from I.hok tp _ hT)
  have e3 := ClsV.all k rv
  subst e3
  obtain ⟨oc, od', dt, sl⟩ := o
  simp only at h2 h3
  subst h2 h3
  exact PySem.W.kia_tup (kit_ex (ox := oe) (od := od) hC) I.kIn J h1 e (fun z => nomatch z) fun tk => ⟨.bl b, H, I.tok tk, rfl, q⟩
/-- an object that was not tracked is tracked from now on -/
theorem inv_track {pins : List (Addr × Obj)} {σ : St} {H : Hp} {s : Shared} {a : Addr} {o : HO} {oe : Obj} {vs : Array Value} (I : Inv X pins σ H s) (na : H a = none) (e : s.heap.get? a = some oe) (hd : oe.data = .fields vs) (nL : a ≠ X.env.locals)
    (n0 : X.s_0.heap.get? a = none) (np : ∀ p ∈ X.pn ++ pins, p.1 ≠ a) (new : ObjOk X.prog X.w (upd H a o) s.heap a o) : Inv X pins σ (upd H a o) s := by
  have ne : ∀ b u, H b = some u → b ≠ a := fun b u q z => by rw [z, na] at q; cases q
  refine ⟨I.ok, I.os, I.bare, ⟨I.base.keep, I.base.slot, fun b ob q n hx => ?_, I.base.there, fun b xs q => ?_, fun b ob u q => ?_, fun b ps q => ?_⟩, I.loc, I.cell, ?_, fun x c q => ?_, fun p hp => ?_, fun b u q => ?_, I.len⟩
  · have : b ≠ a := fun z => by rw [z, n0] at q; cases q
    rw [upd_ne this]; exact I.base.free b ob q n hx
  · have := I.base.tups b xs q
    rw [upd_ne (ne b _ this)]; exact this
  · have := I.base.frzs b ob u q
    rw [upd_ne (ne b _ this)]; exact this
  · obtain ⟨more, q⟩ := I.base.tbls b ps q
    exact ⟨more, by rw [upd_ne (ne b _ q)]; exact q⟩
  · rw [upd_ne (Ne.symm nL)]; exact I.free
  · have : c ≠ a := fun z => by
      obtain ⟨v, oc, h1, h2⟩ := I.cell x c q
      rw [z, e] at h1
      cases h1
      rw [hd] at h2
      cases h2
    rw [upd_ne this]; exact I.freeC x c q
  · obtain ⟨q1, q2, q3⟩ := I.pin p hp
    exact ⟨q1, by rw [upd_ne (np p hp)]; exact q2, q3⟩
  · by_cases z : b = a
    · subst z; rw [upd_same] at q; cases q; exact new
    · rw [upd_ne z] at q
      exact (I.hok b u q).stay (fun c v _ q => q) (fun c q => by rw [upd_ne (ne c _ q)]; exact q) fun c xs q => by rw [upd_ne (ne c _ q)]; exact q
end
/-- 'except x as n: suite', where what is caught may be kept behind the suite -/
def wKeep (K : PySem.W.Frag) (c : Value) (i : Nat) (ts : Addr → Value → Option Addr → TS) (Wout : WX) (D : Ends) : WX := fun cls d σ H =>
  ∃ b, PySem.W.exmOne K cls c = some b ∧ (b = true → ∃ C, cls = .ref C ∧ ∀ a, H a = none → ts a cls d { nx := fun σ' H' => H' a = none ∧ D.nx (σ'.set i none) (upd H' a (ExK C d a)), rt := fun _ _ => False, bk := fun _ _ => False, ct := fun _ _ => False } (σ.set i (some (.ref a))) H) ∧
    (b = false → Wout cls d σ H)
section
open PySem.Spec PyProof.Rows
variable {X : Cx} {x n : Str} {c : Value} {i : Nat} {body suite : List Stmt} {b₀ : Stmt} {np pos pos' : Pos} {tb : WX → TS} {ts : Addr → Value → Option Addr → TS} {Wout : WX}
theorem ps_try_keep (hs : X.stack = X.env :: X.outer) (hf : X.env.frame = some X.env.locals) (hex : X.ex = []) (hN : X.N.Nodup) (hi : X.N[i]? = some n) (hln : X.env.kindOf n = some .local) (hc : Names X x c) (tk : Takes X Wout)
    (hb : ∀ (W : WX) (pn : List (Addr × Obj)) (xe : Value → Shared → Prop), Takes (X.tr pn xe) W → PassesOwn (model X.prog X.w) X.A X.env xe → PSs (X.tr pn xe) body (tb W))
    (hsu : ∀ (a : Addr) (oe : Obj) (cls : Value) (d : Option Addr) (pn : List (Addr × Obj)), Zc cls d oe → (∃ vs, oe.data = .fields vs) → PSs (X.suite a ((a, oe) :: pn)) (b₀ :: suite) (ts a cls d)) :
    PS X (.Try body [.ExceptHandler (some (.Name x np)) (some n) (b₀ :: suite) pos'] [] [] pos) (fun D σ H => tb (wKeep X.K c i ts Wout D) D σ H) := by
  refine ⟨fun pins s σ H D I h => ?_⟩
  have ok := I.ok
  have hfr : X.A.frames = some (X.env :: X.outer) := by rw [ok.frames, hs]
  have hloc : Loc X.env.scope n := .inl hln
  refine wpAny_Try_except ?_
  refine wpAny_mono ((hb (wKeep X.K c i ts Wout D) (X.pn ++ pins) (fun e s₁ => wpAny (model X.prog X.w) X.A (noteFrame e X.env) (fun _ s₂ => wpAny (model X.prog X.w) X.A (setFlight e none) (fun _ s₃ =>
    wpAny (model X.prog X.w) X.A (handleBy e X.env [.ExceptHandler (some (.Name x np)) (some n) (b₀ :: suite) pos']) (SP X pins D) X.xe s₃) X.xe s₂) X.xe s₁) (fun u s' xx => ?_) PassesOwn.looking).run [] s σ H D (I.toTry _) h) (fun f s1 hsp => ?_) (fun e s1 he => he)
  · obtain ⟨a, B, sI, pins', σ', H', cls, d, rfl, J', nb, up, sky, na, os, ag, b, hb1, hyes, hno⟩ := xx
    have J : Inv X pins σ' H' sI := J'.ofTry ok
    have sky' : Sky B (X.env :: X.outer) a (Zc cls d) X.env.locals s'.heap := by rw [← hs]; exact sky
    show wpAny (model X.prog X.w) X.A (noteFrame (.ref a) X.env) _ _ _
    refine Sky.land Zc.steady hfr hf sky' fun h3 fl3 up3 => ?_
    have J3 : Inv X pins σ' H' { s' with heap := h3 } := J.landed nb fl3.1 (up.trans up3) os ag
    obtain ⟨oe3, vs3, he3, hz3, hd3⟩ := fl3.there
    have hBn : B.get? a = none := fl3.2.1
    have notFr : ∀ {h : Heap} {o : Obj} {vs : Array Value}, h.FunFrames B (X.env :: X.outer) → h.get? a = some o → o.data = .fields vs → a ∉ frs (X.env :: X.outer) := fun {h o vs} ff e dd hm => by
      obtain ⟨_, o', e', hnf⟩ := ff.mem hm
      rw [e] at e'; cases e'
      exact hnf _ dd
    have nfr := notFr fl3.2.2.1 he3 hd3
    have nL : a ≠ X.env.locals := fun z => nfr (List.mem_filterMap.mpr ⟨X.env, List.mem_cons_self, by rw [hf, z]⟩)
    have nF : a ∉ X.fs := fun hm => by
      obtain ⟨e, he, q⟩ := List.mem_filterMap.mp hm
      exact nfr (List.mem_filterMap.mpr ⟨e, List.mem_cons_of_mem _ he, q⟩)
    have nSI : sI.heap.get? a = none := by
      cases q : sI.heap.get? a with
      | none => rfl
      | some o =>
        have := nb a o q (by rw [hs]; exact nfr)
        rw [hBn] at this; cases this
    have n0 : X.s_0.heap.get? a = none := by
      cases q : X.s_0.heap.get? a with
      | none => rfl
      | some o =>
        obtain ⟨o', q'⟩ := J.base.there a o q (by rw [hex]; exact List.not_mem_nil)
        rw [nSI] at q'; cases q'
    have npin : ∀ p ∈ X.pn ++ pins, p.1 ≠ a := fun p hp z => by
      have := (J.pin p hp).1
      rw [z, nSI] at this; cases this
    have S3 := J3.suite he3 hd3 na nL nF
    refine wpAny_handleBy_cons (codeAny_handlers_test ?_) (by intro q; cases q)
    have LT : PySem.W.Looks (model X.prog X.w) h3 (typeOf (.ref a)) cls := fun A Q E s k q => wpAny_typeOf_ref (k _ _ he3) (by rw [hz3.1]; exact q)
    have LM := PySem.W.exm_one (M := model X.prog X.w) (J3.kIn) LT hb1
    have test : ∀ {Q : Value → Shared → Prop} {E : Value → Shared → Prop}, Q c { s' with heap := h3 } → wpAny (model X.prog X.w) (X.A.mark (some (.ref a))) (eval (.Name x np) X.env) Q E { s' with heap := h3 } := fun {Q E} q => by
      obtain ⟨hg, hdbg, hm | ⟨hm, hv, hnn⟩⟩ := hc
      · exact ld_glob (X := X.suite a ((a, oe3) :: (X.pn ++ pins))) S3 hg hm q hdbg
      · exact ld_blt (X := X.suite a ((a, oe3) :: (X.pn ++ pins))) S3 hg hm hv q hnn hdbg
    refine test (LM.here ?_)
    cases b with
    | true =>
      obtain ⟨C, hcls, hyes⟩ := hyes rfl
      refine codeAny_handlers_suite_as ?_
      refine HandSPX.lands_againZ fl3 fun h4 fl4 up4 => ?_
      have J4 : Inv X pins σ' H' { s' with heap := h4 } := J.landed nb fl4.1 ((up.trans up3).trans up4) os ag
      obtain ⟨oe4, vs4, he4, hz4, hd4⟩ := fl4.there
      have S4 := J4.suite he4 hd4 na nL nF
      refine store_ok (X := X.suite a ((a, oe4) :: (X.pn ++ pins))) (v := .ref a) S4 hN hi hloc rfl (fun s5 S5 => ?_) (.inr hln)
      refine wpAny_mono ((hsu a oe4 cls d (X.pn ++ pins) hz4 ⟨_, hd4⟩).run [] s5 _ H' _ S5 (hyes a na)) (fun f s6 hsp => ?_) (fun _ _ z => False.elim z)
      cases f with
      | next =>
        obtain ⟨σ6, H6, S6, na6, q6⟩ := hsp
        refine gone_ok (X := X.suite a ((a, oe4) :: (X.pn ++ pins))) S6 hN hi hln fun s7 S7 => ?_
        have he7 : s7.heap.get? a = some oe4 := (S7.pin (a, oe4) (by simp)).1
        have J7 : Inv X pins (σ6.set i none) H6 s7 := S7.unsuite ok
        exact ⟨_, _, inv_track J7 na6 he7 hd4 nL n0 npin (exK_ok he7 (hz4.1.trans hcls) hz4.2 hd4), q6⟩
      | brk =>
        obtain ⟨σ6, H6, S6, q6⟩ := hsp
        exact False.elim q6
      | cont =>
        obtain ⟨σ6, H6, S6, q6⟩ := hsp
        exact False.elim q6
      | ret u =>
        obtain ⟨v6, σ6, H6, S6, r6, q6⟩ := hsp
        exact False.elim q6
    | false =>
      show wpAny _ X.A (handleBy (.ref a) X.env []) _ _ _
      refine wpAny_handleBy_nil ?_
      obtain ⟨k1, k2, k3, oe, vs, T, oT, ts', he, hz, hd, h1, hr⟩ := id fl3
      unfold PySem.passOn
      refine wpAny_bind (wpAny_field he hd h1 ?_)
      rw [if_neg (show ¬ ((Value.ref T == Value.none) = true) from by simp)]
      have fin : wpAny (model X.prog X.w) X.A (setFlight (.ref a) X.env.frame) (fun _ s4 => wpAny (model X.prog X.w) X.A (throw (.ref a) : Sem Flow) (SP X pins D) X.xe s4) X.xe { s' with heap := h3 } := by
        rw [hf]
        refine HandSPX.setFlight_upZ fl3 fun h4 hh4 up4 => wpAny_throw (tk _ _ ?_)
        exact ⟨a, B, sI, pins, σ', H', cls, d, rfl, J, nb, (up.trans up3).trans up4, .inr (.inr (by rw [hs]; exact hh4)), na, os, ag, hno rfl⟩
      first
        | exact wpAny_bind (wpAny_pure (wpAny_bind fin))
        | exact wpAny_bind fin
  · cases f with
    | next =>
      obtain ⟨σ', H', J', q⟩ := hsp
      exact wpAny_execs_nil ⟨σ', H', J'.ofTry ok, q⟩
    | brk =>
      obtain ⟨σ', H', J', q⟩ := hsp
      exact ⟨σ', H', J'.ofTry ok, q⟩
    | cont =>
      obtain ⟨σ', H', J', q⟩ := hsp
      exact ⟨σ', H', J'.ofTry ok, q⟩
    | ret u =>
      obtain ⟨v, σ', H', J', r, q⟩ := hsp
      exact ⟨v, σ', H', J'.ofTry ok, r, q⟩
end
end Bw

namespace Bw
open PySem L2
/-! what raises -/
/-- a class's name, and what its field holds -/
abbrev Xe := Str × PyData
inductive Rs (β : Type) where
  | ok (y : β)
  | ex (c : Xe)
/-- the field of a class -/
def fld (c : Str) : Option Str := if c = "NoStore" then some "part" else if c = "NoPlan" then some "at" else if c = "NoPaper" then some "at" else none
/-- what d, an exception's dict, holds -/
def Xd (K : PySem.W.Frag) (F : Hp) (e : Xe) (d : Option Addr) : Prop := match fld e.1 with
  | none => d = none
  | some f => ∃ a v, d = some a ∧ F a = some (.xd [(f, v)]) ∧ Dt K F v e.2
theorem Xd.gr {K : PySem.W.Frag} {F F' : Hp} {e : Xe} {d : Option Addr} (g : Gr F F') (h : Xd K F e d) : Xd K F' e d := by
  unfold Xd at h ⊢
  split at h
  · exact h
  · obtain ⟨a, v, h1, h2, h3⟩ := h
    exact ⟨a, v, h1, g _ _ h2, h3.gr g⟩
theorem Xd.ok {K : PySem.W.Frag} {F H : Hp} {e : Xe} {d : Option Addr} (g : Gr F H) (h : Xd K F e d) : DOk H d := by
  unfold Xd at h
  split at h
  · subst h; trivial
  · obtain ⟨a, v, rfl, h2, h3⟩ := h
    exact ⟨_, g _ _ h2⟩
def okM {β : Type} : Rs β → Option β
  | .ok y => some y
  | .ex _ => none
theorem okM_some {β : Type} {r : Rs β} {y : β} (h : okM r = some y) : r = .ok y := by
  cases r with
  | ok z => cases h; rfl
  | ex c => cases h
def Rs.map {α β : Type} (g : α → β) : Rs α → Rs β
  | .ok y => .ok (g y)
  | .ex c => .ex c
/-- a promise that may end by an exception of a class of the program -/
def spPX (K : PySem.W.Frag) {α β : Type} (A : α → List PyData) (B : β → PyData) (f : α → Option (Rs β)) : Sp := fun vs H Q E => ∃ F cs x r, Dts K F vs (A x) ∧ Sta F cs H ∧ f x = some r ∧
  (∀ y, r = .ok y → ∀ v F2 H2, Gr F F2 → Sta F2 cs H2 → Dt K F2 v (B y) → Q v H2) ∧ ∀ c, r = .ex c → ∀ d F2 H2, Gr F F2 → Sta F2 cs H2 → Xd K F2 c d → E (.ref (He.ga K c.1)) d H2
structure OkX (P : Program) (w : World) (K : PySem.W.Frag) (mg : Str → Option Value) (base : Heap) (k : Nat) (x : Str) (ps : List Str) (sp : Sp) : Prop where
  ex : ∃ fd, FnOk P w K mg base (L2.CX P w) k (He.ga K x) fd ps sp ∧ Binds K fd ps [] ∧ Lk K (He.ga K x) fd
  kp : PySem.W.keepIn K (.ref (He.ga K x)) = true
  gm : mg x = some (.ref (He.ga K x))
abbrev XF0 : XK := fun _ _ _ => False
abbrev WF0 : WX := fun _ _ _ _ => False
theorem passF {X : Cx} (σ : St) : PassesAt (L2.CX X.prog X.w) X σ XF0 := fun _ _ _ e s' I c => by
  obtain ⟨a, B, H', cls, d, _, _, _, _, _, _, _, h⟩ := c
  exact False.elim h
section
variable {K : PySem.W.Frag} {σ : St} {F : Hp} {cs cs1 : Cs} {H : Hp} {as : TA} {te : TE} {nx bk ct : St → Hp → Prop} {rt : V → Hp → Prop} {W : WX}
/-- called where it does not raise -/
theorem dx_call {α β : Type} {A : α → List PyData} {B : β → PyData} {f : α → Option (Rs β)} {x : α} {y : β} {E : St → XK} (h : EvDs K as σ F cs (A x) cs1) (hf : f x = some (.ok y)) : EvD K (tCallS (spPX K A B f) E as) σ F cs (B y) cs1 := fun F1 H1 g1 s Q q =>
  h F1 H1 g1 s _ fun vs F2 H2 g2 s2 h2 => ⟨F2, cs1, x, .ok y, h2, s2, hf, fun z hz v F3 H3 g3 s3 h3 => by cases hz; exact q v F3 H3 (g2.tr g3) s3 h3, fun c hc => nomatch hc⟩
/-- what may raise: r the end -/
def EvX (K : PySem.W.Frag) (te : TE) (W : WX) (σ : St) (F : Hp) (cs : Cs) (r : Rs PyData) (cs' : Cs) : Prop :=
  ∀ F1 H1, Gr F F1 → Sta F1 cs H1 → ∀ Q : VK, (∀ d, r = .ok d → ∀ v F2 H2, Gr F1 F2 → Sta F2 cs' H2 → Dt K F2 v d → Q v H2) → (∀ c, r = .ex c → ∀ d F2 H2, Gr F1 F2 → Sta F2 cs' H2 → Xd K F2 c d → W (.ref (He.ga K c.1)) d σ H2) → te σ H1 Q
theorem x_call {α β : Type} {A : α → List PyData} {B : β → PyData} {f : α → Option (Rs β)} {x : α} {r : Rs β} (h : EvDs K as σ F cs (A x) cs1) (hf : f x = some r) : EvX K (tCallS (spPX K A B f) (WE W) as) W σ F cs (r.map B) cs1 := fun F1 H1 g1 s Q q qx =>
  h F1 H1 g1 s _ fun vs F2 H2 g2 s2 h2 => ⟨F2, cs1, x, r, h2, s2, hf, fun y hy v F3 H3 g3 s3 h3 => by subst hy; exact q _ rfl v F3 H3 (g2.tr g3) s3 h3, fun c hc d F3 H3 g3 s3 xd => by subst hc; exact qx c rfl d F3 H3 (g2.tr g3) s3 xd⟩
theorem s_dropX {α : Type} {B : α → PyData} {r : Rs α} (s : Sta F cs H) (h : EvX K te W σ F cs (r.map B) cs1) (q : ∀ y, r = .ok y → ∀ F2 H2, Gr F F2 → Sta F2 cs1 H2 → nx σ H2)
    (qx : ∀ c, r = .ex c → ∀ d F2 H2, Gr F F2 → Sta F2 cs1 H2 → Xd K F2 c d → W (.ref (He.ga K c.1)) d σ H2) : tDrop te ⟨nx, rt, bk, ct⟩ σ H :=
  h F H .rfl s _ (fun d hd v F2 H2 g2 s2 _ => by
    cases r with
    | ok y => exact q y rfl F2 H2 g2 s2
    | ex c => cases hd) (fun c hc d F2 H2 g2 s2 xd => by
    cases r with
    | ok y => cases hc
    | ex c' => cases hc; exact qx c rfl d F2 H2 g2 s2 xd)
theorem s_setX {α : Type} {B : α → PyData} {r : Rs α} {i : Nat} {σ' : V → St} (s : Sta F cs H) (h : EvX K te W σ F cs (r.map B) cs1) (hσ : ∀ v, σ.set i (some v) = σ' v) (q : ∀ y, r = .ok y → ∀ v F2 H2, Gr F F2 → Sta F2 cs1 H2 → Dt K F2 v (B y) → nx (σ' v) H2)
    (qx : ∀ c, r = .ex c → ∀ d F2 H2, Gr F F2 → Sta F2 cs1 H2 → Xd K F2 c d → W (.ref (He.ga K c.1)) d σ H2) : tAsg te (gName i) ⟨nx, rt, bk, ct⟩ σ H :=
  h F H .rfl s _ (fun d hd v F2 H2 g2 s2 h2 => by
    cases r with
    | ok y =>
      cases hd
      show nx (σ.set i (some v)) H2
      rw [hσ v]; exact q y rfl v F2 H2 g2 s2 h2
    | ex c => cases hd) (fun c hc d F2 H2 g2 s2 xd => by
    cases r with
    | ok y => cases hc
    | ex c' => cases hc; exact qx c rfl d F2 H2 g2 s2 xd)
theorem s_retX {α : Type} {B : α → PyData} {r : Rs α} (s : Sta F cs H) (h : EvX K te W σ F cs (r.map B) cs1) (q : ∀ y, r = .ok y → ∀ v F2 H2, Gr F F2 → Sta F2 cs1 H2 → Dt K F2 v (B y) → rt v H2)
    (qx : ∀ c, r = .ex c → ∀ d F2 H2, Gr F F2 → Sta F2 cs1 H2 → Xd K F2 c d → W (.ref (He.ga K c.1)) d σ H2) : tRet te ⟨nx, rt, bk, ct⟩ σ H :=
  h F H .rfl s _ (fun d hd v F2 H2 g2 s2 h2 => by
    cases r with
    | ok y => cases hd; exact q y rfl v F2 H2 g2 s2 h2
    | ex c => cases hd) (fun c hc d F2 H2 g2 s2 xd => by
    cases r with
    | ok y => cases hc
    | ex c' => cases hc; exact qx c rfl d F2 H2 g2 s2 xd)
/-- a kept exception, or None -/
def Xv (K : PySem.W.Frag) (cl : List Str) (F : Hp) (v : V) : Option Xe → Prop
  | none => v = .non
  | some c => c.1 ∈ cl ∧ ∃ a d, v = .ref a ∧ F a = some (ExK (He.ga K c.1) d a) ∧ Xd K F c d
theorem Xv.gr {cl : List Str} {F F' : Hp} {v : V} {o : Option Xe} (g : Gr F F') (h : Xv K cl F v o) : Xv K cl F' v o := by
  cases o with
  | none => exact h
  | some c => obtain ⟨h0, a, d, h1, h2, h3⟩ := h; exact ⟨h0, a, d, h1, g _ _ h2, h3.gr g⟩
def subX (c d : Str) : Bool := c == d || d == "CartError"
def isX (o : Option Xe) (d : Str) : Bool := match o with
  | none => false
  | some c => subX c.1 d
def anyX (o : Option Xe) (ds : List Str) : Bool := ds.any fun d => isX o d
/-- what is known of the classes: cl may be raised, ts are asked for -/
structure XFc (K : PySem.W.Frag) (cl ts : List Str) : Prop where
  ex : ∀ c ∈ cl, ExC K (He.ga K c) = true
  kit : ∀ c ∈ cl, ∀ d ∈ ts, PySem.W.kitOne K (.ref (He.ga K c)) (.ref (He.ga K d)) = some (subX c d)
  kitV : ∀ c ∈ cl, PySem.W.kitOne K (.ref (He.ga K c)) (.type "ValueError") = some true
  kitN : ∀ d ∈ ts, PySem.W.kitOne K (.type "NoneType") (.ref (He.ga K d)) = some false
  exm : ∀ c ∈ cl, PySem.W.exmOne K (.ref (He.ga K c)) (.ref (He.ga K "CartError")) = some true
  fl : ∀ c ∈ cl, ∀ f, fld c = some f → xfB K (He.ga K c) = true ∧ PySem.W.findIn K (.ref (He.ga K c)) f = some none
abbrev rIsiX (K : PySem.W.Frag) : List V → Hp → VK → Prop := fun xs H Q => rIsi K xs H Q ∨ rIsiE K xs H Q
abbrev rIsiXT (K : PySem.W.Frag) : List V → Hp → VK → Prop := fun xs H Q => rIsiT K xs H Q ∨ rIsiTE K xs H Q
theorem cr_isiX {X : Cx} : CallR X (.builtin "isinstance") (rIsiX X.K) := call_isi.or cr_isiE
theorem cr_isiXT {X : Cx} : CallR X (.builtin "isinstance") (rIsiXT X.K) := call_isiT.or cr_isiTE
theorem kitN_V : kitB "NoneType" "ValueError" = some false := by decide +kernel
theorem d_isiX {cl ts : List Str} {o : Option Xe} {v : V} {i : Nat} {d : Str} (X : XFc K cl ts) (hi : σ[i]? = some (some v)) (hx : Xv K cl F v o) (hd : d ∈ ts) : EvD K (tCB (rIsiX K) (tCons (tVar i) (tCons (tC (.ref (He.ga K d))) tNil))) σ F cs (.bool (isX o d)) cs := fun F1 H1 g1 s Q q => by
  refine ⟨v, hi, ?_⟩
  show rIsiX K [v, .ref (He.ga K d)] H1 Q
  cases o with
  | none =>
    cases (show v = .non from hx)
    exact .inl ⟨.non, _, .type "NoneType", .ref (He.ga K d), false, rfl, .own _, .base .non, X.kitN d hd, q _ F1 H1 .rfl s (.bl _)⟩
  | some c =>
    obtain ⟨hc, a, dd, rfl, ha, hxd⟩ := hx
    exact .inr ⟨a, He.ga K c.1, dd, _, .ref (He.ga K d), subX c.1 d, rfl, .own _, s.fr _ _ (g1 _ _ ha), hxd.ok (g1.tr s.fr), X.ex c.1 hc, X.kit c.1 hc d hd, q _ F1 H1 .rfl s (.bl _)⟩
theorem d_isiXV {cl ts : List Str} {o : Option Xe} {v : V} {i : Nat} (X : XFc K cl ts) (hi : σ[i]? = some (some v)) (hx : Xv K cl F v o) : EvD K (tCB (rIsiX K) (tCons (tVar i) (tCons (tC (.ty "ValueError")) tNil))) σ F cs (.bool o.isSome) cs := fun F1 H1 g1 s Q q => by
  refine ⟨v, hi, ?_⟩
  show rIsiX K [v, .ty "ValueError"] H1 Q
  cases o with
  | none =>
    cases (show v = .non from hx)
    exact .inl ⟨.non, _, .type "NoneType", .type "ValueError", false, rfl, .ty _, .base .non, kit_ty kitN_V, q _ F1 H1 .rfl s (.bl _)⟩
  | some c =>
    obtain ⟨hc, a, dd, rfl, ha, hxd⟩ := hx
    exact .inr ⟨a, He.ga K c.1, dd, _, .type "ValueError", true, rfl, .ty _, s.fr _ _ (g1 _ _ ha), hxd.ok (g1.tr s.fr), X.ex c.1 hc, X.kitV c.1 hc, q _ F1 H1 .rfl s (.bl _)⟩
def clsV (K : PySem.W.Frag) (ds : List Str) : List V := ds.map fun d => .ref (He.ga K d)
theorem clsV_paired : ∀ ds : List Str, Paired ClsV (clsV K ds) (ds.map fun d => Value.ref (He.ga K d))
  | [] => .nil
  | d :: ds => .cons (.own _) (clsV_paired ds)
theorem kitAny_none {cl ts : List Str} (X : XFc K cl ts) : ∀ ds : List Str, (∀ d ∈ ds, d ∈ ts) → PySem.W.kitAny K (.type "NoneType") (ds.map fun d => Value.ref (He.ga K d)) = some false
  | [], _ => rfl
  | d :: ds, h => kitAny_cons (X.kitN d (h d List.mem_cons_self)) (fun _ => kitAny_none X ds fun e he => h e (List.mem_cons_of_mem _ he)) (fun z => nomatch z)
theorem kitAny_some {cl ts : List Str} (X : XFc K cl ts) {c : Xe} (hc : c.1 ∈ cl) : ∀ ds : List Str, (∀ d ∈ ds, d ∈ ts) → PySem.W.kitAny K (.ref (He.ga K c.1)) (ds.map fun d => Value.ref (He.ga K d)) = some (anyX (some c) ds)
  | [], _ => rfl
  | d :: ds, h => by
    refine kitAny_cons (X.kit c.1 hc d (h d List.mem_cons_self)) (fun z => ?_) (fun z => ?_)
    · have := kitAny_some X hc ds fun e he => h e (List.mem_cons_of_mem _ he)
      rw [this]
      show some _ = some (subX c.1 d || _)
      rw [z]; rfl
    · show (subX c.1 d || _) = true
      rw [z]; rfl
/-- isinstance(x, (A, B, ..)); ta the written tuple's parts -/
theorem d_isiXT {cl ts ds : List Str} {o : Option Xe} {v : V} {i : Nat} {ta : TA} (X : XFc K cl ts) (hi : σ[i]? = some (some v)) (hx : Xv K cl F v o) (hd : ∀ d ∈ ds, d ∈ ts) (hl : ds.length ≤ 100000)
    (ht : ∀ H (Q : List V → Hp → Prop), Q (clsV K ds) H → ta σ H Q) : EvD K (tCB (rIsiXT K) (tCons (tVar i) (tCons (tTup ta) tNil))) σ F cs (.bool (anyX o ds)) cs := fun F1 H1 g1 s Q q => by
  refine ⟨v, hi, ?_⟩
  show tTup ta σ H1 fun w H2 => rIsiXT K [v, w] H2 Q
  refine ht H1 _ ⟨by unfold clsV; rw [List.length_map]; exact sz hl, fun p hp => ?_⟩
  have s2 : Sta (upd F1 p (.tup (clsV K ds))) cs (upd H1 p (.tup (clsV K ds))) := s.lay hp
  have g2 : Gr F1 (upd F1 p (.tup (clsV K ds))) := Gr.new (s.fr.back hp)
  cases o with
  | none =>
    cases (show v = .non from hx)
    refine .inl ⟨.non, p, clsV K ds, .type "NoneType", _, false, rfl, upd_same, clsV_paired ds, .base .non, kitAny_none X ds hd, ?_⟩
    have : anyX none ds = false := by unfold anyX; rw [List.any_eq_false]; intro d _; exact Bool.false_ne_true
    rw [this] at q
    exact q _ _ _ g2 s2 (.bl _)
  | some c =>
    obtain ⟨hc, a, dd, rfl, ha, hxd⟩ := hx
    exact .inr ⟨a, He.ga K c.1, dd, p, clsV K ds, _, anyX (some c) ds, rfl, upd_same, clsV_paired ds, s2.fr _ _ (g2 _ _ (g1 _ _ ha)), hxd.ok ((g1.tr g2).tr s2.fr), X.ex c.1 hc, kitAny_some X hc ds hd, q _ _ _ g2 s2 (.bl _)⟩
/-- caught and kept: `except CartError as e: kept = e`; i is e's place, j the keeper's -/
theorem s_catch {cl ts : List Str} {i j : Nat} {c : Xe} {dd : Option Addr} {D : Ends} {Wout : WX} {σ' : Addr → St} (X : XFc K cl ts) (hc : c.1 ∈ cl) (s : Sta F cs H) (xd : Xd K F c dd) (hij : ∀ v, (σ.set i (some v))[i]? = some (some v)) (hσ : ∀ a, (((σ.set i (some (.ref a))).set j (some (.ref a))).set i none) = σ' a)
    (q : ∀ a F2 H2, Gr F F2 → Sta F2 cs H2 → Xv K cl F2 (.ref a) (some c) → D.nx (σ' a) H2) :
    wKeep K (.ref (He.ga K "CartError")) i (fun _ _ _ => tAsg (tVar i) (gName j)) Wout D (.ref (He.ga K c.1)) dd σ H := by
  refine ⟨true, X.exm c.1 hc, fun _ => ⟨_, rfl, fun a ha => ?_⟩, fun z => nomatch z⟩
  refine ⟨.ref a, hij _, ha, ?_⟩
  rw [hσ a]
  exact q a _ _ (Gr.new (s.fr.back ha)) (s.lay ha) ⟨hc, a, dd, rfl, upd_same, xd.gr (Gr.new (s.fr.back ha))⟩
end
end Bw

namespace Bw
open PySem L2
/-! tuple(xs), list(a tuple), tuple + tuple -/
abbrev rTupleL (K : PySem.W.Frag) : List V → Hp → VK → Prop := fun xs H Q => ∃ p ys, xs = [.ref p] ∧ ((SqL K H p ys ∧ ∀ l, H l = none → Q (.ref l) (upd H l (.tup ys))) ∨ (SqT K H p ys ∧ Q (.ref p) H))
theorem cr_tuple {X : Cx} : CallR X (.type "tuple") (rTupleL X.K) := call_tuple_of
section
variable {K : PySem.W.Frag} {σ : St} {F : Hp} {cs cs1 cs2 : Cs} {as : TA} {ta tb : TE}
theorem d_tupleL {ds : List PyData} (h : EvDs K as σ F cs [.list ds] cs1) : EvD K (tCB (rTupleL K) as) σ F cs (.tuple ds) cs1 := fun F1 H1 g1 s Q q =>
  h F1 H1 g1 s _ fun v F2 H2 g2 s2 h2 => by
    obtain ⟨v, rfl, k⟩ := h2.one
    obtain ⟨p, ys, rfl, hl, hd⟩ := k.toLst
    refine ⟨p, ys, rfl, .inl ⟨gr_L s2.fr hl, fun l nl => ?_⟩⟩
    have g3 : Gr F2 (upd F2 l (.tup ys)) := Gr.new (s2.fr.back nl)
    exact q _ _ _ (g2.tr g3) (s2.lay nl) (.tup (.inl (.inl upd_same)) (hd.gr g3))
theorem d_tupleT {ds : List PyData} (h : EvDs K as σ F cs [.tuple ds] cs1) : EvD K (tCB (rTupleL K) as) σ F cs (.tuple ds) cs1 := fun F1 H1 g1 s Q q =>
  h F1 H1 g1 s _ fun v F2 H2 g2 s2 h2 => by
    obtain ⟨v, rfl, k⟩ := h2.one
    obtain ⟨p, ys, rfl, hl, hd⟩ := k.toTup
    exact ⟨p, ys, rfl, .inr ⟨gr_T s2.fr hl, q _ _ _ g2 s2 (.tup hl hd)⟩⟩
theorem c_listT {ds : List PyData} (h : EvDs K as σ F cs [.tuple ds] cs1) : EvC K (tCB (rListS K) as) σ F cs ds cs1 := fun F1 H1 g1 s Q q =>
  h F1 H1 g1 s _ fun v F2 H2 g2 s2 h2 => by
    obtain ⟨v, rfl, k⟩ := h2.one
    obtain ⟨p, ys, rfl, hl, hd⟩ := k.toTup
    exact ⟨p, ys, rfl, .inr (gr_T s2.fr hl), fun l nl => q _ _ _ _ g2 (s2.cell nl) hd⟩
theorem d_catT {ds es : List PyData} (ha : EvD K ta σ F cs (.tuple ds) cs1) (hb : EvD K tb σ F cs1 (.tuple es) cs2) (hn : ds ≠ []) (he : es ≠ []) (hl : ds.length + es.length ≤ 100000) : EvD K (tOp (rCatT K) ta tb) σ F cs (.tuple (ds ++ es)) cs2 :=
  d_op ha hb fun x y F2 H2 hx hy s _ Q q => by
    obtain ⟨p, vs, rfl, h1, k1⟩ := hx.toTup
    obtain ⟨p', ws, rfl, h2, k2⟩ := hy.toTup
    have l1 := k1.len
    have l2 := k2.len
    have e2 : ws ≠ [] := fun z => he (List.length_eq_zero_iff.mp (by rw [← l2, z]; rfl))
    refine ⟨p, p', vs, ws, rfl, rfl, gr_T s.fr h1, gr_T s.fr h2, fun z => hn (List.length_eq_zero_iff.mp (by rw [← l1, z]; rfl)), by rw [l1, l2]; exact sz hl, fun z => absurd z e2, fun _ l nl => ?_⟩
    have g3 : Gr F2 (upd F2 l (.tup (vs ++ ws))) := Gr.new (s.fr.back nl)
    exact q _ _ _ g3 (s.lay nl) (.tup (.inl (.inl upd_same)) ((k1.gr g3).app (k2.gr g3)))
end
end Bw

namespace Bw
open PySem L2
/-! raise and try, put together for the generator -/
abbrev WX0 (E : XK) : WX := fun cls d _ H => E cls d H
def tRaiseX (W : WX) (C : Addr) : TS := fun _ σ H => W (.ref C) none σ H
/-- a plain exception class of the program -/
def excB (K : PySem.W.Frag) (x : Str) : Bool := PySem.W.excIn K (He.ga K x) [.type "ValueError", .type "Exception", .type "BaseException", .type "object"] "ValueError.__new__" && PySem.W.keepIn K (.ref (He.ga K x)) &&
  PySem.W.subIn K (.ref (He.ga K x)) (.type "BaseException") == some true && PySem.W.typeIn K (.ref (He.ga K x)) == some (.type "type")
structure ExD (K : PySem.W.Frag) (mg : Str → Option Value) (x : Str) : Prop where
  b : excB K x = true
  gm : mg x = some (.ref (He.ga K x))
section
variable {X : Cx} {W : WX} {body : List Stmt} {t : TS}
theorem pss_tk (tk : Takes X W) (h : Takes X W → PSs X body t) : PSs X body t := h tk
theorem ps_raiseX {x m : Str} {j : Nat} {p p2 pos pos' : Pos} (hc : X.calm = true) (tk : Takes X W) (e : ExD X.K X.mg x) (hg : Gl X x) (hdb : (x == ("__debug__" : Str)) = false := by decide) :
    PS X (.Raise (some (.Call (.Name x p) [.Constant (.str m) j p2] [] pos)) none pos') (tRaiseX W (He.ga X.K x)) := by
  have hb := e.b
  unfold excB at hb
  simp only [Bool.and_eq_true, beq_iff_eq] at hb
  obtain ⟨⟨⟨h1, h2⟩, h3⟩, h4⟩ := hb
  exact ps_raise hc tk (pmk_own PySem.F.excBase_ValueError h1 e.gm h2 (raises_own h3 h4) hg hdb)
theorem takesF : Takes X.nox WF0 := fun u s' h => by
  obtain ⟨a, B, sI, pins, σ, H, cls, d, _, _, _, _, _, _, _, _, w⟩ := h
  exact False.elim w
def tTryK (K : PySem.W.Frag) (i j : Nat) (Wout : WX) (tb : WX → TS) : TS := fun D σ H => tb (wKeep K (.ref (He.ga K "CartError")) i (fun _ _ _ => tAsg (tVar i) (gName j)) Wout D) D σ H
end
section
variable {K : PySem.W.Frag} {σ : St} {F : Hp} {cs : Cs} {H : Hp} {W : WX} {D : Ends}
theorem s_raise {C : Addr} (h : W (.ref C) none σ H) : tRaiseX W C D σ H := h
end
end Bw
namespace Bw
open PySem L2
def tupD2 : PyData → Option (PyData × PyData)
  | .tuple [a, b] => some (a, b)
  | _ => none
def tupD3 : PyData → Option (PyData × PyData × PyData)
  | .tuple [a, b, c] => some (a, b, c)
  | _ => none
def tupD4 : PyData → Option (PyData × PyData × PyData × PyData)
  | .tuple [a, b, c, d] => some (a, b, c, d)
  | _ => none
theorem tupD2_eq {d : PyData} {p : PyData × PyData} (h : tupD2 d = some p) : d = .tuple [p.1, p.2] := by
  unfold tupD2 at h; split at h
  · cases h; rfl
  · cases h
theorem tupD3_eq {d : PyData} {p : PyData × PyData × PyData} (h : tupD3 d = some p) : d = .tuple [p.1, p.2.1, p.2.2] := by
  unfold tupD3 at h; split at h
  · cases h; rfl
  · cases h
theorem tupD4_eq {d : PyData} {p : PyData × PyData × PyData × PyData} (h : tupD4 d = some p) : d = .tuple [p.1, p.2.1, p.2.2.1, p.2.2.2] := by
  unfold tupD4 at h; split at h
  · cases h; rfl
  · cases h
end Bw
namespace Bw
open PySem L2
theorem s_tryJ {K : PySem.W.Frag} {σ : St} {H : Hp} {nx bk ct : St → Hp → Prop} {rt : V → Hp → Prop} {i j : Nat} {Wout : WX} {tb : WX → TS} (J : St → Hp → Prop) (rest : ∀ σ' H', J σ' H' → nx σ' H')
    (body : (∀ σ' H', J σ' H' → nx σ' H') → tb (wKeep K (.ref (He.ga K "CartError")) i (fun _ _ _ => tAsg (tVar i) (gName j)) Wout ⟨nx, rt, bk, ct⟩) ⟨nx, rt, bk, ct⟩ σ H) : tTryK K i j Wout tb ⟨nx, rt, bk, ct⟩ σ H := body rest
end Bw
namespace Bw
open PySem L2
/-! the facts of the classes, told by the head -/
def ceB (K : PySem.W.Frag) : Bool := PySem.W.specialIn K (.ref (He.ga K "CartError")) "__getattribute__" == some (some (.builtin "type.__getattribute__")) && PySem.W.readsIn K (He.ga K "CartError") (.type "type") && (match PySem.W.findCls K (.ref (He.ga K "CartError")) (.type "type") "__init__" with
  | some (.val (.builtin n)) => n == "ValueError.__init__"
  | _ => false) && PySem.W.keepIn K (.ref (He.ga K "CartError"))
/-- a class with an own __init__ and a field -/
def oexB (K : PySem.W.Frag) (C : Addr) (f : Str) : Bool := (match K.lookup C with
  | some ⟨.type "type", _, .cls cd, sl⟩ => (match cd.mro, sl.toList with
    | .ref C' :: bm, [_, _, _, _, some (.builtin n), _] => C' == C && n == "ValueError.__new__" && !cd.hasDel && cd.hasDict && HandSPX.refsVE bm
    | _, _ => false)
  | _ => false) && PySem.W.findIn K (.ref C) "__setattr__" == some (some (.builtin "object.__setattr__")) && PySem.W.subIn K (.ref C) (.type "BaseException") == some true && PySem.W.typeIn K (.ref C) == some (.type "type") && PySem.W.keepIn K (.ref C) &&
  PySem.W.findIn K (.ref C) "__init__" == some (some (.ref (He.ma K C "__init__"))) && PySem.W.typeIn K (.ref (He.ma K C "__init__")) == some (.type "function") && xfB K C && PySem.W.findIn K (.ref C) f == some none
structure OexF (K : PySem.W.Frag) (C : Addr) (f : Str) : Prop where
  T : OexC K C
  iC : PySem.W.findIn K (.ref C) "__init__" = some (some (.ref (He.ma K C "__init__")))
  tI : PySem.W.typeIn K (.ref (He.ma K C "__init__")) = some (.type "function")
  xf : xfB K C = true
  no : PySem.W.findIn K (.ref C) f = some none
theorem oex_of {K : PySem.W.Frag} {C : Addr} {f : Str} (h : oexB K C f = true) : OexF K C f := by
  unfold oexB at h
  simp only [Bool.and_eq_true, beq_iff_eq] at h
  obtain ⟨⟨⟨⟨⟨⟨⟨⟨q, h2⟩, h3⟩, h4⟩, h5⟩, h6⟩, h7⟩, h8⟩, h9⟩ := h
  refine ⟨⟨?_, h2, h3, h4, h5⟩, h6, h7, h8, h9⟩
  split at q
  · rename_i dd cd sl ho
    split at q
    · rename_i C' bm k0 k1 k2 k3 n k5 hm hs
      simp only [Bool.and_eq_true, beq_iff_eq, Bool.not_eq_true'] at q
      obtain ⟨⟨⟨⟨rfl, rfl⟩, hdel⟩, hdi⟩, ht⟩ := q
      obtain ⟨nm, bs, mro, ns, qn, hd, sn, sub, ab, col, del⟩ := cd
      dsimp only at hm hdel hdi
      subst hm hdel hdi
      have hsl : sl = #[k0, k1, k2, k3, some (.builtin "ValueError.__new__"), k5] := by
        obtain ⟨l⟩ := sl
        simp only at hs
        rw [hs]
      subst hsl
      exact ⟨nm, qn, ns, bs, bm, sn, sub, ab, col, dd, k0, k1, k2, k3, k5, ho, ht⟩
    · cases q
  · cases q
def xfcB (cl ts : List Str) (K : PySem.W.Frag) : Bool := (cl.all fun c => ExC K (He.ga K c) && (ts.all fun d => PySem.W.kitOne K (.ref (He.ga K c)) (.ref (He.ga K d)) == some (subX c d)) && PySem.W.kitOne K (.ref (He.ga K c)) (.type "ValueError") == some true &&
  PySem.W.exmOne K (.ref (He.ga K c)) (.ref (He.ga K "CartError")) == some true && (match fld c with
    | none => excB K c
    | some f => oexB K (He.ga K c) f)) && (ts.all fun d => PySem.W.kitOne K (.type "NoneType") (.ref (He.ga K d)) == some false) && ceB K
theorem xfc_of {cl ts : List Str} {K : PySem.W.Frag} (h : xfcB cl ts K = true) : XFc K cl ts := by
  unfold xfcB at h
  rw [Bool.and_eq_true, Bool.and_eq_true, List.all_eq_true, List.all_eq_true] at h
  obtain ⟨⟨h1, h2⟩, _⟩ := h
  have k : ∀ c ∈ cl, _ := fun c hc => h1 c hc
  simp only [Bool.and_eq_true, List.all_eq_true, beq_iff_eq] at k h2
  refine ⟨fun c hc => (k c hc).1.1.1.1, fun c hc d hd => (k c hc).1.1.1.2 d hd, fun c hc => (k c hc).1.1.2, fun d hd => h2 d hd, fun c hc => (k c hc).1.2, fun c hc f hf => ?_⟩
  have z := (k c hc).2
  rw [hf] at z
  exact ⟨(oex_of z).xf, (oex_of z).no⟩
theorem ce_of {cl ts : List Str} {K : PySem.W.Frag} (h : xfcB cl ts K = true) : ceB K = true := by
  unfold xfcB at h
  rw [Bool.and_eq_true] at h
  exact h.2
theorem oxf_of {cl ts : List Str} {K : PySem.W.Frag} (h : xfcB cl ts K = true) {c f : Str} (hc : c ∈ cl) (hf : fld c = some f) : OexF K (He.ga K c) f := by
  unfold xfcB at h
  rw [Bool.and_eq_true, Bool.and_eq_true, List.all_eq_true] at h
  have k := h.1.1 c hc
  simp only [Bool.and_eq_true] at k
  have z := k.2
  rw [hf] at z
  exact oex_of z
theorem exd_of {cl ts : List Str} {K : PySem.W.Frag} {mg : Str → Option Value} (h : xfcB cl ts K = true) {c : Str} (hc : c ∈ cl) (hf : fld c = none) (g : mg c = some (.ref (He.ga K c))) : ExD K mg c := by
  unfold xfcB at h
  rw [Bool.and_eq_true, Bool.and_eq_true, List.all_eq_true] at h
  have k := h.1.1 c hc
  simp only [Bool.and_eq_true] at k
  have z := k.2
  rw [hf] at z
  exact ⟨z, g⟩
def asCS (g : Addr → Option Obj) (n : Nat) : List Addr := He.asD g n ++ [cStatics]
def hookB (n : Nat) (fa : List He.Fa) (fn : List He.DefD) (ex : PySem.W.Frag → Bool) : PySem.W.Hook where
  α := He.AlD × Bool
  obs := fun s => (He.obsD fa fn (He.frG s.heap.get? (asCS s.heap.get? n)), ex (He.frG s.heap.get? (asCS s.heap.get? n)))
  val := fun _ => (He.valD fn, true)
  says := fun _ h => ∃ K : PySem.W.Frag, K.In h ∧ He.SaysD fa fn K ∧ ex K = true
  of := fun _ _ e => ⟨_, He.frG_in, congrArg (fun z : He.AlD × Bool => z.1) e, congrArg (fun z : He.AlD × Bool => z.2) e⟩
  keeps := fun _ _ _ ⟨K, hK, c⟩ k => ⟨K, PySem.W.Frag.In.keeps hK k, c⟩
def obsB (n : Nat) (fa : List He.Fa) (fn : List He.DefD) (ex : PySem.W.Frag → Bool) (g : Addr → Option Obj) : He.AlD × Bool := (He.obsD fa fn (He.frG g (asCS g n)), ex (He.frG g (asCS g n)))
theorem obsB_eq {n : Nat} {fa : List He.Fa} {fn : List He.DefD} {ex : PySem.W.Frag → Bool} {g : Addr → Option Obj} {s : Shared} (h : ∀ a, g a = s.heap.get? a) : obsB n fa fn ex g = (hookB n fa fn ex).obs s := by
  have e : g = s.heap.get? := funext h
  rw [e]; rfl
end Bw

namespace Bw
open PySem L2
/-! dict(a list of pairs) -/
abbrev rDictP (K : PySem.W.Frag) : List V → Hp → VK → Prop := fun xs H Q => ∃ (a : Addr) (ps : List Addr) (kvs : List (Key × V)), xs = [.ref a] ∧ SqL K H a (ps.map V.ref) ∧ Paired (fun p kv => SqT K H p [kV kv.1, kv.2]) ps kvs ∧ ∀ p, H p = none → Q (.ref p) (upd H p (.dK (mergeK [] kvs)))
theorem cr_dictP {X : Cx} (hc : X.calm = true) : CallR X (.type "dict") (rDictP X.K) := call_dictP hc
section
variable {K : PySem.W.Frag} {σ : St} {F : Hp} {cs cs1 : Cs} {as : TA}
theorem dts_pairs {ν : Type} {ev : ν → PyData} {vf : ν → V} (hv : ∀ F v x, Dt K F v (ev x) → v = vf x) {H : Hp} (g : Gr F H) : ∀ {xs : List (Str × ν)} {vs : List V}, Dts K F vs (xs.map (eT2 eS ev)) → ∃ ps : List Addr, vs = ps.map V.ref ∧ Paired (fun p kv => SqT K H p [kV kv.1, kv.2]) ps (kvE kS vf xs)
  | [], vs, h => by cases h; exact ⟨[], rfl, .nil⟩
  | x :: xs, vs, h => by
    cases h with
    | cons a b =>
      obtain ⟨p, v1, v2, rfl, hT, k1, k2⟩ := u2 a
      obtain ⟨ps, rfl, hp⟩ := dts_pairs hv g b
      cases k1.toStr
      cases hv _ _ _ k2
      exact ⟨p :: ps, rfl, .cons (gr_T g hT) hp⟩
/-- .. as a thing -/
theorem d_dictP {ν : Type} {ev : ν → PyData} {vf : ν → V} (hv : ∀ F v x, Dt K F v (ev x) → v = vf x) {xs : List (Str × ν)} (h : EvDs K as σ F cs [eL (eT2 eS ev) xs] cs1) : EvD K (tCB (rDictP K) as) σ F cs (.dict []) cs1 := fun F1 H1 g1 s Q q =>
  h F1 H1 g1 s _ fun v F2 H2 g2 s2 h2 => by
    obtain ⟨v, rfl, k⟩ := h2.one
    obtain ⟨p, ys, rfl, hl, hd⟩ := k.toLst
    obtain ⟨ps, rfl, hp⟩ := dts_pairs hv s2.fr hd
    exact ⟨p, ps, _, rfl, gr_L s2.fr hl, hp, fun l nl => q _ _ _ (g2.tr (Gr.new (s2.fr.back nl))) (s2.lay nl) (.dct upd_same)⟩
end
end Bw

namespace Bw
open PySem L2
/-! exceptions with a field: raised, kept, read -/
/-- what may stand in the text of an exception -/
def FmV (v : V) : Prop := (∃ y : Str, v = .str y ∧ y.length ≤ 1000) ∨ ∃ i : Int, v = .int i ∧ i.natAbs.log2 < 1920 ∧ (toString i : Str).length ≤ 1000
def spI (C : Addr) (f : Str) : Sp := fun vs H Q _ => ∃ a v, vs = [.ref a, v] ∧ H a = some (exo a C none) ∧ FmV v ∧ ∀ dx, H dx = none → dx ≠ a → Q .non (upd (upd H dx (exd dx [(f, v)])) a (exo a C (some dx)))
theorem spI_len {C : Addr} {f : Str} {vs : List V} {H : Hp} {Q : VK} {E : XK} (h : spI C f vs H Q E) : vs.length = 2 := by
  obtain ⟨a, v, rfl, _⟩ := h; rfl
structure OkI (P : Program) (w : World) (K : PySem.W.Frag) (mg : Str → Option Value) (base : Heap) (x f : Str) : Prop where
  ex : ∃ fd, FnOk P w K mg base CX0 1 (He.ma K (He.ga K x) "__init__") fd ["self", f] (spI (He.ga K x) f) ∧ Binds K fd ["self", f] []
  gm : mg x = some (.ref (He.ga K x))
  T : OexF K (He.ga K x) f
section
variable {X : Cx} {e : Expr} {es : List Expr} {te : TE} {ta : TA} {p1 p2 pos p pos' : Pos} {W : WX}
theorem pe_ceinit {pl : Sem Bool} (hg : Gl X "CartError") (hm : X.mg "CartError" = some (.ref (He.ga X.K "CartError"))) (ce : ceB X.K = true) (ha : PA X (e :: es) ta)
    (hc : eval (.Call (.Attribute (.Name "CartError" p1) "__init__" p2) (e :: es) [] pos) X.env = (do
      let ov ← eval (.Name "CartError" p1) X.env
      standAt p2.atName
      let (f, first) ← holding [ov] (getMethod ov "__init__" pl)
      callWith pos f first (backTo pos (starEach (e :: es) X.env)) (backToKw pos (keywordEach [] X.env))) := by rfl)
    (he : starEach (e :: es) X.env = (false, eval e X.env) :: starEach es X.env := by rfl) (hpl : (backTo pos (starEach es X.env)).any (·.1) = false := by rfl) :
    PE X (.Call (.Attribute (.Name "CartError" p1) "__init__" p2) (e :: es) [] pos) (tVeI X.K ta) := by
  unfold ceB at ce
  simp only [Bool.and_eq_true, beq_iff_eq] at ce
  obtain ⟨⟨⟨c1, c2⟩, c3⟩, c4⟩ := ce
  have vV : PySem.W.findCls X.K (.ref (He.ga X.K "CartError")) (.type "type") "__init__" = some (.val (.builtin "ValueError.__init__")) := by
    split at c3
    · rename_i n h; rw [h]; rw [beq_iff_eq] at c3; rw [c3]
    · cases c3
  refine ⟨fun pins s σ H Q I h => ?_⟩
  refine PySem.W.methodCall_KW (ld_glob I hg hm ?_ (by decide)) hc
  refine PySem.W.method_cls I.kIn c1 (PySem.W.cls_value I.kIn c2 vV (by decide +kernel) ?_)
  show wpAny _ _ (callWith pos (Value.builtin "ValueError.__init__") [] (backTo pos (starEach (e :: es) X.env)) []) _ _ _
  refine PyProof.Rows.callWith_method1 (thn (ha.run pos pins _ σ H _ (I.tok _) h) fun us s1 ⟨vs, H1, I1, r1, a, C, ws, ev, hl, T, ea, q⟩ => ?_) he hpl
  subst ev
  cases r1 with
  | @cons _ u0 _ ur ra rw' =>
    obtain rfl : u0 = Value.ref a := ra
    have hlen : ur.length ≤ sizeLine := by
      rw [← Paired.length rw', sizeLine_eq]
      omega
    exact oinit_ok T I1 ea hlen fun s' J => ⟨.non, H1, J, rfl, q⟩
def tRaiseF (K : PySem.W.Frag) (W : WX) (x f : Str) (te : TE) : TS := fun _ σ H => tMkO (He.ga K x) (spI (He.ga K x) f) [] (tCons te tNil) σ H fun cls d H' => W cls d σ H'
theorem ps_raiseF {x f : Str} (hc : X.calm = true) (tk : Takes X W) (F : OkI X.prog X.w X.K X.mg X.base x f) (hr : Room 2 X.A) (hg : Gl X x) (he : PE X e te) (hdb : (x == ("__debug__" : Str)) = false := by decide)
    (hs : starEach [e] X.env = (false, eval e X.env) :: starEach [] X.env := by rfl) (hpl : (backTo pos (starEach [] X.env)).any (·.1) = false := by rfl) :
    PS X (.Raise (some (.Call (.Name x p) [e] [] pos)) none pos') (tRaiseF X.K W x f te) := by
  obtain ⟨fd, F1, hb⟩ := F.ex
  exact ps_raise hc tk (pmk_oex F.T.T F.T.iC F.T.tI F1 hr hb .nil pass0 hg F.gm (pa_cons he pa_nil (hs := hs)) hdb hs hpl)
/-- x.f, where x holds an exception that is kept -/
def tXat (K : PySem.W.Frag) (f : Str) (te : TE) : TE := fun σ H Q => te σ H fun x H1 => ∃ (a C dd : Addr) (fs : List (Str × V)) (v : V), x = .ref a ∧ H1 a = some (ExK C (some dd) a) ∧ H1 dd = some (.xd fs) ∧ xfB K C = true ∧ PySem.W.findIn K (.ref C) f = some none ∧ fs.lookup f = some v ∧ Q v H1
theorem pe_xat {n : Str} (he : PE X e te) (hb : attributeBase e n X.env (eval e X.env) = eval e X.env := by rfl) : PE X (.Attribute e n pos) (tXat X.K n te) := by
  refine ⟨fun pins s σ H Q I h => ?_⟩
  refine attr_of hb (thn (he.run pins s σ H _ I h) fun u s1 hh => ?_)
  obtain ⟨x, H1, I1, rx, a, C, dd, fs, v, ex, ha, ea, xf, hno, l, q⟩ := hh
  subst ex
  obtain rfl : u = Value.ref a := rx
  have T := xfB_ok xf
  have hk : ObjOk X.prog X.w H1 s1.heap a (.ext fun h => ∃ (oe : Obj) (vs : Array Value), h.get? a = some oe ∧ oe.cls = .ref C ∧ oe.dict = some dd ∧ oe.data = .fields vs) := I1.hok a _ ha
  obtain ⟨⟨oe, vs, e1, e2, e3, hd⟩, _⟩ := hk
  have hx : ObjOk X.prog X.w H1 s1.heap dd (.xd fs) := I1.hok dd _ ea
  obtain ⟨mA, hns, hr⟩ := hx
  obtain ⟨od, ho, hl⟩ := lookIn_ns hns
  obtain ⟨u, hu, ru⟩ := RelO.some_of (v := v) (o := mA n) (by rw [← l]; exact hr n)
  have J : PySem.W.InstAt s1.heap a oe C (some od) := ⟨e1, e2, by unfold PySem.W.notCls; rw [hd] <;> rfl, by rw [e3]; exact ho⟩
  exact HandSPX.exc_get I1.kIn J T.ga T.gg T.exC (PySem.W.findObj_own T.hdC hno rfl (by rw [hl, hu])) (handed_of ru) ⟨v, H1, I1.tok _, ru, q⟩
end
/-- self, x: CartError.__init__(self, f'm{x}'); self.x = x -/
def tInit (K : PySem.W.Frag) (f m : Str) : TS := tSeq (tDrop (tVeI K (tCons (tVar 0) (tCons (fun σ H Q => tJs [tC (.str m), tFmt (tVar 1)] Str.empty σ H fun out H1 => Q (.str out) H1) tNil)))) (tOst K f (tVar 0) (tVar 1))
theorem w_init {K : PySem.W.Frag} {C : Addr} {f m : Str} {vs : List V} {H : Hp} {Q : VK} {E : XK} (T : OexF K C f) (hm : m.length ≤ 1000) (h : spI C f vs H Q E) : tInit K f m { nx := fun _ H' => Q .non H', rt := Q } (start ["self", f] vs) H := by
  obtain ⟨a, v, rfl, ha, fm, q⟩ := h
  have sl : sizeLine = sizeLine := rfl
  refine ⟨.ref a, rfl, m, rfl, ?_, v, rfl, ?_⟩
  · rw [sizeLine_eq, Str.length_append]; have : Str.empty.length = 0 := rfl; omega
  have fin : ∀ y : Str, y.length ≤ 1000 → ∃ z : Str, V.str y = V.str z ∧ (Str.empty ++ m ++ z).length ≤ sizeLine ∧ tJs [] (Str.empty ++ m ++ z) [some (.ref a), some v] H fun out H1 => tNil [some (.ref a), some v] H1 fun ws H2 => ∃ (a' C' : Addr) (ws' : List V), (.ref a :: .str out :: ws) = .ref a' :: ws' ∧ ws'.length ≤ 1000 ∧ OexC K C' ∧ H2 a' = some (exo a' C' none) ∧ tOst K f (tVar 0) (tVar 1) { nx := fun _ H' => Q .non H', rt := Q } [some (.ref a), some v] H2 := fun y hy => by
    refine ⟨y, rfl, ?_, ?_⟩
    · rw [sizeLine_eq, Str.length_append, Str.length_append]; have : Str.empty.length = 0 := rfl; omega
    · refine ⟨a, C, _, rfl, Nat.le_of_ble_eq_true rfl, T.T, ha, ?_⟩
      exact ⟨v, rfl, .ref a, rfl, a, C, rfl, T.T, T.no, .inl ⟨ha, fun dx hx hn => q dx hx hn⟩⟩
  rcases fm with ⟨y, rfl, hy⟩ | ⟨i, rfl, hi, hy⟩
  · refine .inl ⟨y, rfl, by rw [sizeLine_eq]; omega, ?_⟩
    exact fin y hy
  · exact .inr ⟨i, rfl, hi, fin _ hy⟩
section
variable {K : PySem.W.Frag} {σ : St} {F : Hp} {cs cs1 : Cs} {H : Hp} {te : TE} {W : WX} {D : Ends}
/-- a thing that may stand in the text of an exception -/
def fmB : PyData → Bool
  | .str y => decide (y.length ≤ 1000)
  | .int i => decide (i.natAbs.log2 < 1920) && decide ((toString i : Str).length ≤ 1000)
  | _ => false
theorem fmV_of {v : V} {d : PyData} (h : Dt K F v d) (b : fmB d = true) : FmV v := by
  cases d with
  | str y => cases h.toStr; exact .inl ⟨y, rfl, of_decide_eq_true b⟩
  | int i =>
    cases h.toInt
    obtain ⟨b1, b2⟩ := Bool.and_eq_true_iff.mp b
    exact .inr ⟨i, rfl, of_decide_eq_true b1, of_decide_eq_true b2⟩
  | _ => cases b
theorem s_raiseF {d : PyData} {x f : Str} (s : Sta F cs H) (h : EvD K te σ F cs d cs1) (b : fmB d = true) (hf : fld x = some f) (q : ∀ dd F2 H2, Gr F F2 → Sta F2 cs1 H2 → Xd K F2 (x, d) dd → W (.ref (He.ga K x)) dd σ H2) : tRaiseF K W x f te D σ H := by
  refine h F H .rfl s _ fun v F2 H2 g2 s2 hv => ⟨Nat.le_of_ble_eq_true rfl, fun a ha => ?_⟩
  refine ⟨a, v, rfl, upd_same, fmV_of hv b, fun dx hx hn => ⟨rfl, dx, [(f, v)], upd_same, ?_, ?_, ?_⟩⟩
  · rw [upd_ne hn, upd_same]
  · rw [upd_ne hn] at hx; exact hx
  · rw [upd_ne hn] at hx
    have e : upd (del (upd (upd (upd H2 a (exo a (He.ga K x) none)) dx (exd dx [(f, v)])) a (exo a (He.ga K x) (some dx))) a) dx (.xd [(f, v)]) = upd H2 dx (.xd [(f, v)]) := by
      funext z
      by_cases hz : z = dx
      · rw [hz, upd_same, upd_same]
      · rw [upd_ne hz, upd_ne hz]
        by_cases hza : z = a
        · rw [hza, del_same, ha]
        · rw [del_ne hza, upd_ne hza, upd_ne hz, upd_ne hza]
    rw [e]
    have g3 : Gr F2 (upd F2 dx (.xd [(f, v)])) := Gr.new (s2.fr.back hx)
    refine q _ _ _ (g2.tr g3) (s2.lay hx) ?_
    unfold Xd
    rw [hf]
    exact ⟨dx, v, rfl, upd_same, hv.gr g3⟩
def partM (f : Str) (o : Option Xe) : Option PyData := match o with
  | some e => if fld e.1 = some f then some e.2 else none
  | none => none
theorem d_xat {cl ts : List Str} {o : Option Xe} {v : V} {i : Nat} {f : Str} {d : PyData} (X : XFc K cl ts) (hi : σ[i]? = some (some v)) (hx : Xv K cl F v o) (h : partM f o = some d) : EvD K (tXat K f (tVar i)) σ F cs d cs := fun F1 H1 g1 s Q q => by
  cases o with
  | none => cases h
  | some e =>
    obtain ⟨hc, a, dd, rfl, ha, hxd⟩ := hx
    unfold partM at h
    dsimp only at h
    split at h
    · rename_i hf
      cases h
      unfold Xd at hxd
      rw [hf] at hxd
      obtain ⟨z, w, rfl, hz, hw⟩ := hxd
      obtain ⟨x1, x2⟩ := X.fl _ hc f hf
      refine ⟨.ref a, hi, a, He.ga K e.1, z, [(f, w)], w, rfl, s.fr _ _ (g1 _ _ ha), s.fr _ _ (g1 _ _ hz), x1, x2, ?_, q w F1 H1 .rfl s (hw.gr g1)⟩
      simp [List.lookup]
    · cases h
end
end Bw
namespace Bw
open PySem L2
theorem xd0 {K : PySem.W.Frag} {F : Hp} {c : Str} {d : PyData} (h : fld c = none) : Xd K F (c, d) none := by
  unfold Xd; rw [h]
def fmM (d : PyData) : Option Unit := if fmB d = true then some () else none
theorem fmM_ok {d : PyData} {u : Unit} (h : fmM d = some u) : fmB d = true := by
  unfold fmM at h
  split at h
  · assumption
  · cases h
end Bw

namespace Bw
open PySem PySem.Spec PyProof.Rows L2
/-! an old list, repeated -/
def rRepS (K : PySem.W.Frag) : R2 := fun x y H Q => ∃ l k xs, x = .ref l ∧ y = .int k ∧ SqL K H l xs ∧ -(2 ^ 63) ≤ k ∧ k < 2 ^ 63 ∧ xs.length * k.toNat ≤ sizeLine ∧
  ∀ p, H p = none → Q (.ref p) (upd H p (.lst (List.replicate k.toNat xs).flatten))
theorem rmulW (a : Int) (t : Tok) (l : Addr) (items : Array Value) (n : Nat) (dd : Option Addr) (sl : Array (Option Value)) :
    Meets (Builtin.«int.__rmul__» ⟨[.int a t, .ref l], []⟩) (fun _ R s => s.heap.get? l = some { cls := .type "list", dict := dd, data := .seq items n, slots := sl } ∧ R (.ok (.ret Value.notImplemented)) s) :=
  .of_wp fun prog w A R s h => by
    obtain ⟨hp, g, d, tk, os⟩ := s; obtain ⟨hl, h⟩ := h
    wp_walk using PyProof.Rows.wpAny_loadPart' hl
    exact ⟨_, rfl, h⟩
theorem mulW (l : Addr) (items : Array Value) (n : Nat) (dd : Option Addr) (sl : Array (Option Value)) (x : Int) (u : Tok) (hc0 : ¬(!Builtin.List.listFitsIndex x) = true) (hc1 : ¬items.size * x.toNat > (2 ^ 63 - 1) / 8) (hc2 : ¬Builtin.List.listTooLong (items.size * x.toNat) = true) :
    Meets (Builtin.«list.__mul__» ⟨[.ref l, .int x u], []⟩) (fun _ R s => s.heap.get? l = some { cls := .type "list", dict := dd, data := .seq items n, slots := sl } ∧ R (.ok (.ret (Value.ref s.heap.objs.size))) { s with heap := s.heap.push { cls := Value.type "list", data := Data.seq (List.foldl (fun x1 x2 => x1 ++ x2) #[] (List.replicate (if items.isEmpty = true then 0 else x.toNat) items)) }, toks := s.toks }) :=
  .of_wp fun prog w A R s h => by
    obtain ⟨hp, g, d, tk, os⟩ := s; obtain ⟨hl, h⟩ := h
    have hsz := PySem.AutoListH.joined_fits hc2
    wp_walk using PyProof.Rows.wpAny_loadPart' hl
    refine wpAny_ite_false (decide_eq_false (Nat.not_lt.mpr hsz)) ?_
    wp_walk using PyProof.Rows.wpAny_loadPart' hl
    exact ⟨_, rfl, h⟩
theorem op_repS {X : Cx} : OpR X (binaryOp .Mult) (rRepS X.K) := by
  intro pins s σ H x y v u Q I rx ry h
  obtain ⟨l, k, xs, rfl, rfl, hH, h1, h2, hz, q⟩ := h
  cases rx
  obtain ⟨t, rfl⟩ := ry
  obtain ⟨its, r, pl, _⟩ := I.list hH
  have hl := r.length
  obtain ⟨⟨cls, dd, data, sl⟩, e, hc, n, hd⟩ := pl.isList
  simp only at hc hd
  subst hc hd
  have hlen : its.toArray.size * k.toNat ≤ sizeLine := by rw [List.size_toArray, ← hl]; exact hz
  have hcap : ¬ its.toArray.size * k.toNat > (2 ^ 63 - 1) / 8 := by
    have : (sizeLine : Nat) ≤ (2 ^ 63 - 1) / 8 := by decide
    omega
  have hfit : ¬ (!Builtin.List.listFitsIndex k) = true := by
    rw [fitsIndex_both h1 h2]
    exact Bool.false_ne_true
  have hlong : ¬ Builtin.List.listTooLong (its.toArray.size * k.toNat) = true := by
    rw [notLongL hlen]
    exact Bool.false_ne_true
  have hnew : List.foldl (fun x1 x2 => x1 ++ x2) #[] (List.replicate (if its.toArray.isEmpty = true then 0 else k.toNat) its.toArray) = (List.replicate k.toNat its).flatten.toArray := by
    have f0 : ∀ m : Nat, List.foldl (fun x1 x2 => x1 ++ x2) #[] (List.replicate m its.toArray) = (List.replicate m its).flatten.toArray := fun m => by
      have := foldl_rep its m []
      rw [List.nil_append] at this
      exact this
    rw [f0]
    cases its with
    | nil => simp
    | cons a r' => rw [if_neg (by simp)]
  refine wpAny_binaryOp_repeat_ref (T := "list") (U := "int") (by decide) ⟨_, e, rfl⟩ (fun s' => typeIs_int s' k t) PySem.noFill_list_mul F.fills_int_mul F.slot_int_rmul PySem.repeat_list F.slot_int_index.lookup
    (call_meets F.slot_int_rmul (typeIs_int s k t) F.entry_int_rmul (F.args_int_rmul_2 _ _) (rmulW k t l its.toArray n dd sl)
      ⟨e, rfl, ⟨_, e, rfl⟩, call_meets F.slot_list_mul ⟨_, e, rfl⟩ F.entry_list_mul (F.args_list_mul_2 _ _) (mulW l its.toArray n dd sl k t hfit hcap hlong) ⟨e, ?_⟩⟩)
  rw [hnew]
  exact ⟨.ref _, _, I.lnew (t' := s.toks) (r.rep k.toNat) (by rw [PyProof.Rows.lm_len_rep_flat, Nat.mul_comm]; exact hz), rfl, q _ I.fresh⟩
end Bw
namespace Bw
open PySem L2
section
variable {K : PySem.W.Frag} {σ : St} {F : Hp} {cs cs1 cs2 cs3 : Cs} {ta tb te : TE} {as : TA} {b : Int} {d : PyData}
theorem c_repS {α : Type} {en : α → PyData} {xs zs : List α} (ha : EvD K ta σ F cs (eL en xs) cs1) (hb : EvD K tb σ F cs1 (.int b) cs2) (hz : repM xs b = some zs) : EvC K (tOp (rRepS K) ta tb) σ F cs (zs.map en) cs2 := fun F1 H1 g1 s Q q =>
  ha F1 H1 g1 s _ fun v F2 H2 g2 s2 h2 => hb F2 H2 (g1.tr g2) s2 _ fun w F3 H3 g3 s3 h3 => by
    cases h3.toInt
    obtain ⟨p, vs, rfl, hl, hd⟩ := (h2.gr g3).toLst
    obtain ⟨⟨h4, h5, h6⟩, rfl⟩ := repM_some hz
    refine ⟨p, b, vs, rfl, rfl, gr_L s3.fr hl, h4, h5, ?_, fun l nl => q _ _ _ _ (g2.tr g3) (s3.cell nl) ?_⟩
    · rw [hd.len, List.length_map]; exact sz h6
    · rw [List.map_flatten, List.map_replicate]; exact hd.rep b.toNat
/-- {} as a thing -/
theorem d_dnew : EvD K tDNewK σ F cs (.dict []) cs := fun F1 H1 g1 s Q q => fun p hp => q _ _ _ (Gr.new (s.fr.back hp)) (s.lay hp) (.dct upd_same)
/-! a new list among the arguments -/
def EvN (K : PySem.W.Frag) (ta : TA) (σ : St) (F : Hp) (cs : Cs) (as : List Ar) (us : List V) (cc cs' : Cs) : Prop :=
  ∀ F1 H1, Gr F F1 → Sta F1 cs H1 → ∀ Q : List V → Hp → Prop, (∀ p vs F2 H2, Gr F1 F2 → Sta F2 ((p, .lst us) :: cs') H2 → ArgR K F2 vs as ((p, .lst us) :: cc) → Q vs H2) → ta σ H1 Q
theorem n_new {xs : List Ar} {cc : Cs} {ds : List PyData} {us : List V} (h : EvC K te σ F cs ds cs1) (hu : ∀ F vs, Dts K F vs ds → vs = us) (h2 : ∀ p, EvR K as σ F ((p, .lst us) :: cs1) xs cc ((p, .lst us) :: cs2)) : EvN K (tCons te as) σ F cs (.c us :: xs) us cc cs2 := fun F1 H1 g1 s Q q =>
  h F1 H1 g1 s _ fun p vs F2 H2 g2 s2 hv => by
    cases hu F2 vs hv
    exact h2 p F2 H2 (g1.tr g2) s2 _ fun ws F3 H3 g3 s3 h3 => q p _ F3 H3 (g2.tr g3) s3 (.c h3)
theorem n_d {xs : List Ar} {cc : Cs} {us : List V} (h : EvD K te σ F cs d cs1) (h2 : EvN K as σ F cs1 xs us cc cs2) : EvN K (tCons te as) σ F cs (.d d :: xs) us cc cs2 := fun F1 H1 g1 s Q q =>
  h F1 H1 g1 s _ fun v F2 H2 g2 s2 hv => h2 F2 H2 (g1.tr g2) s2 _ fun p vs F3 H3 g3 s3 h3 => q p _ F3 H3 (g2.tr g3) s3 (.d (hv.gr g3) h3)
theorem d_callM {α β : Type} {A : α → List Ar} {B : β → PyData} {C : β → List (List V)} {f : α → Option β} {x : α} {y : β} {E : XK} {cc cs' : Cs} {us : List V} (h : EvN K as σ F cs (A x) us cc cs2)
    (hp : ∀ p, Sb ((p, .lst us) :: cs2) ((p, .lst us) :: cc ++ cs')) (hf : f x = some y) (hq : ∀ p, Sb (upC ((p, .lst us) :: cc) (C y) ++ cs') cs3) : EvD K (tCall (spC K A B C f) [] E as) σ F cs (B y) cs3 := fun F1 H1 g1 s Q q =>
  h F1 H1 g1 s _ fun p vs F3 H3 g3 s3 h3 => ⟨F3, (p, .lst us) :: cc, cs', x, y, by rw [List.append_nil]; exact h3, hp p _ _ s3, hf, fun v F4 H4 g4 s4 h4 => q v F4 H4 (g3.tr g4) (hq p _ _ s4) h4⟩
theorem c_callM {α β : Type} {A : α → List Ar} {B : β → List PyData} {C : β → List (List V)} {f : α → Option β} {x : α} {y : β} {E : XK} {cc cs' : Cs} {us : List V} (h : EvN K as σ F cs (A x) us cc cs2)
    (hp : ∀ p, Sb ((p, .lst us) :: cs2) ((p, .lst us) :: cc ++ cs')) (hf : f x = some y) (hq : ∀ p z, Sb (z :: (upC ((p, .lst us) :: cc) (C y) ++ cs')) (z :: cs3)) : EvC K (tCall (spF K A B C f) [] E as) σ F cs (B y) cs3 := fun F1 H1 g1 s Q q =>
  h F1 H1 g1 s _ fun p vs F3 H3 g3 s3 h3 => ⟨F3, (p, .lst us) :: cc, cs', x, y, by rw [List.append_nil]; exact h3, hp p _ _ s3, hf, fun p' us' F4 H4 g4 s4 h4 => q p' us' F4 H4 (g3.tr g4) (hq p _ _ _ s4) h4⟩
theorem o_callRM {α β : Type} {A : α → List Ar} {C : β → List (List V)} {R : β → Hp → V → Cs → Prop} {f : α → Option β} {x : α} {y : β} {E : XK} {cc cs' : Cs} {us : List V} {H : Hp} {Q : VK} (s : Sta F cs H) (h : EvN K as σ F cs (A x) us cc cs2)
    (hp : ∀ p, Sb ((p, .lst us) :: cs2) ((p, .lst us) :: cc ++ cs')) (hf : f x = some y) (hq : ∀ p, Su (upC ((p, .lst us) :: cc) (C y) ++ cs') cs3) (q : ∀ v c F2 H2, Gr F F2 → Sta F2 (c ++ cs3) H2 → R y F2 v c → Q v H2) : tCall (spR K A C R f) [] E as σ H Q :=
  h F H .rfl s _ fun p vs F3 H3 g3 s3 h3 => ⟨F3, (p, .lst us) :: cc, cs', x, y, by rw [List.append_nil]; exact h3, hp p _ _ s3, hf, fun v c F4 H4 g4 s4 r => q v c F4 H4 (g3.tr g4) ((su_app (hq p)).sb _ _ s4) r⟩
theorem d_callRM {α β : Type} {A : α → List Ar} {C : β → List (List V)} {R : β → Hp → V → Cs → Prop} {B : β → PyData} {f : α → Option β} {x : α} {y : β} {E : XK} {cc cs' : Cs} {us : List V} (hR : ∀ y F H v c cs, R y F v c → Sta F (c ++ cs) H → ∃ F', Gr F F' ∧ Sta F' cs H ∧ Dt K F' v (B y)) (h : EvN K as σ F cs (A x) us cc cs2)
    (hp : ∀ p, Sb ((p, .lst us) :: cs2) ((p, .lst us) :: cc ++ cs')) (hf : f x = some y) (hq : ∀ p, Su (upC ((p, .lst us) :: cc) (C y) ++ cs') cs3) : EvD K (tCall (spR K A C R f) [] E as) σ F cs (B y) cs3 := fun F1 H1 g1 s Q q =>
  o_callRM s (fun F2 H2 g2 => h F2 H2 (g1.tr g2)) hp hf hq fun v c F3 H3 g3 s3 r => by
    obtain ⟨F4, g4, s4, d4⟩ := hR y F3 H3 v c cs3 r s3
    exact q v F4 H3 (g3.tr g4) s4 d4
/-! a function of one thing, a kept exception or None -/
def spX (K : PySem.W.Frag) (cl : List Str) {β : Type} (B : β → PyData) (f : Option Xe → Option β) : Sp := fun vs H Q _ => ∃ F cs v o y, vs = [v] ∧ Xv K cl F v o ∧ Sta F cs H ∧ f o = some y ∧ ∀ v2 F2 H2, Gr F F2 → Sta F2 cs H2 → Dt K F2 v2 (B y) → Q v2 H2
theorem d_callX1 {cl : List Str} {β : Type} {B : β → PyData} {f : Option Xe → Option β} {o : Option Xe} {y : β} {v : V} {i : Nat} {E : XK} (hi : σ[i]? = some (some v)) (hx : Xv K cl F v o) (hf : f o = some y) : EvD K (tCall (spX K cl B f) [] E (tCons (tVar i) tNil)) σ F cs (B y) cs := fun F1 H1 g1 s Q q =>
  ⟨v, hi, F1, cs, v, o, y, rfl, hx.gr g1, s, hf, fun v2 F2 H2 g2 s2 h2 => q v2 F2 H2 g2 s2 h2⟩
end
end Bw
namespace Bw
open PySem L2
section
variable {K : PySem.W.Frag} {σ : St} {F : Hp} {cs cs1 cs2 : Cs} {ta tb : TE}
/-! and, or: where a later part changes cells -/
theorem t_andC {t u : TT} {a r : Bool} (h1 : EvT t σ F cs a cs1) (h2 : a = true → EvT u σ F cs1 r cs2) (h4 : a = false → r = false ∧ cs1 = cs2) : EvT (tAnd t u) σ F cs r cs2 := fun F1 H1 g1 s Q q => h1 F1 H1 g1 s _ fun F2 H2 g2 s2 => by
  cases a with
  | true => exact h2 rfl F2 H2 (g1.tr g2) s2 Q fun F3 H3 g3 s3 => q F3 H3 (g2.tr g3) s3
  | false => obtain ⟨e1, e2⟩ := h4 rfl; rw [e1] at q; rw [e2] at s2; exact q F2 H2 g2 s2
theorem t_orC {t u : TT} {a r : Bool} (h1 : EvT t σ F cs a cs1) (h2 : a = false → EvT u σ F cs1 r cs2) (h4 : a = true → r = true ∧ cs1 = cs2) : EvT (tOr t u) σ F cs r cs2 := fun F1 H1 g1 s Q q => h1 F1 H1 g1 s _ fun F2 H2 g2 s2 => by
  cases a with
  | false => exact h2 rfl F2 H2 (g1.tr g2) s2 Q fun F3 H3 g3 s3 => q F3 H3 (g2.tr g3) s3
  | true => obtain ⟨e1, e2⟩ := h4 rfl; rw [e1] at q; rw [e2] at s2; exact q F2 H2 g2 s2
theorem d_andC {a r : Bool} (h1 : EvD K ta σ F cs (.bool a) cs1) (h2 : a = true → EvD K tb σ F cs1 (.bool r) cs2) (h4 : a = false → r = false ∧ cs1 = cs2) : EvD K (tAndV ta tb) σ F cs (.bool r) cs2 := fun F1 H1 g1 s Q q => h1 F1 H1 g1 s _ fun v F2 H2 g2 s2 hv => ⟨a, hv.toBl, by
  cases a with
  | true => exact h2 rfl F2 H2 (g1.tr g2) s2 Q fun v F3 H3 g3 s3 k => q v F3 H3 (g2.tr g3) s3 k
  | false => obtain ⟨e1, e2⟩ := h4 rfl; rw [e1] at q; rw [e2] at s2; exact q _ F2 H2 g2 s2 (.bl false)⟩
theorem d_orC {a r : Bool} (h1 : EvD K ta σ F cs (.bool a) cs1) (h2 : a = false → EvD K tb σ F cs1 (.bool r) cs2) (h4 : a = true → r = true ∧ cs1 = cs2) : EvD K (tOrV ta tb) σ F cs (.bool r) cs2 := fun F1 H1 g1 s Q q => h1 F1 H1 g1 s _ fun v F2 H2 g2 s2 hv => ⟨a, hv.toBl, by
  cases a with
  | false => exact h2 rfl F2 H2 (g1.tr g2) s2 Q fun v F3 H3 g3 s3 k => q v F3 H3 (g2.tr g3) s3 k
  | true => obtain ⟨e1, e2⟩ := h4 rfl; rw [e1] at q; rw [e2] at s2; exact q _ F2 H2 g2 s2 (.bl true)⟩
end
end Bw
namespace Bw
open PySem L2
def clsB : Stmt → List Stmt
  | .ClassDef (body := b) .. => b
  | _ => []
abbrev eT5 {α β γ δ ε : Type} (e : α → PyData) (f : β → PyData) (g : γ → PyData) (h : δ → PyData) (i : ε → PyData) (x : α × β × γ × δ × ε) : PyData := .tuple [e x.1, f x.2.1, g x.2.2.1, h x.2.2.2.1, i x.2.2.2.2]
end Bw

namespace L2
open PySem PySem.Spec PyProof.Rows
/-! an instance is made, and its __init__ may raise -/
def tMakeS (C : Addr) (sp : Sp) (E : St → XK) (t : TA) : TE := fun σ H Q => t σ H fun vs H1 => ∀ x dx, H1 x = none → H1 dx = none → dx ≠ x →
  sp (.ref x :: vs) (upd (upd H1 dx (.own x)) x (.ins C dx [])) (fun v H2 => v = .non ∧ Q (.ref x) H2) (E σ)
section
variable {X : Cx} {CX : CXT} {k : Nat} {f C : Addr} {fd : FuncData} {ps : List Str} {sp : Sp} {E : St → XK} {x m : Str} {p pos apos : Pos} {e o : Expr} {es : List Expr} {ta : TE} {t : TA}
theorem run_makeS {pins : List (Addr × Obj)} {σ : St} {H : Hp} {s : Shared} {Q : VK} {us : List Value} {vs : List V} (M : Mk X.K C f) (F : FnOk X.prog X.w X.K X.mg X.base CX k f fd ps sp) (hr : Room (k + 1) X.A) (hb : Binds X.K fd ps [])
    (hx : PassesAt CX X σ (E σ)) (I : Inv X pins σ H s) (r : Vals vs us)
    (h : ∀ x dx, H x = none → H dx = none → dx ≠ x → sp (.ref x :: vs) (upd (upd H dx (.own x)) x (.ins C dx [])) (fun v H2 => v = .non ∧ Q (.ref x) H2) (E σ)) :
    wpAny (model X.prog X.w) X.A (call (.ref C) us) (EP X pins σ Q) X.xe s := by
  have hq := h (s.heap.objs.size + 1) s.heap.objs.size (I.hok.fresh (Nat.le_succ _)) (I.hok.fresh (Nat.le_refl _)) (Nat.ne_of_lt (Nat.lt_succ_self _))
  have I2 := Inv.made (C := C) I
  have r2 : Vals (V.ref (s.heap.objs.size + 1) :: vs) (Value.ref (s.heap.objs.size + 1) :: us) := .cons rfl r
  have hl : (Value.ref (s.heap.objs.size + 1) :: us).length = ps.length := by
    have e := r2.length
    rw [F.len _ _ _ _ hq] at e
    exact e.symm
  have b := hb _ (Value.ref (s.heap.objs.size + 1) :: us) I2.kIn (by rw [List.append_nil]; exact hl)
  rw [List.append_nil] at b
  refine wpAny_call (make_map (f := f) I.kIn M.makes M.init (beq_iff_eq.mp M.fn) (codeAny_mono (F.run _ X.stack _ _ ⟨Value.ref (s.heap.objs.size + 1) :: us, []⟩ (Value.ref (s.heap.objs.size + 1) :: us) _ _ (E σ) (hr.make C us [])
    (I2.env0.make C us []) b r2 hq) fun r s' hq' => ?_))
  cases r with
  | error e => exact hx pins _ _ e s' I2 hq'
  | ok fl =>
    cases fl with
    | ret u =>
      obtain ⟨v, H', I3, rv, ev, q3⟩ := I2.after hq'
      subst ev
      exact ⟨rv, ⟨V.ref (s.heap.objs.size + 1), H', I3, rfl, q3⟩⟩
    | next => exact False.elim hq'
    | brk => exact False.elim hq'
    | cont => exact False.elim hq'
theorem pe_makeS (M : Mk X.K C f) (F : FnOk X.prog X.w X.K X.mg X.base CX k f fd ps sp) (hr : Room (k + 1) X.A) (hg : Gl X x) (hm : X.mg x = some (.ref C)) (hb : Binds X.K fd ps []) (hx : ∀ σ, PassesAt CX X σ (E σ))
    (ha : PA X (e :: es) t) (hdb : (x == ("__debug__" : Str)) = false := by decide) (he : starEach (e :: es) X.env = (false, eval e X.env) :: starEach es X.env := by rfl) (hpl : (backTo pos (starEach es X.env)).any (·.1) = false := by rfl) :
    PE X (.Call (.Name x p) (e :: es) [] pos) (tMakeS C sp E t) := by
  refine ⟨fun pins s σ H Q I h => ?_⟩
  refine wpAny_Call_Name_kw (ld_glob I hg hm ?_ hdb)
  refine PySem.W.callWith_K (h₀ := X.base) I.ok.mod.kin M.kp (thn (ha.run pos pins s σ H _ I h) fun us s1 ⟨vs, H1, I1, r, q⟩ => ⟨I1.kIn, ?_⟩) he hpl
  exact run_makeS M F hr hb (hx σ) I1 r q
end
end L2
namespace Bw
open PySem L2
/-- a promise of an __init__ that ends by an exception -/
def spMX (K : PySem.W.Frag) (C : Addr) {α : Type} (A : α → List PyData) (f : α → Option (Rs Unit)) : Sp := fun vs H _ E => ∃ F cs a dx ws x e, vs = .ref a :: ws ∧ Dts K F ws (A x) ∧ Sta F ((a, .ins C dx []) :: (dx, .own a) :: cs) H ∧ f x = some (.ex e) ∧
  ∀ d F2 H2, Gr F F2 → Sta F2 cs H2 → Xd K F2 e d → E (.ref (He.ga K e.1)) d H2
structure OkM (P : Program) (w : World) (K : PySem.W.Frag) (mg : Str → Option Value) (base : Heap) (k : Nat) (x : Str) (ps : List Str) (sp : Sp) : Prop where
  ex : ∃ fd, FnOk P w K mg base (L2.CX P w) k (He.ma K (He.ga K x) "__init__") fd ps sp ∧ Binds K fd ps []
  gm : mg x = some (.ref (He.ga K x))
  mkr : Mk K (He.ga K x) (He.ma K (He.ga K x) "__init__")
/-- a method's def -/
def DfM (K : PySem.W.Frag) (c m q : Str) (st : Stmt) : Prop := ∃ fd, FunD K m q (defArgs st) (defBody st) (defScope st) [] [] (He.ma K (He.ga K c) m) fd
section
variable {K : PySem.W.Frag} {σ : St} {F : Hp} {cs cs1 : Cs} {H : Hp} {as : TA} {W : WX}
theorem x_makeX {α : Type} {C : Addr} {A : α → List PyData} {f : α → Option (Rs Unit)} {x : α} {e : Xe} (h : EvDs K as σ F cs (A x) cs1) (hf : f x = some (.ex e)) : EvX K (tMakeS C (spMX K C A f) (WE W) as) W σ F cs (.ex e) cs1 := fun F1 H1 g1 s Q q qx =>
  h F1 H1 g1 s _ fun vs F2 H2 g2 s2 h2 => fun a dx ha hdx hne => by
    have s3 : Sta F2 ((dx, .own a) :: cs1) (upd H2 dx (.own a)) := s2.cell hdx
    have s4 : Sta F2 ((a, .ins C dx []) :: (dx, .own a) :: cs1) (upd (upd H2 dx (.own a)) a (.ins C dx [])) := s3.cell (by rw [upd_ne (Ne.symm hne)]; exact ha)
    exact ⟨F2, cs1, a, dx, vs, x, e, rfl, h2, s4, hf, fun d F3 H3 g3 s5 xd => qx e rfl d F3 H3 (g2.tr g3) s5 xd⟩
end
end Bw
namespace Bw
open PySem L2
theorem exinj {β : Type} {c e : Xe} (h : some (Rs.ex c : Rs β) = some (.ex e)) : c = e := by cases h; rfl
end Bw
namespace Bw
open PySem L2
theorem ref_inj {a b : Addr} (h : (some (Value.ref a) : Option Value) = some (Value.ref b)) : a = b := by cases h; rfl
end Bw
namespace Bw
open PySem L2
section
variable {K : PySem.W.Frag} {σ : St} {F : Hp} {te : TE}
theorem s_insGV {α : Type} {en : α → PyData} {k1 k2 m1 m2 l1 l2 : Cs} {to ti : TE} {p : Addr} {vs : List V} {xs ys : List α} {x : α} {k : Int} {nx bk ct : St → Hp → Prop} {rt : VK} {H : Hp} (s : Sta F (k1 ++ (p, .lst vs) :: k2) H) (hf : Dts K F vs (xs.map en)) (hi : VP to σ F (k1 ++ (p, .lst vs) :: k2) (.ref p))
    (h1 : EvD K ti σ F (k1 ++ (p, .lst vs) :: k2) (.int k) (m1 ++ (p, .lst vs) :: m2)) (h : EvD K te σ F (m1 ++ (p, .lst vs) :: m2) (en x) (l1 ++ (p, .lst vs) :: l2)) (hm : insM xs k x = some ys)
    (q : ∀ us F2 H2, Gr F F2 → Sta F2 (l1 ++ (p, .lst us) :: l2) H2 → Dts K F2 us (ys.map en) → nx σ H2) : tDrop (tBM K "list" rInsert to (tCons ti (tCons te tNil))) ⟨nx, rt, bk, ct⟩ σ H := by
  unfold insM at hm; split at hm
  · rename_i hl
    cases hm
    refine hi F H .rfl s _ ⟨.inl ⟨rfl, _, .inl (.inl s.getAt)⟩, h1 F H .rfl s _ fun v F2 H2 g2 s2 hv => h F2 H2 g2 s2 _ fun w F3 H3 g3 s3 hx => ⟨p, vs, k, w, rfl, by rw [hv.toInt], s3.getAt, by rw [hf.len, List.length_map]; exact szl hl.1, hl.2.1, hl.2.2, q _ F3 _ (g2.tr g3) s3.putAt ?_⟩⟩
    rw [List.map_append, List.map_append, List.map_take, List.map_drop]
    have hf3 := hf.gr (g2.tr g3)
    exact ((hf3.take _).app (.cons hx .nil)).app (hf3.drop _)
  · cases hm
end
end Bw

namespace Bw
open PySem L2
/-! a dict that is walked is locked the while -/
theorem nt_f {o : Obj} {kvs : List (Key × V)} : nTup (.frz o (.dK kvs)) := fun xs => ⟨fun z => (nomatch z), fun _ z => by cases z⟩
theorem Sta.lockAt {F : Hp} {l1 l2 : Cs} {H : Hp} {p : Addr} {o o' : HO} (s : Sta F (l1 ++ (p, o) :: l2) H) : Sta (upd F p o') (l1 ++ l2) (upd H p o') := (s.putAt (o' := o')).frozeAt
theorem Sta.unlockAt {F F2 : Hp} {l1 l2 : Cs} {H2 : Hp} {p : Addr} {o o' : HO} (g : Gr (upd F p o') F2) (s : Sta F2 (l1 ++ l2) H2) : Sta (cut F2 p) (l1 ++ (p, o) :: l2) (upd H2 p o) := (Sta.lent g s).putAt
section
variable {K : PySem.W.Frag} {σ : St} {F : Hp} {cs cs1 : Cs} {te : TE} {d : PyData}
theorem c_lock {l1 l2 m1 m2 : Cs} {p : Addr} {kvs : List (Key × V)} {ds : List PyData} (hn : noLs ds = true) (h : ∀ od F1, Gr F F1 → F1 p = none → EvC K te σ (upd F1 p (.frz od (.dK kvs))) (l1 ++ l2) ds (m1 ++ m2)) :
    EvC K (tLockE te) σ F (l1 ++ (p, .dK kvs) :: l2) ds (m1 ++ (p, .dK kvs) :: m2) := fun F1 H1 g1 s Q q => by
  refine ⟨p, .dK kvs, s.getAt, True.intro, fun od => ?_⟩
  refine h od F1 g1 s.freeAt (upd F1 p (.frz od (.dK kvs))) _ .rfl s.lockAt _ fun a vs F2 H2 g2 s2 h2 => ?_
  refine ⟨s2.fr _ _ (g2 p _ upd_same), ?_⟩
  exact q a vs (cut F2 p) _ (gr_cut s.freeAt g2) (Sta.unlockAt (l1 := (a, .lst vs) :: m1) g2 s2) (h2.cutO (g2 p _ upd_same) nt_f hn)
theorem src_items {κ ν : Type} {p : Addr} {od : Obj} {xs : List (κ × ν)} {kf : κ → Key} {vf : ν → V} {ek : κ → PyData} {ev : ν → PyData} (hk : ∀ F k, Dt K F (kV (kf k)) (ek k)) (hv : ∀ F x, Dt K F (vf x) (ev x)) (h : F p = some (.frz od (.dK (kvE kf vf xs)))) : Src K (Iti p od (kvE kf vf xs)) F (xs.map (eT2 ek ev)) := fun F1 c1 H1 g s => by
  have hH : H1 p = some (.frz od (.dK (kvE kf vf xs))) := s.fr _ _ (g _ _ h)
  have w := walk_items (d := p) (o := od) (kvs := kvE kf vf xs)
  have len : (kvE kf vf xs).length = xs.length := List.length_map ..
  refine ⟨fun i hi => w.goes i H1 (by rw [len]; simpa using hi) hH, ?_, fun i v H2 d e y => ?_⟩
  · have := w.stops H1 hH
    rw [len] at this
    rw [List.length_map]; exact this
  · rw [List.getElem?_map] at e
    cases ex : xs[i]? with
    | none => rw [ex] at e; cases e
    | some kv =>
      rw [ex] at e
      cases e
      have hi := (List.getElem?_eq_some_iff.mp ex).1
      obtain ⟨T, x, z, rfl, nT, rfl, hx, hz⟩ := w.yields i H1 v H2 (by rw [len]; exact hi) hH y
      have ek : (kvE kf vf xs)[i]? = some (kf kv.1, vf kv.2) := by unfold kvE; rw [List.getElem?_map, ex]; rfl
      dsimp only at hx hz
      rw [ek] at hx hz
      cases hx
      cases hz
      have gg := Gr.new (o := .tup [kV (kf kv.1), vf kv.2]) (s.fr.back nT)
      exact ⟨_, gg, s.lay nT, .tup (.inl (.inl upd_same)) (.cons (hk _ _) (.cons (hv _ _) .nil))⟩
theorem i_items {κ ν : Type} {p : Addr} {od : Obj} {xs : List (κ × ν)} {kf : κ → Key} {vf : ν → V} {ek : κ → PyData} {ev : ν → PyData} (hk : ∀ F k, Dt K F (kV (kf k)) (ek k)) (hv : ∀ F x, Dt K F (vf x) (ev x)) (hi : VP te σ F cs (.ref p)) (h : F p = some (.frz od (.dK (kvE kf vf xs)))) : EvI K (iItems te) σ F cs (xs.map (eT2 ek ev)) cs := fun F1 H1 g1 s R q =>
  hi F1 H1 g1 s _ ⟨p, od, _, rfl, s.fr _ _ (g1 _ _ h), q _ F1 H1 .rfl s (src_items hk hv (g1 _ _ h))⟩
end
end Bw

namespace Bw
open PySem L2
section
variable {K : PySem.W.Frag} {σ : St} {F : Hp} {cs cs1 cs2 : Cs} {te : TE} {d : PyData}
/-! comprehensions whose tests and elements change cells -/
theorem c_lcT {S α β : Type} {wi : TI} {g : TG} {tt : TT} {vs : List Nat} {xs : List α} {en : α → PyData} {em : β → PyData} {f : S → α → Option (S × Option β)} {ys : List β} {s0 s1 : S} (cc : S → Cs)
    (hi : EvI K wi σ F cs (xs.map en) (cc s0)) (hm : lcSC f s0 xs = some (s1, ys))
    (turn : ∀ x z z' o v F1 p us, Gr F F1 → Dt K F1 v (en x) → f z x = some (z', o) → ∃ (σ2 : St) (z1 : S), (∀ H (Q : St → Hp → Prop), Sta F1 ((p, .lst us) :: cc z) H → Q σ2 H → g v (wipe σ vs) H Q) ∧ wipe σ2 vs = wipe σ vs ∧
      EvT tt σ2 F1 ((p, .lst us) :: cc z) o.isSome ((p, .lst us) :: cc z1) ∧ (o = none → z' = z1) ∧ ∀ y, o = some y → EvD K te σ2 F1 ((p, .lst us) :: cc z1) (em y) ((p, .lst us) :: cc z')) :
    EvC K (tLc wi g tt te vs) σ F cs (ys.map em) (cc s1) := fun F1 H1 g1 s Q q => by
  unfold lcSC at hm
  split at hm
  case isFalse => cases hm
  rename_i hl
  refine hi F1 H1 g1 s _ fun J F2 H2 g2 s2 hs => ?_
  intro p hp
  have s3 : Sta F2 ((p, .lst []) :: cc s0) (upd H2 p (.lst [])) := s2.cell hp
  refine ⟨fun i m H4 => m = xs.length - i ∧ i ≤ xs.length ∧ ∃ us done rest z F4, us.length ≤ i ∧ Gr F2 F4 ∧ Sta F4 ((p, .lst us) :: cc z) H4 ∧ Dts K F4 us (done.map em) ∧ lcS f z (xs.drop i) = some (s1, rest) ∧ done ++ rest = ys,
    ⟨xs.length, by simp, Nat.zero_le _, [], [], ys, s0, F2, Nat.le_refl _, .rfl, s3, .nil, by simpa using hm, rfl⟩, ?_⟩
  rintro i m H4 ⟨rfl, hi, us, done, rest, z, F4, hu, g4, s4, hd, hr, he⟩
  obtain ⟨hgo, hstop, hy⟩ := hs F4 _ H4 g4 s4
  by_cases hlt : i < xs.length
  · rw [List.drop_eq_getElem_cons hlt] at hr
    obtain ⟨⟨z', o⟩, ho, hr⟩ := bnd (show (f z xs[i]).bind _ = some (s1, rest) from hr)
    obtain ⟨⟨s1', zs⟩, hz, hr⟩ := bnd hr
    dsimp only at hz hr
    refine .inr ⟨hgo i (by simpa using hlt), fun H' => i + 1 ≤ xs.length ∧ ∃ us done rest z F4, us.length ≤ i + 1 ∧ Gr F2 F4 ∧ Sta F4 ((p, .lst us) :: cc z) H' ∧ Dts K F4 us (done.map em) ∧ lcS f z (xs.drop (i + 1)) = some (s1, rest) ∧ done ++ rest = ys, fun H' h' => ⟨xs.length - (i + 1), by omega, rfl, h'⟩, fun x H' y => ?_⟩
    obtain ⟨F5, g5, s5, d5⟩ := hy i x H' (en xs[i]) (by rw [List.getElem?_map, List.getElem?_eq_getElem hlt]; rfl) y
    obtain ⟨σ2, z1, h1, h2, h3, hn, h4⟩ := turn xs[i] z z' o x F5 p us (g1.tr (g2.tr (g4.tr g5))) d5 ho
    refine h1 H' _ s5 ⟨h2, h3 F5 H' .rfl s5 _ fun F6 H6 g6 s6 => ?_⟩
    cases o with
    | none =>
      cases hr
      cases hn rfl
      exact ⟨hlt, us, done, zs, z', F6, Nat.le_succ_of_le hu, g4.tr (g5.tr g6), s6, hd.gr (g5.tr g6), hz, he⟩
    | some y1 =>
      cases hr
      refine (h4 y1 rfl) F6 H6 g6 s6 _ fun v F7 H7 g7 s7 hv => ⟨us, s7.at List.mem_cons_self, szl (by omega), hlt, us ++ [v], done ++ [y1], zs, z', F7, by rw [List.length_append]; exact Nat.succ_le_succ hu, g4.tr (g5.tr (g6.tr g7)), s7.put, ?_, hz, ?_⟩
      · rw [List.map_append]
        exact (hd.gr (g5.tr (g6.tr g7))).app (.cons hv .nil)
      · rw [List.append_assoc]; exact he
  · have e : i = xs.length := by omega
    subst e
    rw [List.drop_length] at hr
    cases hr
    rw [List.append_nil] at he
    subst he
    exact .inl ⟨by simpa using hstop, q p us F4 H4 (g2.tr g4) s4 hd⟩
/-! tests that may raise -/
def EvTX (K : PySem.W.Frag) (tt : TT) (W : WX) (σ : St) (F : Hp) (cs : Cs) (r : Rs Bool) (cs' : Cs) : Prop :=
  ∀ F1 H1, Gr F F1 → Sta F1 cs H1 → ∀ Q : Bool → Hp → Prop, (∀ b, r = .ok b → ∀ F2 H2, Gr F1 F2 → Sta F2 cs' H2 → Q b H2) → (∀ c, r = .ex c → ∀ d F2 H2, Gr F1 F2 → Sta F2 cs' H2 → Xd K F2 c d → W (.ref (He.ga K c.1)) d σ H2) → tt σ H1 Q
def andXM (a : Rs Bool) (b : Unit → Option (Rs Bool)) : Option (Rs Bool) := match a with
  | .ok true => b ()
  | .ok false => some (.ok false)
  | .ex c => some (.ex c)
def orXM (a : Rs Bool) (b : Unit → Option (Rs Bool)) : Option (Rs Bool) := match a with
  | .ok false => b ()
  | .ok true => some (.ok true)
  | .ex c => some (.ex c)
variable {W : WX} {t u : TT}
theorem tx_of {b : Bool} (h : EvT t σ F cs b cs1) : EvTX K t W σ F cs (.ok b) cs1 := fun F1 H1 g1 s Q q _ => h F1 H1 g1 s _ fun F2 H2 g2 s2 => q b rfl F2 H2 g2 s2
theorem tx_and {a r : Rs Bool} {b : Unit → Option (Rs Bool)} (h1 : EvTX K t W σ F cs a cs1) (hm : andXM a b = some r) (h2 : ∀ r', b () = some r' → EvTX K u W σ F cs1 r' cs1) : EvTX K (tAnd t u) W σ F cs r cs1 := fun F1 H1 g1 s Q q qx =>
  h1 F1 H1 g1 s _ (fun b' hb F2 H2 g2 s2 => by
    subst hb
    cases b' with
    | true => exact (h2 r hm) F2 H2 (g1.tr g2) s2 Q (fun b e F3 H3 g3 s3 => q b e F3 H3 (g2.tr g3) s3) fun c e d F3 H3 g3 s3 xd => qx c e d F3 H3 (g2.tr g3) s3 xd
    | false =>
      cases (show some (Rs.ok false) = some r from hm)
      exact q false rfl F2 H2 g2 s2) fun c hc d F2 H2 g2 s2 xd => by
    subst hc
    cases (show some (Rs.ex c) = some r from hm)
    exact qx c rfl d F2 H2 g2 s2 xd
theorem tx_or {a r : Rs Bool} {b : Unit → Option (Rs Bool)} (h1 : EvTX K t W σ F cs a cs1) (hm : orXM a b = some r) (h2 : ∀ r', b () = some r' → EvTX K u W σ F cs1 r' cs1) : EvTX K (tOr t u) W σ F cs r cs1 := fun F1 H1 g1 s Q q qx =>
  h1 F1 H1 g1 s _ (fun b' hb F2 H2 g2 s2 => by
    subst hb
    cases b' with
    | false => exact (h2 r hm) F2 H2 (g1.tr g2) s2 Q (fun b e F3 H3 g3 s3 => q b e F3 H3 (g2.tr g3) s3) fun c e d F3 H3 g3 s3 xd => qx c e d F3 H3 (g2.tr g3) s3 xd
    | true =>
      cases (show some (Rs.ok true) = some r from hm)
      exact q true rfl F2 H2 g2 s2) fun c hc d F2 H2 g2 s2 xd => by
    subst hc
    cases (show some (Rs.ex c) = some r from hm)
    exact qx c rfl d F2 H2 g2 s2 xd
theorem tx_v {r : Rs Bool} (h : EvX K te W σ F cs (r.map PyData.bool) cs1) : EvTX K (tB te) W σ F cs r cs1 := fun F1 H1 g1 s Q q qx =>
  h F1 H1 g1 s _ (fun d hd v F2 H2 g2 s2 hv => by
    cases r with
    | ok b => cases hd; exact ⟨b, hv.toBl, q b rfl F2 H2 g2 s2⟩
    | ex c => cases hd) fun c hc d F2 H2 g2 s2 xd => by
    cases r with
    | ok b => cases hc
    | ex c' => cases hc; exact qx c rfl d F2 H2 g2 s2 xd
theorem tx_test {r : Rs Bool} (h : EvX K te W σ F cs (r.map PyData.bool) cs1) : EvTX K (tTest te) W σ F cs r cs1 := tx_v h
theorem x_isN {α : Type} {r : Rs α} (h : EvX K te W σ F cs (r.map fun _ => PyData.none) cs1) : EvX K (tOp rIsN te (tC .non)) W σ F cs ((r.map fun _ => true).map PyData.bool) cs1 := fun F1 H1 g1 s Q q qx =>
  h F1 H1 g1 s _ (fun d hd v F2 H2 g2 s2 hv => by
    cases r with
    | ok b =>
      cases hd
      cases hv.toNon
      exact ⟨rfl, q _ rfl _ F2 H2 g2 s2 (.bl _)⟩
    | ex c => cases hd) fun c hc d F2 H2 g2 s2 xd => by
    cases r with
    | ok b => cases hc
    | ex c' => cases hc; exact qx c rfl d F2 H2 g2 s2 xd
theorem x_isi {α : Type} {e : α → PyData} {r : Rs α} {c : String} (hc : c ∈ isiK) (h : EvX K te W σ F cs (r.map e) cs1) : EvX K (tCB (rIsi K) (tCons te (tCons (tC (.ty c)) tNil))) W σ F cs ((r.map fun y => isiD c (e y)).map PyData.bool) cs1 := fun F1 H1 g1 s Q q qx =>
  h F1 H1 g1 s _ (fun d hd v F2 H2 g2 s2 hv => by
    cases r with
    | ok b =>
      cases hd
      exact ⟨v, .ty c, .type (kindD (e b)), .type c, isiD c (e b), rfl, .ty c, ty_of s2.fr hv, kit_isi hc (e b), q _ rfl _ F2 H2 g2 s2 (.bl _)⟩
    | ex c => cases hd) fun c hc d F2 H2 g2 s2 xd => by
    cases r with
    | ok b => cases hc
    | ex c' => cases hc; exact qx c rfl d F2 H2 g2 s2 xd
theorem s_ifX {c : TT} {r r' : Rs Bool} {t u : TS} {H : Hp} {nx bk ct : St → Hp → Prop} {rt : VK} (s : Sta F cs H) (h : EvTX K c W σ F cs r cs1) (e : r = r') (qt : r' = .ok true → ∀ F2 H2, Gr F F2 → Sta F2 cs1 H2 → t ⟨nx, rt, bk, ct⟩ σ H2) (qf : r' = .ok false → ∀ F2 H2, Gr F F2 → Sta F2 cs1 H2 → u ⟨nx, rt, bk, ct⟩ σ H2)
    (qx : ∀ c, r' = .ex c → ∀ d F2 H2, Gr F F2 → Sta F2 cs1 H2 → Xd K F2 c d → W (.ref (He.ga K c.1)) d σ H2) : tIfS c t u ⟨nx, rt, bk, ct⟩ σ H := by
  subst e
  exact h F H .rfl s _ (fun b hb F2 H2 g2 s2 => by
    cases b with
    | true => exact qt hb F2 H2 g2 s2
    | false => exact qf hb F2 H2 g2 s2) qx
end
end Bw
namespace Bw
open PySem L2
/-! in range(n) -/
abbrev rRange1 : List V → Hp → VK → Prop := fun vs H Q => ∃ j, vs = [V.int j] ∧ ∀ p, H p = none → Q (.ref p) (upd H p (.rng 0 j))
theorem cr_range1' {X : Cx} : CallR X (.type "range") rRange1 := by
  intro pins s σ H vs us Q I r h
  obtain ⟨j, rfl, q⟩ := h
  obtain ⟨u1, rfl, rj⟩ := vals1 r
  obtain ⟨u, rfl⟩ := rj
  refine call_range_1 ⟨.ref s.heap.objs.size, upd H s.heap.objs.size (.rng 0 j), I.laid (t' := s.toks + 1 + 1) (fun b o e => Heap.get?_push_of_some _ e) (Nat.le_refl _) ?_, rfl, q _ (I.hok.fresh (Nat.le_refl _))⟩
  exact ⟨s.toks, u, s.toks + 1, Heap.get?_push_size _ rfl⟩
section
variable {K : PySem.W.Frag} {σ : St} {F : Hp} {cs cs1 cs2 : Cs} {ta : TE} {as : TA} {a c : Int}
theorem d_inRng1 (ha : EvD K ta σ F cs (.int a) cs1) (hb : EvDs K as σ F cs1 [.int c] cs2) : EvD K (tOp rInRng ta (tCB rRange1 as)) σ F cs (.bool (decide (0 ≤ a ∧ a < c))) cs2 := fun F1 H1 g1 s Q q =>
  ha F1 H1 g1 s _ fun v F2 H2 g2 s2 h2 => hb F2 H2 (g1.tr g2) s2 _ fun vs F3 H3 g3 s3 h3 => by
    cases h2.toInt
    obtain ⟨w, rfl, k1⟩ := h3.one; cases k1.toInt
    exact ⟨c, rfl, fun p hp => ⟨a, p, 0, c, rfl, rfl, upd_same, q _ _ _ ((g2.tr g3).tr (Gr.new (s3.fr.back hp))) (s3.lay hp) (.bl _)⟩⟩
theorem d_ninRng1 (ha : EvD K ta σ F cs (.int a) cs1) (hb : EvDs K as σ F cs1 [.int c] cs2) : EvD K (tOp rNinRng ta (tCB rRange1 as)) σ F cs (.bool (!decide (0 ≤ a ∧ a < c))) cs2 := fun F1 H1 g1 s Q q =>
  ha F1 H1 g1 s _ fun v F2 H2 g2 s2 h2 => hb F2 H2 (g1.tr g2) s2 _ fun vs F3 H3 g3 s3 h3 => by
    cases h2.toInt
    obtain ⟨w, rfl, k1⟩ := h3.one; cases k1.toInt
    exact ⟨c, rfl, fun p hp => ⟨a, p, 0, c, rfl, rfl, upd_same, q _ _ _ ((g2.tr g3).tr (Gr.new (s3.fr.back hp))) (s3.lay hp) (.bl _)⟩⟩
end
end Bw
namespace Bw
open PySem L2
section
variable {K : PySem.W.Frag} {σ : St} {F : Hp} {cs cs1 cs2 : Cs} {ta tb : TE}
theorem d_inTI {x : Int} {xs : List Int} (ha : EvD K ta σ F cs (.int x) cs1) (hb : EvD K tb σ F cs1 (.tuple (xs.map eI)) cs2) : EvD K (tOp (rIn K false) ta tb) σ F cs (.bool (inL x xs)) cs2 :=
  d_op ha hb fun _ y F2 H2 hx hy s _ Q q => by
    cases hx.toInt
    obtain ⟨p, vs, rfl, hl, hd⟩ := hy.toTup
    cases hd.ints
    refine ⟨p, _, rfl, .inr (gr_T s.fr hl), rfl, flatI xs, q _ F2 H2 .rfl s ?_⟩
    rw [inV_int]; exact .bl _
theorem d_ninTI {x : Int} {xs : List Int} (ha : EvD K ta σ F cs (.int x) cs1) (hb : EvD K tb σ F cs1 (.tuple (xs.map eI)) cs2) : EvD K (tOp (rIn K true) ta tb) σ F cs (.bool (!inL x xs)) cs2 :=
  d_op ha hb fun _ y F2 H2 hx hy s _ Q q => by
    cases hx.toInt
    obtain ⟨p, vs, rfl, hl, hd⟩ := hy.toTup
    cases hd.ints
    refine ⟨p, _, rfl, .inr (gr_T s.fr hl), rfl, flatI xs, q _ F2 H2 .rfl s ?_⟩
    rw [inV_int]; exact .bl _
theorem d_inTS {x : Str} {xs : List Str} (ha : EvD K ta σ F cs (.str x) cs1) (hb : EvD K tb σ F cs1 (.tuple (xs.map eS)) cs2) : EvD K (tOp (rIn K false) ta tb) σ F cs (.bool (inL x xs)) cs2 :=
  d_op ha hb fun _ y F2 H2 hx hy s _ Q q => by
    cases hx.toStr
    obtain ⟨p, vs, rfl, hl, hd⟩ := hy.toTup
    cases hd.strs
    refine ⟨p, _, rfl, .inr (gr_T s.fr hl), rfl, flatS xs, q _ F2 H2 .rfl s ?_⟩
    rw [inV_str]; exact .bl _
theorem d_ninTS {x : Str} {xs : List Str} (ha : EvD K ta σ F cs (.str x) cs1) (hb : EvD K tb σ F cs1 (.tuple (xs.map eS)) cs2) : EvD K (tOp (rIn K true) ta tb) σ F cs (.bool (!inL x xs)) cs2 :=
  d_op ha hb fun _ y F2 H2 hx hy s _ Q q => by
    cases hx.toStr
    obtain ⟨p, vs, rfl, hl, hd⟩ := hy.toTup
    cases hd.strs
    refine ⟨p, _, rfl, .inr (gr_T s.fr hl), rfl, flatS xs, q _ F2 H2 .rfl s ?_⟩
    rw [inV_str]; exact .bl _
end
end Bw
namespace Bw
open PySem L2
/-! list(range(n)) -/
def lrgM (a b : Int) : Option (List Int) := (rngM a b).bind fun xs => if xs.length ≤ 100000 then some xs else none
theorem c_listRg1 {K : PySem.W.Frag} {σ : St} {F : Hp} {cs cs1 : Cs} {ta : TE} {n : Int} {xs : List Int} (h : EvD K ta σ F cs (.int n) cs1) (hm : lrgM 0 n = some xs) : EvC K (tLstRg (tRg1 ta)) σ F cs (xs.map eI) cs1 := fun F1 H1 g1 s Q q => by
  obtain ⟨ys, h1, h2⟩ := bnd hm
  obtain ⟨hr, rfl⟩ := rngM_some h1
  split at h2
  case isFalse => cases h2
  rename_i hl
  cases h2
  refine h F1 H1 g1 s _ fun v F2 H2 g2 s2 hv => ?_
  cases hv.toInt
  have e : rgV 0 n = (rngL 0 n).map V.int := by unfold rgV rngL; rw [List.map_map]; rfl
  refine ⟨n, rfl, ⟨hr.1, hr.2.1, hr.2.2.1, hr.2.2.2, ?_⟩, fun p hp => ?_⟩
  · unfold rngL at hl; rw [List.length_map, List.length_range] at hl; omega
  · rw [e]
    exact q p _ F2 _ g2 (s2.cell hp) (Dts.of_ints _)
end Bw

namespace L2
open PySem PySem.Spec PyProof.Rows
/-! methods that may raise -/
def tMeE (C : Addr) (m : Str) (sp : Sp) (E : St → XK) (ta : TE) (t : TA) : TE := fun σ H Q => ta σ H fun x H1 => ∃ a dx fs, x = .ref a ∧ H1 a = some (.ins C dx fs) ∧ fs.lookup m = none ∧
  t σ H1 fun vs H2 => sp (x :: vs) H2 Q (E σ)
section
variable {X : Cx} {CX : CXT} {k : Nat} {f C : Addr} {fd : FuncData} {ps : List Str} {sp : Sp} {E : St → XK} {x m : Str} {p pos apos : Pos} {e o : Expr} {es : List Expr} {ta : TE} {t : TA}
theorem pe_meE {pl : Sem Bool} (he : PE X o ta) (c : Cls X.K C) (hm : Meth X.K C m f) (F : FnOk X.prog X.w X.K X.mg X.base CX k f fd ps sp) (hr : Room k X.A) (hb : Binds X.K fd ps []) (hx : ∀ σ, PassesAt CX X σ (E σ)) (ha : PA X (e :: es) t)
    (hst : starEach (e :: es) X.env = (false, eval e X.env) :: starEach es X.env := by rfl) (hpl : (backTo pos (starEach es X.env)).any (·.1) = false := by rfl)
    (ht : eval (.Call (.Attribute o m apos) (e :: es) [] pos) X.env = (do
      let ov ← eval o X.env
      standAt apos.atName
      let (f, first) ← holding [ov] (getMethod ov m pl)
      callWith pos f first (backTo pos (starEach (e :: es) X.env)) (backToKw pos (keywordEach [] X.env))) := by rfl) :
    PE X (.Call (.Attribute o m apos) (e :: es) [] pos) (tMeE C m sp E ta t) := by
  refine ⟨fun pins s σ H Q I h => ?_⟩
  refine PySem.W.methodCall_KW (pl := pl) (thn (he.run pins s σ H _ I h) fun u s1 ⟨x, H1, I1, rx, a, dx, fs, ex, ea, l, q⟩ => ?_) ht
  subst ex
  obtain rfl : u = Value.ref a := rx
  refine getmeth_ok I1 ea c hm l ?_
  refine PySem.W.callWith_K (first := [.ref a]) (h₀ := X.base) I.ok.mod.kin hm.kp (thn (ha.run pos pins s1 σ H1 _ I1 q) fun us s2 ⟨vs, H2, I2, r, q2⟩ => ⟨I2.kIn, ?_⟩) hst hpl
  exact run_fnS (us := .ref a :: us) (vs := .ref a :: vs) F hr hb (hx σ) I2 (.cons rfl r) q2
theorem pe_meE0 {pl : Sem Bool} (he : PE X o ta) (c : Cls X.K C) (hm : Meth X.K C m f) (F : FnOk X.prog X.w X.K X.mg X.base CX k f fd ps sp) (hr : Room k X.A) (hb : Binds X.K fd ps []) (hx : ∀ σ, PassesAt CX X σ (E σ))
    (ht : eval (.Call (.Attribute o m apos) [] [] pos) X.env = (do
      let ov ← eval o X.env
      standAt apos.atName
      let (f, first) ← holding [ov] (getMethod ov m pl)
      callWith pos f first (backTo pos (starEach [] X.env)) (backToKw pos (keywordEach [] X.env))) := by rfl) :
    PE X (.Call (.Attribute o m apos) [] [] pos) (tMeE C m sp E ta tNil) := by
  refine ⟨fun pins s σ H Q I h => ?_⟩
  refine PySem.W.methodCall_KW (pl := pl) (thn (he.run pins s σ H _ I h) fun u s1 ⟨x, H1, I1, rx, a, dx, fs, ex, ea, l, q⟩ => ?_) ht
  subst ex
  obtain rfl : u = Value.ref a := rx
  refine getmeth_ok I1 ea c hm l ?_
  exact PySem.W.callWith_K0 (first := [.ref a]) I1.kIn hm.kp (run_fnS (us := [.ref a]) (vs := [.ref a]) F hr hb (hx σ) I1 (.cons rfl .nil) q)
end
end L2
namespace Bw
open PySem L2
/-- a method that holds its promise: the same contexts as Ok (no exception) and OkX -/
structure OkMe (P : Program) (w : World) (K : PySem.W.Frag) (mg : Str → Option Value) (base : Heap) (CX : CXT) (k : Nat) (C m : Str) (ps : List Str) (sp : Sp) : Prop where
  ex : ∃ fd, FnOk P w K mg base CX k (He.ma K (He.ga K C) m) fd ps sp ∧ Binds K fd ps []
  cl : Cls K (He.ga K C)
  me : Meth K (He.ga K C) m (He.ma K (He.ga K C) m)
/-- a class that can be made -/
structure OkMk (P : Program) (w : World) (K : PySem.W.Frag) (mg : Str → Option Value) (base : Heap) (CX : CXT) (k : Nat) (C : Str) (ps : List Str) (sp : Sp) : Prop where
  ex : ∃ fd, FnOk P w K mg base CX k (He.ma K (He.ga K C) "__init__") fd ps sp ∧ Binds K fd ps []
  gm : mg C = some (.ref (He.ga K C))
  mkr : Mk K (He.ga K C) (He.ma K (He.ga K C) "__init__")
def adV : V → Addr
  | .ref a => a
  | _ => (0 : Nat)
section
variable {K : PySem.W.Frag} {σ : St} {F F' : Hp} {cs cs1 cs2 cs3 : Cs} {ta tb te tv : TE} {d : PyData} {as : TA} {nx bk ct : St → Hp → Prop} {rt : VK} {H : Hp} {t u : TS}
/-! fields -/
theorem vp_fld {a C dx : Addr} {fs : List (Str × V)} {f : Str} {v : V} (h : VP te σ F cs (.ref a)) (hm : (a, HO.ins C dx fs) ∈ cs) (c : Cls K C) (n : NoAttr K C f) (hl : fs.lookup f = some v) : VP (tFld K te f) σ F cs v :=
  fun F1 H1 g s Q q => h F1 H1 g s _ ⟨a, C, dx, fs, v, rfl, s.has _ hm, c, n, hl, q⟩
theorem s_fldO {f : Str} (h : tv σ H fun y H1 => ta σ H1 fun x H2 => ∃ a C dx fs, x = .ref a ∧ H2 a = some (.ins C dx fs) ∧ Cls K C ∧ NoAttr K C f ∧ fs.length < 1000 ∧ nx σ (upd H2 a (.ins C dx (putF f y fs)))) :
    sFld K ta tv f ⟨nx, rt, bk, ct⟩ σ H := h
theorem o_fld {Q : Hp → Prop} {l1 l2 : Cs} {a C dx : Addr} {fs fs' : List (Str × V)} {f : Str} {v : V} (s : Sta F (l1 ++ (a, .ins C dx fs) :: l2) H) (hp : VP ta σ F (l1 ++ (a, .ins C dx fs) :: l2) (.ref a)) (c : Cls K C) (n : NoAttr K C f) (hl : fs.length < 1000) (e : putF f v fs = fs')
    (q : ∀ H2, Sta F (l1 ++ (a, .ins C dx fs') :: l2) H2 → Q H2) : ta σ H fun x H2 => ∃ a C dx fs, x = .ref a ∧ H2 a = some (.ins C dx fs) ∧ Cls K C ∧ NoAttr K C f ∧ fs.length < 1000 ∧ Q (upd H2 a (.ins C dx (putF f v fs))) := by
  refine hp F H Gr.rfl s _ ⟨a, C, dx, fs, rfl, s.getAt, c, n, hl, ?_⟩
  rw [e]
  exact q _ s.putAt
theorem s_fldAdd {l1 l2 m1 m2 : Cs} {a C dx : Addr} {fs fs' : List (Str × V)} {f : Str} {w b : Int} (s : Sta F (l1 ++ (a, .ins C dx fs) :: l2) H) (hp : VP ta σ F (l1 ++ (a, .ins C dx fs) :: l2) (.ref a)) (c : Cls K C) (n : NoAttr K C f) (hk : fs.lookup f = some (.int w))
    (h : EvD K tv σ F (l1 ++ (a, .ins C dx fs) :: l2) (.int b) (m1 ++ (a, .ins C dx fs) :: m2)) (hl : fs.length < 1000) (e : putF f (.int (w + b)) fs = fs') (q : ∀ F2 H2, Gr F F2 → Sta F2 (m1 ++ (a, .ins C dx fs') :: m2) H2 → nx σ H2) :
    sFldAug K ta tv rAdd f ⟨nx, rt, bk, ct⟩ σ H := by
  refine hp F H Gr.rfl s _ ⟨a, C, dx, fs, _, rfl, s.getAt, c, n, hk, h F H Gr.rfl s _ fun v F2 H2 g2 s2 hv => ?_⟩
  cases hv.toInt
  refine ⟨w, b, rfl, rfl, dx, fs, s2.getAt, hl, ?_⟩
  rw [e]
  exact q F2 _ g2 s2.putAt
theorem s_fldSub {l1 l2 m1 m2 : Cs} {a C dx : Addr} {fs fs' : List (Str × V)} {f : Str} {w b : Int} (s : Sta F (l1 ++ (a, .ins C dx fs) :: l2) H) (hp : VP ta σ F (l1 ++ (a, .ins C dx fs) :: l2) (.ref a)) (c : Cls K C) (n : NoAttr K C f) (hk : fs.lookup f = some (.int w))
    (h : EvD K tv σ F (l1 ++ (a, .ins C dx fs) :: l2) (.int b) (m1 ++ (a, .ins C dx fs) :: m2)) (hl : fs.length < 1000) (e : putF f (.int (w - b)) fs = fs') (q : ∀ F2 H2, Gr F F2 → Sta F2 (m1 ++ (a, .ins C dx fs') :: m2) H2 → nx σ H2) :
    sFldAug K ta tv rSub f ⟨nx, rt, bk, ct⟩ σ H := by
  refine hp F H Gr.rfl s _ ⟨a, C, dx, fs, _, rfl, s.getAt, c, n, hk, h F H Gr.rfl s _ fun v F2 H2 g2 s2 hv => ?_⟩
  cases hv.toInt
  refine ⟨w, b, rfl, rfl, dx, fs, s2.getAt, hl, ?_⟩
  rw [e]
  exact q F2 _ g2 s2.putAt
/-! promises with things that are owned -/
inductive Ag where
  | d (x : PyData)
  | o (P : Hp → V → Cs → Prop)
inductive ArgG (K : PySem.W.Frag) (F : Hp) : List V → List Ag → Cs → Prop
  | nil : ArgG K F [] [] []
  | d {v : V} {x : PyData} {vs : List V} {as : List Ag} {cs : Cs} : Dt K F v x → ArgG K F vs as cs → ArgG K F (v :: vs) (.d x :: as) cs
  | o {v : V} {P : Hp → V → Cs → Prop} {c : Cs} {vs : List V} {as : List Ag} {cs : Cs} : P F v c → ArgG K F vs as cs → ArgG K F (v :: vs) (.o P :: as) (c ++ cs)
theorem ArgG.no {vs : List V} {cs : Cs} (h : ArgG K F vs [] cs) : vs = [] ∧ cs = [] := by cases h; exact ⟨rfl, rfl⟩
theorem ArgG.hd {vs : List V} {x : PyData} {as : List Ag} {cs : Cs} (h : ArgG K F vs (.d x :: as) cs) : ∃ v ws, vs = v :: ws ∧ Dt K F v x ∧ ArgG K F ws as cs := by
  cases h with | d a b => exact ⟨_, _, rfl, a, b⟩
theorem ArgG.ho {vs : List V} {P : Hp → V → Cs → Prop} {as : List Ag} {cs : Cs} (h : ArgG K F vs (.o P :: as) cs) : ∃ v ws c cs', vs = v :: ws ∧ cs = c ++ cs' ∧ P F v c ∧ ArgG K F ws as cs' := by
  cases h with | o a b => exact ⟨_, _, _, _, rfl, rfl, a, b⟩
theorem ArgG.len : ∀ {vs : List V} {as : List Ag} {cs : Cs}, ArgG K F vs as cs → vs.length = as.length
  | _, _, _, .nil => rfl
  | _, _, _, .d _ t => by rw [List.length_cons, List.length_cons, t.len]
  | _, _, _, .o _ t => by rw [List.length_cons, List.length_cons, t.len]
/-- the general promise: what is owned comes in and goes out changed -/
def spG (K : PySem.W.Frag) {α β : Type} (A : α → List Ag) (R : β → Hp → List V → V → Cs → Prop) (f : α → Option β) : Sp := fun vs H Q _ => ∃ F cc cs x y, ArgG K F vs (A x) cc ∧ Sta F (cc ++ cs) H ∧ f x = some y ∧
  ∀ v c F2 H2, Gr F F2 → Sta F2 (c ++ cs) H2 → R y F2 vs v c → Q v H2
/-- the same, where it may raise: what is owned stays then as it was -/
def spGX (K : PySem.W.Frag) {α β : Type} (A : α → List Ag) (R : β → Hp → List V → V → Cs → Prop) (f : α → Option (Rs β)) : Sp := fun vs H Q E => ∃ F cc cs x r, ArgG K F vs (A x) cc ∧ Sta F (cc ++ cs) H ∧ f x = some r ∧
  (∀ y, r = .ok y → ∀ v c F2 H2, Gr F F2 → Sta F2 (c ++ cs) H2 → R y F2 vs v c → Q v H2) ∧ ∀ e, r = .ex e → ∀ d F2 H2, Gr F F2 → Sta F2 (cc ++ cs) H2 → Xd K F2 e d → E (.ref (He.ga K e.1)) d H2
/-- an __init__ -/
def spMk (K : PySem.W.Frag) (C : Addr) {α β : Type} (A : α → List PyData) (O : β → Hp → Addr → Cs → Prop) (f : α → Option β) : Sp := fun vs H Q _ => ∃ F cs a dx ws x y, vs = .ref a :: ws ∧ Dts K F ws (A x) ∧ Sta F ((a, .ins C dx []) :: (dx, .own a) :: cs) H ∧ f x = some y ∧
  ∀ c F2 H2, Gr F F2 → Sta F2 (c ++ cs) H2 → O y F2 a c → Q .non H2
def spMkX (K : PySem.W.Frag) (C : Addr) {α β : Type} (A : α → List PyData) (O : β → Hp → Addr → Cs → Prop) (f : α → Option (Rs β)) : Sp := fun vs H Q E => ∃ F cs a dx ws x r, vs = .ref a :: ws ∧ Dts K F ws (A x) ∧ Sta F ((a, .ins C dx []) :: (dx, .own a) :: cs) H ∧ f x = some r ∧
  (∀ y, r = .ok y → ∀ c F2 H2, Gr F F2 → Sta F2 (c ++ cs) H2 → O y F2 a c → Q .non H2) ∧ ∀ e, r = .ex e → ∀ d F2 H2, Gr F F2 → Sta F2 cs H2 → Xd K F2 e d → E (.ref (He.ga K e.1)) d H2
/-- borrowed: the first thing is an owned one that stays as it is, the others are data -/
def spB (K : PySem.W.Frag) {α β : Type} (O : α → Hp → Addr → Cs → Prop) (A : α → List PyData) (B : β → PyData) (f : α → Option β) : Sp := fun vs H Q _ => ∃ F cc cs a ws x y, vs = .ref a :: ws ∧ O x F a cc ∧ Dts K F ws (A x) ∧ Sta F (cc ++ cs) H ∧ f x = some y ∧
  ∀ v F2 H2, Gr F F2 → Sta F2 (cc ++ cs) H2 → Dt K F2 v (B y) → Q v H2
def spBF (K : PySem.W.Frag) {α β : Type} (O : α → Hp → Addr → Cs → Prop) (A : α → List PyData) (B : β → List PyData) (f : α → Option β) : Sp := fun vs H Q _ => ∃ F cc cs a ws x y, vs = .ref a :: ws ∧ O x F a cc ∧ Dts K F ws (A x) ∧ Sta F (cc ++ cs) H ∧ f x = some y ∧
  ∀ p us F2 H2, Gr F F2 → Sta F2 ((p, .lst us) :: (cc ++ cs)) H2 → Dts K F2 us (B y) → Q (.ref p) H2
/-! direct steps -/
theorem o_call {sp : Sp} {E : XK} {Q : VK} (h : as σ H fun vs H1 => sp (vs ++ []) H1 Q E) : tCall sp [] E as σ H Q := h
theorem o_callS {sp : Sp} {E : St → XK} {Q : VK} (h : as σ H fun vs H1 => sp vs H1 Q (E σ)) : tCallS sp E as σ H Q := h
theorem o_meth {l1 l2 : Cs} {a C dx : Addr} {fs : List (Str × V)} {m : Str} {sp : Sp} {E : XK} {Q : VK} (s : Sta F (l1 ++ (a, .ins C dx fs) :: l2) H) (hp : VP ta σ F (l1 ++ (a, .ins C dx fs) :: l2) (.ref a)) (hl : fs.lookup m = none)
    (h : as σ H fun vs H2 => sp (.ref a :: (vs ++ [])) H2 Q E) : tMeth C m sp [] E ta as σ H Q := hp F H Gr.rfl s _ ⟨a, dx, fs, rfl, s.getAt, hl, h⟩
theorem o_meE {l1 l2 : Cs} {a C dx : Addr} {fs : List (Str × V)} {m : Str} {sp : Sp} {E : St → XK} {Q : VK} (s : Sta F (l1 ++ (a, .ins C dx fs) :: l2) H) (hp : VP ta σ F (l1 ++ (a, .ins C dx fs) :: l2) (.ref a)) (hl : fs.lookup m = none)
    (h : as σ H fun vs H2 => sp (.ref a :: vs) H2 Q (E σ)) : tMeE C m sp E ta as σ H Q := hp F H Gr.rfl s _ ⟨a, dx, fs, rfl, s.getAt, hl, h⟩
theorem Sta.make {C a dx : Addr} (s : Sta F cs H) (ha : H a = none) (hd : H dx = none) (hne : dx ≠ a) : Sta F ((a, .ins C dx []) :: (dx, .own a) :: cs) (upd (upd H dx (.own a)) a (.ins C dx [])) := by
  have s1 := s.cell (o := .own a) hd
  refine s1.cell ?_
  rw [upd_ne (Ne.symm hne)]
  exact ha
theorem o_make {C : Addr} {sp : Sp} {E : XK} {Q : VK} (h : as σ H fun vs H1 => ∀ x dx, H1 x = none → H1 dx = none → dx ≠ x → sp (.ref x :: (vs ++ [])) (upd (upd H1 dx (.own x)) x (.ins C dx [])) (fun v H2 => v = .non ∧ Q (.ref x) H2) E) : tMake C sp [] E as σ H Q := h
theorem o_makeS {C : Addr} {sp : Sp} {E : St → XK} {Q : VK} (h : as σ H fun vs H1 => ∀ x dx, H1 x = none → H1 dx = none → dx ≠ x → sp (.ref x :: vs) (upd (upd H1 dx (.own x)) x (.ins C dx [])) (fun v H2 => v = .non ∧ Q (.ref x) H2) (E σ)) : tMakeS C sp E as σ H Q := h
/-- a test that is a value told by a direct step -/
theorem o_if {c : TT} (h : c σ H fun b H1 => (b = true → t ⟨nx, rt, bk, ct⟩ σ H1) ∧ (b = false → u ⟨nx, rt, bk, ct⟩ σ H1)) : tIfS c t u ⟨nx, rt, bk, ct⟩ σ H := by
  unfold tIfS
  refine cast ?_ h
  congr
  funext b H1
  cases b <;> simp
/-! borrowing calls within expressions -/
theorem EvDs.sta {ds : List PyData} (h : EvDs K as σ F cs ds cs1) : ∀ F1 H1, Gr F F1 → Sta F1 cs H1 → ∀ Q : List V → Hp → Prop, (∀ vs F2 H2, Gr F1 F2 → Sta F2 cs1 H2 → Dts K F2 vs ds → Q vs H2) → as σ H1 Q := h
theorem d_methB {α β : Type} {O : α → Hp → Addr → Cs → Prop} {A : α → List PyData} {B : β → PyData} {f : α → Option β} {x : α} {y : β} {a C dx : Addr} {fs : List (Str × V)} {m : Str} {E : XK} {cc cs' : Cs} (hp : VP ta σ F cs (.ref a)) (hm : (a, HO.ins C dx fs) ∈ cs) (hl : fs.lookup m = none)
    (h : EvDs K as σ F cs (A x) cs1) (ho : ∀ F', Gr F F' → O x F' a cc) (h1 : Sb cs1 (cc ++ cs')) (h2 : Sb (cc ++ cs') cs1) (hf : f x = some y) : EvD K (tMeth C m (spB K O A B f) [] E ta as) σ F cs (B y) cs1 := fun F1 H1 g1 s Q q => by
  refine hp F1 H1 g1 s _ ⟨a, dx, fs, rfl, s.has _ hm, hl, ?_⟩
  refine h F1 H1 g1 s _ fun vs F2 H2 g2 s2 hv => ?_
  rw [List.append_nil]
  exact ⟨F2, cc, cs', a, vs, x, y, rfl, ho F2 (g1.tr g2), hv, h1 _ _ s2, hf, fun v F3 H3 g3 s3 hv3 => q v F3 H3 (g2.tr g3) (h2 _ _ s3) hv3⟩
theorem c_methB {α β : Type} {O : α → Hp → Addr → Cs → Prop} {A : α → List PyData} {B : β → List PyData} {f : α → Option β} {x : α} {y : β} {a C dx : Addr} {fs : List (Str × V)} {m : Str} {E : XK} {cc cs' : Cs} (hp : VP ta σ F cs (.ref a)) (hm : (a, HO.ins C dx fs) ∈ cs) (hl : fs.lookup m = none)
    (h : EvDs K as σ F cs (A x) cs1) (ho : ∀ F', Gr F F' → O x F' a cc) (h1 : Sb cs1 (cc ++ cs')) (h2 : ∀ z, Sb (z :: (cc ++ cs')) (z :: cs1)) (hf : f x = some y) : EvC K (tMeth C m (spBF K O A B f) [] E ta as) σ F cs (B y) cs1 := fun F1 H1 g1 s Q q => by
  refine hp F1 H1 g1 s _ ⟨a, dx, fs, rfl, s.has _ hm, hl, ?_⟩
  refine h F1 H1 g1 s _ fun vs F2 H2 g2 s2 hv => ?_
  rw [List.append_nil]
  exact ⟨F2, cc, cs', a, vs, x, y, rfl, ho F2 (g1.tr g2), hv, h1 _ _ s2, hf, fun p us F3 H3 g3 s3 hu => q p us F3 H3 (g2.tr g3) (h2 _ _ _ s3) hu⟩
theorem d_callB {α β : Type} {O : α → Hp → Addr → Cs → Prop} {A : α → List PyData} {B : β → PyData} {f : α → Option β} {x : α} {y : β} {a : Addr} {E : XK} {cc cs' : Cs} (hp : VP ta σ F cs (.ref a))
    (h : EvDs K as σ F cs (A x) cs1) (ho : ∀ F', Gr F F' → O x F' a cc) (h1 : Sb cs1 (cc ++ cs')) (h2 : Sb (cc ++ cs') cs1) (hf : f x = some y) : EvD K (tCall (spB K O A B f) [] E (tCons ta as)) σ F cs (B y) cs1 := fun F1 H1 g1 s Q q => by
  refine hp F1 H1 g1 s _ ?_
  refine h F1 H1 g1 s _ fun vs F2 H2 g2 s2 hv => ?_
  show spB K O A B f (V.ref a :: (vs ++ [])) H2 Q E
  rw [List.append_nil]
  exact ⟨F2, cc, cs', a, vs, x, y, rfl, ho F2 (g1.tr g2), hv, h1 _ _ s2, hf, fun v F3 H3 g3 s3 hv3 => q v F3 H3 (g2.tr g3) (h2 _ _ s3) hv3⟩
theorem c_callB {α β : Type} {O : α → Hp → Addr → Cs → Prop} {A : α → List PyData} {B : β → List PyData} {f : α → Option β} {x : α} {y : β} {a : Addr} {E : XK} {cc cs' : Cs} (hp : VP ta σ F cs (.ref a))
    (h : EvDs K as σ F cs (A x) cs1) (ho : ∀ F', Gr F F' → O x F' a cc) (h1 : Sb cs1 (cc ++ cs')) (h2 : ∀ z, Sb (z :: (cc ++ cs')) (z :: cs1)) (hf : f x = some y) : EvC K (tCall (spBF K O A B f) [] E (tCons ta as)) σ F cs (B y) cs1 := fun F1 H1 g1 s Q q => by
  refine hp F1 H1 g1 s _ ?_
  refine h F1 H1 g1 s _ fun vs F2 H2 g2 s2 hv => ?_
  show spBF K O A B f (V.ref a :: (vs ++ [])) H2 Q E
  rw [List.append_nil]
  exact ⟨F2, cc, cs', a, vs, x, y, rfl, ho F2 (g1.tr g2), hv, h1 _ _ s2, hf, fun p us F3 H3 g3 s3 hu => q p us F3 H3 (g2.tr g3) (h2 _ _ _ s3) hu⟩
end
end Bw
namespace Bw
open PySem L2
/-- an owned list of things that stand -/
def OL (K : PySem.W.Frag) {α : Type} (e : α → PyData) (xs : List α) (F : Hp) (a : Addr) (c : Cs) : Prop := ∃ us, c = [(a, .lst us)] ∧ Dts K F us (xs.map e)
section
variable {K : PySem.W.Frag} {σ : St} {F F' : Hp} {cs cs1 cs2 : Cs} {to te : TE} {H : Hp} {t : TT}
theorem o_not {Q : Bool → Hp → Prop} (h : t σ H fun b H1 => Q (!b) H1) : tNot t σ H Q := h
theorem o_tB {Q : Bool → Hp → Prop} (h : te σ H fun v H1 => ∃ b, v = .bl b ∧ Q b H1) : tB te σ H Q := h
theorem o_dnew {κ ν : Type} {kf : κ → Key} {vf : ν → V} {Q : VK} (s : Sta F cs H) (q : ∀ p H2, Sta F ((p, .dK (kvE kf vf [])) :: cs) H2 → Q (.ref p) H2) : tDNewK σ H Q := fun p hp => q p _ (s.cell hp)
theorem pop0_dts {α : Type} {en : α → PyData} {xs ys : List α} {x : α} {us : List V} (k : popM xs 0 = some (x, ys)) (h : Dts K F us (xs.map en)) : ∃ u us', us = u :: us' ∧ Dt K F u (en x) ∧ Dts K F us' (ys.map en) := by
  obtain ⟨_, j, h1, h2, rfl⟩ := popM_some k
  cases xs with
  | nil => simp at h2
  | cons z zs =>
    have : j = 0 := by
      have e : seqIndex? (0 : Int) (z :: zs).length = some 0 := by unfold seqIndex?; simp
      rw [e] at h1; exact (Option.some.inj h1).symm
    subst this
    simp at h2; subst h2
    obtain ⟨u, us', rfl, a, b⟩ := Dts.hd h
    exact ⟨u, us', rfl, a, b⟩
theorem d_pop0 {l1 l2 : Cs} {p : Addr} {u : V} {us : List V} {d : PyData} (hp : VP to σ F (l1 ++ (p, .lst (u :: us)) :: l2) (.ref p)) (hd : Dt K F u d) :
    EvD K (tBM K "list" rPopAt to (tCons (tC (.int 0)) tNil)) σ F (l1 ++ (p, .lst (u :: us)) :: l2) d (l1 ++ (p, .lst us) :: l2) := fun F1 H1 g1 s Q q => by
  refine hp F1 H1 g1 s _ ⟨?_, p, u :: us, 0, 0, u, rfl, rfl, s.getAt, by decide, by decide, by unfold seqIndex?; simp, rfl, ?_⟩
  · exact .inl ⟨rfl, _, .inl (.inl s.getAt)⟩
  · exact q _ F1 _ Gr.rfl s.putAt (hd.gr g1)
end
end Bw
namespace Bw
open PySem L2 PyProof.Rows PySem.Spec
/-! texts, sorted -/
theorem lt_cons (x y : Nat) (a b : List Nat) : ltCps (x :: a) (y :: b) = true ↔ x < y ∨ x = y ∧ ltCps a b = true := by simp [ltCps]
theorem lt_tri : ∀ a b : List Nat, ltCps a b = true ∨ a = b ∨ ltCps b a = true
  | [], [] => .inr (.inl rfl)
  | [], _ :: _ => .inl (by simp [ltCps])
  | _ :: _, [] => .inr (.inr (by simp [ltCps]))
  | x :: a, y :: b => by
    rw [lt_cons, lt_cons]
    rcases Nat.lt_trichotomy x y with h | h | h
    · exact .inl (.inl h)
    · subst h
      rcases lt_tri a b with h | h | h
      · exact .inl (.inr ⟨rfl, h⟩)
      · exact .inr (.inl (by rw [h]))
      · exact .inr (.inr (.inr ⟨rfl, h⟩))
    · exact .inr (.inr (.inl h))
theorem lt_trans : ∀ a b c : List Nat, ltCps a b = true → ltCps b c = true → ltCps a c = true
  | [], [], _, h, _ => by simp [ltCps] at h
  | [], _ :: _, [], _, h => by simp [ltCps] at h
  | [], _ :: _, _ :: _, _, _ => by simp [ltCps]
  | _ :: _, [], _, h, _ => by simp [ltCps] at h
  | _ :: _, _ :: _, [], _, h => by simp [ltCps] at h
  | x :: a, y :: b, z :: c, h, k => by
    rw [lt_cons] at h k ⊢
    rcases h with h | ⟨rfl, h⟩
    · rcases k with k | ⟨rfl, k⟩
      · exact .inl (Nat.lt_trans h k)
      · exact .inl h
    · rcases k with k | ⟨rfl, k⟩
      · exact .inl k
      · exact .inr ⟨rfl, lt_trans a b c h k⟩
theorem lt_irr : ∀ a : List Nat, ltCps a a = false
  | [] => rfl
  | x :: a => by
    cases h : ltCps (x :: a) (x :: a) with
    | false => rfl
    | true =>
      rw [lt_cons] at h
      rcases h with h | ⟨_, h⟩
      · exact absurd h (Nat.lt_irrefl _)
      · rw [lt_irr a] at h; cases h
/-- x stands not behind y -/
def leS (x y : Str) : Prop := ltCps y.cps.toList x.cps.toList = false
instance (x y : Str) : Decidable (leS x y) := inferInstanceAs (Decidable (_ = _))
theorem str_ext {x y : Str} (h : x.cps.toList = y.cps.toList) : x = y := by
  obtain ⟨⟨a⟩⟩ := x; obtain ⟨⟨b⟩⟩ := y
  simp at h; subst h; rfl
theorem leS_antisymm {x y : Str} (h : leS x y) (k : leS y x) : x = y := by
  rcases lt_tri x.cps.toList y.cps.toList with q | q | q
  · unfold leS at k; rw [q] at k; cases k
  · exact str_ext q
  · unfold leS at h; rw [q] at h; cases h
theorem leS_total (x y : Str) : leS x y ∨ leS y x := by
  unfold leS
  rcases lt_tri x.cps.toList y.cps.toList with q | q | q
  · left
    cases h : ltCps y.cps.toList x.cps.toList with
    | false => rfl
    | true => have := lt_trans _ _ _ q h; rw [lt_irr] at this; cases this
  · left; rw [q]; exact lt_irr _
  · right
    cases h : ltCps x.cps.toList y.cps.toList with
    | false => rfl
    | true => have := lt_trans _ _ _ q h; rw [lt_irr] at this; cases this
theorem leS_trans {x y z : Str} (h : leS x y) (k : leS y z) : leS x z := by
  unfold leS at *
  cases q : ltCps z.cps.toList x.cps.toList with
  | false => rfl
  | true =>
    rcases lt_tri y.cps.toList x.cps.toList with r | r | r
    · rw [h] at r; cases r
    · rw [← r, k] at q; cases q
    · have := lt_trans _ _ _ q r; rw [k] at this; cases this
def insS (x : Str) : List Str → List Str
  | [] => [x]
  | y :: ys => if leS x y then x :: y :: ys else y :: insS x ys
def srtS : List Str → List Str
  | [] => []
  | x :: xs => insS x (srtS xs)
theorem insS_perm (x : Str) : ∀ ys, (insS x ys).Perm (x :: ys)
  | [] => .refl _
  | y :: ys => by
    unfold insS
    split
    · exact .refl _
    · exact ((insS_perm x ys).cons y).trans (.swap x y ys)
theorem srtS_perm : ∀ xs, (srtS xs).Perm xs
  | [] => .refl _
  | x :: xs => (insS_perm x _).trans ((srtS_perm xs).cons x)
theorem insS_sort (x : Str) : ∀ ys, ys.Pairwise leS → (insS x ys).Pairwise leS
  | [], _ => List.pairwise_singleton _ _
  | y :: ys, h => by
    rw [List.pairwise_cons] at h
    unfold insS
    split
    · rename_i q
      rw [List.pairwise_cons]
      exact ⟨fun z hz => by rcases List.mem_cons.mp hz with rfl | hz; (exact q); (exact leS_trans q (h.1 z hz)), List.pairwise_cons.mpr h⟩
    · rename_i q
      rw [List.pairwise_cons]
      refine ⟨fun z hz => ?_, insS_sort x ys h.2⟩
      rcases List.mem_cons.mp ((insS_perm x ys).mem_iff.mp hz) with rfl | hz
      · exact (leS_total _ _).resolve_left q
      · exact h.1 z hz
theorem srtS_sort : ∀ xs, (srtS xs).Pairwise leS
  | [] => List.Pairwise.nil
  | x :: xs => insS_sort x _ (srtS_sort xs)
theorem sortS_uniq : ∀ (xs ys : List Str), xs.Perm ys → xs.Pairwise leS → ys.Pairwise leS → xs = ys
  | [], ys, p, _, _ => (List.Perm.nil_eq p)
  | x :: xs, [], p, _, _ => by have := p.length_eq; simp at this
  | x :: xs, y :: ys, p, h, k => by
    rw [List.pairwise_cons] at h k
    have e : x = y := by
      rcases List.mem_cons.mp (p.mem_iff.mp List.mem_cons_self) with h1 | h1
      · exact h1
      · rcases List.mem_cons.mp (p.mem_iff.mpr List.mem_cons_self) with h2 | h2
        · exact h2.symm
        · exact leS_antisymm (h.1 y h2) (k.1 x h1)
    subst e
    rw [sortS_uniq xs ys (List.Perm.cons_inv p) h.2 k.2]
theorem rising_pw : ∀ (xs : List Str) (p : Str), risingS p xs = true → (p :: xs).Pairwise leS
  | [], p, _ => List.pairwise_singleton _ _
  | x :: xs, p, h => by
    unfold risingS at h
    rw [Bool.and_eq_true, Bool.not_eq_true'] at h
    have ih := rising_pw xs x h.2
    rw [List.pairwise_cons]
    refine ⟨fun z hz => ?_, ih⟩
    rcases List.mem_cons.mp hz with rfl | hz
    · exact h.1
    · exact leS_trans h.1 ((List.pairwise_cons.mp ih).1 z hz)
theorem sorted_pw {xs : List Str} (h : sortedS xs = true) : xs.Pairwise leS := by
  cases xs with
  | nil => exact List.Pairwise.nil
  | cons x xs => exact rising_pw xs x h
def srtM (xs : List Str) : Option (List Str) := if xs.length < 64 then some (srtS xs) else none
def idxM {α : Type} [BEq α] (xs : List α) (x : α) : Option Int := (xs.findIdx? fun y => y == x).map fun (j : Nat) => (j : Int)
section
variable {K : PySem.W.Frag} {σ : L2.St} {F : Hp} {cs cs1 cs2 : Cs} {as : TA} {ta tb : TE}
theorem c_sortedS {xs ys : List Str} (h : EvDs K as σ F cs [eL eS xs] cs1) (hm : srtM xs = some ys) : EvC K (tCB (rSortedS K) as) σ F cs (ys.map eS) cs1 := fun F1 H1 g1 s Q q => by
  unfold srtM at hm
  split at hm
  case isFalse => cases hm
  rename_i hl
  cases hm
  refine h F1 H1 g1 s _ fun vs F2 H2 g2 s2 hv => ?_
  obtain ⟨v, rfl, hv2⟩ := Dts.one hv
  obtain ⟨a, us, rfl, hq, hd⟩ := hv2.toLst
  obtain rfl := Dts.strs hd
  refine ⟨a, xs, rfl, gr_L s2.fr hq, hl, fun zs p pm so hp => ?_⟩
  obtain rfl := sortS_uniq zs (srtS xs) (pm.trans (srtS_perm xs).symm) (sorted_pw so) (srtS_sort xs)
  exact q p _ F2 _ g2 (s2.cell hp) (Dts.of_strs _)
theorem d_idxI {xs : List Int} {x j : Int} (ha : EvD K ta σ F cs (eL eI xs) cs1) (hb : EvD K tb σ F cs1 (.int x) cs2) (hm : idxM xs x = some j) : EvD K (tBM K "list" (rIndex K) ta (tCons tb tNil)) σ F cs (.int j) cs2 := fun F1 H1 g1 s Q q => by
  unfold idxM at hm
  rw [Option.map_eq_some_iff] at hm
  obtain ⟨n, hn, rfl⟩ := hm
  rw [List.findIdx?_eq_some_iff_getElem] at hn
  obtain ⟨hlt, hx, hno⟩ := hn
  refine ha F1 H1 g1 s _ fun v F2 H2 g2 s2 hv => ?_
  obtain ⟨a, us, rfl, hq, hd⟩ := hv.toLst
  obtain rfl := Dts.ints hd
  refine ⟨.inl ⟨rfl, _, gr_L s2.fr hq⟩, ?_⟩
  refine hb F2 H2 (g1.tr g2) s2 _ fun w F3 H3 g3 s3 hw => ?_
  cases hw.toInt
  refine ⟨a, xs.map V.int, .int x, n, .int x, rfl, rfl, gr_L s3.fr (gr_L g3 hq), rfl, flatI xs, ?_, by simp [eqV], fun m z' hm hz => ?_, q _ F3 H3 (g2.tr g3) s3 (.int _)⟩
  · rw [List.getElem?_map, List.getElem?_eq_getElem hlt]
    simp only [Option.map_some, Option.some.injEq]
    have : xs[n] = x := by simpa using hx
    rw [this]
  · rw [List.getElem?_map, List.getElem?_eq_getElem (by omega)] at hz
    simp only [Option.map_some, Option.some.injEq] at hz
    subst hz
    have := hno m hm
    simpa [eqV] using this
end
end Bw
namespace Bw
open PySem L2
theorem s_ifor {t u : TT} {a b : TS} {D : Ends} {σ : L2.St} {H : Hp} (h : tIfS t a (tIfS u a b) D σ H) : tIfS (tOr t u) a b D σ H := by
  unfold tIfS tOr
  unfold tIfS at h
  have e : (fun (c : Bool) (H1 : Hp) => if c = true then a D σ H1 else u σ H1 fun b_1 H1 => if b_1 = true then a D σ H1 else b D σ H1) = fun (c : Bool) (H1 : Hp) => if c = true then (if true = true then a D σ H1 else b D σ H1) else u σ H1 fun b_1 H1 => if b_1 = true then a D σ H1 else b D σ H1 := by
    funext c H1; cases c <;> rfl
  rw [e] at h
  exact h
theorem s_ifand {t u : TT} {a b : TS} {D : Ends} {σ : L2.St} {H : Hp} (h : tIfS t (tIfS u a b) b D σ H) : tIfS (tAnd t u) a b D σ H := by
  unfold tIfS tAnd
  unfold tIfS at h
  have e : (fun (c : Bool) (H1 : Hp) => if c = true then u σ H1 fun b_1 H1 => if b_1 = true then a D σ H1 else b D σ H1 else b D σ H1) = fun (c : Bool) (H1 : Hp) => if c = true then (u σ H1 fun b_1 H1 => if b_1 = true then a D σ H1 else b D σ H1) else if false = true then a D σ H1 else b D σ H1 := by
    funext c H1; cases c <;> rfl
  rw [e] at h
  exact h
end Bw

namespace Bw
open PySem L2
theorem u65 {k : Nat} {A : Around} (r : Room k A) : A.units + 65 < cLine := by have := r.un; omega
/-! x in a list, of things of any kind -/
def inTM {α : Type} [DecidableEq α] (e : α → PyData) (x : α) (xs : List α) : Option Bool := if SeqAt.shaped (e x) = true ∧ SeqAt.shaped (eL e xs) = true then some (decide (x ∈ xs)) else none
def inDM (x : PyData) (xs : List PyData) : Option Bool := if SeqAt.shaped x = true ∧ SeqAt.shaped (.list xs) = true then some (xs.any fun z => PyData.eqv z x) else none
section
variable {K : PySem.W.Frag} {σ : L2.St} {F : Hp} {cs cs1 cs2 : Cs} {ta tb : TE}
theorem any_eqE {α : Type} [DecidableEq α] {e : α → PyData} (he : EqE e) (x : α) (xs : List α) : ((xs.map e).any fun z => PyData.eqv z (e x)) = decide (x ∈ xs) := by
  induction xs with
  | nil => rfl
  | cons y ys ih =>
    rw [List.map_cons, List.any_cons, ih, he y x]
    by_cases q : y = x
    · simp [q]
    · have : ¬ x = y := fun z => q z.symm
      simp [q, this]
theorem d_inTM {α : Type} [DecidableEq α] {e : α → PyData} {x : α} {xs : List α} {b : Bool} (he : EqE e) (ha : EvD K ta σ F cs (e x) cs1) (hb : EvD K tb σ F cs1 (eL e xs) cs2) (hm : inTM e x xs = some b) : EvD K (tOp (rInD K) ta tb) σ F cs (.bool b) cs2 := fun F1 H1 g1 s Q q => by
  unfold inTM at hm
  split at hm
  case isFalse => cases hm
  rename_i hs
  cases hm
  refine ha F1 H1 g1 s _ fun v F2 H2 g2 s2 hv => hb F2 H2 (g1.tr g2) s2 _ fun w F3 H3 g3 s3 hw => ?_
  refine ⟨e x, xs.map e, (hv.gr (g3.tr s3.fr)).dp (SeqAt.canLay_of_shaped hs.1), (hw.gr s3.fr).dp (SeqAt.canLay_of_shaped hs.2), hs.1, hs.2, ?_⟩
  rw [any_eqE he]
  exact q _ F3 H3 (g2.tr g3) s3 (.bl _)
theorem d_ninTM {α : Type} [DecidableEq α] {e : α → PyData} {x : α} {xs : List α} {b : Bool} (he : EqE e) (ha : EvD K ta σ F cs (e x) cs1) (hb : EvD K tb σ F cs1 (eL e xs) cs2) (hm : inTM e x xs = some b) : EvD K (tOp (rNotInD K) ta tb) σ F cs (.bool (!b)) cs2 := fun F1 H1 g1 s Q q => by
  unfold inTM at hm
  split at hm
  case isFalse => cases hm
  rename_i hs
  cases hm
  refine ha F1 H1 g1 s _ fun v F2 H2 g2 s2 hv => hb F2 H2 (g1.tr g2) s2 _ fun w F3 H3 g3 s3 hw => ?_
  refine ⟨e x, xs.map e, (hv.gr (g3.tr s3.fr)).dp (SeqAt.canLay_of_shaped hs.1), (hw.gr s3.fr).dp (SeqAt.canLay_of_shaped hs.2), hs.1, hs.2, ?_⟩
  rw [any_eqE he]
  exact q _ F3 H3 (g2.tr g3) s3 (.bl _)
theorem d_inDM {x : PyData} {xs : List PyData} {b : Bool} (ha : EvD K ta σ F cs x cs1) (hb : EvD K tb σ F cs1 (.list xs) cs2) (hm : inDM x xs = some b) : EvD K (tOp (rInD K) ta tb) σ F cs (.bool b) cs2 := fun F1 H1 g1 s Q q => by
  unfold inDM at hm
  split at hm
  case isFalse => cases hm
  rename_i hs
  cases hm
  refine ha F1 H1 g1 s _ fun v F2 H2 g2 s2 hv => hb F2 H2 (g1.tr g2) s2 _ fun w F3 H3 g3 s3 hw => ?_
  exact ⟨x, xs, (hv.gr (g3.tr s3.fr)).dp (SeqAt.canLay_of_shaped hs.1), (hw.gr s3.fr).dp (SeqAt.canLay_of_shaped hs.2), hs.1, hs.2, q _ F3 H3 (g2.tr g3) s3 (.bl _)⟩
theorem d_ninDM {x : PyData} {xs : List PyData} {b : Bool} (ha : EvD K ta σ F cs x cs1) (hb : EvD K tb σ F cs1 (.list xs) cs2) (hm : inDM x xs = some b) : EvD K (tOp (rNotInD K) ta tb) σ F cs (.bool (!b)) cs2 := fun F1 H1 g1 s Q q => by
  unfold inDM at hm
  split at hm
  case isFalse => cases hm
  rename_i hs
  cases hm
  refine ha F1 H1 g1 s _ fun v F2 H2 g2 s2 hv => hb F2 H2 (g1.tr g2) s2 _ fun w F3 H3 g3 s3 hw => ?_
  exact ⟨x, xs, (hv.gr (g3.tr s3.fr)).dp (SeqAt.canLay_of_shaped hs.1), (hw.gr s3.fr).dp (SeqAt.canLay_of_shaped hs.2), hs.1, hs.2, q _ F3 H3 (g2.tr g3) s3 (.bl _)⟩
end
end Bw

namespace Bw
open PySem L2
section
variable {K : PySem.W.Frag} {σ : St} {F : Hp} {cs : Cs} {ta tb : TE} {as : TA} {H : Hp} {D : Ends} {a b : TS}
theorem vp_con {v : V} : VP (tC v) σ F cs v := fun _ _ _ _ _ q => q
/-- the left side of a compare, stepped over directly -/
theorem s_ifL {r : R2} (h : ta σ H fun x H1 => tIfS (tTest (tOp r (tC x) tb)) a b D σ H1) : tIfS (tTest (tOp r ta tb)) a b D σ H := h
/-- a method of what was just made -/
theorem o_methN {C : Addr} {m : Str} {sp : Sp} {E : XK} {Q : VK} (h : ta σ H fun x H1 => ∃ a dx fs, x = .ref a ∧ H1 a = some (.ins C dx fs) ∧ fs.lookup m = none ∧ as σ H1 fun vs H2 => sp (x :: (vs ++ [])) H2 Q E) : tMeth C m sp [] E ta as σ H Q := h
theorem o_methN2 {l1 l2 : Cs} {x C dx : Addr} {fs : List (Str × V)} {m : Str} {sp : Sp} {E : XK} {Q : VK} (s : Sta F (l1 ++ (x, .ins C dx fs) :: l2) H) (hl : fs.lookup m = none)
    (h : as σ H fun vs H2 => sp (.ref x :: (vs ++ [])) H2 Q E) : ∃ a dx fs, V.ref x = .ref a ∧ H a = some (.ins C dx fs) ∧ fs.lookup m = none ∧ as σ H fun vs H2 => sp (V.ref x :: (vs ++ [])) H2 Q E := ⟨x, dx, fs, rfl, s.getAt, hl, h⟩
end
end Bw

namespace Bw
open PySem L2
def top (i : Nat) : Stmt := PySem.Challenge.pw_baycart_k50_orders_and_none.main.body.getD i (.Pass ⟨0, 0, 0, 0⟩)
abbrev xcl : List Str := ["NoAisle", "NoOrders"]
abbrev xts : List Str := ["NoAisle", "NoBay", "NoBox", "NoFork", "NoOrders", "NoPaper", "NoPlan", "NoRoom", "NoRow", "NoStore", "NoText", "NoWants", "TooMany", "Unknown"]
abbrev T_Sweep : Type := (List Int) × Int × (List (Str × Int × Int × Int)) × (List (Str × Int × Int × Int)) × (List (Str × Int × Int × Int)) × (List (Str × Int × Int × Int)) × Int × Int × Int × Int
def O_Sweep (K : PySem.W.Frag) (x : T_Sweep) (F : Hp) (a : Addr) (c : Cs) : Prop := ∃ (dx : Addr) (p0 : Addr) (p2 : Addr) (u2 : List V) (p3 : Addr) (u3 : List V) (p4 : Addr) (u4 : List V) (p5 : Addr) (u5 : List V), c = [(a, .ins (He.ga K "Sweep") dx [("gaps", .ref p0), ("most", (.int x.2.1)), ("coming", .ref p2), ("waiting", .ref p3), ("riding", .ref p4), ("arrived", .ref p5), ("tick", (.int x.2.2.2.2.2.2.1)), ("bay", (.int x.2.2.2.2.2.2.2.1)), ("step", (.int x.2.2.2.2.2.2.2.2.1)), ("ahead", (.int x.2.2.2.2.2.2.2.2.2))]), (dx, .own a), (p0, .lst (x.1.map V.int)), (p2, .lst u2), (p3, .lst u3), (p4, .lst u4), (p5, .lst u5)] ∧ Dts K F u2 (x.2.2.1.map (eT4 eS eI eI eI)) ∧ Dts K F u3 (x.2.2.2.1.map (eT4 eS eI eI eI)) ∧ Dts K F u4 (x.2.2.2.2.1.map (eT4 eS eI eI eI)) ∧ Dts K F u5 (x.2.2.2.2.2.1.map (eT4 eS eI eI eI))
theorem O_Sweep.gr {K : PySem.W.Frag} {x : T_Sweep} {F F' : Hp} {a : Addr} {c : Cs} (g : Gr F F') (h : O_Sweep K x F a c) : O_Sweep K x F' a c := by
  obtain ⟨dx, p0, p2, u2, p3, u3, p4, u4, p5, u5, rfl, h2, h3, h4, h5⟩ := h
  exact ⟨dx, p0, p2, u2, p3, u3, p4, u4, p5, u5, rfl, Dts.gr g h2, Dts.gr g h3, Dts.gr g h4, Dts.gr g h5⟩
abbrev s_pool : Stmt := (top 37)
def f_pool : ((List Int) × Int) → Option (List Int) := fun (script_1, k_2) => ((if (decide (k_2 < (script_1.length : Int))) = true then (((atI script_1 k_2)).bind fun x57 => some x57) else some (0 : Int))).bind fun cell_7 => (((mulM ((15485863 : Int) * k_2) k_2)).bind fun x17 => letM (((((cell_7 % (1000000007 : Int)) + x17) + (3 : Int)) * (16807 : Int)) % (2147483647 : Int)) fun seed_23 => ((if (decide (cell_7 < (1000000000000000000 : Int))) = true then some (0 : Int) else some cell_7)).bind fun cell_25 => some ([cell_25, seed_23] : (List Int)))
abbrev A_pool : ((List Int) × Int) → List Ar := fun x => [.d ((eL eI) x.1), .d (eI x.2)]
abbrev B_pool : (List Int) → List PyData := fun y => y.map eI
abbrev C_pool : (List Int) → List (List V) := fun y => []
abbrev N_pool : List Str := ["_law_script", "_law_k", "_law_cell", "_law_seed"]
abbrev sp_pool (K : PySem.W.Frag) : Sp := spF K A_pool B_pool C_pool f_pool
def t_pool (K : PySem.W.Frag) : TS := (tSeq (tAsg (tC (.int 0)) (gName 2)) (tSeq (tIfS (tTest (tOp (rI0 fun i j => .bl (decide (i < j))) (tVar 1) (tCB (rLenL K) (tCons (tVar 0) tNil)))) (tAsg (tOp (rIxL K) (tVar 0) (tVar 1)) (gName 2)) tNext) (tSeq (tAsg (tOp (rI (fun _ j => 0 < j) fun i j => .int (i % j)) (tOp (rI CMul fun i j => .int (i * j)) (tOp (rI0 fun i j => .int (i + j)) (tOp (rI0 fun i j => .int (i + j)) (tOp (rI (fun _ j => 0 < j) fun i j => .int (i % j)) (tVar 2) (tC (.int 1000000007))) (tOp (rI CMul fun i j => .int (i * j)) (tOp (rI CMul fun i j => .int (i * j)) (tC (.int 15485863)) (tVar 1)) (tVar 1))) (tC (.int 3))) (tC (.int 16807))) (tC (.int 2147483647))) (gName 3)) (tSeq (tIfS (tTest (tOp (rI0 fun i j => .bl (decide (i < j))) (tVar 2) (tOp (rI CPow fun i j => .int (i ^ j.toNat)) (tC (.int 10)) (tC (.int 18))))) (tAsg (tC (.int 0)) (gName 2)) tNext) (tRet (tLst (tCons (tVar 2) (tCons (tVar 3) tNil))))))))
theorem w_pool {K : PySem.W.Frag} (vs : List V) (H : Hp) (Q : VK) (E : XK) (h : sp_pool K vs H Q E) : t_pool K { nx := fun _ H' => Q .non H', rt := Q } (start N_pool vs) H := by
  obtain ⟨F0, cc, cs, ⟨script_1, k_2⟩, y, h0, hS0, m, q⟩ := h
  obtain ⟨a0, _, rfl, ha0, h1⟩ := ArgR.hd h0
  obtain ⟨a1, _, rfl, ha1, h2⟩ := ArgR.hd h1
  obtain ⟨rfl, rfl⟩ := ArgR.no h2
  obtain rfl := Dt.toInt ha1
  unfold f_pool at m
  try dsimp only at m
  unfold t_pool
  refine go (σ' := [some a0, some (.int k_2), none, none]) rfl ?_
  refine s_setV (K := K) (d := eI (0 : Int)) (i := 2) (σ' := [some a0, some (.int k_2), some (.int (0 : Int)), none]) (fun _ _ h => Dt.toInt h) hS0 d_int rfl (fun F3 H4 g5 hS6 => ?_)
  obtain ⟨cell_7, k9, m⟩ := bnd m
  refine s_ifJ (b := (decide (k_2 < (script_1.length : Int)))) (fun σ H => ∃ (F : Hp) (c : Cs), Gr F3 F ∧ Sta F c H ∧ ∃ (j3 : Option V), σ = [some a0, some (.int k_2), some (.int cell_7), j3] ∧ cs = c) hS6 (t_test (K := K) (d_lt (d_var rfl (.int _)) (d_len (e := eI) (a_cons (d_var rfl (Dt.gr g5 ha0)) a_nil)))) ?_ (fun jn8 hc F53 H54 g55 hS56 => ?_) (fun jn8 hc F63 H64 g65 hS66 => ?_)
  · rintro σ15 H11 ⟨F10, c14, g12, hS13, u16, rfl, rfl⟩
    obtain ⟨x17, k18, m⟩ := bnd m
    obtain ⟨seed_23, k24, m⟩ := lt m
    refine s_setV (K := K) (d := eI seed_23) (i := 3) (σ' := [some a0, some (.int k_2), some (.int cell_7), some (.int seed_23)]) (fun _ _ h => Dt.toInt h) hS13 (d_is (d_modC (d_mulC (d_add (d_add (d_modC (d_var rfl (.int _)) d_int (by decide)) (d_mul (d_mulC d_int (d_var rfl (.int _)) (.inl ⟨by decide, by decide⟩)) (d_var rfl (.int _)) k18)) d_int) d_int (.inr ⟨by decide, by decide⟩)) d_int (by decide)) (congrArg eI k24)) rfl (fun F19 H20 g21 hS22 => ?_)
    obtain ⟨cell_25, k27, m⟩ := bnd m
    refine s_ifJ (b := (decide (cell_7 < (1000000000000000000 : Int)))) (fun σ H => ∃ (F : Hp) (c : Cs), Gr F19 F ∧ Sta F c H ∧ σ = [some a0, some (.int k_2), some (.int cell_25), some (.int seed_23)] ∧ cs = c) hS22 (t_test (K := K) (d_lt (d_var rfl (.int _)) (d_is (e := PyData.int 1000000000000000000) (d_powC d_int d_int ⟨by decide, by decide, by decide⟩) (congrArg PyData.int (by decide))))) ?_ (fun jn26 hc F41 H42 g43 hS44 => ?_) (fun jn26 hc F49 H50 g51 hS52 => ?_)
    · rintro σ33 H29 ⟨F28, c32, g30, hS31, rfl, rfl⟩
      refine s_retC (K := K) (ds := ([cell_25, seed_23] : (List Int)).map eI) hS31 (c_lst (a_cons (d_var rfl (.int _)) (a_cons (d_var rfl (.int _)) a_nil)) (Nat.le_of_ble_eq_true rfl)) (fun p38 us39 F34 H35 g36 hS37 hu40 => ?_)
      obtain rfl := sm m
      exact q _ _ _ _ (Gr.tr g5 (Gr.tr g12 (Gr.tr g21 (Gr.tr g30 g36)))) hS37 hu40
    · rw [if_pos hc] at k27
      refine s_setV (K := K) (d := eI (0 : Int)) (i := 2) (σ' := [some a0, some (.int k_2), some (.int (0 : Int)), some (.int seed_23)]) (fun _ _ h => Dt.toInt h) hS44 d_int rfl (fun F45 H46 g47 hS48 => ?_)
      obtain rfl := sm k27
      exact jn26 _ _ ⟨_, _, (Gr.tr g43 g47), hS48, rfl, rfl⟩
    · rw [if_neg (bf hc)] at k27
      refine nxt ?_
      obtain rfl := sm k27
      exact jn26 _ _ ⟨_, _, g51, hS52, rfl, rfl⟩
  · rw [if_pos hc] at k9
    obtain ⟨x57, k58, k9⟩ := bnd k9
    refine s_setV (K := K) (d := eI x57) (i := 2) (σ' := [some a0, some (.int k_2), some (.int x57), none]) (fun _ _ h => Dt.toInt h) hS56 (d_ix (e := eI) (d_var rfl (Dt.gr (Gr.tr g5 g55) ha0)) (d_var rfl (.int _)) k58) rfl (fun F59 H60 g61 hS62 => ?_)
    obtain rfl := sm k9
    exact jn8 _ _ ⟨_, _, (Gr.tr g55 g61), hS62, _, rfl, rfl⟩
  · rw [if_neg (bf hc)] at k9
    refine nxt ?_
    obtain rfl := sm k9
    exact jn8 _ _ ⟨_, _, g65, hS66, _, rfl, rfl⟩
theorem sc_pool : FnScope N_pool ["_law_script", "_law_k"] (defScope s_pool) := ⟨rfl, rfl, rfl, by decide +kernel, rfl, by decide +kernel, by decide +kernel⟩
theorem ok_pool {P : Program} {w : World} {K : PySem.W.Frag} {mg : Str → Option Value} {base : Heap} (hF : Df K mg "_law_pool" s_pool) (m_len : mg "len" = none) : Ok P w K mg base 1 "_law_pool" ["_law_script", "_law_k"] (sp_pool K) := by
  obtain ⟨⟨fd, F⟩, gm⟩ := hF
  refine ⟨⟨fd, F.ok sc_pool (fun vs H Q E h => ?_) (fun cdv A outer s H vs Q E hr h => ⟨t_pool K, PSs.nox ?_, w_pool vs H Q E h⟩), F.bindsN fun _ _ _ _ _ _ us hl => match us, hl with | [_, _], _ => rfl, lk_of F⟩, F.kp, gm⟩
  · obtain ⟨F0, cc, cs, x, y, h, _⟩ := h; exact ArgR.len h
  · exact (pss_cons (ps_set (i := 2) sc_pool.nd rfl (Or.inl rfl) pe_int) (pss_cons (ps_if (pt_cmpR op_lt (pv 1) (pe_callB cr_lenL (by rfl) m_len PySem.boot_len (pa_cons (pv 0) pa_nil)) (nomark _)) (pss_one (ps_set (i := 2) sc_pool.nd rfl (Or.inl rfl) (pe_ix ix_list (pv 0) (pv 1) (fun _ _ => rfl)))) pss_nil) (pss_cons (ps_set (i := 3) sc_pool.nd rfl (Or.inl rfl) (pe_op op_mod (pe_op op_mul (pe_op op_add (pe_op op_add (pe_op op_mod (pv 2) pe_int) (pe_op op_mul (pe_op op_mul pe_int (pv 1)) (pv 1))) pe_int) pe_int) pe_int)) (pss_cons (ps_if (pt_cmpR op_lt (pv 2) (pe_op op_pow pe_int pe_int) (nomark _)) (pss_one (ps_set (i := 2) sc_pool.nd rfl (Or.inl rfl) pe_int)) pss_nil) (pss_one (ps_ret (pe_lst (pa_cons (pv 2) (pa_cons (pv 3) pa_nil)))))))))
abbrev s_take : Stmt := (top 38)
def f_take : ((List Int) × Int) → Option (Int × (List Int)) := fun (pool_here_1, many_2) => (((atI pool_here_1 (0 : Int))).bind fun x6 => (if (decide ((0 : Int) < x6)) = true then (((atI pool_here_1 (0 : Int))).bind fun x15 => ((modM x15 many_2)).bind fun x17 => (((atI pool_here_1 (0 : Int))).bind fun x26 => ((fdivM x26 many_2)).bind fun x28 => ((setM pool_here_1 (0 : Int) x28)).bind fun pool_here_30 => some (x17, pool_here_30))) else (((atI pool_here_1 (1 : Int))).bind fun x49 => ((setM pool_here_1 (1 : Int) (((x49 * (48271 : Int)) + (11 : Int)) % (2147483647 : Int)))).bind fun pool_here_51 => (((atI pool_here_51 (1 : Int))).bind fun x60 => ((atI pool_here_51 (1 : Int))).bind fun x62 => ((mulM x60 x62)).bind fun x64 => ((modM ((x64 % (2147483629 : Int)) / (64 : Int)) many_2)).bind fun x66 => some (x66, pool_here_51)))))
abbrev A_take : ((List Int) × Int) → List Ar := fun x => [.c (x.1.map V.int), .d (eI x.2)]
abbrev B_take : (Int × (List Int)) → PyData := fun y => eI y.1
abbrev C_take : (Int × (List Int)) → List (List V) := fun y => [y.2.map V.int]
abbrev N_take : List Str := ["_law_pool_here", "_law_many", "_law_found"]
abbrev sp_take (K : PySem.W.Frag) : Sp := spC K A_take B_take C_take f_take
def t_take (K : PySem.W.Frag) : TS := (tSeq (tIfS (tTest (tOp (rI0 fun i j => .bl (decide (j < i))) (tOp (rIxL K) (tVar 0) (tC (.int 0))) (tC (.int 0)))) (tSeq (tAsg (tOp (rI (fun _ j => 0 < j) fun i j => .int (i % j)) (tOp (rIxL K) (tVar 0) (tC (.int 0))) (tVar 1)) (gName 2)) (tSeq (tAsg (tOp (rI CDiv fun i j => .int (i / j)) (tOp (rIxL K) (tVar 0) (tC (.int 0))) (tVar 1)) (gSub (tVar 0) (tC (.int 0)) rSetL)) (tRet (tVar 2)))) tNext) (tSeq (tAsg (tOp (rI (fun _ j => 0 < j) fun i j => .int (i % j)) (tOp (rI0 fun i j => .int (i + j)) (tOp (rI CMul fun i j => .int (i * j)) (tOp (rIxL K) (tVar 0) (tC (.int 1))) (tC (.int 48271))) (tC (.int 11))) (tC (.int 2147483647))) (gSub (tVar 0) (tC (.int 1)) rSetL)) (tRet (tOp (rI (fun _ j => 0 < j) fun i j => .int (i % j)) (tOp (rI CDiv fun i j => .int (i / j)) (tOp (rI (fun _ j => 0 < j) fun i j => .int (i % j)) (tOp (rI CMul fun i j => .int (i * j)) (tOp (rIxL K) (tVar 0) (tC (.int 1))) (tOp (rIxL K) (tVar 0) (tC (.int 1)))) (tC (.int 2147483629))) (tC (.int 64))) (tVar 1)))))
theorem w_take {K : PySem.W.Frag} (vs : List V) (H : Hp) (Q : VK) (E : XK) (h : sp_take K vs H Q E) : t_take K { nx := fun _ H' => Q .non H', rt := Q } (start N_take vs) H := by
  obtain ⟨F0, cc, cs, ⟨pool_here_1, many_2⟩, y, h0, hS0, m, q⟩ := h
  obtain ⟨a0, _, _, rfl, rfl, h1⟩ := ArgR.hc h0
  obtain ⟨a1, _, rfl, ha1, h2⟩ := ArgR.hd h1
  obtain ⟨rfl, rfl⟩ := ArgR.no h2
  obtain rfl := Dt.toInt ha1
  unfold f_take at m
  try dsimp only at m
  unfold t_take
  refine go (σ' := [some (.ref a0), some (.int many_2), none]) rfl ?_
  obtain ⟨x6, k7, m⟩ := bnd m
  refine s_if (b := (decide ((0 : Int) < x6))) hS0 (t_lendX (l1 := []) (m1 := []) (fun F3 g4 hn5 => (t_test (K := K) (d_gt (d_ix (e := eI) (d_var rfl (lent_l hn5 (Dts.gr g4 (Dts.of_ints _)))) d_int k7) d_int)))) (fun hc F8 H9 g10 hS11 => ?_) (fun hc F42 H43 g44 hS45 => ?_)
  · rw [if_pos hc] at m
    obtain ⟨x15, k16, m⟩ := bnd m
    obtain ⟨x17, k18, m⟩ := bnd m
    refine s_setV (K := K) (d := eI x17) (i := 2) (σ' := [some (.ref a0), some (.int many_2), some (.int x17)]) (fun _ _ h => Dt.toInt h) hS11 (d_lendX (l1 := []) (m1 := []) (fun _ _ h => Dt.toInt h) (fun _ => (.int _)) (fun F12 g13 hn14 => (d_mod (d_ix (e := eI) (d_var rfl (lent_l hn14 (Dts.gr g13 (Dts.of_ints _)))) d_int k16) (d_var rfl (.int _)) k18))) rfl (fun F19 H20 g21 hS22 => ?_)
    obtain ⟨x26, k27, m⟩ := bnd m
    obtain ⟨x28, k29, m⟩ := bnd m
    obtain ⟨pool_here_30, k31, m⟩ := bnd m
    refine s_itemFV (K := K) (k1 := []) (m1 := []) (x := x28) (l1 := []) (p := a0) (vf := V.int) (en := eI) (fun _ _ _ h => Dt.toInt h) hS22 (vp_var rfl) (d_lendX (l1 := []) (m1 := []) (fun _ _ h => Dt.toInt h) (fun _ => (.int _)) (fun F23 g24 hn25 => (d_fdiv (d_ix (e := eI) (d_var rfl (lent_l hn25 (Dts.gr g24 (Dts.of_ints _)))) d_int k27) (d_var rfl (.int _)) k29))) d_int k31 (fun F32 H33 g34 hS35 => ?_)
    refine s_ret (K := K) (d := eI x17) hS35 (d_var rfl (.int _)) (fun v40 F36 H37 g38 hS39 hv41 => ?_)
    obtain rfl := sm m
    exact q _ _ _ (Gr.tr g10 (Gr.tr g21 (Gr.tr g34 g38))) hS39 hv41
  · rw [if_neg (bf hc)] at m
    refine nxt ?_
    obtain ⟨x49, k50, m⟩ := bnd m
    obtain ⟨pool_here_51, k52, m⟩ := bnd m
    refine s_itemFV (K := K) (k1 := []) (m1 := []) (x := (((x49 * (48271 : Int)) + (11 : Int)) % (2147483647 : Int))) (l1 := []) (p := a0) (vf := V.int) (en := eI) (fun _ _ _ h => Dt.toInt h) hS45 (vp_var rfl) (d_lendX (l1 := []) (m1 := []) (fun _ _ h => Dt.toInt h) (fun _ => (.int _)) (fun F46 g47 hn48 => (d_modC (d_add (d_mulC (d_ix (e := eI) (d_var rfl (lent_l hn48 (Dts.gr g47 (Dts.of_ints _)))) d_int k50) d_int (.inr ⟨by decide, by decide⟩)) d_int) d_int (by decide)))) d_int k52 (fun F53 H54 g55 hS56 => ?_)
    obtain ⟨x60, k61, m⟩ := bnd m
    obtain ⟨x62, k63, m⟩ := bnd m
    obtain ⟨x64, k65, m⟩ := bnd m
    obtain ⟨x66, k67, m⟩ := bnd m
    refine s_ret (K := K) (d := eI x66) hS56 (d_lendX (l1 := []) (m1 := []) (fun _ _ h => Dt.toInt h) (fun _ => (.int _)) (fun F57 g58 hn59 => (d_mod (d_fdivC (d_modC (d_mul (d_ix (e := eI) (d_var rfl (lent_l hn59 (Dts.gr g58 (Dts.of_ints _)))) d_int k61) (d_ix (e := eI) (d_var rfl (lent_l hn59 (Dts.gr g58 (Dts.of_ints _)))) d_int k63) k65) d_int (by decide)) d_int ⟨by decide, by decide⟩) (d_var rfl (.int _)) k67))) (fun v72 F68 H69 g70 hS71 hv73 => ?_)
    obtain rfl := sm m
    exact q _ _ _ (Gr.tr g44 (Gr.tr g55 g70)) hS71 hv73
theorem sc_take : FnScope N_take ["_law_pool_here", "_law_many"] (defScope s_take) := ⟨rfl, rfl, rfl, by decide +kernel, rfl, by decide +kernel, by decide +kernel⟩
theorem ok_take {P : Program} {w : World} {K : PySem.W.Frag} {mg : Str → Option Value} {base : Heap} (hF : Df K mg "_law_take" s_take) : Ok P w K mg base 1 "_law_take" ["_law_pool_here", "_law_many"] (sp_take K) := by
  obtain ⟨⟨fd, F⟩, gm⟩ := hF
  refine ⟨⟨fd, F.ok sc_take (fun vs H Q E h => ?_) (fun cdv A outer s H vs Q E hr h => ⟨t_take K, PSs.nox ?_, w_take vs H Q E h⟩), F.bindsN fun _ _ _ _ _ _ us hl => match us, hl with | [_, _], _ => rfl, lk_of F⟩, F.kp, gm⟩
  · obtain ⟨F0, cc, cs, x, y, h, _⟩ := h; exact ArgR.len h
  · exact (pss_cons (ps_if (pt_cmpR op_gt (pe_ix ix_list (pv 0) pe_int (fun _ _ => rfl)) pe_int (nomark _)) (pss_cons (ps_set (i := 2) sc_take.nd rfl (Or.inl rfl) (pe_op op_mod (pe_ix ix_list (pv 0) pe_int (fun _ _ => rfl)) (pv 1))) (pss_cons (ps_asg (pe_op op_fdiv (pe_ix ix_list (pv 0) pe_int (fun _ _ => rfl)) (pv 1)) (pg_sub (pv 0) pe_int set_list)) (pss_one (ps_ret (pv 2))))) pss_nil) (pss_cons (ps_asg (pe_op op_mod (pe_op op_add (pe_op op_mul (pe_ix ix_list (pv 0) pe_int (fun _ _ => rfl)) pe_int) pe_int) pe_int) (pg_sub (pv 0) pe_int set_list)) (pss_one (ps_ret (pe_op op_mod (pe_op op_fdiv (pe_op op_mod (pe_op op_mul (pe_ix ix_list (pv 0) pe_int (fun _ _ => rfl)) (pe_ix ix_list (pv 0) pe_int (fun _ _ => rfl))) pe_int) pe_int) (pv 1))))))
abbrev s_aisle : Stmt := (top 39)
def f_aisle : ((List Int) × Int × Int) → Option (((List Int) × Int) × (List Int)) := fun (pool_here_1, most_gaps_2, longest_3) => (((f_take (pool_here_1, most_gaps_2))).bind fun (x4, pool_here_6) => ((rngM (0 : Int) ((1 : Int) + x4))).bind fun x7 => ((lcSC (fun (pool_here_18 : (List Int)) k_9 => (((f_take (pool_here_18, longest_3))).bind fun (x21, pool_here_23) => some (pool_here_23, some ((1 : Int) + x21)))) pool_here_6 x7)).bind fun (pool_here_28, x26) => (((f_take (pool_here_28, (3 : Int)))).bind fun (x35, pool_here_37) => ((atI ([(1 : Int), (3 : Int), (20 : Int)] : (List Int)) x35)).bind fun x38 => ((f_take (pool_here_37, x38))).bind fun (x40, pool_here_42) => some ((x26, ((1 : Int) + x40)), pool_here_42)))
abbrev A_aisle : ((List Int) × Int × Int) → List Ar := fun x => [.c (x.1.map V.int), .d (eI x.2.1), .d (eI x.2.2)]
abbrev B_aisle : (((List Int) × Int) × (List Int)) → PyData := fun y => (eT2 (eL eI) eI) y.1
abbrev C_aisle : (((List Int) × Int) × (List Int)) → List (List V) := fun y => [y.2.map V.int]
abbrev N_aisle : List Str := ["_law_pool_here", "_law_most_gaps", "_law_longest", "_law_gaps", "_law_k"]
abbrev sp_aisle (K : PySem.W.Frag) : Sp := spC K A_aisle B_aisle C_aisle f_aisle
def t_aisle (K : PySem.W.Frag) : TS := (tSeq (tAsg (tLc (iRng1 (tCons (tOp (rI0 fun i j => .int (i + j)) (tC (.int 1)) (tCall (sp_take K) [] E0 (tCons (tVar 0) (tCons (tVar 1) tNil)))) tNil)) (gName 4) tYes (tOp (rI0 fun i j => .int (i + j)) (tC (.int 1)) (tCall (sp_take K) [] E0 (tCons (tVar 0) (tCons (tVar 2) tNil)))) [4]) (gName 3)) (tRet (tTup (tCons (tVar 3) (tCons (tOp (rI0 fun i j => .int (i + j)) (tC (.int 1)) (tCall (sp_take K) [] E0 (tCons (tVar 0) (tCons (tOp (rIxL K) (tLst (tCons (tC (.int 1)) (tCons (tC (.int 3)) (tCons (tC (.int 20)) tNil)))) (tCall (sp_take K) [] E0 (tCons (tVar 0) (tCons (tC (.int 3)) tNil)))) tNil)))) tNil)))))
theorem w_aisle {K : PySem.W.Frag} (vs : List V) (H : Hp) (Q : VK) (E : XK) (h : sp_aisle K vs H Q E) : t_aisle K { nx := fun _ H' => Q .non H', rt := Q } (start N_aisle vs) H := by
  obtain ⟨F0, cc, cs, ⟨pool_here_1, most_gaps_2, longest_3⟩, y, h0, hS0, m, q⟩ := h
  obtain ⟨a0, _, _, rfl, rfl, h1⟩ := ArgR.hc h0
  obtain ⟨a1, _, rfl, ha1, h2⟩ := ArgR.hd h1
  obtain ⟨a2, _, rfl, ha2, h3⟩ := ArgR.hd h2
  obtain ⟨rfl, rfl⟩ := ArgR.no h3
  obtain rfl := Dt.toInt ha1
  obtain rfl := Dt.toInt ha2
  unfold f_aisle at m
  try dsimp only at m
  unfold t_aisle
  refine go (σ' := [some (.ref a0), some (.int most_gaps_2), some (.int longest_3), none, none]) rfl ?_
  obtain ⟨⟨x4, pool_here_6⟩, k5, m⟩ := bnd m; (try dsimp only at m)
  obtain ⟨x7, k8, m⟩ := bnd m
  obtain ⟨⟨pool_here_28, x26⟩, k27, m⟩ := bnd m; (try dsimp only at m)
  refine s_set (K := K) (d := (eL eI) x26) (i := 3) (σ' := fun v33 => [some (.ref a0), some (.int most_gaps_2), some (.int longest_3), some v33, none]) hS0 (EvC.dd (c_lcT (K := K) (f := (fun (pool_here_18 : (List Int)) k_9 => (((f_take (pool_here_18, longest_3))).bind fun (x21, pool_here_23) => some (pool_here_23, some ((1 : Int) + x21))))) (em := eI) (s0 := pool_here_6) (s1 := pool_here_28) (fun (z : (List Int)) => (a0, .lst (z.map V.int)) :: cs) (i_rng1 (a_cons (d_add d_int (d_callX (A := A_take) (B := B_take) (C := C_take) (x := (pool_here_1, most_gaps_2)) (y := (x4, pool_here_6)) (cs2 := ((a0, HO.lst (pool_here_6.map V.int)) :: cs)) (cc := [(a0, HO.lst (pool_here_1.map V.int))]) (cs' := (cs)) (r_c rfl (r_d (d_var rfl (.int _)) r_nil)) sb_rfl k5 sb_rfl)) a_nil) k8) k27 (fun k_9 pool_here_18 z24 o16 v17 F10 p11 us12 g13 hv14 ho15 => by obtain rfl := Dt.toInt hv14; obtain ⟨⟨x21, pool_here_23⟩, k22, ho15⟩ := bnd ho15; (try dsimp only at ho15); obtain ⟨rfl, rfl⟩ := pr2 (sm ho15); exact ⟨[some (.ref a0), some (.int most_gaps_2), some (.int longest_3), none, some (.int k_9)], pool_here_18, fun H20 Q hS19 hq => (fun Q hq => hq) Q hq, rfl, t_yes, (fun hy => by cases hy), fun y hy => by obtain rfl := sm hy; exact (d_add d_int (d_callX (A := A_take) (B := B_take) (C := C_take) (x := (pool_here_18, longest_3)) (y := (x21, pool_here_23)) (cs2 := ((p11, HO.lst us12) :: (a0, HO.lst (pool_here_23.map V.int)) :: cs)) (cc := [(a0, HO.lst (pool_here_18.map V.int))]) (cs' := ((p11, HO.lst us12) :: cs)) (r_c rfl (r_d (d_var rfl (.int _)) r_nil)) (sb_perm (List.perm_middle (l₁ := [(p11, HO.lst us12)]))) k22 (sb_perm (List.Perm.symm (List.perm_middle (l₁ := [(p11, HO.lst us12)]))))))⟩))) (fun _ => rfl) (fun v33 F29 H30 g31 hS32 hv34 => ?_)
  obtain ⟨⟨x35, pool_here_37⟩, k36, m⟩ := bnd m; (try dsimp only at m)
  obtain ⟨x38, k39, m⟩ := bnd m
  obtain ⟨⟨x40, pool_here_42⟩, k41, m⟩ := bnd m; (try dsimp only at m)
  refine s_ret (K := K) (d := (eT2 (eL eI) eI) (x26, ((1 : Int) + x40))) hS32 (d_tup (a_cons (d_var rfl hv34) (a_cons (d_add d_int (d_callX (A := A_take) (B := B_take) (C := C_take) (x := (pool_here_37, x38)) (y := (x40, pool_here_42)) (cs2 := ((a0, HO.lst (pool_here_42.map V.int)) :: cs)) (cc := [(a0, HO.lst (pool_here_37.map V.int))]) (cs' := (cs)) (r_c rfl (r_d (d_ix (e := eI) (d_lst (a_cons d_int (a_cons d_int (a_cons d_int a_nil))) (Nat.le_of_ble_eq_true rfl)) (d_callX (A := A_take) (B := B_take) (C := C_take) (x := (pool_here_28, (3 : Int))) (y := (x35, pool_here_37)) (cs2 := ((a0, HO.lst (pool_here_37.map V.int)) :: cs)) (cc := [(a0, HO.lst (pool_here_28.map V.int))]) (cs' := (cs)) (r_c rfl (r_d d_int r_nil)) sb_rfl k36 sb_rfl) k39) r_nil)) sb_rfl k41 sb_rfl)) a_nil)) (Nat.le_of_ble_eq_true rfl)) (fun v47 F43 H44 g45 hS46 hv48 => ?_)
  obtain rfl := sm m
  exact q _ _ _ (Gr.tr g31 g45) hS46 hv48
theorem sc_aisle : FnScope N_aisle ["_law_pool_here", "_law_most_gaps", "_law_longest"] (defScope s_aisle) := ⟨rfl, rfl, rfl, by decide +kernel, rfl, by decide +kernel, by decide +kernel⟩
theorem ok_aisle {P : Program} {w : World} {K : PySem.W.Frag} {mg : Str → Option Value} {base : Heap} (hF : Df K mg "_law_aisle" s_aisle) (m_range : mg "range" = none) (o_take : Ok P w K mg base 1 "_law_take" ["_law_pool_here", "_law_many"] (sp_take K)) : Ok P w K mg base 2 "_law_aisle" ["_law_pool_here", "_law_most_gaps", "_law_longest"] (sp_aisle K) := by
  obtain ⟨⟨_, G_take, bd_take, _⟩, kp_take, gm_take⟩ := o_take
  obtain ⟨⟨fd, F⟩, gm⟩ := hF
  refine ⟨⟨fd, F.ok sc_aisle (fun vs H Q E h => ?_) (fun cdv A outer s H vs Q E hr h => ⟨t_aisle K, PSs.nox ?_, w_aisle vs H Q E h⟩), F.bindsN fun _ _ _ _ _ _ us hl => match us, hl with | [_, _, _], _ => rfl, lk_of F⟩, F.kp, gm⟩
  · obtain ⟨F0, cc, cs, x, y, h, _⟩ := h; exact ArgR.len h
  · exact (pss_cons (ps_setLc (i := 3) (own := [("_law_k", 4)]) (g := (gName 4)) (tt := tYes) (te := (tOp (rI0 fun i j => .int (i + j)) (tC (.int 1)) (tCall (sp_take K) [] E0 (tCons (tVar 0) (tCons (tVar 2) tNil))))) (by rfl) sc_aisle.nd rfl rfl (sw_true rfl rfl rfl (by decide +kernel)) (pi_range1 (by rfl) m_range (pa_cons (pe_op op_add pe_int (pe_call G_take (hr.mono (by decide)) (by rfl) gm_take kp_take bd_take .nil pass0 (pa_cons (pv 0) (pa_cons (pv 1) pa_nil)))) pa_nil)) (blkOk_by (own := [("_law_k", 4)]) (N := N_aisle) (sc := defScope s_aisle) (by decide +kernel)) (fun _ _ _ _ _ => (pg_name (i := 4) sc_aisle.nd rfl (Or.inl rfl))) (fun _ _ _ _ _ => pts_nil) (fun _ _ _ _ _ => (pe_op op_add pe_int (pe_call G_take (hr.mono (by decide)) (by rfl) gm_take kp_take bd_take .nil pass0 (pa_cons (pv 0) (pa_cons (pv 2) pa_nil)))))) (pss_one (ps_ret (pe_tup (pa_cons (pv 3) (pa_cons (pe_op op_add pe_int (pe_call G_take (hr.mono (by decide)) (by rfl) gm_take kp_take bd_take .nil pass0 (pa_cons (pv 0) (pa_cons (pe_ix ix_list (pe_lst (pa_cons pe_int (pa_cons pe_int (pa_cons pe_int pa_nil)))) (pe_call G_take (hr.mono (by decide)) (by rfl) gm_take kp_take bd_take .nil pass0 (pa_cons (pv 0) (pa_cons pe_int pa_nil))) (fun _ _ => rfl)) pa_nil)))) pa_nil))))))
abbrev s_name : Stmt := (top 40)
def f_name : (Int × Int) → Option Str := fun (k_1, salt_2) => (letM ("abcdefghijklmnopqrstuvwxyz" : Str) fun letters_7 => (letM ((((37 : Int) * k_1) + salt_2) % (61 : Int)) fun at_13 => (((ixS letters_7 (at_13 % (26 : Int)))).bind fun x15 => ((atI ([("" : Str), ("a" : Str), ("zz" : Str)] : (List Str)) (at_13 / (26 : Int)))).bind fun x17 => ((scatM x15 x17)).bind fun x19 => (((ixS letters_7 (salt_2 % (26 : Int)))).bind fun x25 => ((srepM x25 ((salt_2 / (26 : Int)) % (6 : Int)))).bind fun x27 => (if (decide ((salt_2 % (2 : Int)) = (0 : Int))) = true then (((scatM x27 x19)).bind fun x37 => some x37) else (((scatM x19 x27)).bind fun x49 => some x49))))))
abbrev A_name : (Int × Int) → List PyData := fun x => [eI x.1, eI x.2]
abbrev N_name : List Str := ["_law_k", "_law_salt", "_law_letters", "_law_at", "_law_tell", "_law_more"]
abbrev sp_name (K : PySem.W.Frag) : Sp := spP K A_name eS f_name
def t_name (K : PySem.W.Frag) : TS := (tSeq (tAsg (tC (.str "abcdefghijklmnopqrstuvwxyz")) (gName 2)) (tSeq (tAsg (tOp (rI (fun _ j => 0 < j) fun i j => .int (i % j)) (tOp (rI0 fun i j => .int (i + j)) (tOp (rI CMul fun i j => .int (i * j)) (tC (.int 37)) (tVar 0)) (tVar 1)) (tC (.int 61))) (gName 3)) (tSeq (tAsg (tOp rScat (tOp rIxS (tVar 2) (tOp (rI (fun _ j => 0 < j) fun i j => .int (i % j)) (tVar 3) (tC (.int 26)))) (tOp (rIxL K) (tLst (tCons (tC (.str "")) (tCons (tC (.str "a")) (tCons (tC (.str "zz")) tNil)))) (tOp (rI CDiv fun i j => .int (i / j)) (tVar 3) (tC (.int 26))))) (gName 4)) (tSeq (tAsg (tOp rSrep (tOp rIxS (tVar 2) (tOp (rI (fun _ j => 0 < j) fun i j => .int (i % j)) (tVar 1) (tC (.int 26)))) (tOp (rI (fun _ j => 0 < j) fun i j => .int (i % j)) (tOp (rI CDiv fun i j => .int (i / j)) (tVar 1) (tC (.int 26))) (tC (.int 6)))) (gName 5)) (tSeq (tIfS (tTest (tOp rEq (tOp (rI (fun _ j => 0 < j) fun i j => .int (i % j)) (tVar 1) (tC (.int 2))) (tC (.int 0)))) (tRet (tOp rScat (tVar 5) (tVar 4))) tNext) (tRet (tOp rScat (tVar 4) (tVar 5))))))))
theorem w_name {K : PySem.W.Frag} (vs : List V) (H : Hp) (Q : VK) (E : XK) (h : sp_name K vs H Q E) : t_name K { nx := fun _ H' => Q .non H', rt := Q } (start N_name vs) H := by
  obtain ⟨F0, cs, ⟨k_1, salt_2⟩, y, h, hS0, m, q⟩ := h
  obtain ⟨a0, _, rfl, ha0, h⟩ := Dts.hd h
  obtain ⟨a1, _, rfl, ha1, h⟩ := Dts.hd h
  obtain rfl := Dts.no h
  obtain rfl := Dt.toInt ha0
  obtain rfl := Dt.toInt ha1
  unfold f_name at m
  try dsimp only at m
  unfold t_name
  refine go (σ' := [some (.int k_1), some (.int salt_2), none, none, none, none]) rfl ?_
  obtain ⟨letters_7, k8, m⟩ := lt m
  refine s_setV (K := K) (d := eS letters_7) (i := 2) (σ' := [some (.int k_1), some (.int salt_2), some (.str letters_7), none, none, none]) (fun _ _ h => Dt.toStr h) hS0 (d_is d_str (congrArg eS k8)) rfl (fun F3 H4 g5 hS6 => ?_)
  obtain ⟨at_13, k14, m⟩ := lt m
  refine s_setV (K := K) (d := eI at_13) (i := 3) (σ' := [some (.int k_1), some (.int salt_2), some (.str letters_7), some (.int at_13), none, none]) (fun _ _ h => Dt.toInt h) hS6 (d_is (d_modC (d_add (d_mulC d_int (d_var rfl (.int _)) (.inl ⟨by decide, by decide⟩)) (d_var rfl (.int _))) d_int (by decide)) (congrArg eI k14)) rfl (fun F9 H10 g11 hS12 => ?_)
  obtain ⟨x15, k16, m⟩ := bnd m
  obtain ⟨x17, k18, m⟩ := bnd m
  obtain ⟨x19, k20, m⟩ := bnd m
  refine s_setV (K := K) (d := eS x19) (i := 4) (σ' := [some (.int k_1), some (.int salt_2), some (.str letters_7), some (.int at_13), some (.str x19), none]) (fun _ _ h => Dt.toStr h) hS12 (d_scat (d_ixS (d_var rfl (.str _)) (d_modC (d_var rfl (.int _)) d_int (by decide)) k16) (d_ix (e := eS) (d_lst (a_cons d_str (a_cons d_str (a_cons d_str a_nil))) (Nat.le_of_ble_eq_true rfl)) (d_fdivC (d_var rfl (.int _)) d_int ⟨by decide, by decide⟩) k18) k20) rfl (fun F21 H22 g23 hS24 => ?_)
  obtain ⟨x25, k26, m⟩ := bnd m
  obtain ⟨x27, k28, m⟩ := bnd m
  refine s_setV (K := K) (d := eS x27) (i := 5) (σ' := [some (.int k_1), some (.int salt_2), some (.str letters_7), some (.int at_13), some (.str x19), some (.str x27)]) (fun _ _ h => Dt.toStr h) hS24 (d_srep (d_ixS (d_var rfl (.str _)) (d_modC (d_var rfl (.int _)) d_int (by decide)) k26) (d_modC (d_fdivC (d_var rfl (.int _)) d_int ⟨by decide, by decide⟩) d_int (by decide)) k28) rfl (fun F29 H30 g31 hS32 => ?_)
  refine s_if (b := (decide ((salt_2 % (2 : Int)) = (0 : Int)))) hS32 (t_test (K := K) (d_eqI (d_modC (d_var rfl (.int _)) d_int (by decide)) d_int)) (fun hc F33 H34 g35 hS36 => ?_) (fun hc F45 H46 g47 hS48 => ?_)
  · rw [if_pos hc] at m
    obtain ⟨x37, k38, m⟩ := bnd m
    refine s_ret (K := K) (d := eS x37) hS36 (d_scat (d_var rfl (.str _)) (d_var rfl (.str _)) k38) (fun v43 F39 H40 g41 hS42 hv44 => ?_)
    obtain rfl := sm m
    exact q _ _ _ (Gr.tr g5 (Gr.tr g11 (Gr.tr g23 (Gr.tr g31 (Gr.tr g35 g41))))) hS42 hv44
  · rw [if_neg (bf hc)] at m
    refine nxt ?_
    obtain ⟨x49, k50, m⟩ := bnd m
    refine s_ret (K := K) (d := eS x49) hS48 (d_scat (d_var rfl (.str _)) (d_var rfl (.str _)) k50) (fun v55 F51 H52 g53 hS54 hv56 => ?_)
    obtain rfl := sm m
    exact q _ _ _ (Gr.tr g5 (Gr.tr g11 (Gr.tr g23 (Gr.tr g31 (Gr.tr g47 g53))))) hS54 hv56
theorem sc_name : FnScope N_name ["_law_k", "_law_salt"] (defScope s_name) := ⟨rfl, rfl, rfl, by decide +kernel, rfl, by decide +kernel, by decide +kernel⟩
theorem ok_name {P : Program} {w : World} {K : PySem.W.Frag} {mg : Str → Option Value} {base : Heap} (hF : Df K mg "_law_name" s_name) : Ok P w K mg base 1 "_law_name" ["_law_k", "_law_salt"] (sp_name K) := by
  obtain ⟨⟨fd, F⟩, gm⟩ := hF
  refine ⟨⟨fd, F.ok sc_name (fun vs H Q E h => ?_) (fun cdv A outer s H vs Q E hr h => ⟨t_name K, PSs.nox ?_, w_name vs H Q E h⟩), F.bindsN fun _ _ _ _ _ _ us hl => match us, hl with | [_, _], _ => rfl, lk_of F⟩, F.kp, gm⟩
  · obtain ⟨F0, cs, x, y, h, _⟩ := h; exact Dts.len h
  · exact (pss_cons (ps_set (i := 2) sc_name.nd rfl (Or.inl rfl) pe_str) (pss_cons (ps_set (i := 3) sc_name.nd rfl (Or.inl rfl) (pe_op op_mod (pe_op op_add (pe_op op_mul pe_int (pv 0)) (pv 1)) pe_int)) (pss_cons (ps_set (i := 4) sc_name.nd rfl (Or.inl rfl) (pe_op op_scatR (pe_ix ix_str (pv 2) (pe_op op_mod (pv 3) pe_int) (fun _ _ => rfl)) (pe_ix ix_list (pe_lst (pa_cons pe_str (pa_cons pe_str (pa_cons pe_str pa_nil)))) (pe_op op_fdiv (pv 3) pe_int) (fun _ _ => rfl)))) (pss_cons (ps_set (i := 5) sc_name.nd rfl (Or.inl rfl) (pe_op op_srep (pe_ix ix_str (pv 2) (pe_op op_mod (pv 1) pe_int) (fun _ _ => rfl)) (pe_op op_mod (pe_op op_fdiv (pv 1) pe_int) pe_int))) (pss_cons (ps_if (pt_cmpR op_eq (pe_op op_mod (pv 1) pe_int) pe_int (nomark _)) (pss_one (ps_ret (pe_op op_scatR (pv 5) (pv 4)))) pss_nil) (pss_one (ps_ret (pe_op op_scatR (pv 4) (pv 5)))))))))
abbrev s_orders : Stmt := (top 41)
def f_orders_b28 (last_2 : Int) (salt_3 : Int) : (Int × (List Int) × (List (Str × Int × Int × Int))) → Int → Option (Int × (List Int) × (List (Str × Int × Int × Int))) := fun (tick_31, pool_here_32, orders_here_33) k_34 => (((f_take (pool_here_32, (3 : Int)))).bind fun (x56, pool_here_58) => ((atI ([(1 : Int), (30 : Int), (10000000 : Int)] : (List Int)) x56)).bind fun x59 => ((f_take (pool_here_58, x59))).bind fun (x61, pool_here_63) => letM (minI (1000000000 : Int) (tick_31 + x61)) fun tick_68 => (((f_take (pool_here_63, (last_2 + (1 : Int))))).bind fun (x70, pool_here_72) => (((f_name (k_34, salt_3))).bind fun x77 => ((f_take (pool_here_72, last_2))).bind fun (x79, pool_here_81) => ((modM ((x70 + (1 : Int)) + x79) (last_2 + (1 : Int)))).bind fun x82 => ((appM orders_here_33 (x77, tick_68, x70, x82))).bind fun orders_here_84 => some (tick_68, pool_here_81, orders_here_84))))
def f_orders : ((List Int) × Int × Int × Int) → Option ((List (Str × Int × Int × Int)) × (List Int)) := fun (pool_here_1, last_2, salt_3, many_4) => (letM ([] : (List (Str × Int × Int × Int))) fun orders_here_9 => (((f_take (pool_here_1, (2 : Int)))).bind fun (x14, pool_here_16) => ((atI ([(1 : Int), ((1000000000 : Int) + (1 : Int))] : (List Int)) x14)).bind fun x17 => ((f_take (pool_here_16, x17))).bind fun (x19, pool_here_21) => (((rngM (0 : Int) many_4)).bind fun x26 => (x26.foldlM (f_orders_b28 last_2 salt_3) (x19, pool_here_21, orders_here_9)).bind fun (tick_98, pool_here_99, orders_here_100) => some (orders_here_100, pool_here_99))))
abbrev A_orders : ((List Int) × Int × Int × Int) → List Ar := fun x => [.c (x.1.map V.int), .d (eI x.2.1), .d (eI x.2.2.1), .d (eI x.2.2.2)]
abbrev B_orders : ((List (Str × Int × Int × Int)) × (List Int)) → List PyData := fun y => y.1.map (eT4 eS eI eI eI)
abbrev C_orders : ((List (Str × Int × Int × Int)) × (List Int)) → List (List V) := fun y => [y.2.map V.int]
abbrev N_orders : List Str := ["_law_pool_here", "_law_last", "_law_salt", "_law_many", "_law_orders_here", "_law_tick", "_law_k", "_law_at"]
abbrev sp_orders (K : PySem.W.Frag) : Sp := spF K A_orders B_orders C_orders f_orders
def t_orders (K : PySem.W.Frag) : TS := (tSeq (tAsg (tLst tNil) (gName 4)) (tSeq (tAsg (tCall (sp_take K) [] E0 (tCons (tVar 0) (tCons (tOp (rIxL K) (tLst (tCons (tC (.int 1)) (tCons (tOp (rI0 fun i j => .int (i + j)) (tOp (rI CPow fun i j => .int (i ^ j.toNat)) (tC (.int 10)) (tC (.int 9))) (tC (.int 1))) tNil))) (tCall (sp_take K) [] E0 (tCons (tVar 0) (tCons (tC (.int 2)) tNil)))) tNil))) (gName 5)) (tSeq (tFor (iRng1 (tCons (tVar 3) tNil)) (gName 6) (tSeq (tAsg (tCB rMin2 (tCons (tOp (rI CPow fun i j => .int (i ^ j.toNat)) (tC (.int 10)) (tC (.int 9))) (tCons (tOp (rI0 fun i j => .int (i + j)) (tVar 5) (tCall (sp_take K) [] E0 (tCons (tVar 0) (tCons (tOp (rIxL K) (tLst (tCons (tC (.int 1)) (tCons (tC (.int 30)) (tCons (tOp (rI CPow fun i j => .int (i ^ j.toNat)) (tC (.int 10)) (tC (.int 7))) tNil)))) (tCall (sp_take K) [] E0 (tCons (tVar 0) (tCons (tC (.int 3)) tNil)))) tNil)))) tNil))) (gName 5)) (tSeq (tAsg (tCall (sp_take K) [] E0 (tCons (tVar 0) (tCons (tOp (rI0 fun i j => .int (i + j)) (tVar 1) (tC (.int 1))) tNil))) (gName 7)) (tDrop (tBM K "list" rAppend (tVar 4) (tCons (tTup (tCons (tCall (sp_name K) [] E0 (tCons (tVar 6) (tCons (tVar 2) tNil))) (tCons (tVar 5) (tCons (tVar 7) (tCons (tOp (rI (fun _ j => 0 < j) fun i j => .int (i % j)) (tOp (rI0 fun i j => .int (i + j)) (tOp (rI0 fun i j => .int (i + j)) (tVar 7) (tC (.int 1))) (tCall (sp_take K) [] E0 (tCons (tVar 0) (tCons (tVar 1) tNil)))) (tOp (rI0 fun i j => .int (i + j)) (tVar 1) (tC (.int 1)))) tNil))))) tNil)))))) (tRet (tVar 4)))))
theorem w_orders {K : PySem.W.Frag} (vs : List V) (H : Hp) (Q : VK) (E : XK) (h : sp_orders K vs H Q E) : t_orders K { nx := fun _ H' => Q .non H', rt := Q } (start N_orders vs) H := by
  obtain ⟨F0, cc, cs, ⟨pool_here_1, last_2, salt_3, many_4⟩, y, h0, hS0, m, q⟩ := h
  obtain ⟨a0, _, _, rfl, rfl, h1⟩ := ArgR.hc h0
  obtain ⟨a1, _, rfl, ha1, h2⟩ := ArgR.hd h1
  obtain ⟨a2, _, rfl, ha2, h3⟩ := ArgR.hd h2
  obtain ⟨a3, _, rfl, ha3, h4⟩ := ArgR.hd h3
  obtain ⟨rfl, rfl⟩ := ArgR.no h4
  obtain rfl := Dt.toInt ha1
  obtain rfl := Dt.toInt ha2
  obtain rfl := Dt.toInt ha3
  unfold f_orders at m
  try dsimp only at m
  unfold t_orders
  refine go (σ' := [some (.ref a0), some (.int last_2), some (.int salt_3), some (.int many_4), none, none, none, none]) rfl ?_
  obtain ⟨orders_here_9, k10, m⟩ := lt m
  refine s_setC (K := K) (ds := orders_here_9.map (eT4 eS eI eI eI)) (i := 4) (σ' := fun p11 => [some (.ref a0), some (.int last_2), some (.int salt_3), some (.int many_4), some (.ref p11), none, none, none]) hS0 (c_is (c_lst a_nil (Nat.le_of_ble_eq_true rfl)) (congrArg (List.map (eT4 eS eI eI eI)) k10)) (fun _ => rfl) (fun p11 us12 F5 H6 g7 hS8 hu13 => ?_)
  obtain ⟨⟨x14, pool_here_16⟩, k15, m⟩ := bnd m; (try dsimp only at m)
  obtain ⟨x17, k18, m⟩ := bnd m
  obtain ⟨⟨x19, pool_here_21⟩, k20, m⟩ := bnd m; (try dsimp only at m)
  refine s_setV (K := K) (d := eI x19) (i := 5) (σ' := [some (.ref a0), some (.int last_2), some (.int salt_3), some (.int many_4), some (.ref p11), some (.int x19), none, none]) (fun _ _ h => Dt.toInt h) hS8 (d_callX (A := A_take) (B := B_take) (C := C_take) (x := (pool_here_16, x17)) (y := (x19, pool_here_21)) (cs2 := ((p11, HO.lst us12) :: (a0, HO.lst (pool_here_21.map V.int)) :: cs)) (cc := [(a0, HO.lst (pool_here_16.map V.int))]) (cs' := ((p11, HO.lst us12) :: cs)) (r_c rfl (r_d (d_ix (e := eI) (d_lst (a_cons d_int (a_cons (d_add (d_is (e := PyData.int 1000000000) (d_powC d_int d_int ⟨by decide, by decide, by decide⟩) (congrArg PyData.int (by decide))) d_int) a_nil)) (Nat.le_of_ble_eq_true rfl)) (d_callX (A := A_take) (B := B_take) (C := C_take) (x := (pool_here_1, (2 : Int))) (y := (x14, pool_here_16)) (cs2 := ((p11, HO.lst us12) :: (a0, HO.lst (pool_here_16.map V.int)) :: cs)) (cc := [(a0, HO.lst (pool_here_1.map V.int))]) (cs' := ((p11, HO.lst us12) :: cs)) (r_c rfl (r_d d_int r_nil)) (sb_perm (List.perm_middle (l₁ := [(p11, HO.lst us12)]))) k15 (sb_perm (List.Perm.symm (List.perm_middle (l₁ := [(p11, HO.lst us12)]))))) k18) r_nil)) (sb_perm (List.perm_middle (l₁ := [(p11, HO.lst us12)]))) k20 (sb_perm (List.Perm.symm (List.perm_middle (l₁ := [(p11, HO.lst us12)]))))) rfl (fun F22 H23 g24 hS25 => ?_)
  obtain ⟨x26, k27, m⟩ := bnd m
  obtain ⟨⟨tick_98, pool_here_99, orders_here_100⟩, k30, m⟩ := bnd m
  try dsimp only at m
  refine s_for (K := K) (xs := x26) (en := eI) (body := (f_orders_b28 last_2 salt_3)) (s0 := (x19, pool_here_21, orders_here_9)) (r := (tick_98, pool_here_99, orders_here_100)) (fun (a : Int × (List Int) × (List (Str × Int × Int × Int))) F σ c => ∃ (j6 : Option V) (j7 : Option V) (z4 : List V), σ = [some (.ref a0), some (.int last_2), some (.int salt_3), some (.int many_4), some (.ref p11), some (.int a.1), j6, j7] ∧ (p11, .lst z4) :: (a0, .lst (a.2.1.map V.int)) :: cs = c ∧ Dts K F z4 (a.2.2.map (eT4 eS eI eI eI))) hS25 (i_rng1 (a_cons (d_var rfl (.int _)) a_nil) k27) (fun _ _ => ⟨_, _, _, rfl, rfl, (Dts.gr ‹_› (Dts.gr g24 hu13))⟩) k30 ?_ ?_
  · rintro k_34 ⟨tick_31, pool_here_32, orders_here_33⟩ b43 F35 F36 σ49 c50 H37 v42 N44 g38 ⟨u52, u53, us54, rfl, rfl, h55⟩ g39 hS40 hv41 m51 hN46
    obtain rfl := Dt.toInt hv41
    refine tg (σ' := [some (.ref a0), some (.int last_2), some (.int salt_3), some (.int many_4), some (.ref p11), some (.int tick_31), some (.int k_34), u53]) (fun Q hq => hq) ?_
    unfold f_orders_b28 at m51
    try dsimp only at m51
    obtain ⟨⟨x56, pool_here_58⟩, k57, m51⟩ := bnd m51; (try dsimp only at m51)
    obtain ⟨x59, k60, m51⟩ := bnd m51
    obtain ⟨⟨x61, pool_here_63⟩, k62, m51⟩ := bnd m51; (try dsimp only at m51)
    obtain ⟨tick_68, k69, m51⟩ := lt m51
    refine s_setV (K := K) (d := eI tick_68) (i := 5) (σ' := [some (.ref a0), some (.int last_2), some (.int salt_3), some (.int many_4), some (.ref p11), some (.int tick_68), some (.int k_34), u53]) (fun _ _ h => Dt.toInt h) hS40 (d_is (d_min2 (a_cons (d_is (e := PyData.int 1000000000) (d_powC d_int d_int ⟨by decide, by decide, by decide⟩) (congrArg PyData.int (by decide))) (a_cons (d_add (d_var rfl (.int _)) (d_callX (A := A_take) (B := B_take) (C := C_take) (x := (pool_here_58, x59)) (y := (x61, pool_here_63)) (cs2 := ((p11, HO.lst us54) :: (a0, HO.lst (pool_here_63.map V.int)) :: cs)) (cc := [(a0, HO.lst (pool_here_58.map V.int))]) (cs' := ((p11, HO.lst us54) :: cs)) (r_c rfl (r_d (d_ix (e := eI) (d_lst (a_cons d_int (a_cons d_int (a_cons (d_is (e := PyData.int 10000000) (d_powC d_int d_int ⟨by decide, by decide, by decide⟩) (congrArg PyData.int (by decide))) a_nil))) (Nat.le_of_ble_eq_true rfl)) (d_callX (A := A_take) (B := B_take) (C := C_take) (x := (pool_here_32, (3 : Int))) (y := (x56, pool_here_58)) (cs2 := ((p11, HO.lst us54) :: (a0, HO.lst (pool_here_58.map V.int)) :: cs)) (cc := [(a0, HO.lst (pool_here_32.map V.int))]) (cs' := ((p11, HO.lst us54) :: cs)) (r_c rfl (r_d d_int r_nil)) (sb_perm (List.perm_middle (l₁ := [(p11, HO.lst us54)]))) k57 (sb_perm (List.Perm.symm (List.perm_middle (l₁ := [(p11, HO.lst us54)]))))) k60) r_nil)) (sb_perm (List.perm_middle (l₁ := [(p11, HO.lst us54)]))) k62 (sb_perm (List.Perm.symm (List.perm_middle (l₁ := [(p11, HO.lst us54)])))))) a_nil))) (congrArg eI k69)) rfl (fun F64 H65 g66 hS67 => ?_)
    obtain ⟨⟨x70, pool_here_72⟩, k71, m51⟩ := bnd m51; (try dsimp only at m51)
    refine s_setV (K := K) (d := eI x70) (i := 7) (σ' := [some (.ref a0), some (.int last_2), some (.int salt_3), some (.int many_4), some (.ref p11), some (.int tick_68), some (.int k_34), some (.int x70)]) (fun _ _ h => Dt.toInt h) hS67 (d_callX (A := A_take) (B := B_take) (C := C_take) (x := (pool_here_63, (last_2 + (1 : Int)))) (y := (x70, pool_here_72)) (cs2 := ((p11, HO.lst us54) :: (a0, HO.lst (pool_here_72.map V.int)) :: cs)) (cc := [(a0, HO.lst (pool_here_63.map V.int))]) (cs' := ((p11, HO.lst us54) :: cs)) (r_c rfl (r_d (d_add (d_var rfl (.int _)) d_int) r_nil)) (sb_perm (List.perm_middle (l₁ := [(p11, HO.lst us54)]))) k71 (sb_perm (List.Perm.symm (List.perm_middle (l₁ := [(p11, HO.lst us54)]))))) rfl (fun F73 H74 g75 hS76 => ?_)
    obtain ⟨x77, k78, m51⟩ := bnd m51
    obtain ⟨⟨x79, pool_here_81⟩, k80, m51⟩ := bnd m51; (try dsimp only at m51)
    obtain ⟨x82, k83, m51⟩ := bnd m51
    obtain ⟨orders_here_84, k85, m51⟩ := bnd m51
    refine s_appGV (K := K) (k1 := []) (x := (x77, tick_68, x70, x82)) (l1 := []) (p := p11) (en := (eT4 eS eI eI eI)) hS76 (Dts.gr (Gr.tr g39 (Gr.tr g66 g75)) h55) (vp_var rfl) (d_tup (a_cons (d_call (A := A_name) (B := eS) (x := (k_34, salt_3)) (a_cons (d_var rfl (.int _)) (a_cons (d_var rfl (.int _)) a_nil)) k78) (a_cons (d_var rfl (.int _)) (a_cons (d_var rfl (.int _)) (a_cons (d_mod (d_add (d_add (d_var rfl (.int _)) d_int) (d_callX (A := A_take) (B := B_take) (C := C_take) (x := (pool_here_72, last_2)) (y := (x79, pool_here_81)) (cs2 := ((p11, HO.lst us54) :: (a0, HO.lst (pool_here_81.map V.int)) :: cs)) (cc := [(a0, HO.lst (pool_here_72.map V.int))]) (cs' := ((p11, HO.lst us54) :: cs)) (r_c rfl (r_d (d_var rfl (.int _)) r_nil)) (sb_perm (List.perm_middle (l₁ := [(p11, HO.lst us54)]))) k80 (sb_perm (List.Perm.symm (List.perm_middle (l₁ := [(p11, HO.lst us54)])))))) (d_add (d_var rfl (.int _)) d_int) k83) a_nil)))) (Nat.le_of_ble_eq_true rfl)) k85 (fun us90 F86 H87 g88 hS89 hu91 => ?_)
    obtain rfl := sm m51
    exact hN46 _ _ _ _ (Gr.tr g66 (Gr.tr g75 g88)) hS89 ⟨_, _, _, rfl, rfl, hu91⟩
  · rintro F92 σ97 c96 H93 g94 hS95 ⟨u101, u102, us103, rfl, rfl, h104⟩
    refine s_retV rfl ?_
    obtain rfl := sm m
    exact q _ _ _ _ (Gr.tr g7 (Gr.tr g24 g94)) hS95 h104
theorem sc_orders : FnScope N_orders ["_law_pool_here", "_law_last", "_law_salt", "_law_many"] (defScope s_orders) := ⟨rfl, rfl, rfl, by decide +kernel, rfl, by decide +kernel, by decide +kernel⟩
theorem ok_orders {P : Program} {w : World} {K : PySem.W.Frag} {mg : Str → Option Value} {base : Heap} (hF : Df K mg "_law_orders" s_orders) (m_min : mg "min" = none) (m_range : mg "range" = none) (o_take : Ok P w K mg base 1 "_law_take" ["_law_pool_here", "_law_many"] (sp_take K)) (o_name : Ok P w K mg base 1 "_law_name" ["_law_k", "_law_salt"] (sp_name K)) : Ok P w K mg base 2 "_law_orders" ["_law_pool_here", "_law_last", "_law_salt", "_law_many"] (sp_orders K) := by
  obtain ⟨⟨_, G_take, bd_take, _⟩, kp_take, gm_take⟩ := o_take
  obtain ⟨⟨_, G_name, bd_name, _⟩, kp_name, gm_name⟩ := o_name
  obtain ⟨⟨fd, F⟩, gm⟩ := hF
  refine ⟨⟨fd, F.ok sc_orders (fun vs H Q E h => ?_) (fun cdv A outer s H vs Q E hr h => ⟨t_orders K, PSs.nox ?_, w_orders vs H Q E h⟩), F.bindsN fun _ _ _ _ _ _ us hl => match us, hl with | [_, _, _, _], _ => rfl, lk_of F⟩, F.kp, gm⟩
  · obtain ⟨F0, cc, cs, x, y, h, _⟩ := h; exact ArgR.len h
  · exact (pss_cons (ps_set (i := 4) sc_orders.nd rfl (Or.inl rfl) (pe_lst pa_nil)) (pss_cons (ps_set (i := 5) sc_orders.nd rfl (Or.inl rfl) (pe_call G_take (hr.mono (by decide)) (by rfl) gm_take kp_take bd_take .nil pass0 (pa_cons (pv 0) (pa_cons (pe_ix ix_list (pe_lst (pa_cons pe_int (pa_cons (pe_op op_add (pe_op op_pow pe_int pe_int) pe_int) pa_nil))) (pe_call G_take (hr.mono (by decide)) (by rfl) gm_take kp_take bd_take .nil pass0 (pa_cons (pv 0) (pa_cons pe_int pa_nil))) (fun _ _ => rfl)) pa_nil)))) (pss_cons (ps_for PassesOwn.never rfl (pi_range1 (by rfl) m_range (pa_cons (pv 3) pa_nil)) (pg_name (i := 6) sc_orders.nd rfl (Or.inl rfl)) (pss_cons (ps_set (i := 5) sc_orders.nd rfl (Or.inl rfl) (pe_callB (cr_min2 rfl) (by rfl) m_min (by decide +kernel) (pa_cons (pe_op op_pow pe_int pe_int) (pa_cons (pe_op op_add (pv 5) (pe_call G_take (hr.mono (by decide)) (by rfl) gm_take kp_take bd_take .nil pass0 (pa_cons (pv 0) (pa_cons (pe_ix ix_list (pe_lst (pa_cons pe_int (pa_cons pe_int (pa_cons (pe_op op_pow pe_int pe_int) pa_nil)))) (pe_call G_take (hr.mono (by decide)) (by rfl) gm_take kp_take bd_take .nil pass0 (pa_cons (pv 0) (pa_cons pe_int pa_nil))) (fun _ _ => rfl)) pa_nil)))) pa_nil)))) (pss_cons (ps_set (i := 7) sc_orders.nd rfl (Or.inl rfl) (pe_call G_take (hr.mono (by decide)) (by rfl) gm_take kp_take bd_take .nil pass0 (pa_cons (pv 0) (pa_cons (pe_op op_add (pv 1) pe_int) pa_nil)))) (pss_one (ps_expr (pe_bm PySem.F.plainAttrs_list PySem.F.slot_list_append PySem.F.type_list_append mt_append (pv 4) (pa_cons (pe_tup (pa_cons (pe_call G_name (hr.mono (by decide)) (by rfl) gm_name kp_name bd_name .nil pass0 (pa_cons (pv 6) (pa_cons (pv 2) pa_nil))) (pa_cons (pv 5) (pa_cons (pv 7) (pa_cons (pe_op op_mod (pe_op op_add (pe_op op_add (pv 7) pe_int) (pe_call G_take (hr.mono (by decide)) (by rfl) gm_take kp_take bd_take .nil pass0 (pa_cons (pv 0) (pa_cons (pv 1) pa_nil)))) (pe_op op_add (pv 1) pe_int)) pa_nil))))) pa_nil))))))) (pss_one (ps_ret (pv 4))))))
abbrev s_Sweep_turn : Stmt := ((clsB (top 35)).getD 2 (.Pass ⟨0, 0, 0, 0⟩))
def f_Sweep_turn : T_Sweep → Option (Unit × T_Sweep) := fun self_1 => ((if (decide (self_1.2.2.2.2.2.2.2.1 = (0 : Int))) = true then some (1 : Int) else some self_1.2.2.2.2.2.2.2.2.1)).bind fun self_step_16 => (if (decide (self_1.2.2.2.2.2.2.2.1 = (self_1.1.length : Int))) = true then (letM (-(1 : Int)) fun x32 => some ((), (self_1.1, self_1.2.1, self_1.2.2.1, self_1.2.2.2.1, self_1.2.2.2.2.1, self_1.2.2.2.2.2.1, self_1.2.2.2.2.2.2.1, self_1.2.2.2.2.2.2.2.1, x32, self_1.2.2.2.2.2.2.2.2.2))) else some ((), (self_1.1, self_1.2.1, self_1.2.2.1, self_1.2.2.2.1, self_1.2.2.2.2.1, self_1.2.2.2.2.2.1, self_1.2.2.2.2.2.2.1, self_1.2.2.2.2.2.2.2.1, self_step_16, self_1.2.2.2.2.2.2.2.2.2)))
abbrev N_Sweep_turn : List Str := ["self"]
abbrev A_Sweep_turn (K : PySem.W.Frag) : T_Sweep → List Ag := fun x => [.o (fun F v c => ∃ a, v = .ref a ∧ O_Sweep K x F a c)]
def R_Sweep_turn (K : PySem.W.Frag) (y : (Unit × T_Sweep)) (F : Hp) (vs : List V) (v : V) (c : Cs) : Prop := ∃ c0 c1 : Cs, c = (c0 ++ (c1 ++ [])) ∧ (c0 = [] ∧ Dt K F v (eN y.1)) ∧ O_Sweep K y.2 F (adV (vs.getD 0 .non)) c1
abbrev sp_Sweep_turn (K : PySem.W.Frag) : Sp := spG K (A_Sweep_turn K) (R_Sweep_turn K) f_Sweep_turn
def t_Sweep_turn (K : PySem.W.Frag) : TS := (tSeq (tIfS (tTest (tOp rEq (tFld K (tVar 0) "bay") (tC (.int 0)))) (sFld K (tVar 0) (tC (.int 1)) "step") tNext) (tIfS (tTest (tOp rEq (tFld K (tVar 0) "bay") (tCB (rLenL K) (tCons (tFld K (tVar 0) "gaps") tNil)))) (sFld K (tVar 0) (tUn (rU fun i => .int (-i)) (tC (.int 1))) "step") tNext))
theorem w_Sweep_turn {K : PySem.W.Frag} (cl_Sweep : Cls K (He.ga K "Sweep")) (na_Sweep_bay : NoAttr K (He.ga K "Sweep") "bay") (na_Sweep_gaps : NoAttr K (He.ga K "Sweep") "gaps") (na_Sweep_step : NoAttr K (He.ga K "Sweep") "step") (vs : List V) (H : Hp) (Q : VK) (E : XK) (h : sp_Sweep_turn K vs H Q E) : t_Sweep_turn K { nx := fun _ H' => Q .non H', rt := Q } (start N_Sweep_turn vs) H := by
  obtain ⟨F0, cc, cs, self_1, y, h0, hS0, m, q⟩ := h
  obtain ⟨_, _, _, _, rfl, rfl, ⟨a0, rfl, ho0⟩, h1⟩ := ArgG.ho h0
  obtain ⟨rfl, rfl⟩ := ArgG.no h1
  obtain ⟨dx2, p3, p4, us5, p7, us8, p10, us11, p13, us14, rfl, hu6, hu9, hu12, hu15⟩ := ho0
  have hS1 : Sta F0 ((a0, .ins (He.ga K "Sweep") dx2 [("gaps", (.ref p3)), ("most", (.int self_1.2.1)), ("coming", (.ref p4)), ("waiting", (.ref p7)), ("riding", (.ref p10)), ("arrived", (.ref p13)), ("tick", (.int self_1.2.2.2.2.2.2.1)), ("bay", (.int self_1.2.2.2.2.2.2.2.1)), ("step", (.int self_1.2.2.2.2.2.2.2.2.1)), ("ahead", (.int self_1.2.2.2.2.2.2.2.2.2))]) :: (dx2, .own a0) :: (p3, .lst (self_1.1.map V.int)) :: (p4, .lst us5) :: (p7, .lst us8) :: (p10, .lst us11) :: (p13, .lst us14) :: cs) H := hS0
  unfold f_Sweep_turn at m
  try dsimp only at m
  unfold t_Sweep_turn
  refine go (σ' := [some (.ref a0)]) rfl ?_
  obtain ⟨self_step_16, k18, m⟩ := bnd m
  refine s_ifJ (b := (decide (self_1.2.2.2.2.2.2.2.1 = (0 : Int)))) (fun σ H => ∃ (F : Hp) (c : Cs), Gr F0 F ∧ Sta F c H ∧ σ = [some (.ref a0)] ∧ (a0, .ins (He.ga K "Sweep") dx2 [("gaps", (.ref p3)), ("most", (.int self_1.2.1)), ("coming", (.ref p4)), ("waiting", (.ref p7)), ("riding", (.ref p10)), ("arrived", (.ref p13)), ("tick", (.int self_1.2.2.2.2.2.2.1)), ("bay", (.int self_1.2.2.2.2.2.2.2.1)), ("step", (.int self_step_16)), ("ahead", (.int self_1.2.2.2.2.2.2.2.2.2))]) :: (dx2, .own a0) :: (p3, .lst (self_1.1.map V.int)) :: (p4, .lst us5) :: (p7, .lst us8) :: (p10, .lst us11) :: (p13, .lst us14) :: cs = c) hS1 (t_test (K := K) (d_eqI (d_vp (vp_fld (vp_var rfl) (List.Mem.head _) cl_Sweep na_Sweep_bay rfl) (.int _)) d_int)) ?_ (fun jn17 hc F48 H49 g50 hS51 => ?_) (fun jn17 hc F60 H61 g62 hS63 => ?_)
  · rintro σ24 H20 ⟨F19, c23, g21, hS22, rfl, rfl⟩
    refine s_if (b := (decide (self_1.2.2.2.2.2.2.2.1 = (self_1.1.length : Int)))) hS22 (t_lendX (l1 := [(a0, HO.ins (He.ga K "Sweep") dx2 [("gaps", (.ref p3)), ("most", (.int self_1.2.1)), ("coming", (.ref p4)), ("waiting", (.ref p7)), ("riding", (.ref p10)), ("arrived", (.ref p13)), ("tick", (.int self_1.2.2.2.2.2.2.1)), ("bay", (.int self_1.2.2.2.2.2.2.2.1)), ("step", (.int self_step_16)), ("ahead", (.int self_1.2.2.2.2.2.2.2.2.2))]), (dx2, HO.own a0)]) (m1 := [(a0, HO.ins (He.ga K "Sweep") dx2 [("gaps", (.ref p3)), ("most", (.int self_1.2.1)), ("coming", (.ref p4)), ("waiting", (.ref p7)), ("riding", (.ref p10)), ("arrived", (.ref p13)), ("tick", (.int self_1.2.2.2.2.2.2.1)), ("bay", (.int self_1.2.2.2.2.2.2.2.1)), ("step", (.int self_step_16)), ("ahead", (.int self_1.2.2.2.2.2.2.2.2.2))]), (dx2, HO.own a0)]) (fun F25 g26 hn27 => (t_test (K := K) (d_eqI (d_vp (vp_fld (vp_var rfl) (List.Mem.head _) cl_Sweep na_Sweep_bay rfl) (.int _)) (d_len (e := eI) (a_cons (d_vp (vp_fld (vp_var rfl) (List.Mem.head _) cl_Sweep na_Sweep_gaps rfl) (lent_l hn27 (Dts.gr g26 (Dts.of_ints _)))) a_nil)))))) (fun hc F28 H29 g30 hS31 => ?_) (fun hc F43 H44 g45 hS46 => ?_)
    · rw [if_pos hc] at m
      refine s_fldO ?_
      obtain ⟨x32, k33, m⟩ := lt m
      refine o_d (K := K) (d := eI x32) hS31 (d_is (d_neg d_int) (congrArg eI k33)) (fun v38 F34 H35 g36 hS37 hv39 => ?_)
      obtain rfl := Dt.toInt hv39
      refine o_fld (σ := [some (.ref a0)]) (ta := (tVar 0)) (l1 := []) (fs' := [("gaps", (.ref p3)), ("most", (.int self_1.2.1)), ("coming", (.ref p4)), ("waiting", (.ref p7)), ("riding", (.ref p10)), ("arrived", (.ref p13)), ("tick", (.int self_1.2.2.2.2.2.2.1)), ("bay", (.int self_1.2.2.2.2.2.2.2.1)), ("step", (.int x32)), ("ahead", (.int self_1.2.2.2.2.2.2.2.2.2))]) hS37 (vp_var rfl) cl_Sweep na_Sweep_step (Nat.le_of_ble_eq_true rfl) rfl (fun H40 hS41 => ?_)
      have hS42 := Sta.perm hS41 (List.Perm.trans (List.perm_middle (l₁ := [(a0, HO.ins (He.ga K "Sweep") dx2 [("gaps", (.ref p3)), ("most", (.int self_1.2.1)), ("coming", (.ref p4)), ("waiting", (.ref p7)), ("riding", (.ref p10)), ("arrived", (.ref p13)), ("tick", (.int self_1.2.2.2.2.2.2.1)), ("bay", (.int self_1.2.2.2.2.2.2.2.1)), ("step", (.int x32)), ("ahead", (.int self_1.2.2.2.2.2.2.2.2.2))]), (dx2, HO.own a0), (p3, HO.lst (self_1.1.map V.int)), (p4, HO.lst us5), (p7, HO.lst us8), (p10, HO.lst us11)])) (List.Perm.trans (List.perm_middle (l₁ := [(p13, HO.lst us14), (a0, HO.ins (He.ga K "Sweep") dx2 [("gaps", (.ref p3)), ("most", (.int self_1.2.1)), ("coming", (.ref p4)), ("waiting", (.ref p7)), ("riding", (.ref p10)), ("arrived", (.ref p13)), ("tick", (.int self_1.2.2.2.2.2.2.1)), ("bay", (.int self_1.2.2.2.2.2.2.2.1)), ("step", (.int x32)), ("ahead", (.int self_1.2.2.2.2.2.2.2.2.2))]), (dx2, HO.own a0), (p3, HO.lst (self_1.1.map V.int)), (p4, HO.lst us5), (p7, HO.lst us8)])) (List.Perm.trans (List.perm_middle (l₁ := [(p10, HO.lst us11), (p13, HO.lst us14), (a0, HO.ins (He.ga K "Sweep") dx2 [("gaps", (.ref p3)), ("most", (.int self_1.2.1)), ("coming", (.ref p4)), ("waiting", (.ref p7)), ("riding", (.ref p10)), ("arrived", (.ref p13)), ("tick", (.int self_1.2.2.2.2.2.2.1)), ("bay", (.int self_1.2.2.2.2.2.2.2.1)), ("step", (.int x32)), ("ahead", (.int self_1.2.2.2.2.2.2.2.2.2))]), (dx2, HO.own a0), (p3, HO.lst (self_1.1.map V.int)), (p4, HO.lst us5)])) (List.Perm.trans (List.perm_middle (l₁ := [(p7, HO.lst us8), (p10, HO.lst us11), (p13, HO.lst us14), (a0, HO.ins (He.ga K "Sweep") dx2 [("gaps", (.ref p3)), ("most", (.int self_1.2.1)), ("coming", (.ref p4)), ("waiting", (.ref p7)), ("riding", (.ref p10)), ("arrived", (.ref p13)), ("tick", (.int self_1.2.2.2.2.2.2.1)), ("bay", (.int self_1.2.2.2.2.2.2.2.1)), ("step", (.int x32)), ("ahead", (.int self_1.2.2.2.2.2.2.2.2.2))]), (dx2, HO.own a0), (p3, HO.lst (self_1.1.map V.int))])) (List.Perm.trans (List.perm_middle (l₁ := [(p4, HO.lst us5), (p7, HO.lst us8), (p10, HO.lst us11), (p13, HO.lst us14), (a0, HO.ins (He.ga K "Sweep") dx2 [("gaps", (.ref p3)), ("most", (.int self_1.2.1)), ("coming", (.ref p4)), ("waiting", (.ref p7)), ("riding", (.ref p10)), ("arrived", (.ref p13)), ("tick", (.int self_1.2.2.2.2.2.2.1)), ("bay", (.int self_1.2.2.2.2.2.2.2.1)), ("step", (.int x32)), ("ahead", (.int self_1.2.2.2.2.2.2.2.2.2))]), (dx2, HO.own a0)])) (List.Perm.trans (List.perm_middle (l₁ := [(p3, HO.lst (self_1.1.map V.int)), (p4, HO.lst us5), (p7, HO.lst us8), (p10, HO.lst us11), (p13, HO.lst us14), (a0, HO.ins (He.ga K "Sweep") dx2 [("gaps", (.ref p3)), ("most", (.int self_1.2.1)), ("coming", (.ref p4)), ("waiting", (.ref p7)), ("riding", (.ref p10)), ("arrived", (.ref p13)), ("tick", (.int self_1.2.2.2.2.2.2.1)), ("bay", (.int self_1.2.2.2.2.2.2.2.1)), ("step", (.int x32)), ("ahead", (.int self_1.2.2.2.2.2.2.2.2.2))])])) (List.perm_middle (l₁ := [(dx2, HO.own a0), (p3, HO.lst (self_1.1.map V.int)), (p4, HO.lst us5), (p7, HO.lst us8), (p10, HO.lst us11), (p13, HO.lst us14)]))))))))
      obtain rfl := sm m
      exact q _ ([] ++ ([(a0, HO.ins (He.ga K "Sweep") dx2 [("gaps", (.ref p3)), ("most", (.int self_1.2.1)), ("coming", (.ref p4)), ("waiting", (.ref p7)), ("riding", (.ref p10)), ("arrived", (.ref p13)), ("tick", (.int self_1.2.2.2.2.2.2.1)), ("bay", (.int self_1.2.2.2.2.2.2.2.1)), ("step", (.int x32)), ("ahead", (.int self_1.2.2.2.2.2.2.2.2.2))]), (dx2, HO.own a0), (p3, HO.lst (self_1.1.map V.int)), (p4, HO.lst us5), (p7, HO.lst us8), (p10, HO.lst us11), (p13, HO.lst us14)] ++ [])) _ _ (Gr.tr g21 (Gr.tr g30 g36)) hS42 ⟨[], [(a0, HO.ins (He.ga K "Sweep") dx2 [("gaps", (.ref p3)), ("most", (.int self_1.2.1)), ("coming", (.ref p4)), ("waiting", (.ref p7)), ("riding", (.ref p10)), ("arrived", (.ref p13)), ("tick", (.int self_1.2.2.2.2.2.2.1)), ("bay", (.int self_1.2.2.2.2.2.2.2.1)), ("step", (.int x32)), ("ahead", (.int self_1.2.2.2.2.2.2.2.2.2))]), (dx2, HO.own a0), (p3, HO.lst (self_1.1.map V.int)), (p4, HO.lst us5), (p7, HO.lst us8), (p10, HO.lst us11), (p13, HO.lst us14)], rfl, ⟨rfl, Dt.non⟩, ⟨_, _, _, _, _, _, _, _, _, _, rfl, (Dts.gr (Gr.tr g21 (Gr.tr g30 g36)) hu6), (Dts.gr (Gr.tr g21 (Gr.tr g30 g36)) hu9), (Dts.gr (Gr.tr g21 (Gr.tr g30 g36)) hu12), (Dts.gr (Gr.tr g21 (Gr.tr g30 g36)) hu15)⟩⟩
    · rw [if_neg (bf hc)] at m
      refine nxt ?_
      have hS47 := Sta.perm hS46 (List.Perm.trans (List.perm_middle (l₁ := [(a0, HO.ins (He.ga K "Sweep") dx2 [("gaps", (.ref p3)), ("most", (.int self_1.2.1)), ("coming", (.ref p4)), ("waiting", (.ref p7)), ("riding", (.ref p10)), ("arrived", (.ref p13)), ("tick", (.int self_1.2.2.2.2.2.2.1)), ("bay", (.int self_1.2.2.2.2.2.2.2.1)), ("step", (.int self_step_16)), ("ahead", (.int self_1.2.2.2.2.2.2.2.2.2))]), (dx2, HO.own a0), (p3, HO.lst (self_1.1.map V.int)), (p4, HO.lst us5), (p7, HO.lst us8), (p10, HO.lst us11)])) (List.Perm.trans (List.perm_middle (l₁ := [(p13, HO.lst us14), (a0, HO.ins (He.ga K "Sweep") dx2 [("gaps", (.ref p3)), ("most", (.int self_1.2.1)), ("coming", (.ref p4)), ("waiting", (.ref p7)), ("riding", (.ref p10)), ("arrived", (.ref p13)), ("tick", (.int self_1.2.2.2.2.2.2.1)), ("bay", (.int self_1.2.2.2.2.2.2.2.1)), ("step", (.int self_step_16)), ("ahead", (.int self_1.2.2.2.2.2.2.2.2.2))]), (dx2, HO.own a0), (p3, HO.lst (self_1.1.map V.int)), (p4, HO.lst us5), (p7, HO.lst us8)])) (List.Perm.trans (List.perm_middle (l₁ := [(p10, HO.lst us11), (p13, HO.lst us14), (a0, HO.ins (He.ga K "Sweep") dx2 [("gaps", (.ref p3)), ("most", (.int self_1.2.1)), ("coming", (.ref p4)), ("waiting", (.ref p7)), ("riding", (.ref p10)), ("arrived", (.ref p13)), ("tick", (.int self_1.2.2.2.2.2.2.1)), ("bay", (.int self_1.2.2.2.2.2.2.2.1)), ("step", (.int self_step_16)), ("ahead", (.int self_1.2.2.2.2.2.2.2.2.2))]), (dx2, HO.own a0), (p3, HO.lst (self_1.1.map V.int)), (p4, HO.lst us5)])) (List.Perm.trans (List.perm_middle (l₁ := [(p7, HO.lst us8), (p10, HO.lst us11), (p13, HO.lst us14), (a0, HO.ins (He.ga K "Sweep") dx2 [("gaps", (.ref p3)), ("most", (.int self_1.2.1)), ("coming", (.ref p4)), ("waiting", (.ref p7)), ("riding", (.ref p10)), ("arrived", (.ref p13)), ("tick", (.int self_1.2.2.2.2.2.2.1)), ("bay", (.int self_1.2.2.2.2.2.2.2.1)), ("step", (.int self_step_16)), ("ahead", (.int self_1.2.2.2.2.2.2.2.2.2))]), (dx2, HO.own a0), (p3, HO.lst (self_1.1.map V.int))])) (List.Perm.trans (List.perm_middle (l₁ := [(p4, HO.lst us5), (p7, HO.lst us8), (p10, HO.lst us11), (p13, HO.lst us14), (a0, HO.ins (He.ga K "Sweep") dx2 [("gaps", (.ref p3)), ("most", (.int self_1.2.1)), ("coming", (.ref p4)), ("waiting", (.ref p7)), ("riding", (.ref p10)), ("arrived", (.ref p13)), ("tick", (.int self_1.2.2.2.2.2.2.1)), ("bay", (.int self_1.2.2.2.2.2.2.2.1)), ("step", (.int self_step_16)), ("ahead", (.int self_1.2.2.2.2.2.2.2.2.2))]), (dx2, HO.own a0)])) (List.Perm.trans (List.perm_middle (l₁ := [(p3, HO.lst (self_1.1.map V.int)), (p4, HO.lst us5), (p7, HO.lst us8), (p10, HO.lst us11), (p13, HO.lst us14), (a0, HO.ins (He.ga K "Sweep") dx2 [("gaps", (.ref p3)), ("most", (.int self_1.2.1)), ("coming", (.ref p4)), ("waiting", (.ref p7)), ("riding", (.ref p10)), ("arrived", (.ref p13)), ("tick", (.int self_1.2.2.2.2.2.2.1)), ("bay", (.int self_1.2.2.2.2.2.2.2.1)), ("step", (.int self_step_16)), ("ahead", (.int self_1.2.2.2.2.2.2.2.2.2))])])) (List.perm_middle (l₁ := [(dx2, HO.own a0), (p3, HO.lst (self_1.1.map V.int)), (p4, HO.lst us5), (p7, HO.lst us8), (p10, HO.lst us11), (p13, HO.lst us14)]))))))))
      obtain rfl := sm m
      exact q _ ([] ++ ([(a0, HO.ins (He.ga K "Sweep") dx2 [("gaps", (.ref p3)), ("most", (.int self_1.2.1)), ("coming", (.ref p4)), ("waiting", (.ref p7)), ("riding", (.ref p10)), ("arrived", (.ref p13)), ("tick", (.int self_1.2.2.2.2.2.2.1)), ("bay", (.int self_1.2.2.2.2.2.2.2.1)), ("step", (.int self_step_16)), ("ahead", (.int self_1.2.2.2.2.2.2.2.2.2))]), (dx2, HO.own a0), (p3, HO.lst (self_1.1.map V.int)), (p4, HO.lst us5), (p7, HO.lst us8), (p10, HO.lst us11), (p13, HO.lst us14)] ++ [])) _ _ (Gr.tr g21 g45) hS47 ⟨[], [(a0, HO.ins (He.ga K "Sweep") dx2 [("gaps", (.ref p3)), ("most", (.int self_1.2.1)), ("coming", (.ref p4)), ("waiting", (.ref p7)), ("riding", (.ref p10)), ("arrived", (.ref p13)), ("tick", (.int self_1.2.2.2.2.2.2.1)), ("bay", (.int self_1.2.2.2.2.2.2.2.1)), ("step", (.int self_step_16)), ("ahead", (.int self_1.2.2.2.2.2.2.2.2.2))]), (dx2, HO.own a0), (p3, HO.lst (self_1.1.map V.int)), (p4, HO.lst us5), (p7, HO.lst us8), (p10, HO.lst us11), (p13, HO.lst us14)], rfl, ⟨rfl, Dt.non⟩, ⟨_, _, _, _, _, _, _, _, _, _, rfl, (Dts.gr (Gr.tr g21 g45) hu6), (Dts.gr (Gr.tr g21 g45) hu9), (Dts.gr (Gr.tr g21 g45) hu12), (Dts.gr (Gr.tr g21 g45) hu15)⟩⟩
  · rw [if_pos hc] at k18
    refine s_fldO ?_
    refine o_d (K := K) (d := eI (1 : Int)) hS51 d_int (fun v56 F52 H53 g54 hS55 hv57 => ?_)
    obtain rfl := Dt.toInt hv57
    refine o_fld (σ := [some (.ref a0)]) (ta := (tVar 0)) (l1 := []) (fs' := [("gaps", (.ref p3)), ("most", (.int self_1.2.1)), ("coming", (.ref p4)), ("waiting", (.ref p7)), ("riding", (.ref p10)), ("arrived", (.ref p13)), ("tick", (.int self_1.2.2.2.2.2.2.1)), ("bay", (.int self_1.2.2.2.2.2.2.2.1)), ("step", (.int (1 : Int))), ("ahead", (.int self_1.2.2.2.2.2.2.2.2.2))]) hS55 (vp_var rfl) cl_Sweep na_Sweep_step (Nat.le_of_ble_eq_true rfl) rfl (fun H58 hS59 => ?_)
    obtain rfl := sm k18
    exact jn17 _ _ ⟨_, _, (Gr.tr g50 g54), hS59, rfl, rfl⟩
  · rw [if_neg (bf hc)] at k18
    refine nxt ?_
    obtain rfl := sm k18
    exact jn17 _ _ ⟨_, _, g62, hS63, rfl, rfl⟩
theorem sc_Sweep_turn : FnScope N_Sweep_turn ["self"] (defScope s_Sweep_turn) := ⟨rfl, rfl, rfl, by decide +kernel, rfl, by decide +kernel, by decide +kernel⟩
theorem ok_Sweep_turn {P : Program} {w : World} {K : PySem.W.Frag} {mg : Str → Option Value} {base : Heap} (hF : DfM K "Sweep" "turn" "Sweep.turn" s_Sweep_turn) (clM : Cls K (He.ga K "Sweep")) (meM : Meth K (He.ga K "Sweep") "turn" (He.ma K (He.ga K "Sweep") "turn")) (m_len : mg "len" = none) (cl_Sweep : Cls K (He.ga K "Sweep")) (na_Sweep_bay : NoAttr K (He.ga K "Sweep") "bay") (na_Sweep_gaps : NoAttr K (He.ga K "Sweep") "gaps") (na_Sweep_step : NoAttr K (He.ga K "Sweep") "step") : OkMe P w K mg base CX0 1 "Sweep" "turn" ["self"] (sp_Sweep_turn K) := by
  obtain ⟨fd, F⟩ := hF
  refine ⟨⟨fd, F.ok sc_Sweep_turn (fun vs H Q E h => ?_) (fun cdv A outer s H vs Q E hr h => ⟨t_Sweep_turn K, PSs.nox ?_, w_Sweep_turn cl_Sweep na_Sweep_bay na_Sweep_gaps na_Sweep_step vs H Q E h⟩), F.bindsN fun _ _ _ _ _ _ us hl => match us, hl with | [_], _ => rfl⟩, clM, meM⟩
  · obtain ⟨F0, cc, cs, x, y, h, _⟩ := h; exact ArgG.len h
  · exact (pss_cons (ps_if (pt_cmpR op_eq (pe_fld (pv 0) rfl) pe_int (nomark _)) (pss_one (ps_fld (pv 0) pe_int rfl)) pss_nil) (pss_one (ps_if (pt_cmpR op_eq (pe_fld (pv 0) rfl) (pe_callB cr_lenL (by rfl) m_len PySem.boot_len (pa_cons (pe_fld (pv 0) rfl) pa_nil)) (nomark _)) (pss_one (ps_fld (pv 0) (pe_un un_neg pe_int) rfl)) pss_nil)))
abbrev s_Sweep_put : Stmt := ((clsB (top 35)).getD 3 (.Pass ⟨0, 0, 0, 0⟩))
def f_Sweep_put : T_Sweep → Option (Unit × T_Sweep) := fun self_1 => (((filC (fun order_22 => (decide (order_22.2.2.2 = self_1.2.2.2.2.2.2.2.1))) (fun order_22 => order_22) self_1.2.2.2.2.1)).bind fun x33 => ((catM self_1.2.2.2.2.2.1 x33)).bind fun x35 => (((filC (fun order_49 => (!decide (order_49.2.2.2 = self_1.2.2.2.2.2.2.2.1))) (fun order_49 => order_49) self_1.2.2.2.2.1)).bind fun x60 => some ((), (self_1.1, self_1.2.1, self_1.2.2.1, self_1.2.2.2.1, x60, x35, self_1.2.2.2.2.2.2.1, self_1.2.2.2.2.2.2.2.1, self_1.2.2.2.2.2.2.2.2.1, self_1.2.2.2.2.2.2.2.2.2))))
abbrev N_Sweep_put : List Str := ["self", "order"]
abbrev A_Sweep_put (K : PySem.W.Frag) : T_Sweep → List Ag := fun x => [.o (fun F v c => ∃ a, v = .ref a ∧ O_Sweep K x F a c)]
def R_Sweep_put (K : PySem.W.Frag) (y : (Unit × T_Sweep)) (F : Hp) (vs : List V) (v : V) (c : Cs) : Prop := ∃ c0 c1 : Cs, c = (c0 ++ (c1 ++ [])) ∧ (c0 = [] ∧ Dt K F v (eN y.1)) ∧ O_Sweep K y.2 F (adV (vs.getD 0 .non)) c1
abbrev sp_Sweep_put (K : PySem.W.Frag) : Sp := spG K (A_Sweep_put K) (R_Sweep_put K) f_Sweep_put
def t_Sweep_put (K : PySem.W.Frag) : TS := (tSeq (sFld K (tVar 0) (tOp (rCatS K) (tFld K (tVar 0) "arrived") (tLc (iList K (tFld K (tVar 0) "riding")) (gName 1) (tTest (tOp rEq (tOp (rIxT K) (tVar 1) (tC (.int 3))) (tFld K (tVar 0) "bay"))) (tVar 1) [1])) "arrived") (sFld K (tVar 0) (tLc (iList K (tFld K (tVar 0) "riding")) (gName 1) (tTest (tOp rNe (tOp (rIxT K) (tVar 1) (tC (.int 3))) (tFld K (tVar 0) "bay"))) (tVar 1) [1]) "riding"))
theorem w_Sweep_put {K : PySem.W.Frag} (cl_Sweep : Cls K (He.ga K "Sweep")) (na_Sweep_arrived : NoAttr K (He.ga K "Sweep") "arrived") (na_Sweep_bay : NoAttr K (He.ga K "Sweep") "bay") (na_Sweep_riding : NoAttr K (He.ga K "Sweep") "riding") (vs : List V) (H : Hp) (Q : VK) (E : XK) (h : sp_Sweep_put K vs H Q E) : t_Sweep_put K { nx := fun _ H' => Q .non H', rt := Q } (start N_Sweep_put vs) H := by
  obtain ⟨F0, cc, cs, self_1, y, h0, hS0, m, q⟩ := h
  obtain ⟨_, _, _, _, rfl, rfl, ⟨a0, rfl, ho0⟩, h1⟩ := ArgG.ho h0
  obtain ⟨rfl, rfl⟩ := ArgG.no h1
  obtain ⟨dx2, p3, p4, us5, p7, us8, p10, us11, p13, us14, rfl, hu6, hu9, hu12, hu15⟩ := ho0
  have hS1 : Sta F0 ((a0, .ins (He.ga K "Sweep") dx2 [("gaps", (.ref p3)), ("most", (.int self_1.2.1)), ("coming", (.ref p4)), ("waiting", (.ref p7)), ("riding", (.ref p10)), ("arrived", (.ref p13)), ("tick", (.int self_1.2.2.2.2.2.2.1)), ("bay", (.int self_1.2.2.2.2.2.2.2.1)), ("step", (.int self_1.2.2.2.2.2.2.2.2.1)), ("ahead", (.int self_1.2.2.2.2.2.2.2.2.2))]) :: (dx2, .own a0) :: (p3, .lst (self_1.1.map V.int)) :: (p4, .lst us5) :: (p7, .lst us8) :: (p10, .lst us11) :: (p13, .lst us14) :: cs) H := hS0
  unfold f_Sweep_put at m
  try dsimp only at m
  unfold t_Sweep_put
  refine go (σ' := [some (.ref a0), none]) rfl ?_
  refine s_fldO ?_
  obtain ⟨x33, k34, m⟩ := bnd m
  obtain ⟨x35, k36, m⟩ := bnd m
  refine o_c (K := K) (ds := x35.map (eT4 eS eI eI eI)) hS1 (c_lendO (l1 := [(a0, HO.ins (He.ga K "Sweep") dx2 [("gaps", (.ref p3)), ("most", (.int self_1.2.1)), ("coming", (.ref p4)), ("waiting", (.ref p7)), ("riding", (.ref p10)), ("arrived", (.ref p13)), ("tick", (.int self_1.2.2.2.2.2.2.1)), ("bay", (.int self_1.2.2.2.2.2.2.2.1)), ("step", (.int self_1.2.2.2.2.2.2.2.2.1)), ("ahead", (.int self_1.2.2.2.2.2.2.2.2.2))]), (dx2, HO.own a0), (p3, HO.lst (self_1.1.map V.int)), (p4, HO.lst us5), (p7, HO.lst us8), (p10, HO.lst us11)]) (m1 := [(a0, HO.ins (He.ga K "Sweep") dx2 [("gaps", (.ref p3)), ("most", (.int self_1.2.1)), ("coming", (.ref p4)), ("waiting", (.ref p7)), ("riding", (.ref p10)), ("arrived", (.ref p13)), ("tick", (.int self_1.2.2.2.2.2.2.1)), ("bay", (.int self_1.2.2.2.2.2.2.2.1)), ("step", (.int self_1.2.2.2.2.2.2.2.2.1)), ("ahead", (.int self_1.2.2.2.2.2.2.2.2.2))]), (dx2, HO.own a0), (p3, HO.lst (self_1.1.map V.int)), (p4, HO.lst us5), (p7, HO.lst us8), (p10, HO.lst us11)]) (nt_l _) (nls (nl_T4 nl_S nl_I nl_I nl_I) _) (fun F16 g17 hn18 => (c_lendO (l1 := [(a0, HO.ins (He.ga K "Sweep") dx2 [("gaps", (.ref p3)), ("most", (.int self_1.2.1)), ("coming", (.ref p4)), ("waiting", (.ref p7)), ("riding", (.ref p10)), ("arrived", (.ref p13)), ("tick", (.int self_1.2.2.2.2.2.2.1)), ("bay", (.int self_1.2.2.2.2.2.2.2.1)), ("step", (.int self_1.2.2.2.2.2.2.2.2.1)), ("ahead", (.int self_1.2.2.2.2.2.2.2.2.2))]), (dx2, HO.own a0), (p3, HO.lst (self_1.1.map V.int)), (p4, HO.lst us5), (p7, HO.lst us8)]) (m1 := [(a0, HO.ins (He.ga K "Sweep") dx2 [("gaps", (.ref p3)), ("most", (.int self_1.2.1)), ("coming", (.ref p4)), ("waiting", (.ref p7)), ("riding", (.ref p10)), ("arrived", (.ref p13)), ("tick", (.int self_1.2.2.2.2.2.2.1)), ("bay", (.int self_1.2.2.2.2.2.2.2.1)), ("step", (.int self_1.2.2.2.2.2.2.2.2.1)), ("ahead", (.int self_1.2.2.2.2.2.2.2.2.2))]), (dx2, HO.own a0), (p3, HO.lst (self_1.1.map V.int)), (p4, HO.lst us5), (p7, HO.lst us8)]) (nt_l _) (nls (nl_T4 nl_S nl_I nl_I nl_I) _) (fun F19 g20 hn21 => (c_cat (en := (eT4 eS eI eI eI)) (d_vp (vp_fld (vp_var rfl) (List.Mem.head _) cl_Sweep na_Sweep_arrived rfl) (Dt.gr (Gr.tr g20 (Gr.new hn21)) (lent_l hn18 (Dts.gr g17 hu15)))) (EvC.dd (c_filC (K := K) (p := (fun order_22 => (decide (order_22.2.2.2 = self_1.2.2.2.2.2.2.2.1)))) (f := (fun order_22 => order_22)) (em := (eT4 eS eI eI eI)) (i_list (en := (eT4 eS eI eI eI)) (d_vp (vp_fld (vp_var rfl) (List.Mem.head _) cl_Sweep na_Sweep_riding rfl) (lent_l hn21 (Dts.gr g20 (Dts.gr (Gr.tr g17 (Gr.new hn18)) hu12))))) k34 (fun order_22 o29 v30 F23 p24 us25 g26 hv27 ho28 => by obtain rfl := sm ho28; refine ⟨[some (.ref a0), some v30], fun H32 Q hS31 hq => (fun Q hq => hq) Q hq, rfl, ?_, ?_⟩; (rw [isS]; exact (t_test (K := K) (d_eqI (d_ixT (d_var rfl hv27) d_int rfl) (d_vp (vp_fld (vp_var rfl) (List.Mem.tail _ (List.Mem.head _)) cl_Sweep na_Sweep_bay rfl) (.int _))))); (intro y hy; obtain rfl := isSm hy; exact (d_var rfl hv27))))) k36))))) (fun p41 us42 F37 H38 g39 hS40 hu43 => ?_)
  refine o_fld (σ := [some (.ref a0), none]) (ta := (tVar 0)) (l1 := [(p41, .lst us42)]) (fs' := [("gaps", (.ref p3)), ("most", (.int self_1.2.1)), ("coming", (.ref p4)), ("waiting", (.ref p7)), ("riding", (.ref p10)), ("arrived", (.ref p41)), ("tick", (.int self_1.2.2.2.2.2.2.1)), ("bay", (.int self_1.2.2.2.2.2.2.2.1)), ("step", (.int self_1.2.2.2.2.2.2.2.2.1)), ("ahead", (.int self_1.2.2.2.2.2.2.2.2.2))]) hS40 (vp_var rfl) cl_Sweep na_Sweep_arrived (Nat.le_of_ble_eq_true rfl) rfl (fun H44 hS45 => ?_)
  refine s_fldO ?_
  obtain ⟨x60, k61, m⟩ := bnd m
  refine o_c (K := K) (ds := x60.map (eT4 eS eI eI eI)) hS45 (c_lendO (l1 := [(p41, HO.lst us42), (a0, HO.ins (He.ga K "Sweep") dx2 [("gaps", (.ref p3)), ("most", (.int self_1.2.1)), ("coming", (.ref p4)), ("waiting", (.ref p7)), ("riding", (.ref p10)), ("arrived", (.ref p41)), ("tick", (.int self_1.2.2.2.2.2.2.1)), ("bay", (.int self_1.2.2.2.2.2.2.2.1)), ("step", (.int self_1.2.2.2.2.2.2.2.2.1)), ("ahead", (.int self_1.2.2.2.2.2.2.2.2.2))]), (dx2, HO.own a0), (p3, HO.lst (self_1.1.map V.int)), (p4, HO.lst us5), (p7, HO.lst us8)]) (m1 := [(p41, HO.lst us42), (a0, HO.ins (He.ga K "Sweep") dx2 [("gaps", (.ref p3)), ("most", (.int self_1.2.1)), ("coming", (.ref p4)), ("waiting", (.ref p7)), ("riding", (.ref p10)), ("arrived", (.ref p41)), ("tick", (.int self_1.2.2.2.2.2.2.1)), ("bay", (.int self_1.2.2.2.2.2.2.2.1)), ("step", (.int self_1.2.2.2.2.2.2.2.2.1)), ("ahead", (.int self_1.2.2.2.2.2.2.2.2.2))]), (dx2, HO.own a0), (p3, HO.lst (self_1.1.map V.int)), (p4, HO.lst us5), (p7, HO.lst us8)]) (nt_l _) (nls (nl_T4 nl_S nl_I nl_I nl_I) _) (fun F46 g47 hn48 => (c_filC (K := K) (p := (fun order_49 => (!decide (order_49.2.2.2 = self_1.2.2.2.2.2.2.2.1)))) (f := (fun order_49 => order_49)) (em := (eT4 eS eI eI eI)) (i_list (en := (eT4 eS eI eI eI)) (d_vp (vp_fld (vp_var rfl) (List.Mem.tail _ (List.Mem.head _)) cl_Sweep na_Sweep_riding rfl) (lent_l hn48 (Dts.gr g47 (Dts.gr g39 hu12))))) k61 (fun order_49 o56 v57 F50 p51 us52 g53 hv54 ho55 => by obtain rfl := sm ho55; refine ⟨[some (.ref a0), some v57], fun H59 Q hS58 hq => (fun Q hq => hq) Q hq, rfl, ?_, ?_⟩; (rw [isS]; exact (t_test (K := K) (d_neI (d_ixT (d_var rfl hv54) d_int rfl) (d_vp (vp_fld (vp_var rfl) (List.Mem.tail _ (List.Mem.tail _ (List.Mem.head _))) cl_Sweep na_Sweep_bay rfl) (.int _))))); (intro y hy; obtain rfl := isSm hy; exact (d_var rfl hv54)))))) (fun p66 us67 F62 H63 g64 hS65 hu68 => ?_)
  refine o_fld (σ := [some (.ref a0), none]) (ta := (tVar 0)) (l1 := [(p66, .lst us67), (p41, .lst us42)]) (fs' := [("gaps", (.ref p3)), ("most", (.int self_1.2.1)), ("coming", (.ref p4)), ("waiting", (.ref p7)), ("riding", (.ref p66)), ("arrived", (.ref p41)), ("tick", (.int self_1.2.2.2.2.2.2.1)), ("bay", (.int self_1.2.2.2.2.2.2.2.1)), ("step", (.int self_1.2.2.2.2.2.2.2.2.1)), ("ahead", (.int self_1.2.2.2.2.2.2.2.2.2))]) hS65 (vp_var rfl) cl_Sweep na_Sweep_riding (Nat.le_of_ble_eq_true rfl) rfl (fun H69 hS70 => ?_)
  have hS71 := Sta.perm hS70 (List.Perm.trans (List.perm_middle (l₁ := [(p66, HO.lst us67)])) (List.Perm.trans (List.perm_middle (l₁ := [(p41, HO.lst us42)])) (List.Perm.trans (List.perm_middle (l₁ := [(p66, HO.lst us67), (p41, HO.lst us42), (a0, HO.ins (He.ga K "Sweep") dx2 [("gaps", (.ref p3)), ("most", (.int self_1.2.1)), ("coming", (.ref p4)), ("waiting", (.ref p7)), ("riding", (.ref p66)), ("arrived", (.ref p41)), ("tick", (.int self_1.2.2.2.2.2.2.1)), ("bay", (.int self_1.2.2.2.2.2.2.2.1)), ("step", (.int self_1.2.2.2.2.2.2.2.2.1)), ("ahead", (.int self_1.2.2.2.2.2.2.2.2.2))]), (dx2, HO.own a0), (p3, HO.lst (self_1.1.map V.int)), (p4, HO.lst us5)])) (List.Perm.trans (List.perm_middle (l₁ := [(p7, HO.lst us8), (p66, HO.lst us67), (p41, HO.lst us42), (a0, HO.ins (He.ga K "Sweep") dx2 [("gaps", (.ref p3)), ("most", (.int self_1.2.1)), ("coming", (.ref p4)), ("waiting", (.ref p7)), ("riding", (.ref p66)), ("arrived", (.ref p41)), ("tick", (.int self_1.2.2.2.2.2.2.1)), ("bay", (.int self_1.2.2.2.2.2.2.2.1)), ("step", (.int self_1.2.2.2.2.2.2.2.2.1)), ("ahead", (.int self_1.2.2.2.2.2.2.2.2.2))]), (dx2, HO.own a0), (p3, HO.lst (self_1.1.map V.int))])) (List.Perm.trans (List.perm_middle (l₁ := [(p4, HO.lst us5), (p7, HO.lst us8), (p66, HO.lst us67), (p41, HO.lst us42), (a0, HO.ins (He.ga K "Sweep") dx2 [("gaps", (.ref p3)), ("most", (.int self_1.2.1)), ("coming", (.ref p4)), ("waiting", (.ref p7)), ("riding", (.ref p66)), ("arrived", (.ref p41)), ("tick", (.int self_1.2.2.2.2.2.2.1)), ("bay", (.int self_1.2.2.2.2.2.2.2.1)), ("step", (.int self_1.2.2.2.2.2.2.2.2.1)), ("ahead", (.int self_1.2.2.2.2.2.2.2.2.2))]), (dx2, HO.own a0)])) (List.Perm.trans (List.perm_middle (l₁ := [(p3, HO.lst (self_1.1.map V.int)), (p4, HO.lst us5), (p7, HO.lst us8), (p66, HO.lst us67), (p41, HO.lst us42), (a0, HO.ins (He.ga K "Sweep") dx2 [("gaps", (.ref p3)), ("most", (.int self_1.2.1)), ("coming", (.ref p4)), ("waiting", (.ref p7)), ("riding", (.ref p66)), ("arrived", (.ref p41)), ("tick", (.int self_1.2.2.2.2.2.2.1)), ("bay", (.int self_1.2.2.2.2.2.2.2.1)), ("step", (.int self_1.2.2.2.2.2.2.2.2.1)), ("ahead", (.int self_1.2.2.2.2.2.2.2.2.2))])])) (List.Perm.trans (List.perm_middle (l₁ := [(dx2, HO.own a0), (p3, HO.lst (self_1.1.map V.int)), (p4, HO.lst us5), (p7, HO.lst us8), (p66, HO.lst us67), (p41, HO.lst us42)])) (List.Perm.trans (List.perm_middle (l₁ := [(a0, HO.ins (He.ga K "Sweep") dx2 [("gaps", (.ref p3)), ("most", (.int self_1.2.1)), ("coming", (.ref p4)), ("waiting", (.ref p7)), ("riding", (.ref p66)), ("arrived", (.ref p41)), ("tick", (.int self_1.2.2.2.2.2.2.1)), ("bay", (.int self_1.2.2.2.2.2.2.2.1)), ("step", (.int self_1.2.2.2.2.2.2.2.2.1)), ("ahead", (.int self_1.2.2.2.2.2.2.2.2.2))]), (dx2, HO.own a0), (p3, HO.lst (self_1.1.map V.int)), (p4, HO.lst us5), (p7, HO.lst us8), (p66, HO.lst us67), (p41, HO.lst us42), (p10, HO.lst us11)])) (List.perm_middle (l₁ := [(p13, HO.lst us14), (a0, HO.ins (He.ga K "Sweep") dx2 [("gaps", (.ref p3)), ("most", (.int self_1.2.1)), ("coming", (.ref p4)), ("waiting", (.ref p7)), ("riding", (.ref p66)), ("arrived", (.ref p41)), ("tick", (.int self_1.2.2.2.2.2.2.1)), ("bay", (.int self_1.2.2.2.2.2.2.2.1)), ("step", (.int self_1.2.2.2.2.2.2.2.2.1)), ("ahead", (.int self_1.2.2.2.2.2.2.2.2.2))]), (dx2, HO.own a0), (p3, HO.lst (self_1.1.map V.int)), (p4, HO.lst us5), (p7, HO.lst us8), (p66, HO.lst us67), (p41, HO.lst us42)]))))))))))
  have hS72 := sb_drop _ _ hS71
  have hS73 := sb_drop _ _ hS72
  obtain rfl := sm m
  exact q _ ([] ++ ([(a0, HO.ins (He.ga K "Sweep") dx2 [("gaps", (.ref p3)), ("most", (.int self_1.2.1)), ("coming", (.ref p4)), ("waiting", (.ref p7)), ("riding", (.ref p66)), ("arrived", (.ref p41)), ("tick", (.int self_1.2.2.2.2.2.2.1)), ("bay", (.int self_1.2.2.2.2.2.2.2.1)), ("step", (.int self_1.2.2.2.2.2.2.2.2.1)), ("ahead", (.int self_1.2.2.2.2.2.2.2.2.2))]), (dx2, HO.own a0), (p3, HO.lst (self_1.1.map V.int)), (p4, HO.lst us5), (p7, HO.lst us8), (p66, HO.lst us67), (p41, HO.lst us42)] ++ [])) _ _ (Gr.tr g39 g64) hS73 ⟨[], [(a0, HO.ins (He.ga K "Sweep") dx2 [("gaps", (.ref p3)), ("most", (.int self_1.2.1)), ("coming", (.ref p4)), ("waiting", (.ref p7)), ("riding", (.ref p66)), ("arrived", (.ref p41)), ("tick", (.int self_1.2.2.2.2.2.2.1)), ("bay", (.int self_1.2.2.2.2.2.2.2.1)), ("step", (.int self_1.2.2.2.2.2.2.2.2.1)), ("ahead", (.int self_1.2.2.2.2.2.2.2.2.2))]), (dx2, HO.own a0), (p3, HO.lst (self_1.1.map V.int)), (p4, HO.lst us5), (p7, HO.lst us8), (p66, HO.lst us67), (p41, HO.lst us42)], rfl, ⟨rfl, Dt.non⟩, ⟨_, _, _, _, _, _, _, _, _, _, rfl, (Dts.gr (Gr.tr g39 g64) hu6), (Dts.gr (Gr.tr g39 g64) hu9), hu68, (Dts.gr g64 hu43)⟩⟩
theorem sc_Sweep_put : FnScope N_Sweep_put ["self"] (defScope s_Sweep_put) := ⟨rfl, rfl, rfl, by decide +kernel, rfl, by decide +kernel, by decide +kernel⟩
theorem ok_Sweep_put {P : Program} {w : World} {K : PySem.W.Frag} {mg : Str → Option Value} {base : Heap} (hF : DfM K "Sweep" "put" "Sweep.put" s_Sweep_put) (clM : Cls K (He.ga K "Sweep")) (meM : Meth K (He.ga K "Sweep") "put" (He.ma K (He.ga K "Sweep") "put")) (cl_Sweep : Cls K (He.ga K "Sweep")) (na_Sweep_arrived : NoAttr K (He.ga K "Sweep") "arrived") (na_Sweep_bay : NoAttr K (He.ga K "Sweep") "bay") (na_Sweep_riding : NoAttr K (He.ga K "Sweep") "riding") : OkMe P w K mg base CX0 1 "Sweep" "put" ["self"] (sp_Sweep_put K) := by
  obtain ⟨fd, F⟩ := hF
  refine ⟨⟨fd, F.ok sc_Sweep_put (fun vs H Q E h => ?_) (fun cdv A outer s H vs Q E hr h => ⟨t_Sweep_put K, PSs.nox ?_, w_Sweep_put cl_Sweep na_Sweep_arrived na_Sweep_bay na_Sweep_riding vs H Q E h⟩), F.bindsN fun _ _ _ _ _ _ us hl => match us, hl with | [_], _ => rfl⟩, clM, meM⟩
  · obtain ⟨F0, cc, cs, x, y, h, _⟩ := h; exact ArgG.len h
  · exact (pss_cons (ps_fld (pv 0) (pe_op op_catS (pe_fld (pv 0) rfl) (pe_lc (own := [("order", 1)]) (g := (gName 1)) (tt := (tTest (tOp rEq (tOp (rIxT K) (tVar 1) (tC (.int 3))) (tFld K (tVar 0) "bay")))) (te := (tVar 1)) (by rfl) sc_Sweep_put.nd (pi_list (pe_fld (pv 0) rfl)) (blkOk_by (own := [("order", 1)]) (N := N_Sweep_put) (sc := defScope s_Sweep_put) (by decide +kernel)) (fun _ _ _ _ _ => (pg_name (i := 1) sc_Sweep_put.nd rfl (Or.inl rfl))) (fun _ _ _ _ _ => (pts_one (pt_cmpR op_eq (pe_ix ix_tup (pv 1) pe_int (fun _ _ => rfl)) (pe_fld (pv 0) rfl) (nomark _)))) (fun _ _ _ _ _ => (pv 1)))) rfl) (pss_one (ps_fld (pv 0) (pe_lc (own := [("order", 1)]) (g := (gName 1)) (tt := (tTest (tOp rNe (tOp (rIxT K) (tVar 1) (tC (.int 3))) (tFld K (tVar 0) "bay")))) (te := (tVar 1)) (by rfl) sc_Sweep_put.nd (pi_list (pe_fld (pv 0) rfl)) (blkOk_by (own := [("order", 1)]) (N := N_Sweep_put) (sc := defScope s_Sweep_put) (by decide +kernel)) (fun _ _ _ _ _ => (pg_name (i := 1) sc_Sweep_put.nd rfl (Or.inl rfl))) (fun _ _ _ _ _ => (pts_one (pt_cmpR op_ne (pe_ix ix_tup (pv 1) pe_int (fun _ _ => rfl)) (pe_fld (pv 0) rfl) (nomark _)))) (fun _ _ _ _ _ => (pv 1))) rfl)))
abbrev s_is_upward : Stmt := (top 32)
def f_is_upward : (Str × Int × Int × Int) → Option Bool := fun order_1 => some (decide (order_1.2.2.1 < order_1.2.2.2))
abbrev A_is_upward : (Str × Int × Int × Int) → List PyData := fun x => [(eT4 eS eI eI eI) x]
abbrev N_is_upward : List Str := ["order"]
abbrev sp_is_upward (K : PySem.W.Frag) : Sp := spP K A_is_upward eB f_is_upward
def t_is_upward (K : PySem.W.Frag) : TS := (tRet (tOp (rI0 fun i j => .bl (decide (i < j))) (tOp (rIxT K) (tVar 0) (tC (.int 2))) (tOp (rIxT K) (tVar 0) (tC (.int 3)))))
theorem w_is_upward {K : PySem.W.Frag} (vs : List V) (H : Hp) (Q : VK) (E : XK) (h : sp_is_upward K vs H Q E) : t_is_upward K { nx := fun _ H' => Q .non H', rt := Q } (start N_is_upward vs) H := by
  obtain ⟨F0, cs, order_1, y, h, hS0, m, q⟩ := h
  obtain ⟨a0, _, rfl, ha0, h⟩ := Dts.hd h
  obtain rfl := Dts.no h
  unfold f_is_upward at m
  try dsimp only at m
  unfold t_is_upward
  refine go (σ' := [some a0]) rfl ?_
  refine s_ret (K := K) (d := eB (decide (order_1.2.2.1 < order_1.2.2.2))) hS0 (d_lt (d_ixT (d_var rfl ha0) d_int rfl) (d_ixT (d_var rfl ha0) d_int rfl)) (fun v6 F2 H3 g4 hS5 hv7 => ?_)
  obtain rfl := sm m
  exact q _ _ _ g4 hS5 hv7
theorem sc_is_upward : FnScope N_is_upward ["order"] (defScope s_is_upward) := ⟨rfl, rfl, rfl, by decide +kernel, rfl, by decide +kernel, by decide +kernel⟩
theorem ok_is_upward {P : Program} {w : World} {K : PySem.W.Frag} {mg : Str → Option Value} {base : Heap} (hF : Df K mg "is_upward" s_is_upward) : Ok P w K mg base 1 "is_upward" ["order"] (sp_is_upward K) := by
  obtain ⟨⟨fd, F⟩, gm⟩ := hF
  refine ⟨⟨fd, F.ok sc_is_upward (fun vs H Q E h => ?_) (fun cdv A outer s H vs Q E hr h => ⟨t_is_upward K, PSs.nox ?_, w_is_upward vs H Q E h⟩), F.bindsN fun _ _ _ _ _ _ us hl => match us, hl with | [_], _ => rfl, lk_of F⟩, F.kp, gm⟩
  · obtain ⟨F0, cs, x, y, h, _⟩ := h; exact Dts.len h
  · exact (pss_one (ps_ret (pe_cmpR op_lt (pe_ix ix_tup (pv 0) pe_int (fun _ _ => rfl)) (pe_ix ix_tup (pv 0) pe_int (fun _ _ => rfl)) (nomark _))))
abbrev s_Sweep_take : Stmt := ((clsB (top 35)).getD 4 (.Pass ⟨0, 0, 0, 0⟩))
def f_Sweep_take_b26 (self_1 : T_Sweep) : ((List (Str × Int × Int × Int)) × (List (Str × Int × Int × Int))) → (Str × Int × Int × Int) → Option ((List (Str × Int × Int × Int)) × (List (Str × Int × Int × Int))) := fun (self_riding_29, stayed_30) order_31 => (((if (decide (order_31.2.2.1 = self_1.2.2.2.2.2.2.2.1)) = true then (((f_is_upward order_31)).bind fun x55 => some (decide (x55 = (decide (self_1.2.2.2.2.2.2.2.2.1 = (1 : Int)))))) else some false)).bind fun x57 => (if (x57 && (decide ((self_riding_29.length : Int) < self_1.2.1))) = true then (((appM self_riding_29 order_31)).bind fun self_70 => some (self_70, stayed_30)) else (((appM stayed_30 order_31)).bind fun stayed_82 => some (self_riding_29, stayed_82))))
def f_Sweep_take : T_Sweep → Option (Unit × T_Sweep) := fun self_1 => (letM ([] : (List (Str × Int × Int × Int))) fun stayed_20 => (self_1.2.2.2.1.foldlM (f_Sweep_take_b26 self_1) (self_1.2.2.2.2.1, stayed_20)).bind fun (self_riding_96, stayed_97) => some ((), (self_1.1, self_1.2.1, self_1.2.2.1, stayed_97, self_riding_96, self_1.2.2.2.2.2.1, self_1.2.2.2.2.2.2.1, self_1.2.2.2.2.2.2.2.1, self_1.2.2.2.2.2.2.2.2.1, self_1.2.2.2.2.2.2.2.2.2)))
abbrev N_Sweep_take : List Str := ["self", "stayed", "order", "fits"]
abbrev A_Sweep_take (K : PySem.W.Frag) : T_Sweep → List Ag := fun x => [.o (fun F v c => ∃ a, v = .ref a ∧ O_Sweep K x F a c)]
def R_Sweep_take (K : PySem.W.Frag) (y : (Unit × T_Sweep)) (F : Hp) (vs : List V) (v : V) (c : Cs) : Prop := ∃ c0 c1 : Cs, c = (c0 ++ (c1 ++ [])) ∧ (c0 = [] ∧ Dt K F v (eN y.1)) ∧ O_Sweep K y.2 F (adV (vs.getD 0 .non)) c1
abbrev sp_Sweep_take (K : PySem.W.Frag) : Sp := spG K (A_Sweep_take K) (R_Sweep_take K) f_Sweep_take
def t_Sweep_take (K : PySem.W.Frag) : TS := (tSeq (tAsg (tLst tNil) (gName 1)) (tSeq (tFor (iList K (tFld K (tVar 0) "waiting")) (gName 2) (tSeq (tAsg (tAndV (tOp rEq (tOp (rIxT K) (tVar 2) (tC (.int 2))) (tFld K (tVar 0) "bay")) (tOp rEq (tCall (sp_is_upward K) [] E0 (tCons (tVar 2) tNil)) (tOp rEq (tFld K (tVar 0) "step") (tC (.int 1))))) (gName 3)) (tIfS (tAnd (tB (tVar 3)) (tTest (tOp (rI0 fun i j => .bl (decide (i < j))) (tCB (rLenL K) (tCons (tFld K (tVar 0) "riding") tNil)) (tFld K (tVar 0) "most")))) (tDrop (tBM K "list" rAppend (tFld K (tVar 0) "riding") (tCons (tVar 2) tNil))) (tDrop (tBM K "list" rAppend (tVar 1) (tCons (tVar 2) tNil)))))) (sFld K (tVar 0) (tVar 1) "waiting")))
theorem w_Sweep_take {K : PySem.W.Frag} (cl_Sweep : Cls K (He.ga K "Sweep")) (na_Sweep_bay : NoAttr K (He.ga K "Sweep") "bay") (na_Sweep_most : NoAttr K (He.ga K "Sweep") "most") (na_Sweep_riding : NoAttr K (He.ga K "Sweep") "riding") (na_Sweep_step : NoAttr K (He.ga K "Sweep") "step") (na_Sweep_waiting : NoAttr K (He.ga K "Sweep") "waiting") (vs : List V) (H : Hp) (Q : VK) (E : XK) (h : sp_Sweep_take K vs H Q E) : t_Sweep_take K { nx := fun _ H' => Q .non H', rt := Q } (start N_Sweep_take vs) H := by
  obtain ⟨F0, cc, cs, self_1, y, h0, hS0, m, q⟩ := h
  obtain ⟨_, _, _, _, rfl, rfl, ⟨a0, rfl, ho0⟩, h1⟩ := ArgG.ho h0
  obtain ⟨rfl, rfl⟩ := ArgG.no h1
  obtain ⟨dx2, p3, p4, us5, p7, us8, p10, us11, p13, us14, rfl, hu6, hu9, hu12, hu15⟩ := ho0
  have hS1 : Sta F0 ((a0, .ins (He.ga K "Sweep") dx2 [("gaps", (.ref p3)), ("most", (.int self_1.2.1)), ("coming", (.ref p4)), ("waiting", (.ref p7)), ("riding", (.ref p10)), ("arrived", (.ref p13)), ("tick", (.int self_1.2.2.2.2.2.2.1)), ("bay", (.int self_1.2.2.2.2.2.2.2.1)), ("step", (.int self_1.2.2.2.2.2.2.2.2.1)), ("ahead", (.int self_1.2.2.2.2.2.2.2.2.2))]) :: (dx2, .own a0) :: (p3, .lst (self_1.1.map V.int)) :: (p4, .lst us5) :: (p7, .lst us8) :: (p10, .lst us11) :: (p13, .lst us14) :: cs) H := hS0
  unfold f_Sweep_take at m
  try dsimp only at m
  unfold t_Sweep_take
  refine go (σ' := [some (.ref a0), none, none, none]) rfl ?_
  obtain ⟨stayed_20, k21, m⟩ := lt m
  refine s_setC (K := K) (ds := stayed_20.map (eT4 eS eI eI eI)) (i := 1) (σ' := fun p22 => [some (.ref a0), some (.ref p22), none, none]) hS1 (c_is (c_lst a_nil (Nat.le_of_ble_eq_true rfl)) (congrArg (List.map (eT4 eS eI eI eI)) k21)) (fun _ => rfl) (fun p22 us23 F16 H17 g18 hS19 hu24 => ?_)
  have hS25 := Sta.frozeAt (l1 := [(p22, .lst us23), (a0, .ins (He.ga K "Sweep") dx2 [("gaps", (.ref p3)), ("most", (.int self_1.2.1)), ("coming", (.ref p4)), ("waiting", (.ref p7)), ("riding", (.ref p10)), ("arrived", (.ref p13)), ("tick", (.int self_1.2.2.2.2.2.2.1)), ("bay", (.int self_1.2.2.2.2.2.2.2.1)), ("step", (.int self_1.2.2.2.2.2.2.2.2.1)), ("ahead", (.int self_1.2.2.2.2.2.2.2.2.2))]), (dx2, .own a0), (p3, .lst (self_1.1.map V.int)), (p4, .lst us5)]) hS19
  obtain ⟨⟨self_riding_96, stayed_97⟩, k28, m⟩ := bnd m
  try dsimp only at m
  refine s_for (K := K) (xs := self_1.2.2.2.1) (en := (eT4 eS eI eI eI)) (body := (f_Sweep_take_b26 self_1)) (s0 := (self_1.2.2.2.2.1, stayed_20)) (r := (self_riding_96, stayed_97)) (fun (a : (List (Str × Int × Int × Int)) × (List (Str × Int × Int × Int))) F σ c => ∃ (j2 : Option V) (j3 : Option V) (z1 : List V) (z105 : List V), σ = [some (.ref a0), some (.ref p22), j2, j3] ∧ (p22, .lst z1) :: (a0, .ins (He.ga K "Sweep") dx2 [("gaps", (.ref p3)), ("most", (.int self_1.2.1)), ("coming", (.ref p4)), ("waiting", (.ref p7)), ("riding", (.ref p10)), ("arrived", (.ref p13)), ("tick", (.int self_1.2.2.2.2.2.2.1)), ("bay", (.int self_1.2.2.2.2.2.2.2.1)), ("step", (.int self_1.2.2.2.2.2.2.2.2.1)), ("ahead", (.int self_1.2.2.2.2.2.2.2.2.2))]) :: (dx2, .own a0) :: (p3, .lst (self_1.1.map V.int)) :: (p4, .lst us5) :: (p10, .lst z105) :: (p13, .lst us14) :: cs = c ∧ Dts K F z1 (a.2.map (eT4 eS eI eI eI)) ∧ Dts K F z105 (a.1.map (eT4 eS eI eI eI))) hS25 (i_list (en := (eT4 eS eI eI eI)) (d_vp (vp_fld (vp_var rfl) (List.Mem.tail _ (List.Mem.head _)) cl_Sweep na_Sweep_waiting rfl) (Dt.lst (.inl (.inl upd_same)) (Dts.gr (Gr.new (Sta.freeAt (l1 := [(p22, .lst us23), (a0, .ins (He.ga K "Sweep") dx2 [("gaps", (.ref p3)), ("most", (.int self_1.2.1)), ("coming", (.ref p4)), ("waiting", (.ref p7)), ("riding", (.ref p10)), ("arrived", (.ref p13)), ("tick", (.int self_1.2.2.2.2.2.2.1)), ("bay", (.int self_1.2.2.2.2.2.2.2.1)), ("step", (.int self_1.2.2.2.2.2.2.2.2.1)), ("ahead", (.int self_1.2.2.2.2.2.2.2.2.2))]), (dx2, .own a0), (p3, .lst (self_1.1.map V.int)), (p4, .lst us5)]) hS19)) (Dts.gr g18 hu9))))) (fun _ _ => ⟨_, _, _, _, rfl, rfl, (Dts.gr ‹_› (Dts.gr (Gr.new (Sta.freeAt (l1 := [(p22, .lst us23), (a0, .ins (He.ga K "Sweep") dx2 [("gaps", (.ref p3)), ("most", (.int self_1.2.1)), ("coming", (.ref p4)), ("waiting", (.ref p7)), ("riding", (.ref p10)), ("arrived", (.ref p13)), ("tick", (.int self_1.2.2.2.2.2.2.1)), ("bay", (.int self_1.2.2.2.2.2.2.2.1)), ("step", (.int self_1.2.2.2.2.2.2.2.2.1)), ("ahead", (.int self_1.2.2.2.2.2.2.2.2.2))]), (dx2, .own a0), (p3, .lst (self_1.1.map V.int)), (p4, .lst us5)]) hS19)) hu24)), (Dts.gr ‹_› (Dts.gr (Gr.tr g18 (Gr.new (Sta.freeAt (l1 := [(p22, .lst us23), (a0, .ins (He.ga K "Sweep") dx2 [("gaps", (.ref p3)), ("most", (.int self_1.2.1)), ("coming", (.ref p4)), ("waiting", (.ref p7)), ("riding", (.ref p10)), ("arrived", (.ref p13)), ("tick", (.int self_1.2.2.2.2.2.2.1)), ("bay", (.int self_1.2.2.2.2.2.2.2.1)), ("step", (.int self_1.2.2.2.2.2.2.2.2.1)), ("ahead", (.int self_1.2.2.2.2.2.2.2.2.2))]), (dx2, .own a0), (p3, .lst (self_1.1.map V.int)), (p4, .lst us5)]) hS19))) hu12))⟩) k28 ?_ ?_
  · rintro order_31 ⟨self_riding_29, stayed_30⟩ b40 F32 F33 σ46 c47 H34 v39 N41 g35 ⟨u49, u50, us51, us52, rfl, rfl, h53, h54⟩ g36 hS37 hv38 m48 hN43
    refine tg (σ' := [some (.ref a0), some (.ref p22), some v39, u50]) (fun Q hq => hq) ?_
    unfold f_Sweep_take_b26 at m48
    try dsimp only at m48
    obtain ⟨x57, k58, m48⟩ := bnd m48
    refine s_setV (K := K) (d := eB x57) (i := 3) (σ' := [some (.ref a0), some (.ref p22), some v39, some (.bl x57)]) (fun _ _ h => Dt.toBl h) hS37 (d_andM (r := x57) (d_eqI (d_ixT (d_var rfl hv38) d_int rfl) (d_vp (vp_fld (vp_var rfl) (List.Mem.tail _ (List.Mem.head _)) cl_Sweep na_Sweep_bay rfl) (.int _))) (fun hc => by rw [if_pos hc] at k58; obtain ⟨x55, k56, k58⟩ := bnd k58; obtain rfl := sm k58; exact (d_eqB (d_call (A := A_is_upward) (B := eB) (x := order_31) (a_cons (d_var rfl hv38) a_nil) k56) (d_eqI (d_vp (vp_fld (vp_var rfl) (List.Mem.tail _ (List.Mem.head _)) cl_Sweep na_Sweep_step rfl) (.int _)) d_int))) (fun hc => by rw [if_neg (bf hc)] at k58; exact (sm k58).symm)) rfl (fun F59 H60 g61 hS62 => ?_)
    refine s_if (b := (x57 && (decide ((self_riding_29.length : Int) < self_1.2.1)))) hS62 (t_lendX (l1 := [(p22, HO.lst us51), (a0, HO.ins (He.ga K "Sweep") dx2 [("gaps", (.ref p3)), ("most", (.int self_1.2.1)), ("coming", (.ref p4)), ("waiting", (.ref p7)), ("riding", (.ref p10)), ("arrived", (.ref p13)), ("tick", (.int self_1.2.2.2.2.2.2.1)), ("bay", (.int self_1.2.2.2.2.2.2.2.1)), ("step", (.int self_1.2.2.2.2.2.2.2.2.1)), ("ahead", (.int self_1.2.2.2.2.2.2.2.2.2))]), (dx2, HO.own a0), (p3, HO.lst (self_1.1.map V.int)), (p4, HO.lst us5)]) (m1 := [(p22, HO.lst us51), (a0, HO.ins (He.ga K "Sweep") dx2 [("gaps", (.ref p3)), ("most", (.int self_1.2.1)), ("coming", (.ref p4)), ("waiting", (.ref p7)), ("riding", (.ref p10)), ("arrived", (.ref p13)), ("tick", (.int self_1.2.2.2.2.2.2.1)), ("bay", (.int self_1.2.2.2.2.2.2.2.1)), ("step", (.int self_1.2.2.2.2.2.2.2.2.1)), ("ahead", (.int self_1.2.2.2.2.2.2.2.2.2))]), (dx2, HO.own a0), (p3, HO.lst (self_1.1.map V.int)), (p4, HO.lst us5)]) (fun F63 g64 hn65 => (t_andP (t_B (K := K) (d_var rfl (.bl _))) (fun hc => (t_test (K := K) (d_lt (d_len (e := (eT4 eS eI eI eI)) (a_cons (d_vp (vp_fld (vp_var rfl) (List.Mem.tail _ (List.Mem.head _)) cl_Sweep na_Sweep_riding rfl) (lent_l hn65 (Dts.gr g64 (Dts.gr (Gr.tr g36 g61) h54)))) a_nil)) (d_vp (vp_fld (vp_var rfl) (List.Mem.tail _ (List.Mem.head _)) cl_Sweep na_Sweep_most rfl) (.int _)))))))) (fun hc F66 H67 g68 hS69 => ?_) (fun hc F78 H79 g80 hS81 => ?_)
    · rw [if_pos hc] at m48
      obtain ⟨self_70, k71, m48⟩ := bnd m48
      refine s_appGV (K := K) (k1 := [(p22, .lst us51), (a0, .ins (He.ga K "Sweep") dx2 [("gaps", (.ref p3)), ("most", (.int self_1.2.1)), ("coming", (.ref p4)), ("waiting", (.ref p7)), ("riding", (.ref p10)), ("arrived", (.ref p13)), ("tick", (.int self_1.2.2.2.2.2.2.1)), ("bay", (.int self_1.2.2.2.2.2.2.2.1)), ("step", (.int self_1.2.2.2.2.2.2.2.2.1)), ("ahead", (.int self_1.2.2.2.2.2.2.2.2.2))]), (dx2, .own a0), (p3, .lst (self_1.1.map V.int)), (p4, .lst us5)]) (x := order_31) (l1 := [(p22, .lst us51), (a0, .ins (He.ga K "Sweep") dx2 [("gaps", (.ref p3)), ("most", (.int self_1.2.1)), ("coming", (.ref p4)), ("waiting", (.ref p7)), ("riding", (.ref p10)), ("arrived", (.ref p13)), ("tick", (.int self_1.2.2.2.2.2.2.1)), ("bay", (.int self_1.2.2.2.2.2.2.2.1)), ("step", (.int self_1.2.2.2.2.2.2.2.2.1)), ("ahead", (.int self_1.2.2.2.2.2.2.2.2.2))]), (dx2, .own a0), (p3, .lst (self_1.1.map V.int)), (p4, .lst us5)]) (p := p10) (en := (eT4 eS eI eI eI)) hS69 (Dts.gr (Gr.tr g36 (Gr.tr g61 g68)) h54) (vp_fld (vp_var rfl) (List.Mem.tail _ (List.Mem.head _)) cl_Sweep na_Sweep_riding rfl) (d_var rfl (Dt.gr (Gr.tr g61 g68) hv38)) k71 (fun us76 F72 H73 g74 hS75 hu77 => ?_)
      obtain rfl := sm m48
      exact hN43 _ _ _ _ (Gr.tr g61 (Gr.tr g68 g74)) hS75 ⟨_, _, _, _, rfl, rfl, (Dts.gr (Gr.tr g36 (Gr.tr g61 (Gr.tr g68 g74))) h53), hu77⟩
    · rw [if_neg (bf hc)] at m48
      obtain ⟨stayed_82, k83, m48⟩ := bnd m48
      refine s_appGV (K := K) (k1 := []) (x := order_31) (l1 := []) (p := p22) (en := (eT4 eS eI eI eI)) hS81 (Dts.gr (Gr.tr g36 (Gr.tr g61 g80)) h53) (vp_var rfl) (d_var rfl (Dt.gr (Gr.tr g61 g80) hv38)) k83 (fun us88 F84 H85 g86 hS87 hu89 => ?_)
      obtain rfl := sm m48
      exact hN43 _ _ _ _ (Gr.tr g61 (Gr.tr g80 g86)) hS87 ⟨_, _, _, _, rfl, rfl, hu89, (Dts.gr (Gr.tr g36 (Gr.tr g61 (Gr.tr g80 g86))) h54)⟩
  · rintro F90 σ95 c94 H91 g92 hS93 ⟨u98, u99, us100, us101, rfl, rfl, h102, h103⟩
    refine s_fldO ?_
    refine o_v hS93 (vp_var rfl) ?_
    refine o_fld (σ := [some (.ref a0), some (.ref p22), u98, u99]) (ta := (tVar 0)) (l1 := [(p22, .lst us100)]) (fs' := [("gaps", (.ref p3)), ("most", (.int self_1.2.1)), ("coming", (.ref p4)), ("waiting", (.ref p22)), ("riding", (.ref p10)), ("arrived", (.ref p13)), ("tick", (.int self_1.2.2.2.2.2.2.1)), ("bay", (.int self_1.2.2.2.2.2.2.2.1)), ("step", (.int self_1.2.2.2.2.2.2.2.2.1)), ("ahead", (.int self_1.2.2.2.2.2.2.2.2.2))]) hS93 (vp_var rfl) cl_Sweep na_Sweep_waiting (Nat.le_of_ble_eq_true rfl) rfl (fun H104 hS105 => ?_)
    have hS106 := Sta.perm hS105 (List.Perm.trans (List.perm_middle (l₁ := [(p22, HO.lst us100), (a0, HO.ins (He.ga K "Sweep") dx2 [("gaps", (.ref p3)), ("most", (.int self_1.2.1)), ("coming", (.ref p4)), ("waiting", (.ref p22)), ("riding", (.ref p10)), ("arrived", (.ref p13)), ("tick", (.int self_1.2.2.2.2.2.2.1)), ("bay", (.int self_1.2.2.2.2.2.2.2.1)), ("step", (.int self_1.2.2.2.2.2.2.2.2.1)), ("ahead", (.int self_1.2.2.2.2.2.2.2.2.2))]), (dx2, HO.own a0), (p3, HO.lst (self_1.1.map V.int)), (p4, HO.lst us5), (p10, HO.lst us101)])) (List.Perm.trans (List.perm_middle (l₁ := [(p13, HO.lst us14), (p22, HO.lst us100), (a0, HO.ins (He.ga K "Sweep") dx2 [("gaps", (.ref p3)), ("most", (.int self_1.2.1)), ("coming", (.ref p4)), ("waiting", (.ref p22)), ("riding", (.ref p10)), ("arrived", (.ref p13)), ("tick", (.int self_1.2.2.2.2.2.2.1)), ("bay", (.int self_1.2.2.2.2.2.2.2.1)), ("step", (.int self_1.2.2.2.2.2.2.2.2.1)), ("ahead", (.int self_1.2.2.2.2.2.2.2.2.2))]), (dx2, HO.own a0), (p3, HO.lst (self_1.1.map V.int)), (p4, HO.lst us5)])) (List.Perm.trans (List.perm_middle (l₁ := [(p10, HO.lst us101), (p13, HO.lst us14)])) (List.Perm.trans (List.perm_middle (l₁ := [(p22, HO.lst us100), (p10, HO.lst us101), (p13, HO.lst us14), (a0, HO.ins (He.ga K "Sweep") dx2 [("gaps", (.ref p3)), ("most", (.int self_1.2.1)), ("coming", (.ref p4)), ("waiting", (.ref p22)), ("riding", (.ref p10)), ("arrived", (.ref p13)), ("tick", (.int self_1.2.2.2.2.2.2.1)), ("bay", (.int self_1.2.2.2.2.2.2.2.1)), ("step", (.int self_1.2.2.2.2.2.2.2.2.1)), ("ahead", (.int self_1.2.2.2.2.2.2.2.2.2))]), (dx2, HO.own a0), (p3, HO.lst (self_1.1.map V.int))])) (List.Perm.trans (List.perm_middle (l₁ := [(p4, HO.lst us5), (p22, HO.lst us100), (p10, HO.lst us101), (p13, HO.lst us14), (a0, HO.ins (He.ga K "Sweep") dx2 [("gaps", (.ref p3)), ("most", (.int self_1.2.1)), ("coming", (.ref p4)), ("waiting", (.ref p22)), ("riding", (.ref p10)), ("arrived", (.ref p13)), ("tick", (.int self_1.2.2.2.2.2.2.1)), ("bay", (.int self_1.2.2.2.2.2.2.2.1)), ("step", (.int self_1.2.2.2.2.2.2.2.2.1)), ("ahead", (.int self_1.2.2.2.2.2.2.2.2.2))]), (dx2, HO.own a0)])) (List.Perm.trans (List.perm_middle (l₁ := [(p3, HO.lst (self_1.1.map V.int)), (p4, HO.lst us5), (p22, HO.lst us100), (p10, HO.lst us101), (p13, HO.lst us14), (a0, HO.ins (He.ga K "Sweep") dx2 [("gaps", (.ref p3)), ("most", (.int self_1.2.1)), ("coming", (.ref p4)), ("waiting", (.ref p22)), ("riding", (.ref p10)), ("arrived", (.ref p13)), ("tick", (.int self_1.2.2.2.2.2.2.1)), ("bay", (.int self_1.2.2.2.2.2.2.2.1)), ("step", (.int self_1.2.2.2.2.2.2.2.2.1)), ("ahead", (.int self_1.2.2.2.2.2.2.2.2.2))])])) (List.perm_middle (l₁ := [(dx2, HO.own a0), (p3, HO.lst (self_1.1.map V.int)), (p4, HO.lst us5), (p22, HO.lst us100), (p10, HO.lst us101), (p13, HO.lst us14)]))))))))
    obtain rfl := sm m
    exact q _ ([] ++ ([(a0, HO.ins (He.ga K "Sweep") dx2 [("gaps", (.ref p3)), ("most", (.int self_1.2.1)), ("coming", (.ref p4)), ("waiting", (.ref p22)), ("riding", (.ref p10)), ("arrived", (.ref p13)), ("tick", (.int self_1.2.2.2.2.2.2.1)), ("bay", (.int self_1.2.2.2.2.2.2.2.1)), ("step", (.int self_1.2.2.2.2.2.2.2.2.1)), ("ahead", (.int self_1.2.2.2.2.2.2.2.2.2))]), (dx2, HO.own a0), (p3, HO.lst (self_1.1.map V.int)), (p4, HO.lst us5), (p22, HO.lst us100), (p10, HO.lst us101), (p13, HO.lst us14)] ++ [])) _ _ (Gr.tr g18 (Gr.tr (Gr.new (Sta.freeAt (l1 := [(p22, .lst us23), (a0, .ins (He.ga K "Sweep") dx2 [("gaps", (.ref p3)), ("most", (.int self_1.2.1)), ("coming", (.ref p4)), ("waiting", (.ref p7)), ("riding", (.ref p10)), ("arrived", (.ref p13)), ("tick", (.int self_1.2.2.2.2.2.2.1)), ("bay", (.int self_1.2.2.2.2.2.2.2.1)), ("step", (.int self_1.2.2.2.2.2.2.2.2.1)), ("ahead", (.int self_1.2.2.2.2.2.2.2.2.2))]), (dx2, .own a0), (p3, .lst (self_1.1.map V.int)), (p4, .lst us5)]) hS19)) g92)) hS106 ⟨[], [(a0, HO.ins (He.ga K "Sweep") dx2 [("gaps", (.ref p3)), ("most", (.int self_1.2.1)), ("coming", (.ref p4)), ("waiting", (.ref p22)), ("riding", (.ref p10)), ("arrived", (.ref p13)), ("tick", (.int self_1.2.2.2.2.2.2.1)), ("bay", (.int self_1.2.2.2.2.2.2.2.1)), ("step", (.int self_1.2.2.2.2.2.2.2.2.1)), ("ahead", (.int self_1.2.2.2.2.2.2.2.2.2))]), (dx2, HO.own a0), (p3, HO.lst (self_1.1.map V.int)), (p4, HO.lst us5), (p22, HO.lst us100), (p10, HO.lst us101), (p13, HO.lst us14)], rfl, ⟨rfl, Dt.non⟩, ⟨_, _, _, _, _, _, _, _, _, _, rfl, (Dts.gr (Gr.tr g18 (Gr.tr (Gr.new (Sta.freeAt (l1 := [(p22, .lst us23), (a0, .ins (He.ga K "Sweep") dx2 [("gaps", (.ref p3)), ("most", (.int self_1.2.1)), ("coming", (.ref p4)), ("waiting", (.ref p7)), ("riding", (.ref p10)), ("arrived", (.ref p13)), ("tick", (.int self_1.2.2.2.2.2.2.1)), ("bay", (.int self_1.2.2.2.2.2.2.2.1)), ("step", (.int self_1.2.2.2.2.2.2.2.2.1)), ("ahead", (.int self_1.2.2.2.2.2.2.2.2.2))]), (dx2, .own a0), (p3, .lst (self_1.1.map V.int)), (p4, .lst us5)]) hS19)) g92)) hu6), h102, h103, (Dts.gr (Gr.tr g18 (Gr.tr (Gr.new (Sta.freeAt (l1 := [(p22, .lst us23), (a0, .ins (He.ga K "Sweep") dx2 [("gaps", (.ref p3)), ("most", (.int self_1.2.1)), ("coming", (.ref p4)), ("waiting", (.ref p7)), ("riding", (.ref p10)), ("arrived", (.ref p13)), ("tick", (.int self_1.2.2.2.2.2.2.1)), ("bay", (.int self_1.2.2.2.2.2.2.2.1)), ("step", (.int self_1.2.2.2.2.2.2.2.2.1)), ("ahead", (.int self_1.2.2.2.2.2.2.2.2.2))]), (dx2, .own a0), (p3, .lst (self_1.1.map V.int)), (p4, .lst us5)]) hS19)) g92)) hu15)⟩⟩
theorem sc_Sweep_take : FnScope N_Sweep_take ["self"] (defScope s_Sweep_take) := ⟨rfl, rfl, rfl, by decide +kernel, rfl, by decide +kernel, by decide +kernel⟩
theorem ok_Sweep_take {P : Program} {w : World} {K : PySem.W.Frag} {mg : Str → Option Value} {base : Heap} (hF : DfM K "Sweep" "take" "Sweep.take" s_Sweep_take) (clM : Cls K (He.ga K "Sweep")) (meM : Meth K (He.ga K "Sweep") "take" (He.ma K (He.ga K "Sweep") "take")) (m_len : mg "len" = none) (o_is_upward : Ok P w K mg base 1 "is_upward" ["order"] (sp_is_upward K)) (cl_Sweep : Cls K (He.ga K "Sweep")) (na_Sweep_bay : NoAttr K (He.ga K "Sweep") "bay") (na_Sweep_most : NoAttr K (He.ga K "Sweep") "most") (na_Sweep_riding : NoAttr K (He.ga K "Sweep") "riding") (na_Sweep_step : NoAttr K (He.ga K "Sweep") "step") (na_Sweep_waiting : NoAttr K (He.ga K "Sweep") "waiting") : OkMe P w K mg base CX0 2 "Sweep" "take" ["self"] (sp_Sweep_take K) := by
  obtain ⟨⟨_, G_is_upward, bd_is_upward, _⟩, kp_is_upward, gm_is_upward⟩ := o_is_upward
  obtain ⟨fd, F⟩ := hF
  refine ⟨⟨fd, F.ok sc_Sweep_take (fun vs H Q E h => ?_) (fun cdv A outer s H vs Q E hr h => ⟨t_Sweep_take K, PSs.nox ?_, w_Sweep_take cl_Sweep na_Sweep_bay na_Sweep_most na_Sweep_riding na_Sweep_step na_Sweep_waiting vs H Q E h⟩), F.bindsN fun _ _ _ _ _ _ us hl => match us, hl with | [_], _ => rfl⟩, clM, meM⟩
  · obtain ⟨F0, cc, cs, x, y, h, _⟩ := h; exact ArgG.len h
  · exact (pss_cons (ps_set (i := 1) sc_Sweep_take.nd rfl (Or.inl rfl) (pe_lst pa_nil)) (pss_cons (ps_for PassesOwn.never rfl (pi_list (pe_fld (pv 0) rfl)) (pg_name (i := 2) sc_Sweep_take.nd rfl (Or.inl rfl)) (pss_cons (ps_set (i := 3) sc_Sweep_take.nd rfl (Or.inl rfl) (pe_and (pe_cmpR op_eq (pe_ix ix_tup (pv 2) pe_int (fun _ _ => rfl)) (pe_fld (pv 0) rfl) (nomark _)) (pe_one (pe_cmpR op_eq (pe_call G_is_upward (hr.mono (by decide)) (by rfl) gm_is_upward kp_is_upward bd_is_upward .nil pass0 (pa_cons (pv 2) pa_nil)) (pe_cmpR op_eq (pe_fld (pv 0) rfl) pe_int (nomark _)) (nomark _))))) (pss_one (ps_if (PW.pt (pw_and (pt_val (pv 3)) (pw_and1 (pt_cmpR op_lt (pe_callB cr_lenL (by rfl) m_len PySem.boot_len (pa_cons (pe_fld (pv 0) rfl) pa_nil)) (pe_fld (pv 0) rfl) (nomark _))))) (pss_one (ps_expr (pe_bm PySem.F.plainAttrs_list PySem.F.slot_list_append PySem.F.type_list_append mt_append (pe_fld (pv 0) rfl) (pa_cons (pv 2) pa_nil)))) (pss_one (ps_expr (pe_bm PySem.F.plainAttrs_list PySem.F.slot_list_append PySem.F.type_list_append mt_append (pv 1) (pa_cons (pv 2) pa_nil)))))))) (pss_one (ps_fld (pv 0) (pv 1) rfl))))
abbrev s_Sweep_leave : Stmt := ((clsB (top 35)).getD 5 (.Pass ⟨0, 0, 0, 0⟩))
def f_Sweep_leave : T_Sweep → Option (Unit × T_Sweep) := fun self_1 => (((atI self_1.1 (minI self_1.2.2.2.2.2.2.2.1 (self_1.2.2.2.2.2.2.2.1 + self_1.2.2.2.2.2.2.2.2.1)))).bind fun x19 => (letM (self_1.2.2.2.2.2.2.2.1 + self_1.2.2.2.2.2.2.2.2.1) fun bay_29 => some ((), (self_1.1, self_1.2.1, self_1.2.2.1, self_1.2.2.2.1, self_1.2.2.2.2.1, self_1.2.2.2.2.2.1, self_1.2.2.2.2.2.2.1, bay_29, self_1.2.2.2.2.2.2.2.2.1, x19))))
abbrev N_Sweep_leave : List Str := ["self"]
abbrev A_Sweep_leave (K : PySem.W.Frag) : T_Sweep → List Ag := fun x => [.o (fun F v c => ∃ a, v = .ref a ∧ O_Sweep K x F a c)]
def R_Sweep_leave (K : PySem.W.Frag) (y : (Unit × T_Sweep)) (F : Hp) (vs : List V) (v : V) (c : Cs) : Prop := ∃ c0 c1 : Cs, c = (c0 ++ (c1 ++ [])) ∧ (c0 = [] ∧ Dt K F v (eN y.1)) ∧ O_Sweep K y.2 F (adV (vs.getD 0 .non)) c1
abbrev sp_Sweep_leave (K : PySem.W.Frag) : Sp := spG K (A_Sweep_leave K) (R_Sweep_leave K) f_Sweep_leave
def t_Sweep_leave (K : PySem.W.Frag) : TS := (tSeq (sFld K (tVar 0) (tOp (rIxL K) (tFld K (tVar 0) "gaps") (tCB rMin2 (tCons (tFld K (tVar 0) "bay") (tCons (tOp (rI0 fun i j => .int (i + j)) (tFld K (tVar 0) "bay") (tFld K (tVar 0) "step")) tNil)))) "ahead") (sFldAug K (tVar 0) (tFld K (tVar 0) "step") rAdd "bay"))
theorem w_Sweep_leave {K : PySem.W.Frag} (cl_Sweep : Cls K (He.ga K "Sweep")) (na_Sweep_ahead : NoAttr K (He.ga K "Sweep") "ahead") (na_Sweep_bay : NoAttr K (He.ga K "Sweep") "bay") (na_Sweep_gaps : NoAttr K (He.ga K "Sweep") "gaps") (na_Sweep_step : NoAttr K (He.ga K "Sweep") "step") (vs : List V) (H : Hp) (Q : VK) (E : XK) (h : sp_Sweep_leave K vs H Q E) : t_Sweep_leave K { nx := fun _ H' => Q .non H', rt := Q } (start N_Sweep_leave vs) H := by
  obtain ⟨F0, cc, cs, self_1, y, h0, hS0, m, q⟩ := h
  obtain ⟨_, _, _, _, rfl, rfl, ⟨a0, rfl, ho0⟩, h1⟩ := ArgG.ho h0
  obtain ⟨rfl, rfl⟩ := ArgG.no h1
  obtain ⟨dx2, p3, p4, us5, p7, us8, p10, us11, p13, us14, rfl, hu6, hu9, hu12, hu15⟩ := ho0
  have hS1 : Sta F0 ((a0, .ins (He.ga K "Sweep") dx2 [("gaps", (.ref p3)), ("most", (.int self_1.2.1)), ("coming", (.ref p4)), ("waiting", (.ref p7)), ("riding", (.ref p10)), ("arrived", (.ref p13)), ("tick", (.int self_1.2.2.2.2.2.2.1)), ("bay", (.int self_1.2.2.2.2.2.2.2.1)), ("step", (.int self_1.2.2.2.2.2.2.2.2.1)), ("ahead", (.int self_1.2.2.2.2.2.2.2.2.2))]) :: (dx2, .own a0) :: (p3, .lst (self_1.1.map V.int)) :: (p4, .lst us5) :: (p7, .lst us8) :: (p10, .lst us11) :: (p13, .lst us14) :: cs) H := hS0
  unfold f_Sweep_leave at m
  try dsimp only at m
  unfold t_Sweep_leave
  refine go (σ' := [some (.ref a0)]) rfl ?_
  refine s_fldO ?_
  obtain ⟨x19, k20, m⟩ := bnd m
  refine o_d (K := K) (d := eI x19) hS1 (d_lendX (l1 := [(a0, HO.ins (He.ga K "Sweep") dx2 [("gaps", (.ref p3)), ("most", (.int self_1.2.1)), ("coming", (.ref p4)), ("waiting", (.ref p7)), ("riding", (.ref p10)), ("arrived", (.ref p13)), ("tick", (.int self_1.2.2.2.2.2.2.1)), ("bay", (.int self_1.2.2.2.2.2.2.2.1)), ("step", (.int self_1.2.2.2.2.2.2.2.2.1)), ("ahead", (.int self_1.2.2.2.2.2.2.2.2.2))]), (dx2, HO.own a0)]) (m1 := [(a0, HO.ins (He.ga K "Sweep") dx2 [("gaps", (.ref p3)), ("most", (.int self_1.2.1)), ("coming", (.ref p4)), ("waiting", (.ref p7)), ("riding", (.ref p10)), ("arrived", (.ref p13)), ("tick", (.int self_1.2.2.2.2.2.2.1)), ("bay", (.int self_1.2.2.2.2.2.2.2.1)), ("step", (.int self_1.2.2.2.2.2.2.2.2.1)), ("ahead", (.int self_1.2.2.2.2.2.2.2.2.2))]), (dx2, HO.own a0)]) (fun _ _ h => Dt.toInt h) (fun _ => (.int _)) (fun F16 g17 hn18 => (d_ix (e := eI) (d_vp (vp_fld (vp_var rfl) (List.Mem.head _) cl_Sweep na_Sweep_gaps rfl) (lent_l hn18 (Dts.gr g17 (Dts.of_ints _)))) (d_min2 (a_cons (d_vp (vp_fld (vp_var rfl) (List.Mem.head _) cl_Sweep na_Sweep_bay rfl) (.int _)) (a_cons (d_add (d_vp (vp_fld (vp_var rfl) (List.Mem.head _) cl_Sweep na_Sweep_bay rfl) (.int _)) (d_vp (vp_fld (vp_var rfl) (List.Mem.head _) cl_Sweep na_Sweep_step rfl) (.int _))) a_nil))) k20))) (fun v25 F21 H22 g23 hS24 hv26 => ?_)
  obtain rfl := Dt.toInt hv26
  refine o_fld (σ := [some (.ref a0)]) (ta := (tVar 0)) (l1 := []) (fs' := [("gaps", (.ref p3)), ("most", (.int self_1.2.1)), ("coming", (.ref p4)), ("waiting", (.ref p7)), ("riding", (.ref p10)), ("arrived", (.ref p13)), ("tick", (.int self_1.2.2.2.2.2.2.1)), ("bay", (.int self_1.2.2.2.2.2.2.2.1)), ("step", (.int self_1.2.2.2.2.2.2.2.2.1)), ("ahead", (.int x19))]) hS24 (vp_var rfl) cl_Sweep na_Sweep_ahead (Nat.le_of_ble_eq_true rfl) rfl (fun H27 hS28 => ?_)
  obtain ⟨bay_29, k30, m⟩ := lt m
  refine s_fldAdd (ta := (tVar 0)) (l1 := []) (m1 := []) (fs' := [("gaps", (.ref p3)), ("most", (.int self_1.2.1)), ("coming", (.ref p4)), ("waiting", (.ref p7)), ("riding", (.ref p10)), ("arrived", (.ref p13)), ("tick", (.int self_1.2.2.2.2.2.2.1)), ("bay", (.int bay_29)), ("step", (.int self_1.2.2.2.2.2.2.2.2.1)), ("ahead", (.int x19))]) hS28 (vp_var rfl) cl_Sweep na_Sweep_bay rfl (d_vp (vp_fld (vp_var rfl) (List.Mem.head _) cl_Sweep na_Sweep_step rfl) (.int _)) (Nat.le_of_ble_eq_true rfl) (by rw [k30]; rfl) (fun F31 H32 g33 hS34 => ?_)
  have hS35 := Sta.perm hS34 (List.Perm.trans (List.perm_middle (l₁ := [(a0, HO.ins (He.ga K "Sweep") dx2 [("gaps", (.ref p3)), ("most", (.int self_1.2.1)), ("coming", (.ref p4)), ("waiting", (.ref p7)), ("riding", (.ref p10)), ("arrived", (.ref p13)), ("tick", (.int self_1.2.2.2.2.2.2.1)), ("bay", (.int bay_29)), ("step", (.int self_1.2.2.2.2.2.2.2.2.1)), ("ahead", (.int x19))]), (dx2, HO.own a0), (p3, HO.lst (self_1.1.map V.int)), (p4, HO.lst us5), (p7, HO.lst us8), (p10, HO.lst us11)])) (List.Perm.trans (List.perm_middle (l₁ := [(p13, HO.lst us14), (a0, HO.ins (He.ga K "Sweep") dx2 [("gaps", (.ref p3)), ("most", (.int self_1.2.1)), ("coming", (.ref p4)), ("waiting", (.ref p7)), ("riding", (.ref p10)), ("arrived", (.ref p13)), ("tick", (.int self_1.2.2.2.2.2.2.1)), ("bay", (.int bay_29)), ("step", (.int self_1.2.2.2.2.2.2.2.2.1)), ("ahead", (.int x19))]), (dx2, HO.own a0), (p3, HO.lst (self_1.1.map V.int)), (p4, HO.lst us5), (p7, HO.lst us8)])) (List.Perm.trans (List.perm_middle (l₁ := [(p10, HO.lst us11), (p13, HO.lst us14), (a0, HO.ins (He.ga K "Sweep") dx2 [("gaps", (.ref p3)), ("most", (.int self_1.2.1)), ("coming", (.ref p4)), ("waiting", (.ref p7)), ("riding", (.ref p10)), ("arrived", (.ref p13)), ("tick", (.int self_1.2.2.2.2.2.2.1)), ("bay", (.int bay_29)), ("step", (.int self_1.2.2.2.2.2.2.2.2.1)), ("ahead", (.int x19))]), (dx2, HO.own a0), (p3, HO.lst (self_1.1.map V.int)), (p4, HO.lst us5)])) (List.Perm.trans (List.perm_middle (l₁ := [(p7, HO.lst us8), (p10, HO.lst us11), (p13, HO.lst us14), (a0, HO.ins (He.ga K "Sweep") dx2 [("gaps", (.ref p3)), ("most", (.int self_1.2.1)), ("coming", (.ref p4)), ("waiting", (.ref p7)), ("riding", (.ref p10)), ("arrived", (.ref p13)), ("tick", (.int self_1.2.2.2.2.2.2.1)), ("bay", (.int bay_29)), ("step", (.int self_1.2.2.2.2.2.2.2.2.1)), ("ahead", (.int x19))]), (dx2, HO.own a0), (p3, HO.lst (self_1.1.map V.int))])) (List.Perm.trans (List.perm_middle (l₁ := [(p4, HO.lst us5), (p7, HO.lst us8), (p10, HO.lst us11), (p13, HO.lst us14), (a0, HO.ins (He.ga K "Sweep") dx2 [("gaps", (.ref p3)), ("most", (.int self_1.2.1)), ("coming", (.ref p4)), ("waiting", (.ref p7)), ("riding", (.ref p10)), ("arrived", (.ref p13)), ("tick", (.int self_1.2.2.2.2.2.2.1)), ("bay", (.int bay_29)), ("step", (.int self_1.2.2.2.2.2.2.2.2.1)), ("ahead", (.int x19))]), (dx2, HO.own a0)])) (List.Perm.trans (List.perm_middle (l₁ := [(p3, HO.lst (self_1.1.map V.int)), (p4, HO.lst us5), (p7, HO.lst us8), (p10, HO.lst us11), (p13, HO.lst us14), (a0, HO.ins (He.ga K "Sweep") dx2 [("gaps", (.ref p3)), ("most", (.int self_1.2.1)), ("coming", (.ref p4)), ("waiting", (.ref p7)), ("riding", (.ref p10)), ("arrived", (.ref p13)), ("tick", (.int self_1.2.2.2.2.2.2.1)), ("bay", (.int bay_29)), ("step", (.int self_1.2.2.2.2.2.2.2.2.1)), ("ahead", (.int x19))])])) (List.perm_middle (l₁ := [(dx2, HO.own a0), (p3, HO.lst (self_1.1.map V.int)), (p4, HO.lst us5), (p7, HO.lst us8), (p10, HO.lst us11), (p13, HO.lst us14)]))))))))
  obtain rfl := sm m
  exact q _ ([] ++ ([(a0, HO.ins (He.ga K "Sweep") dx2 [("gaps", (.ref p3)), ("most", (.int self_1.2.1)), ("coming", (.ref p4)), ("waiting", (.ref p7)), ("riding", (.ref p10)), ("arrived", (.ref p13)), ("tick", (.int self_1.2.2.2.2.2.2.1)), ("bay", (.int bay_29)), ("step", (.int self_1.2.2.2.2.2.2.2.2.1)), ("ahead", (.int x19))]), (dx2, HO.own a0), (p3, HO.lst (self_1.1.map V.int)), (p4, HO.lst us5), (p7, HO.lst us8), (p10, HO.lst us11), (p13, HO.lst us14)] ++ [])) _ _ (Gr.tr g23 g33) hS35 ⟨[], [(a0, HO.ins (He.ga K "Sweep") dx2 [("gaps", (.ref p3)), ("most", (.int self_1.2.1)), ("coming", (.ref p4)), ("waiting", (.ref p7)), ("riding", (.ref p10)), ("arrived", (.ref p13)), ("tick", (.int self_1.2.2.2.2.2.2.1)), ("bay", (.int bay_29)), ("step", (.int self_1.2.2.2.2.2.2.2.2.1)), ("ahead", (.int x19))]), (dx2, HO.own a0), (p3, HO.lst (self_1.1.map V.int)), (p4, HO.lst us5), (p7, HO.lst us8), (p10, HO.lst us11), (p13, HO.lst us14)], rfl, ⟨rfl, Dt.non⟩, ⟨_, _, _, _, _, _, _, _, _, _, rfl, (Dts.gr (Gr.tr g23 g33) hu6), (Dts.gr (Gr.tr g23 g33) hu9), (Dts.gr (Gr.tr g23 g33) hu12), (Dts.gr (Gr.tr g23 g33) hu15)⟩⟩
theorem sc_Sweep_leave : FnScope N_Sweep_leave ["self"] (defScope s_Sweep_leave) := ⟨rfl, rfl, rfl, by decide +kernel, rfl, by decide +kernel, by decide +kernel⟩
theorem ok_Sweep_leave {P : Program} {w : World} {K : PySem.W.Frag} {mg : Str → Option Value} {base : Heap} (hF : DfM K "Sweep" "leave" "Sweep.leave" s_Sweep_leave) (clM : Cls K (He.ga K "Sweep")) (meM : Meth K (He.ga K "Sweep") "leave" (He.ma K (He.ga K "Sweep") "leave")) (m_min : mg "min" = none) (cl_Sweep : Cls K (He.ga K "Sweep")) (na_Sweep_ahead : NoAttr K (He.ga K "Sweep") "ahead") (na_Sweep_bay : NoAttr K (He.ga K "Sweep") "bay") (na_Sweep_gaps : NoAttr K (He.ga K "Sweep") "gaps") (na_Sweep_step : NoAttr K (He.ga K "Sweep") "step") : OkMe P w K mg base CX0 1 "Sweep" "leave" ["self"] (sp_Sweep_leave K) := by
  obtain ⟨fd, F⟩ := hF
  refine ⟨⟨fd, F.ok sc_Sweep_leave (fun vs H Q E h => ?_) (fun cdv A outer s H vs Q E hr h => ⟨t_Sweep_leave K, PSs.nox ?_, w_Sweep_leave cl_Sweep na_Sweep_ahead na_Sweep_bay na_Sweep_gaps na_Sweep_step vs H Q E h⟩), F.bindsN fun _ _ _ _ _ _ us hl => match us, hl with | [_], _ => rfl⟩, clM, meM⟩
  · obtain ⟨F0, cc, cs, x, y, h, _⟩ := h; exact ArgG.len h
  · exact (pss_cons (ps_fld (pv 0) (pe_ix ix_list (pe_fld (pv 0) rfl) (pe_callB (cr_min2 rfl) (by rfl) m_min (by decide +kernel) (pa_cons (pe_fld (pv 0) rfl) (pa_cons (pe_op op_add (pe_fld (pv 0) rfl) (pe_fld (pv 0) rfl)) pa_nil))) (fun _ _ => rfl)) rfl) (pss_one (ps_fldaug (pv 0) (pe_fld (pv 0) rfl) in_add)))
abbrev s_names_of : Stmt := (top 34)
def f_names_of : (List (Str × Int × Int × Int)) → Option (List Str) := fun orders_1 => (((mapC (fun order_2 => order_2.1) orders_1)).bind fun x13 => ((srtM x13)).bind fun x15 => some x15)
abbrev A_names_of : (List (Str × Int × Int × Int)) → List Ar := fun x => [.d ((eL (eT4 eS eI eI eI)) x)]
abbrev B_names_of : (List Str) → List PyData := fun y => y.map eS
abbrev C_names_of : (List Str) → List (List V) := fun y => []
abbrev N_names_of : List Str := ["orders", "order"]
abbrev sp_names_of (K : PySem.W.Frag) : Sp := spF K A_names_of B_names_of C_names_of f_names_of
def t_names_of (K : PySem.W.Frag) : TS := (tRet (tCB (rSortedS K) (tCons (tLc (iList K (tVar 0)) (gName 1) tYes (tOp (rIxT K) (tVar 1) (tC (.int 0))) [1]) tNil)))
theorem w_names_of {K : PySem.W.Frag} (vs : List V) (H : Hp) (Q : VK) (E : XK) (h : sp_names_of K vs H Q E) : t_names_of K { nx := fun _ H' => Q .non H', rt := Q } (start N_names_of vs) H := by
  obtain ⟨F0, cc, cs, orders_1, y, h0, hS0, m, q⟩ := h
  obtain ⟨a0, _, rfl, ha0, h1⟩ := ArgR.hd h0
  obtain ⟨rfl, rfl⟩ := ArgR.no h1
  unfold f_names_of at m
  try dsimp only at m
  unfold t_names_of
  refine go (σ' := [some a0, none]) rfl ?_
  obtain ⟨x13, k14, m⟩ := bnd m
  obtain ⟨x15, k16, m⟩ := bnd m
  refine s_retC (K := K) (ds := x15.map eS) hS0 (c_sortedS (a_cons (EvC.dd (c_mapC (K := K) (f := (fun order_2 => order_2.1)) (em := eS) (i_list (en := (eT4 eS eI eI eI)) (d_var rfl ha0)) k14 (fun order_2 o9 v10 F3 p4 us5 g6 hv7 ho8 => by obtain rfl := sm ho8; exact ⟨[some a0, some v10], fun H12 Q hS11 hq => (fun Q hq => hq) Q hq, rfl, t_yes, fun y hy => by obtain rfl := sm hy; exact (d_ixT (d_var rfl hv7) d_int rfl)⟩))) a_nil) k16) (fun p21 us22 F17 H18 g19 hS20 hu23 => ?_)
  obtain rfl := sm m
  exact q _ _ _ _ g19 hS20 hu23
theorem sc_names_of : FnScope N_names_of ["orders"] (defScope s_names_of) := ⟨rfl, rfl, rfl, by decide +kernel, rfl, by decide +kernel, by decide +kernel⟩
theorem ok_names_of {P : Program} {w : World} {K : PySem.W.Frag} {mg : Str → Option Value} {base : Heap} (hF : Df K mg "names_of" s_names_of) (m_sorted : mg "sorted" = none) : Ok P w K mg base 1 "names_of" ["orders"] (sp_names_of K) := by
  obtain ⟨⟨fd, F⟩, gm⟩ := hF
  refine ⟨⟨fd, F.ok sc_names_of (fun vs H Q E h => ?_) (fun cdv A outer s H vs Q E hr h => ⟨t_names_of K, PSs.nox ?_, w_names_of vs H Q E h⟩), F.bindsN fun _ _ _ _ _ _ us hl => match us, hl with | [_], _ => rfl, lk_of F⟩, F.kp, gm⟩
  · obtain ⟨F0, cc, cs, x, y, h, _⟩ := h; exact ArgR.len h
  · exact (pss_one (ps_ret (pe_callB cr_sortedS (by rfl) m_sorted (by decide +kernel) (pa_cons (pe_lc (own := [("order", 1)]) (g := (gName 1)) (tt := tYes) (te := (tOp (rIxT K) (tVar 1) (tC (.int 0)))) (by rfl) sc_names_of.nd (pi_list (pv 0)) (blkOk_by (own := [("order", 1)]) (N := N_names_of) (sc := defScope s_names_of) (by decide +kernel)) (fun _ _ _ _ _ => (pg_name (i := 1) sc_names_of.nd rfl (Or.inl rfl))) (fun _ _ _ _ _ => pts_nil) (fun _ _ _ _ _ => (pe_ix ix_tup (pv 1) pe_int (fun _ _ => rfl)))) pa_nil))))
abbrev s_Sweep_next_tick : Stmt := ((clsB (top 35)).getD 1 (.Pass ⟨0, 0, 0, 0⟩))
def f_Sweep_next_tick_t16 (self_1 : T_Sweep) : ((List (Str × Int × Int × Int)) × (List (Str × Int × Int × Int))) → Option Bool := fun (self_waiting_19, self_coming_20) => (((eqTM (eL (eT4 eS eI eI eI)) self_coming_20 ([] : (List (Str × Int × Int × Int))))).bind fun x36 => ((if (!x36) = true then (((atI self_coming_20 (0 : Int))).bind fun x38 => some (decide (x38.2.1 ≤ self_1.2.2.2.2.2.2.1))) else some false)).bind fun x40 => some x40)
def f_Sweep_next_tick_w16 (self_1 : T_Sweep) : ((List (Str × Int × Int × Int)) × (List (Str × Int × Int × Int))) → Option (Fl ((List (Str × Int × Int × Int)) × (List (Str × Int × Int × Int))) ((Int × (Option Int) × (List Str) × (List Str)) × T_Sweep)) := fun (self_waiting_55, self_coming_56) => (((popM self_coming_56 (0 : Int))).bind fun (x76, y77) => ((appM self_waiting_55 x76)).bind fun z80 => some (Fl.nx (z80, y77)))
def f_Sweep_next_tick : T_Sweep → Option ((Int × (Option Int) × (List Str) × (List Str)) × T_Sweep) := fun self_1 => (whileF (f_Sweep_next_tick_t16 self_1) (f_Sweep_next_tick_w16 self_1) fuel (self_1.2.2.2.1, self_1.2.2.1)).bind fun r17 => match r17 with | .nx (self_waiting_98, self_coming_99) => (letM (none : Option Int) fun bay_110 => ((if (decide (self_1.2.2.2.2.2.2.2.2.2 = (0 : Int))) = true then (letM (some self_1.2.2.2.2.2.2.2.1) fun bay_185 => (((f_Sweep_turn (self_1.1, self_1.2.1, self_coming_99, self_waiting_98, self_1.2.2.2.2.1, self_1.2.2.2.2.2.1, self_1.2.2.2.2.2.2.1, self_1.2.2.2.2.2.2.2.1, self_1.2.2.2.2.2.2.2.2.1, self_1.2.2.2.2.2.2.2.2.2))).bind fun r188 => (((f_Sweep_put r188.2)).bind fun r218 => (((f_Sweep_take r218.2)).bind fun r248 => (((f_Sweep_leave r248.2)).bind fun r278 => some (bay_185, r278.2)))))) else some (bay_110, (self_1.1, self_1.2.1, self_coming_99, self_waiting_98, self_1.2.2.2.2.1, self_1.2.2.2.2.2.1, self_1.2.2.2.2.2.2.1, self_1.2.2.2.2.2.2.2.1, self_1.2.2.2.2.2.2.2.2.1, self_1.2.2.2.2.2.2.2.2.2)))).bind fun (bay_112, self_113) => (((f_names_of self_113.2.2.2.2.1)).bind fun x143 => ((f_names_of self_113.2.2.2.2.2.1)).bind fun x148 => letM (self_113.2.2.2.2.2.2.1, bay_112, x143, x148) fun told_154 => (letM (self_113.2.2.2.2.2.2.1 + (1 : Int)) fun tick_158 => (letM (self_113.2.2.2.2.2.2.2.2.2 - (1 : Int)) fun ahead_164 => some (told_154, (self_113.1, self_113.2.1, self_113.2.2.1, self_113.2.2.2.1, self_113.2.2.2.2.1, self_113.2.2.2.2.2.1, tick_158, self_113.2.2.2.2.2.2.2.1, self_113.2.2.2.2.2.2.2.2.1, ahead_164)))))) | .br _ => none | .rt z311 => some z311
abbrev N_Sweep_next_tick : List Str := ["self", "bay", "told"]
abbrev A_Sweep_next_tick (K : PySem.W.Frag) : T_Sweep → List Ag := fun x => [.o (fun F v c => ∃ a, v = .ref a ∧ O_Sweep K x F a c)]
def R_Sweep_next_tick (K : PySem.W.Frag) (y : ((Int × (Option Int) × (List Str) × (List Str)) × T_Sweep)) (F : Hp) (vs : List V) (v : V) (c : Cs) : Prop := ∃ c0 c1 : Cs, c = (c0 ++ (c1 ++ [])) ∧ (c0 = [] ∧ Dt K F v ((eT4 eI (eO eI) (eL eS) (eL eS)) y.1)) ∧ O_Sweep K y.2 F (adV (vs.getD 0 .non)) c1
abbrev sp_Sweep_next_tick (K : PySem.W.Frag) : Sp := spG K (A_Sweep_next_tick K) (R_Sweep_next_tick K) f_Sweep_next_tick
def t_Sweep_next_tick (K : PySem.W.Frag) : TS := (tSeq (tWhile (tAnd (tTest (tOp (rNeD K) (tFld K (tVar 0) "coming") (tLst tNil))) (tTest (tOp (rI0 fun i j => .bl (decide (i ≤ j))) (tOp (rIxT K) (tOp (rIxL K) (tFld K (tVar 0) "coming") (tC (.int 0))) (tC (.int 1))) (tFld K (tVar 0) "tick")))) (tDrop (tBM K "list" rAppend (tFld K (tVar 0) "waiting") (tCons (tBM K "list" rPopAt (tFld K (tVar 0) "coming") (tCons (tC (.int 0)) tNil)) tNil)))) (tSeq (tAsg (tC .non) (gName 1)) (tSeq (tIfS (tTest (tOp rEq (tFld K (tVar 0) "ahead") (tC (.int 0)))) (tSeq (tAsg (tFld K (tVar 0) "bay") (gName 1)) (tSeq (tDrop (tMeth (He.ga K "Sweep") "turn" (sp_Sweep_turn K) [] E0 (tVar 0) tNil)) (tSeq (tDrop (tMeth (He.ga K "Sweep") "put" (sp_Sweep_put K) [] E0 (tVar 0) tNil)) (tSeq (tDrop (tMeth (He.ga K "Sweep") "take" (sp_Sweep_take K) [] E0 (tVar 0) tNil)) (tDrop (tMeth (He.ga K "Sweep") "leave" (sp_Sweep_leave K) [] E0 (tVar 0) tNil)))))) tNext) (tSeq (tAsg (tTup (tCons (tFld K (tVar 0) "tick") (tCons (tVar 1) (tCons (tCall (sp_names_of K) [] E0 (tCons (tFld K (tVar 0) "riding") tNil)) (tCons (tCall (sp_names_of K) [] E0 (tCons (tFld K (tVar 0) "arrived") tNil)) tNil))))) (gName 2)) (tSeq (sFldAug K (tVar 0) (tC (.int 1)) rAdd "tick") (tSeq (sFldAug K (tVar 0) (tC (.int 1)) rSub "ahead") (tRet (tVar 2))))))))
theorem w_Sweep_next_tick {K : PySem.W.Frag} (cl_Sweep : Cls K (He.ga K "Sweep")) (na_Sweep_ahead : NoAttr K (He.ga K "Sweep") "ahead") (na_Sweep_arrived : NoAttr K (He.ga K "Sweep") "arrived") (na_Sweep_bay : NoAttr K (He.ga K "Sweep") "bay") (na_Sweep_coming : NoAttr K (He.ga K "Sweep") "coming") (na_Sweep_riding : NoAttr K (He.ga K "Sweep") "riding") (na_Sweep_tick : NoAttr K (He.ga K "Sweep") "tick") (na_Sweep_waiting : NoAttr K (He.ga K "Sweep") "waiting") (vs : List V) (H : Hp) (Q : VK) (E : XK) (h : sp_Sweep_next_tick K vs H Q E) : t_Sweep_next_tick K { nx := fun _ H' => Q .non H', rt := Q } (start N_Sweep_next_tick vs) H := by
  obtain ⟨F0, cc, cs, self_1, y, h0, hS0, m, q⟩ := h
  obtain ⟨_, _, _, _, rfl, rfl, ⟨a0, rfl, ho0⟩, h1⟩ := ArgG.ho h0
  obtain ⟨rfl, rfl⟩ := ArgG.no h1
  obtain ⟨dx2, p3, p4, us5, p7, us8, p10, us11, p13, us14, rfl, hu6, hu9, hu12, hu15⟩ := ho0
  have hS1 : Sta F0 ((a0, .ins (He.ga K "Sweep") dx2 [("gaps", (.ref p3)), ("most", (.int self_1.2.1)), ("coming", (.ref p4)), ("waiting", (.ref p7)), ("riding", (.ref p10)), ("arrived", (.ref p13)), ("tick", (.int self_1.2.2.2.2.2.2.1)), ("bay", (.int self_1.2.2.2.2.2.2.2.1)), ("step", (.int self_1.2.2.2.2.2.2.2.2.1)), ("ahead", (.int self_1.2.2.2.2.2.2.2.2.2))]) :: (dx2, .own a0) :: (p3, .lst (self_1.1.map V.int)) :: (p4, .lst us5) :: (p7, .lst us8) :: (p10, .lst us11) :: (p13, .lst us14) :: cs) H := hS0
  unfold f_Sweep_next_tick at m
  try dsimp only at m
  unfold t_Sweep_next_tick
  refine go (σ' := [some (.ref a0), none, none]) rfl ?_
  obtain ⟨r17, k18, m⟩ := bnd m
  refine s_while (c := (f_Sweep_next_tick_t16 self_1)) (body := (f_Sweep_next_tick_w16 self_1)) (s0 := (self_1.2.2.2.1, self_1.2.2.1)) (r := r17) (n := fuel) (fun (a : (List (Str × Int × Int × Int)) × (List (Str × Int × Int × Int))) F σ c => ∃ (j1 : Option V) (j2 : Option V) (z103 : List V) (z104 : List V), σ = [some (.ref a0), j1, j2] ∧ (a0, .ins (He.ga K "Sweep") dx2 [("gaps", (.ref p3)), ("most", (.int self_1.2.1)), ("coming", (.ref p4)), ("waiting", (.ref p7)), ("riding", (.ref p10)), ("arrived", (.ref p13)), ("tick", (.int self_1.2.2.2.2.2.2.1)), ("bay", (.int self_1.2.2.2.2.2.2.2.1)), ("step", (.int self_1.2.2.2.2.2.2.2.2.1)), ("ahead", (.int self_1.2.2.2.2.2.2.2.2.2))]) :: (dx2, .own a0) :: (p3, .lst (self_1.1.map V.int)) :: (p4, .lst z103) :: (p7, .lst z104) :: (p10, .lst us11) :: (p13, .lst us14) :: cs = c ∧ Dts K F z103 (a.2.map (eT4 eS eI eI eI)) ∧ Dts K F z104 (a.1.map (eT4 eS eI eI eI))) hS1 ⟨_, _, _, _, rfl, rfl, hu6, hu9⟩ k18 ?_ ?_ ?_ ?_
  · rintro ⟨self_waiting_98, self_coming_99⟩ F91 σ96 c95 H92 hz97 g93 hS94 ⟨u100, u101, us102, us103, rfl, rfl, h104, h105⟩
    rcases hz97.symm with rfl | rfl
    · cases (show (none : Option _) = some _ from m)
    try dsimp only at m
    obtain ⟨bay_110, k111, m⟩ := lt m
    refine s_setV (K := K) (d := (eO eI) bay_110) (i := 1) (σ' := [some (.ref a0), some (oV V.int bay_110), u101]) (fun _ _ h => dt_toI h) hS94 (d_is d_non (congrArg (eO eI) k111)) rfl (fun F106 H107 g108 hS109 => ?_)
    obtain ⟨⟨bay_112, self_113⟩, k115, m⟩ := bnd m
    try dsimp only at m
    refine s_ifJ (b := (decide (self_1.2.2.2.2.2.2.2.2.2 = (0 : Int)))) (fun σ H => ∃ (F : Hp) (c : Cs), Gr F106 F ∧ Sta F c H ∧ ∃ (j2 : Option V) (c0 : Cs), σ = [some (.ref a0), some (oV V.int bay_112), j2] ∧ c0 ++ (cs) = c ∧ O_Sweep K self_113 F a0 c0) hS109 (t_test (K := K) (d_eqI (d_vp (vp_fld (vp_var rfl) (List.Mem.head _) cl_Sweep na_Sweep_ahead rfl) (.int _)) d_int)) ?_ (fun jn114 hc F177 H178 g179 hS180 => ?_) (fun jn114 hc F307 H308 g309 hS310 => ?_)
    · rintro σ121 H117 ⟨F116, c120, g118, hS119, u122, c123, rfl, rfl, h124⟩
      obtain ⟨dx125, p126, p127, us128, p130, us131, p133, us134, p136, us137, rfl, hu129, hu132, hu135, hu138⟩ := h124
      have hS139 : Sta F116 ((a0, .ins (He.ga K "Sweep") dx125 [("gaps", (.ref p126)), ("most", (.int self_113.2.1)), ("coming", (.ref p127)), ("waiting", (.ref p130)), ("riding", (.ref p133)), ("arrived", (.ref p136)), ("tick", (.int self_113.2.2.2.2.2.2.1)), ("bay", (.int self_113.2.2.2.2.2.2.2.1)), ("step", (.int self_113.2.2.2.2.2.2.2.2.1)), ("ahead", (.int self_113.2.2.2.2.2.2.2.2.2))]) :: (dx125, .own a0) :: (p126, .lst (self_113.1.map V.int)) :: (p127, .lst us128) :: (p130, .lst us131) :: (p133, .lst us134) :: (p136, .lst us137) :: cs) H117 := hS119
      obtain ⟨x143, k144, m⟩ := bnd m
      obtain ⟨x148, k149, m⟩ := bnd m
      obtain ⟨told_154, k155, m⟩ := lt m
      refine s_set (K := K) (d := (eT4 eI (eO eI) (eL eS) (eL eS)) told_154) (i := 2) (σ' := fun v156 => [some (.ref a0), some (oV V.int bay_112), some v156]) hS139 (d_is (d_tup (a_cons (d_vp (vp_fld (vp_var rfl) (List.Mem.head _) cl_Sweep na_Sweep_tick rfl) (.int _)) (a_cons (d_var rfl (dt_oI _)) (a_cons (EvC.dd (c_lendX (l1 := [(a0, HO.ins (He.ga K "Sweep") dx125 [("gaps", (.ref p126)), ("most", (.int self_113.2.1)), ("coming", (.ref p127)), ("waiting", (.ref p130)), ("riding", (.ref p133)), ("arrived", (.ref p136)), ("tick", (.int self_113.2.2.2.2.2.2.1)), ("bay", (.int self_113.2.2.2.2.2.2.2.1)), ("step", (.int self_113.2.2.2.2.2.2.2.2.1)), ("ahead", (.int self_113.2.2.2.2.2.2.2.2.2))]), (dx125, HO.own a0), (p126, HO.lst (self_113.1.map V.int)), (p127, HO.lst us128), (p130, HO.lst us131)]) (m1 := [(a0, HO.ins (He.ga K "Sweep") dx125 [("gaps", (.ref p126)), ("most", (.int self_113.2.1)), ("coming", (.ref p127)), ("waiting", (.ref p130)), ("riding", (.ref p133)), ("arrived", (.ref p136)), ("tick", (.int self_113.2.2.2.2.2.2.1)), ("bay", (.int self_113.2.2.2.2.2.2.2.1)), ("step", (.int self_113.2.2.2.2.2.2.2.2.1)), ("ahead", (.int self_113.2.2.2.2.2.2.2.2.2))]), (dx125, HO.own a0), (p126, HO.lst (self_113.1.map V.int)), (p127, HO.lst us128), (p130, HO.lst us131)]) (fun _ _ h => Dts.strs h) (fun _ => Dts.of_strs _) (fun F140 g141 hn142 => (c_callX (A := A_names_of) (B := B_names_of) (C := C_names_of) (x := self_113.2.2.2.2.1) (y := x143) (cs2 := ((a0, HO.ins (He.ga K "Sweep") dx125 [("gaps", (.ref p126)), ("most", (.int self_113.2.1)), ("coming", (.ref p127)), ("waiting", (.ref p130)), ("riding", (.ref p133)), ("arrived", (.ref p136)), ("tick", (.int self_113.2.2.2.2.2.2.1)), ("bay", (.int self_113.2.2.2.2.2.2.2.1)), ("step", (.int self_113.2.2.2.2.2.2.2.2.1)), ("ahead", (.int self_113.2.2.2.2.2.2.2.2.2))]) :: (dx125, HO.own a0) :: (p126, HO.lst (self_113.1.map V.int)) :: (p127, HO.lst us128) :: (p130, HO.lst us131) :: (p136, HO.lst us137) :: cs)) (cc := []) (cs' := ((a0, HO.ins (He.ga K "Sweep") dx125 [("gaps", (.ref p126)), ("most", (.int self_113.2.1)), ("coming", (.ref p127)), ("waiting", (.ref p130)), ("riding", (.ref p133)), ("arrived", (.ref p136)), ("tick", (.int self_113.2.2.2.2.2.2.1)), ("bay", (.int self_113.2.2.2.2.2.2.2.1)), ("step", (.int self_113.2.2.2.2.2.2.2.2.1)), ("ahead", (.int self_113.2.2.2.2.2.2.2.2.2))]) :: (dx125, HO.own a0) :: (p126, HO.lst (self_113.1.map V.int)) :: (p127, HO.lst us128) :: (p130, HO.lst us131) :: (p136, HO.lst us137) :: cs)) (r_d (d_vp (vp_fld (vp_var rfl) (List.Mem.head _) cl_Sweep na_Sweep_riding rfl) (lent_l hn142 (Dts.gr g141 hu135))) r_nil) sb_rfl k144 (fun _ => sb_rfl))))) (a_cons (EvC.dd (c_lendX (l1 := [(a0, HO.ins (He.ga K "Sweep") dx125 [("gaps", (.ref p126)), ("most", (.int self_113.2.1)), ("coming", (.ref p127)), ("waiting", (.ref p130)), ("riding", (.ref p133)), ("arrived", (.ref p136)), ("tick", (.int self_113.2.2.2.2.2.2.1)), ("bay", (.int self_113.2.2.2.2.2.2.2.1)), ("step", (.int self_113.2.2.2.2.2.2.2.2.1)), ("ahead", (.int self_113.2.2.2.2.2.2.2.2.2))]), (dx125, HO.own a0), (p126, HO.lst (self_113.1.map V.int)), (p127, HO.lst us128), (p130, HO.lst us131), (p133, HO.lst us134)]) (m1 := [(a0, HO.ins (He.ga K "Sweep") dx125 [("gaps", (.ref p126)), ("most", (.int self_113.2.1)), ("coming", (.ref p127)), ("waiting", (.ref p130)), ("riding", (.ref p133)), ("arrived", (.ref p136)), ("tick", (.int self_113.2.2.2.2.2.2.1)), ("bay", (.int self_113.2.2.2.2.2.2.2.1)), ("step", (.int self_113.2.2.2.2.2.2.2.2.1)), ("ahead", (.int self_113.2.2.2.2.2.2.2.2.2))]), (dx125, HO.own a0), (p126, HO.lst (self_113.1.map V.int)), (p127, HO.lst us128), (p130, HO.lst us131), (p133, HO.lst us134)]) (fun _ _ h => Dts.strs h) (fun _ => Dts.of_strs _) (fun F145 g146 hn147 => (c_callX (A := A_names_of) (B := B_names_of) (C := C_names_of) (x := self_113.2.2.2.2.2.1) (y := x148) (cs2 := ((a0, HO.ins (He.ga K "Sweep") dx125 [("gaps", (.ref p126)), ("most", (.int self_113.2.1)), ("coming", (.ref p127)), ("waiting", (.ref p130)), ("riding", (.ref p133)), ("arrived", (.ref p136)), ("tick", (.int self_113.2.2.2.2.2.2.1)), ("bay", (.int self_113.2.2.2.2.2.2.2.1)), ("step", (.int self_113.2.2.2.2.2.2.2.2.1)), ("ahead", (.int self_113.2.2.2.2.2.2.2.2.2))]) :: (dx125, HO.own a0) :: (p126, HO.lst (self_113.1.map V.int)) :: (p127, HO.lst us128) :: (p130, HO.lst us131) :: (p133, HO.lst us134) :: cs)) (cc := []) (cs' := ((a0, HO.ins (He.ga K "Sweep") dx125 [("gaps", (.ref p126)), ("most", (.int self_113.2.1)), ("coming", (.ref p127)), ("waiting", (.ref p130)), ("riding", (.ref p133)), ("arrived", (.ref p136)), ("tick", (.int self_113.2.2.2.2.2.2.1)), ("bay", (.int self_113.2.2.2.2.2.2.2.1)), ("step", (.int self_113.2.2.2.2.2.2.2.2.1)), ("ahead", (.int self_113.2.2.2.2.2.2.2.2.2))]) :: (dx125, HO.own a0) :: (p126, HO.lst (self_113.1.map V.int)) :: (p127, HO.lst us128) :: (p130, HO.lst us131) :: (p133, HO.lst us134) :: cs)) (r_d (d_vp (vp_fld (vp_var rfl) (List.Mem.head _) cl_Sweep na_Sweep_arrived rfl) (lent_l hn147 (Dts.gr g146 hu138))) r_nil) sb_rfl k149 (fun _ => sb_rfl))))) a_nil)))) (Nat.le_of_ble_eq_true rfl)) (congrArg (eT4 eI (eO eI) (eL eS) (eL eS)) k155)) (fun _ => rfl) (fun v156 F150 H151 g152 hS153 hv157 => ?_)
      obtain ⟨tick_158, k159, m⟩ := lt m
      refine s_fldAdd (ta := (tVar 0)) (l1 := []) (m1 := []) (fs' := [("gaps", (.ref p126)), ("most", (.int self_113.2.1)), ("coming", (.ref p127)), ("waiting", (.ref p130)), ("riding", (.ref p133)), ("arrived", (.ref p136)), ("tick", (.int tick_158)), ("bay", (.int self_113.2.2.2.2.2.2.2.1)), ("step", (.int self_113.2.2.2.2.2.2.2.2.1)), ("ahead", (.int self_113.2.2.2.2.2.2.2.2.2))]) hS153 (vp_var rfl) cl_Sweep na_Sweep_tick rfl d_int (Nat.le_of_ble_eq_true rfl) (by rw [k159]; rfl) (fun F160 H161 g162 hS163 => ?_)
      obtain ⟨ahead_164, k165, m⟩ := lt m
      refine s_fldSub (ta := (tVar 0)) (l1 := []) (m1 := []) (fs' := [("gaps", (.ref p126)), ("most", (.int self_113.2.1)), ("coming", (.ref p127)), ("waiting", (.ref p130)), ("riding", (.ref p133)), ("arrived", (.ref p136)), ("tick", (.int tick_158)), ("bay", (.int self_113.2.2.2.2.2.2.2.1)), ("step", (.int self_113.2.2.2.2.2.2.2.2.1)), ("ahead", (.int ahead_164))]) hS163 (vp_var rfl) cl_Sweep na_Sweep_ahead rfl d_int (Nat.le_of_ble_eq_true rfl) (by rw [k165]; rfl) (fun F166 H167 g168 hS169 => ?_)
      refine s_ret (K := K) (d := (eT4 eI (eO eI) (eL eS) (eL eS)) told_154) hS169 (d_var rfl (Dt.gr (Gr.tr g162 g168) hv157)) (fun v174 F170 H171 g172 hS173 hv175 => ?_)
      have hS176 := Sta.perm hS173 (List.Perm.trans (List.perm_middle (l₁ := [(a0, HO.ins (He.ga K "Sweep") dx125 [("gaps", (.ref p126)), ("most", (.int self_113.2.1)), ("coming", (.ref p127)), ("waiting", (.ref p130)), ("riding", (.ref p133)), ("arrived", (.ref p136)), ("tick", (.int tick_158)), ("bay", (.int self_113.2.2.2.2.2.2.2.1)), ("step", (.int self_113.2.2.2.2.2.2.2.2.1)), ("ahead", (.int ahead_164))]), (dx125, HO.own a0), (p126, HO.lst (self_113.1.map V.int)), (p127, HO.lst us128), (p130, HO.lst us131), (p133, HO.lst us134)])) (List.Perm.trans (List.perm_middle (l₁ := [(p136, HO.lst us137), (a0, HO.ins (He.ga K "Sweep") dx125 [("gaps", (.ref p126)), ("most", (.int self_113.2.1)), ("coming", (.ref p127)), ("waiting", (.ref p130)), ("riding", (.ref p133)), ("arrived", (.ref p136)), ("tick", (.int tick_158)), ("bay", (.int self_113.2.2.2.2.2.2.2.1)), ("step", (.int self_113.2.2.2.2.2.2.2.2.1)), ("ahead", (.int ahead_164))]), (dx125, HO.own a0), (p126, HO.lst (self_113.1.map V.int)), (p127, HO.lst us128), (p130, HO.lst us131)])) (List.Perm.trans (List.perm_middle (l₁ := [(p133, HO.lst us134), (p136, HO.lst us137), (a0, HO.ins (He.ga K "Sweep") dx125 [("gaps", (.ref p126)), ("most", (.int self_113.2.1)), ("coming", (.ref p127)), ("waiting", (.ref p130)), ("riding", (.ref p133)), ("arrived", (.ref p136)), ("tick", (.int tick_158)), ("bay", (.int self_113.2.2.2.2.2.2.2.1)), ("step", (.int self_113.2.2.2.2.2.2.2.2.1)), ("ahead", (.int ahead_164))]), (dx125, HO.own a0), (p126, HO.lst (self_113.1.map V.int)), (p127, HO.lst us128)])) (List.Perm.trans (List.perm_middle (l₁ := [(p130, HO.lst us131), (p133, HO.lst us134), (p136, HO.lst us137), (a0, HO.ins (He.ga K "Sweep") dx125 [("gaps", (.ref p126)), ("most", (.int self_113.2.1)), ("coming", (.ref p127)), ("waiting", (.ref p130)), ("riding", (.ref p133)), ("arrived", (.ref p136)), ("tick", (.int tick_158)), ("bay", (.int self_113.2.2.2.2.2.2.2.1)), ("step", (.int self_113.2.2.2.2.2.2.2.2.1)), ("ahead", (.int ahead_164))]), (dx125, HO.own a0), (p126, HO.lst (self_113.1.map V.int))])) (List.Perm.trans (List.perm_middle (l₁ := [(p127, HO.lst us128), (p130, HO.lst us131), (p133, HO.lst us134), (p136, HO.lst us137), (a0, HO.ins (He.ga K "Sweep") dx125 [("gaps", (.ref p126)), ("most", (.int self_113.2.1)), ("coming", (.ref p127)), ("waiting", (.ref p130)), ("riding", (.ref p133)), ("arrived", (.ref p136)), ("tick", (.int tick_158)), ("bay", (.int self_113.2.2.2.2.2.2.2.1)), ("step", (.int self_113.2.2.2.2.2.2.2.2.1)), ("ahead", (.int ahead_164))]), (dx125, HO.own a0)])) (List.Perm.trans (List.perm_middle (l₁ := [(p126, HO.lst (self_113.1.map V.int)), (p127, HO.lst us128), (p130, HO.lst us131), (p133, HO.lst us134), (p136, HO.lst us137), (a0, HO.ins (He.ga K "Sweep") dx125 [("gaps", (.ref p126)), ("most", (.int self_113.2.1)), ("coming", (.ref p127)), ("waiting", (.ref p130)), ("riding", (.ref p133)), ("arrived", (.ref p136)), ("tick", (.int tick_158)), ("bay", (.int self_113.2.2.2.2.2.2.2.1)), ("step", (.int self_113.2.2.2.2.2.2.2.2.1)), ("ahead", (.int ahead_164))])])) (List.perm_middle (l₁ := [(dx125, HO.own a0), (p126, HO.lst (self_113.1.map V.int)), (p127, HO.lst us128), (p130, HO.lst us131), (p133, HO.lst us134), (p136, HO.lst us137)]))))))))
      obtain rfl := sm m
      exact q _ ([] ++ ([(a0, HO.ins (He.ga K "Sweep") dx125 [("gaps", (.ref p126)), ("most", (.int self_113.2.1)), ("coming", (.ref p127)), ("waiting", (.ref p130)), ("riding", (.ref p133)), ("arrived", (.ref p136)), ("tick", (.int tick_158)), ("bay", (.int self_113.2.2.2.2.2.2.2.1)), ("step", (.int self_113.2.2.2.2.2.2.2.2.1)), ("ahead", (.int ahead_164))]), (dx125, HO.own a0), (p126, HO.lst (self_113.1.map V.int)), (p127, HO.lst us128), (p130, HO.lst us131), (p133, HO.lst us134), (p136, HO.lst us137)] ++ [])) _ _ (Gr.tr g93 (Gr.tr g108 (Gr.tr g118 (Gr.tr g152 (Gr.tr g162 (Gr.tr g168 g172)))))) hS176 ⟨[], [(a0, HO.ins (He.ga K "Sweep") dx125 [("gaps", (.ref p126)), ("most", (.int self_113.2.1)), ("coming", (.ref p127)), ("waiting", (.ref p130)), ("riding", (.ref p133)), ("arrived", (.ref p136)), ("tick", (.int tick_158)), ("bay", (.int self_113.2.2.2.2.2.2.2.1)), ("step", (.int self_113.2.2.2.2.2.2.2.2.1)), ("ahead", (.int ahead_164))]), (dx125, HO.own a0), (p126, HO.lst (self_113.1.map V.int)), (p127, HO.lst us128), (p130, HO.lst us131), (p133, HO.lst us134), (p136, HO.lst us137)], rfl, ⟨rfl, hv175⟩, ⟨_, _, _, _, _, _, _, _, _, _, rfl, (Dts.gr (Gr.tr g152 (Gr.tr g162 (Gr.tr g168 g172))) hu129), (Dts.gr (Gr.tr g152 (Gr.tr g162 (Gr.tr g168 g172))) hu132), (Dts.gr (Gr.tr g152 (Gr.tr g162 (Gr.tr g168 g172))) hu135), (Dts.gr (Gr.tr g152 (Gr.tr g162 (Gr.tr g168 g172))) hu138)⟩⟩
    · rw [if_pos hc] at k115
      obtain ⟨bay_185, k186, k115⟩ := lt k115
      refine s_setV (K := K) (d := (eO eI) bay_185) (i := 1) (σ' := [some (.ref a0), some (oV V.int bay_185), u101]) (fun _ _ h => dt_toI h) hS180 (d_is (d_vp (vp_fld (vp_var rfl) (List.Mem.head _) cl_Sweep na_Sweep_bay rfl) (.int _)) (congrArg (eO eI) k186)) rfl (fun F181 H182 g183 hS184 => ?_)
      refine o_drop ?_
      refine o_meth (ta := (tVar 0)) (l1 := []) hS184 (vp_var rfl) rfl ?_
      refine o_nil ?_
      have hS187 := Sta.perm hS184 (List.Perm.trans (List.perm_middle (l₁ := [(a0, HO.ins (He.ga K "Sweep") dx2 [("gaps", (.ref p3)), ("most", (.int self_1.2.1)), ("coming", (.ref p4)), ("waiting", (.ref p7)), ("riding", (.ref p10)), ("arrived", (.ref p13)), ("tick", (.int self_1.2.2.2.2.2.2.1)), ("bay", (.int self_1.2.2.2.2.2.2.2.1)), ("step", (.int self_1.2.2.2.2.2.2.2.2.1)), ("ahead", (.int self_1.2.2.2.2.2.2.2.2.2))]), (dx2, HO.own a0), (p3, HO.lst (self_1.1.map V.int)), (p4, HO.lst us102), (p7, HO.lst us103), (p10, HO.lst us11)])) (List.Perm.trans (List.perm_middle (l₁ := [(p13, HO.lst us14), (a0, HO.ins (He.ga K "Sweep") dx2 [("gaps", (.ref p3)), ("most", (.int self_1.2.1)), ("coming", (.ref p4)), ("waiting", (.ref p7)), ("riding", (.ref p10)), ("arrived", (.ref p13)), ("tick", (.int self_1.2.2.2.2.2.2.1)), ("bay", (.int self_1.2.2.2.2.2.2.2.1)), ("step", (.int self_1.2.2.2.2.2.2.2.2.1)), ("ahead", (.int self_1.2.2.2.2.2.2.2.2.2))]), (dx2, HO.own a0), (p3, HO.lst (self_1.1.map V.int)), (p4, HO.lst us102), (p7, HO.lst us103)])) (List.Perm.trans (List.perm_middle (l₁ := [(p10, HO.lst us11), (p13, HO.lst us14), (a0, HO.ins (He.ga K "Sweep") dx2 [("gaps", (.ref p3)), ("most", (.int self_1.2.1)), ("coming", (.ref p4)), ("waiting", (.ref p7)), ("riding", (.ref p10)), ("arrived", (.ref p13)), ("tick", (.int self_1.2.2.2.2.2.2.1)), ("bay", (.int self_1.2.2.2.2.2.2.2.1)), ("step", (.int self_1.2.2.2.2.2.2.2.2.1)), ("ahead", (.int self_1.2.2.2.2.2.2.2.2.2))]), (dx2, HO.own a0), (p3, HO.lst (self_1.1.map V.int)), (p4, HO.lst us102)])) (List.Perm.trans (List.perm_middle (l₁ := [(p7, HO.lst us103), (p10, HO.lst us11), (p13, HO.lst us14), (a0, HO.ins (He.ga K "Sweep") dx2 [("gaps", (.ref p3)), ("most", (.int self_1.2.1)), ("coming", (.ref p4)), ("waiting", (.ref p7)), ("riding", (.ref p10)), ("arrived", (.ref p13)), ("tick", (.int self_1.2.2.2.2.2.2.1)), ("bay", (.int self_1.2.2.2.2.2.2.2.1)), ("step", (.int self_1.2.2.2.2.2.2.2.2.1)), ("ahead", (.int self_1.2.2.2.2.2.2.2.2.2))]), (dx2, HO.own a0), (p3, HO.lst (self_1.1.map V.int))])) (List.Perm.trans (List.perm_middle (l₁ := [(p4, HO.lst us102), (p7, HO.lst us103), (p10, HO.lst us11), (p13, HO.lst us14), (a0, HO.ins (He.ga K "Sweep") dx2 [("gaps", (.ref p3)), ("most", (.int self_1.2.1)), ("coming", (.ref p4)), ("waiting", (.ref p7)), ("riding", (.ref p10)), ("arrived", (.ref p13)), ("tick", (.int self_1.2.2.2.2.2.2.1)), ("bay", (.int self_1.2.2.2.2.2.2.2.1)), ("step", (.int self_1.2.2.2.2.2.2.2.2.1)), ("ahead", (.int self_1.2.2.2.2.2.2.2.2.2))]), (dx2, HO.own a0)])) (List.Perm.trans (List.perm_middle (l₁ := [(p3, HO.lst (self_1.1.map V.int)), (p4, HO.lst us102), (p7, HO.lst us103), (p10, HO.lst us11), (p13, HO.lst us14), (a0, HO.ins (He.ga K "Sweep") dx2 [("gaps", (.ref p3)), ("most", (.int self_1.2.1)), ("coming", (.ref p4)), ("waiting", (.ref p7)), ("riding", (.ref p10)), ("arrived", (.ref p13)), ("tick", (.int self_1.2.2.2.2.2.2.1)), ("bay", (.int self_1.2.2.2.2.2.2.2.1)), ("step", (.int self_1.2.2.2.2.2.2.2.2.1)), ("ahead", (.int self_1.2.2.2.2.2.2.2.2.2))])])) (List.perm_middle (l₁ := [(dx2, HO.own a0), (p3, HO.lst (self_1.1.map V.int)), (p4, HO.lst us102), (p7, HO.lst us103), (p10, HO.lst us11), (p13, HO.lst us14)]))))))))
      obtain ⟨r188, k189, k115⟩ := bnd k115
      refine ⟨_, _, (cs), (self_1.1, self_1.2.1, self_coming_99, self_waiting_98, self_1.2.2.2.2.1, self_1.2.2.2.2.2.1, self_1.2.2.2.2.2.2.1, self_1.2.2.2.2.2.2.2.1, self_1.2.2.2.2.2.2.2.2.1, self_1.2.2.2.2.2.2.2.2.2), r188, (ArgG.o (c := [(a0, HO.ins (He.ga K "Sweep") dx2 [("gaps", (.ref p3)), ("most", (.int self_1.2.1)), ("coming", (.ref p4)), ("waiting", (.ref p7)), ("riding", (.ref p10)), ("arrived", (.ref p13)), ("tick", (.int self_1.2.2.2.2.2.2.1)), ("bay", (.int self_1.2.2.2.2.2.2.2.1)), ("step", (.int self_1.2.2.2.2.2.2.2.2.1)), ("ahead", (.int self_1.2.2.2.2.2.2.2.2.2))]), (dx2, HO.own a0), (p3, HO.lst (self_1.1.map V.int)), (p4, HO.lst us102), (p7, HO.lst us103), (p10, HO.lst us11), (p13, HO.lst us14)]) ⟨_, rfl, ⟨_, _, _, _, _, _, _, _, _, _, rfl, (Dts.gr (Gr.tr g108 (Gr.tr g179 g183)) h104), (Dts.gr (Gr.tr g108 (Gr.tr g179 g183)) h105), (Dts.gr (Gr.tr g93 (Gr.tr g108 (Gr.tr g179 g183))) hu12), (Dts.gr (Gr.tr g93 (Gr.tr g108 (Gr.tr g179 g183))) hu15)⟩⟩ ArgG.nil), hS187, k189, fun v190 c191 F192 H193 g194 hS195 r196 => ?_⟩
      obtain ⟨c197, c198, rfl, h199, h200⟩ := r196
      obtain ⟨rfl, hv201⟩ := h199
      obtain rfl := Dt.toNon hv201
      obtain ⟨dx202, p203, p204, us205, p207, us208, p210, us211, p213, us214, rfl, hu206, hu209, hu212, hu215⟩ := h200
      have hS216 : Sta F192 ((a0, .ins (He.ga K "Sweep") dx202 [("gaps", (.ref p203)), ("most", (.int r188.2.2.1)), ("coming", (.ref p204)), ("waiting", (.ref p207)), ("riding", (.ref p210)), ("arrived", (.ref p213)), ("tick", (.int r188.2.2.2.2.2.2.2.1)), ("bay", (.int r188.2.2.2.2.2.2.2.2.1)), ("step", (.int r188.2.2.2.2.2.2.2.2.2.1)), ("ahead", (.int r188.2.2.2.2.2.2.2.2.2.2))]) :: (dx202, .own a0) :: (p203, .lst (r188.2.1.map V.int)) :: (p204, .lst us205) :: (p207, .lst us208) :: (p210, .lst us211) :: (p213, .lst us214) :: cs) H193 := hS195
      refine o_drop ?_
      refine o_meth (ta := (tVar 0)) (l1 := []) hS216 (vp_var rfl) rfl ?_
      refine o_nil ?_
      have hS217 := Sta.perm hS216 (List.Perm.trans (List.perm_middle (l₁ := [(a0, HO.ins (He.ga K "Sweep") dx202 [("gaps", (.ref p203)), ("most", (.int r188.2.2.1)), ("coming", (.ref p204)), ("waiting", (.ref p207)), ("riding", (.ref p210)), ("arrived", (.ref p213)), ("tick", (.int r188.2.2.2.2.2.2.2.1)), ("bay", (.int r188.2.2.2.2.2.2.2.2.1)), ("step", (.int r188.2.2.2.2.2.2.2.2.2.1)), ("ahead", (.int r188.2.2.2.2.2.2.2.2.2.2))]), (dx202, HO.own a0), (p203, HO.lst (r188.2.1.map V.int)), (p204, HO.lst us205), (p207, HO.lst us208), (p210, HO.lst us211)])) (List.Perm.trans (List.perm_middle (l₁ := [(p213, HO.lst us214), (a0, HO.ins (He.ga K "Sweep") dx202 [("gaps", (.ref p203)), ("most", (.int r188.2.2.1)), ("coming", (.ref p204)), ("waiting", (.ref p207)), ("riding", (.ref p210)), ("arrived", (.ref p213)), ("tick", (.int r188.2.2.2.2.2.2.2.1)), ("bay", (.int r188.2.2.2.2.2.2.2.2.1)), ("step", (.int r188.2.2.2.2.2.2.2.2.2.1)), ("ahead", (.int r188.2.2.2.2.2.2.2.2.2.2))]), (dx202, HO.own a0), (p203, HO.lst (r188.2.1.map V.int)), (p204, HO.lst us205), (p207, HO.lst us208)])) (List.Perm.trans (List.perm_middle (l₁ := [(p210, HO.lst us211), (p213, HO.lst us214), (a0, HO.ins (He.ga K "Sweep") dx202 [("gaps", (.ref p203)), ("most", (.int r188.2.2.1)), ("coming", (.ref p204)), ("waiting", (.ref p207)), ("riding", (.ref p210)), ("arrived", (.ref p213)), ("tick", (.int r188.2.2.2.2.2.2.2.1)), ("bay", (.int r188.2.2.2.2.2.2.2.2.1)), ("step", (.int r188.2.2.2.2.2.2.2.2.2.1)), ("ahead", (.int r188.2.2.2.2.2.2.2.2.2.2))]), (dx202, HO.own a0), (p203, HO.lst (r188.2.1.map V.int)), (p204, HO.lst us205)])) (List.Perm.trans (List.perm_middle (l₁ := [(p207, HO.lst us208), (p210, HO.lst us211), (p213, HO.lst us214), (a0, HO.ins (He.ga K "Sweep") dx202 [("gaps", (.ref p203)), ("most", (.int r188.2.2.1)), ("coming", (.ref p204)), ("waiting", (.ref p207)), ("riding", (.ref p210)), ("arrived", (.ref p213)), ("tick", (.int r188.2.2.2.2.2.2.2.1)), ("bay", (.int r188.2.2.2.2.2.2.2.2.1)), ("step", (.int r188.2.2.2.2.2.2.2.2.2.1)), ("ahead", (.int r188.2.2.2.2.2.2.2.2.2.2))]), (dx202, HO.own a0), (p203, HO.lst (r188.2.1.map V.int))])) (List.Perm.trans (List.perm_middle (l₁ := [(p204, HO.lst us205), (p207, HO.lst us208), (p210, HO.lst us211), (p213, HO.lst us214), (a0, HO.ins (He.ga K "Sweep") dx202 [("gaps", (.ref p203)), ("most", (.int r188.2.2.1)), ("coming", (.ref p204)), ("waiting", (.ref p207)), ("riding", (.ref p210)), ("arrived", (.ref p213)), ("tick", (.int r188.2.2.2.2.2.2.2.1)), ("bay", (.int r188.2.2.2.2.2.2.2.2.1)), ("step", (.int r188.2.2.2.2.2.2.2.2.2.1)), ("ahead", (.int r188.2.2.2.2.2.2.2.2.2.2))]), (dx202, HO.own a0)])) (List.Perm.trans (List.perm_middle (l₁ := [(p203, HO.lst (r188.2.1.map V.int)), (p204, HO.lst us205), (p207, HO.lst us208), (p210, HO.lst us211), (p213, HO.lst us214), (a0, HO.ins (He.ga K "Sweep") dx202 [("gaps", (.ref p203)), ("most", (.int r188.2.2.1)), ("coming", (.ref p204)), ("waiting", (.ref p207)), ("riding", (.ref p210)), ("arrived", (.ref p213)), ("tick", (.int r188.2.2.2.2.2.2.2.1)), ("bay", (.int r188.2.2.2.2.2.2.2.2.1)), ("step", (.int r188.2.2.2.2.2.2.2.2.2.1)), ("ahead", (.int r188.2.2.2.2.2.2.2.2.2.2))])])) (List.perm_middle (l₁ := [(dx202, HO.own a0), (p203, HO.lst (r188.2.1.map V.int)), (p204, HO.lst us205), (p207, HO.lst us208), (p210, HO.lst us211), (p213, HO.lst us214)]))))))))
      obtain ⟨r218, k219, k115⟩ := bnd k115
      refine ⟨_, _, (cs), r188.2, r218, (ArgG.o (c := [(a0, HO.ins (He.ga K "Sweep") dx202 [("gaps", (.ref p203)), ("most", (.int r188.2.2.1)), ("coming", (.ref p204)), ("waiting", (.ref p207)), ("riding", (.ref p210)), ("arrived", (.ref p213)), ("tick", (.int r188.2.2.2.2.2.2.2.1)), ("bay", (.int r188.2.2.2.2.2.2.2.2.1)), ("step", (.int r188.2.2.2.2.2.2.2.2.2.1)), ("ahead", (.int r188.2.2.2.2.2.2.2.2.2.2))]), (dx202, HO.own a0), (p203, HO.lst (r188.2.1.map V.int)), (p204, HO.lst us205), (p207, HO.lst us208), (p210, HO.lst us211), (p213, HO.lst us214)]) ⟨_, rfl, ⟨_, _, _, _, _, _, _, _, _, _, rfl, hu206, hu209, hu212, hu215⟩⟩ ArgG.nil), hS217, k219, fun v220 c221 F222 H223 g224 hS225 r226 => ?_⟩
      obtain ⟨c227, c228, rfl, h229, h230⟩ := r226
      obtain ⟨rfl, hv231⟩ := h229
      obtain rfl := Dt.toNon hv231
      obtain ⟨dx232, p233, p234, us235, p237, us238, p240, us241, p243, us244, rfl, hu236, hu239, hu242, hu245⟩ := h230
      have hS246 : Sta F222 ((a0, .ins (He.ga K "Sweep") dx232 [("gaps", (.ref p233)), ("most", (.int r218.2.2.1)), ("coming", (.ref p234)), ("waiting", (.ref p237)), ("riding", (.ref p240)), ("arrived", (.ref p243)), ("tick", (.int r218.2.2.2.2.2.2.2.1)), ("bay", (.int r218.2.2.2.2.2.2.2.2.1)), ("step", (.int r218.2.2.2.2.2.2.2.2.2.1)), ("ahead", (.int r218.2.2.2.2.2.2.2.2.2.2))]) :: (dx232, .own a0) :: (p233, .lst (r218.2.1.map V.int)) :: (p234, .lst us235) :: (p237, .lst us238) :: (p240, .lst us241) :: (p243, .lst us244) :: cs) H223 := hS225
      refine o_drop ?_
      refine o_meth (ta := (tVar 0)) (l1 := []) hS246 (vp_var rfl) rfl ?_
      refine o_nil ?_
      have hS247 := Sta.perm hS246 (List.Perm.trans (List.perm_middle (l₁ := [(a0, HO.ins (He.ga K "Sweep") dx232 [("gaps", (.ref p233)), ("most", (.int r218.2.2.1)), ("coming", (.ref p234)), ("waiting", (.ref p237)), ("riding", (.ref p240)), ("arrived", (.ref p243)), ("tick", (.int r218.2.2.2.2.2.2.2.1)), ("bay", (.int r218.2.2.2.2.2.2.2.2.1)), ("step", (.int r218.2.2.2.2.2.2.2.2.2.1)), ("ahead", (.int r218.2.2.2.2.2.2.2.2.2.2))]), (dx232, HO.own a0), (p233, HO.lst (r218.2.1.map V.int)), (p234, HO.lst us235), (p237, HO.lst us238), (p240, HO.lst us241)])) (List.Perm.trans (List.perm_middle (l₁ := [(p243, HO.lst us244), (a0, HO.ins (He.ga K "Sweep") dx232 [("gaps", (.ref p233)), ("most", (.int r218.2.2.1)), ("coming", (.ref p234)), ("waiting", (.ref p237)), ("riding", (.ref p240)), ("arrived", (.ref p243)), ("tick", (.int r218.2.2.2.2.2.2.2.1)), ("bay", (.int r218.2.2.2.2.2.2.2.2.1)), ("step", (.int r218.2.2.2.2.2.2.2.2.2.1)), ("ahead", (.int r218.2.2.2.2.2.2.2.2.2.2))]), (dx232, HO.own a0), (p233, HO.lst (r218.2.1.map V.int)), (p234, HO.lst us235), (p237, HO.lst us238)])) (List.Perm.trans (List.perm_middle (l₁ := [(p240, HO.lst us241), (p243, HO.lst us244), (a0, HO.ins (He.ga K "Sweep") dx232 [("gaps", (.ref p233)), ("most", (.int r218.2.2.1)), ("coming", (.ref p234)), ("waiting", (.ref p237)), ("riding", (.ref p240)), ("arrived", (.ref p243)), ("tick", (.int r218.2.2.2.2.2.2.2.1)), ("bay", (.int r218.2.2.2.2.2.2.2.2.1)), ("step", (.int r218.2.2.2.2.2.2.2.2.2.1)), ("ahead", (.int r218.2.2.2.2.2.2.2.2.2.2))]), (dx232, HO.own a0), (p233, HO.lst (r218.2.1.map V.int)), (p234, HO.lst us235)])) (List.Perm.trans (List.perm_middle (l₁ := [(p237, HO.lst us238), (p240, HO.lst us241), (p243, HO.lst us244), (a0, HO.ins (He.ga K "Sweep") dx232 [("gaps", (.ref p233)), ("most", (.int r218.2.2.1)), ("coming", (.ref p234)), ("waiting", (.ref p237)), ("riding", (.ref p240)), ("arrived", (.ref p243)), ("tick", (.int r218.2.2.2.2.2.2.2.1)), ("bay", (.int r218.2.2.2.2.2.2.2.2.1)), ("step", (.int r218.2.2.2.2.2.2.2.2.2.1)), ("ahead", (.int r218.2.2.2.2.2.2.2.2.2.2))]), (dx232, HO.own a0), (p233, HO.lst (r218.2.1.map V.int))])) (List.Perm.trans (List.perm_middle (l₁ := [(p234, HO.lst us235), (p237, HO.lst us238), (p240, HO.lst us241), (p243, HO.lst us244), (a0, HO.ins (He.ga K "Sweep") dx232 [("gaps", (.ref p233)), ("most", (.int r218.2.2.1)), ("coming", (.ref p234)), ("waiting", (.ref p237)), ("riding", (.ref p240)), ("arrived", (.ref p243)), ("tick", (.int r218.2.2.2.2.2.2.2.1)), ("bay", (.int r218.2.2.2.2.2.2.2.2.1)), ("step", (.int r218.2.2.2.2.2.2.2.2.2.1)), ("ahead", (.int r218.2.2.2.2.2.2.2.2.2.2))]), (dx232, HO.own a0)])) (List.Perm.trans (List.perm_middle (l₁ := [(p233, HO.lst (r218.2.1.map V.int)), (p234, HO.lst us235), (p237, HO.lst us238), (p240, HO.lst us241), (p243, HO.lst us244), (a0, HO.ins (He.ga K "Sweep") dx232 [("gaps", (.ref p233)), ("most", (.int r218.2.2.1)), ("coming", (.ref p234)), ("waiting", (.ref p237)), ("riding", (.ref p240)), ("arrived", (.ref p243)), ("tick", (.int r218.2.2.2.2.2.2.2.1)), ("bay", (.int r218.2.2.2.2.2.2.2.2.1)), ("step", (.int r218.2.2.2.2.2.2.2.2.2.1)), ("ahead", (.int r218.2.2.2.2.2.2.2.2.2.2))])])) (List.perm_middle (l₁ := [(dx232, HO.own a0), (p233, HO.lst (r218.2.1.map V.int)), (p234, HO.lst us235), (p237, HO.lst us238), (p240, HO.lst us241), (p243, HO.lst us244)]))))))))
      obtain ⟨r248, k249, k115⟩ := bnd k115
      refine ⟨_, _, (cs), r218.2, r248, (ArgG.o (c := [(a0, HO.ins (He.ga K "Sweep") dx232 [("gaps", (.ref p233)), ("most", (.int r218.2.2.1)), ("coming", (.ref p234)), ("waiting", (.ref p237)), ("riding", (.ref p240)), ("arrived", (.ref p243)), ("tick", (.int r218.2.2.2.2.2.2.2.1)), ("bay", (.int r218.2.2.2.2.2.2.2.2.1)), ("step", (.int r218.2.2.2.2.2.2.2.2.2.1)), ("ahead", (.int r218.2.2.2.2.2.2.2.2.2.2))]), (dx232, HO.own a0), (p233, HO.lst (r218.2.1.map V.int)), (p234, HO.lst us235), (p237, HO.lst us238), (p240, HO.lst us241), (p243, HO.lst us244)]) ⟨_, rfl, ⟨_, _, _, _, _, _, _, _, _, _, rfl, hu236, hu239, hu242, hu245⟩⟩ ArgG.nil), hS247, k249, fun v250 c251 F252 H253 g254 hS255 r256 => ?_⟩
      obtain ⟨c257, c258, rfl, h259, h260⟩ := r256
      obtain ⟨rfl, hv261⟩ := h259
      obtain rfl := Dt.toNon hv261
      obtain ⟨dx262, p263, p264, us265, p267, us268, p270, us271, p273, us274, rfl, hu266, hu269, hu272, hu275⟩ := h260
      have hS276 : Sta F252 ((a0, .ins (He.ga K "Sweep") dx262 [("gaps", (.ref p263)), ("most", (.int r248.2.2.1)), ("coming", (.ref p264)), ("waiting", (.ref p267)), ("riding", (.ref p270)), ("arrived", (.ref p273)), ("tick", (.int r248.2.2.2.2.2.2.2.1)), ("bay", (.int r248.2.2.2.2.2.2.2.2.1)), ("step", (.int r248.2.2.2.2.2.2.2.2.2.1)), ("ahead", (.int r248.2.2.2.2.2.2.2.2.2.2))]) :: (dx262, .own a0) :: (p263, .lst (r248.2.1.map V.int)) :: (p264, .lst us265) :: (p267, .lst us268) :: (p270, .lst us271) :: (p273, .lst us274) :: cs) H253 := hS255
      refine o_drop ?_
      refine o_meth (ta := (tVar 0)) (l1 := []) hS276 (vp_var rfl) rfl ?_
      refine o_nil ?_
      have hS277 := Sta.perm hS276 (List.Perm.trans (List.perm_middle (l₁ := [(a0, HO.ins (He.ga K "Sweep") dx262 [("gaps", (.ref p263)), ("most", (.int r248.2.2.1)), ("coming", (.ref p264)), ("waiting", (.ref p267)), ("riding", (.ref p270)), ("arrived", (.ref p273)), ("tick", (.int r248.2.2.2.2.2.2.2.1)), ("bay", (.int r248.2.2.2.2.2.2.2.2.1)), ("step", (.int r248.2.2.2.2.2.2.2.2.2.1)), ("ahead", (.int r248.2.2.2.2.2.2.2.2.2.2))]), (dx262, HO.own a0), (p263, HO.lst (r248.2.1.map V.int)), (p264, HO.lst us265), (p267, HO.lst us268), (p270, HO.lst us271)])) (List.Perm.trans (List.perm_middle (l₁ := [(p273, HO.lst us274), (a0, HO.ins (He.ga K "Sweep") dx262 [("gaps", (.ref p263)), ("most", (.int r248.2.2.1)), ("coming", (.ref p264)), ("waiting", (.ref p267)), ("riding", (.ref p270)), ("arrived", (.ref p273)), ("tick", (.int r248.2.2.2.2.2.2.2.1)), ("bay", (.int r248.2.2.2.2.2.2.2.2.1)), ("step", (.int r248.2.2.2.2.2.2.2.2.2.1)), ("ahead", (.int r248.2.2.2.2.2.2.2.2.2.2))]), (dx262, HO.own a0), (p263, HO.lst (r248.2.1.map V.int)), (p264, HO.lst us265), (p267, HO.lst us268)])) (List.Perm.trans (List.perm_middle (l₁ := [(p270, HO.lst us271), (p273, HO.lst us274), (a0, HO.ins (He.ga K "Sweep") dx262 [("gaps", (.ref p263)), ("most", (.int r248.2.2.1)), ("coming", (.ref p264)), ("waiting", (.ref p267)), ("riding", (.ref p270)), ("arrived", (.ref p273)), ("tick", (.int r248.2.2.2.2.2.2.2.1)), ("bay", (.int r248.2.2.2.2.2.2.2.2.1)), ("step", (.int r248.2.2.2.2.2.2.2.2.2.1)), ("ahead", (.int r248.2.2.2.2.2.2.2.2.2.2))]), (dx262, HO.own a0), (p263, HO.lst (r248.2.1.map V.int)), (p264, HO.lst us265)])) (List.Perm.trans (List.perm_middle (l₁ := [(p267, HO.lst us268), (p270, HO.lst us271), (p273, HO.lst us274), (a0, HO.ins (He.ga K "Sweep") dx262 [("gaps", (.ref p263)), ("most", (.int r248.2.2.1)), ("coming", (.ref p264)), ("waiting", (.ref p267)), ("riding", (.ref p270)), ("arrived", (.ref p273)), ("tick", (.int r248.2.2.2.2.2.2.2.1)), ("bay", (.int r248.2.2.2.2.2.2.2.2.1)), ("step", (.int r248.2.2.2.2.2.2.2.2.2.1)), ("ahead", (.int r248.2.2.2.2.2.2.2.2.2.2))]), (dx262, HO.own a0), (p263, HO.lst (r248.2.1.map V.int))])) (List.Perm.trans (List.perm_middle (l₁ := [(p264, HO.lst us265), (p267, HO.lst us268), (p270, HO.lst us271), (p273, HO.lst us274), (a0, HO.ins (He.ga K "Sweep") dx262 [("gaps", (.ref p263)), ("most", (.int r248.2.2.1)), ("coming", (.ref p264)), ("waiting", (.ref p267)), ("riding", (.ref p270)), ("arrived", (.ref p273)), ("tick", (.int r248.2.2.2.2.2.2.2.1)), ("bay", (.int r248.2.2.2.2.2.2.2.2.1)), ("step", (.int r248.2.2.2.2.2.2.2.2.2.1)), ("ahead", (.int r248.2.2.2.2.2.2.2.2.2.2))]), (dx262, HO.own a0)])) (List.Perm.trans (List.perm_middle (l₁ := [(p263, HO.lst (r248.2.1.map V.int)), (p264, HO.lst us265), (p267, HO.lst us268), (p270, HO.lst us271), (p273, HO.lst us274), (a0, HO.ins (He.ga K "Sweep") dx262 [("gaps", (.ref p263)), ("most", (.int r248.2.2.1)), ("coming", (.ref p264)), ("waiting", (.ref p267)), ("riding", (.ref p270)), ("arrived", (.ref p273)), ("tick", (.int r248.2.2.2.2.2.2.2.1)), ("bay", (.int r248.2.2.2.2.2.2.2.2.1)), ("step", (.int r248.2.2.2.2.2.2.2.2.2.1)), ("ahead", (.int r248.2.2.2.2.2.2.2.2.2.2))])])) (List.perm_middle (l₁ := [(dx262, HO.own a0), (p263, HO.lst (r248.2.1.map V.int)), (p264, HO.lst us265), (p267, HO.lst us268), (p270, HO.lst us271), (p273, HO.lst us274)]))))))))
      obtain ⟨r278, k279, k115⟩ := bnd k115
      refine ⟨_, _, (cs), r248.2, r278, (ArgG.o (c := [(a0, HO.ins (He.ga K "Sweep") dx262 [("gaps", (.ref p263)), ("most", (.int r248.2.2.1)), ("coming", (.ref p264)), ("waiting", (.ref p267)), ("riding", (.ref p270)), ("arrived", (.ref p273)), ("tick", (.int r248.2.2.2.2.2.2.2.1)), ("bay", (.int r248.2.2.2.2.2.2.2.2.1)), ("step", (.int r248.2.2.2.2.2.2.2.2.2.1)), ("ahead", (.int r248.2.2.2.2.2.2.2.2.2.2))]), (dx262, HO.own a0), (p263, HO.lst (r248.2.1.map V.int)), (p264, HO.lst us265), (p267, HO.lst us268), (p270, HO.lst us271), (p273, HO.lst us274)]) ⟨_, rfl, ⟨_, _, _, _, _, _, _, _, _, _, rfl, hu266, hu269, hu272, hu275⟩⟩ ArgG.nil), hS277, k279, fun v280 c281 F282 H283 g284 hS285 r286 => ?_⟩
      obtain ⟨c287, c288, rfl, h289, h290⟩ := r286
      obtain ⟨rfl, hv291⟩ := h289
      obtain rfl := Dt.toNon hv291
      obtain ⟨dx292, p293, p294, us295, p297, us298, p300, us301, p303, us304, rfl, hu296, hu299, hu302, hu305⟩ := h290
      have hS306 : Sta F282 ((a0, .ins (He.ga K "Sweep") dx292 [("gaps", (.ref p293)), ("most", (.int r278.2.2.1)), ("coming", (.ref p294)), ("waiting", (.ref p297)), ("riding", (.ref p300)), ("arrived", (.ref p303)), ("tick", (.int r278.2.2.2.2.2.2.2.1)), ("bay", (.int r278.2.2.2.2.2.2.2.2.1)), ("step", (.int r278.2.2.2.2.2.2.2.2.2.1)), ("ahead", (.int r278.2.2.2.2.2.2.2.2.2.2))]) :: (dx292, .own a0) :: (p293, .lst (r278.2.1.map V.int)) :: (p294, .lst us295) :: (p297, .lst us298) :: (p300, .lst us301) :: (p303, .lst us304) :: cs) H283 := hS285
      obtain ⟨rfl, rfl⟩ := pr2 (sm k115)
      exact jn114 _ _ ⟨_, _, (Gr.tr g179 (Gr.tr g183 (Gr.tr g194 (Gr.tr g224 (Gr.tr g254 g284))))), hS306, _, [(a0, HO.ins (He.ga K "Sweep") dx292 [("gaps", (.ref p293)), ("most", (.int r278.2.2.1)), ("coming", (.ref p294)), ("waiting", (.ref p297)), ("riding", (.ref p300)), ("arrived", (.ref p303)), ("tick", (.int r278.2.2.2.2.2.2.2.1)), ("bay", (.int r278.2.2.2.2.2.2.2.2.1)), ("step", (.int r278.2.2.2.2.2.2.2.2.2.1)), ("ahead", (.int r278.2.2.2.2.2.2.2.2.2.2))]), (dx292, HO.own a0), (p293, HO.lst (r278.2.1.map V.int)), (p294, HO.lst us295), (p297, HO.lst us298), (p300, HO.lst us301), (p303, HO.lst us304)], rfl, rfl, ⟨_, _, _, _, _, _, _, _, _, _, rfl, hu296, hu299, hu302, hu305⟩⟩
    · rw [if_neg (bf hc)] at k115
      refine nxt ?_
      obtain ⟨rfl, rfl⟩ := pr2 (sm k115)
      exact jn114 _ _ ⟨_, _, g309, hS310, _, [(a0, HO.ins (He.ga K "Sweep") dx2 [("gaps", (.ref p3)), ("most", (.int self_1.2.1)), ("coming", (.ref p4)), ("waiting", (.ref p7)), ("riding", (.ref p10)), ("arrived", (.ref p13)), ("tick", (.int self_1.2.2.2.2.2.2.1)), ("bay", (.int self_1.2.2.2.2.2.2.2.1)), ("step", (.int self_1.2.2.2.2.2.2.2.2.1)), ("ahead", (.int self_1.2.2.2.2.2.2.2.2.2))]), (dx2, HO.own a0), (p3, HO.lst (self_1.1.map V.int)), (p4, HO.lst us102), (p7, HO.lst us103), (p10, HO.lst us11), (p13, HO.lst us14)], rfl, rfl, ⟨_, _, _, _, _, _, _, _, _, _, rfl, (Dts.gr (Gr.tr g108 g309) h104), (Dts.gr (Gr.tr g108 g309) h105), (Dts.gr (Gr.tr g93 (Gr.tr g108 g309)) hu12), (Dts.gr (Gr.tr g93 (Gr.tr g108 g309)) hu15)⟩⟩
  · rintro ⟨self_waiting_19, self_coming_20⟩ b25 F21 σ24 c23 g22 ⟨u27, u28, us29, us30, rfl, rfl, h31, h32⟩ m26
    unfold f_Sweep_next_tick_t16 at m26
    try dsimp only at m26
    obtain ⟨x36, k37, m26⟩ := bnd m26
    obtain ⟨x40, k41, m26⟩ := bnd m26
    obtain rfl := sm m26
    exact (t_lendX (l1 := [(a0, HO.ins (He.ga K "Sweep") dx2 [("gaps", (.ref p3)), ("most", (.int self_1.2.1)), ("coming", (.ref p4)), ("waiting", (.ref p7)), ("riding", (.ref p10)), ("arrived", (.ref p13)), ("tick", (.int self_1.2.2.2.2.2.2.1)), ("bay", (.int self_1.2.2.2.2.2.2.2.1)), ("step", (.int self_1.2.2.2.2.2.2.2.2.1)), ("ahead", (.int self_1.2.2.2.2.2.2.2.2.2))]), (dx2, HO.own a0), (p3, HO.lst (self_1.1.map V.int))]) (m1 := [(a0, HO.ins (He.ga K "Sweep") dx2 [("gaps", (.ref p3)), ("most", (.int self_1.2.1)), ("coming", (.ref p4)), ("waiting", (.ref p7)), ("riding", (.ref p10)), ("arrived", (.ref p13)), ("tick", (.int self_1.2.2.2.2.2.2.1)), ("bay", (.int self_1.2.2.2.2.2.2.2.1)), ("step", (.int self_1.2.2.2.2.2.2.2.2.1)), ("ahead", (.int self_1.2.2.2.2.2.2.2.2.2))]), (dx2, HO.own a0), (p3, HO.lst (self_1.1.map V.int))]) (fun F33 g34 hn35 => (t_andM (r := x40) (t_test (K := K) (d_neTM (EqE.l (EqE.t4 eqE_S eqE_I eqE_I eqE_I)) (d_vp (vp_fld (vp_var rfl) (List.Mem.head _) cl_Sweep na_Sweep_coming rfl) (lent_l hn35 (Dts.gr g34 h31))) (d_lst a_nil (Nat.le_of_ble_eq_true rfl)) k37)) (fun hc => by rw [if_pos hc] at k41; obtain ⟨x38, k39, k41⟩ := bnd k41; obtain rfl := sm k41; exact (t_test (K := K) (d_le (d_ixT (d_ix (e := (eT4 eS eI eI eI)) (d_vp (vp_fld (vp_var rfl) (List.Mem.head _) cl_Sweep na_Sweep_coming rfl) (lent_l hn35 (Dts.gr g34 h31))) d_int k39) d_int rfl) (d_vp (vp_fld (vp_var rfl) (List.Mem.head _) cl_Sweep na_Sweep_tick rfl) (.int _))))) (fun hc => by rw [if_neg (bf hc)] at k41; exact (sm k41).symm))))
  · rintro ⟨self_waiting_42, self_coming_43⟩ F44 F45 σ53 c54 ⟨u47, u48, us49, us50, rfl, rfl, h51, h52⟩ g46
    exact ⟨_, _, _, _, rfl, rfl, (Dts.gr g46 h51), (Dts.gr g46 h52)⟩
  · rintro ⟨self_waiting_55, self_coming_56⟩ b57 F58 σ59 c60 H61 N62 B63 g64 ⟨u70, u71, us72, us73, rfl, rfl, h74, h75⟩ hS65 m66 hN67 hB68 hR69
    unfold f_Sweep_next_tick_w16 at m66
    try dsimp only at m66
    obtain ⟨⟨x76, y77⟩, k78, m66⟩ := bnd m66; (try dsimp only at m66)
    obtain ⟨z80, k79, m66⟩ := bnd m66
    obtain ⟨u81, us82, hU, hx83, hu84⟩ := pop0_dts k78 h74
    subst hU
    refine s_appGV (K := K) (k1 := [(a0, .ins (He.ga K "Sweep") dx2 [("gaps", (.ref p3)), ("most", (.int self_1.2.1)), ("coming", (.ref p4)), ("waiting", (.ref p7)), ("riding", (.ref p10)), ("arrived", (.ref p13)), ("tick", (.int self_1.2.2.2.2.2.2.1)), ("bay", (.int self_1.2.2.2.2.2.2.2.1)), ("step", (.int self_1.2.2.2.2.2.2.2.2.1)), ("ahead", (.int self_1.2.2.2.2.2.2.2.2.2))]), (dx2, .own a0), (p3, .lst (self_1.1.map V.int)), (p4, .lst (u81 :: us82))]) (l1 := [(a0, .ins (He.ga K "Sweep") dx2 [("gaps", (.ref p3)), ("most", (.int self_1.2.1)), ("coming", (.ref p4)), ("waiting", (.ref p7)), ("riding", (.ref p10)), ("arrived", (.ref p13)), ("tick", (.int self_1.2.2.2.2.2.2.1)), ("bay", (.int self_1.2.2.2.2.2.2.2.1)), ("step", (.int self_1.2.2.2.2.2.2.2.2.1)), ("ahead", (.int self_1.2.2.2.2.2.2.2.2.2))]), (dx2, .own a0), (p3, .lst (self_1.1.map V.int)), (p4, .lst us82)]) (p := p7) (en := (eT4 eS eI eI eI)) (x := x76) hS65 h75 (vp_fld (vp_var rfl) (List.Mem.head _) cl_Sweep na_Sweep_waiting rfl) (d_pop0 (l1 := [(a0, .ins (He.ga K "Sweep") dx2 [("gaps", (.ref p3)), ("most", (.int self_1.2.1)), ("coming", (.ref p4)), ("waiting", (.ref p7)), ("riding", (.ref p10)), ("arrived", (.ref p13)), ("tick", (.int self_1.2.2.2.2.2.2.1)), ("bay", (.int self_1.2.2.2.2.2.2.2.1)), ("step", (.int self_1.2.2.2.2.2.2.2.2.1)), ("ahead", (.int self_1.2.2.2.2.2.2.2.2.2))]), (dx2, .own a0), (p3, .lst (self_1.1.map V.int))]) (vp_fld (vp_var rfl) (List.Mem.head _) cl_Sweep na_Sweep_coming rfl) hx83) k79 (fun us89 F85 H86 g87 hS88 hu90 => ?_)
    obtain rfl := sm m66
    exact hN67 _ _ _ _ _ rfl g87 hS88 ⟨_, _, _, _, rfl, rfl, (Dts.gr g87 hu84), hu90⟩
theorem sc_Sweep_next_tick : FnScope N_Sweep_next_tick ["self"] (defScope s_Sweep_next_tick) := ⟨rfl, rfl, rfl, by decide +kernel, rfl, by decide +kernel, by decide +kernel⟩
theorem ok_Sweep_next_tick {P : Program} {w : World} {K : PySem.W.Frag} {mg : Str → Option Value} {base : Heap} (hF : DfM K "Sweep" "next_tick" "Sweep.next_tick" s_Sweep_next_tick) (clM : Cls K (He.ga K "Sweep")) (meM : Meth K (He.ga K "Sweep") "next_tick" (He.ma K (He.ga K "Sweep") "next_tick")) (o_names_of : Ok P w K mg base 1 "names_of" ["orders"] (sp_names_of K)) (o_Sweep_leave : OkMe P w K mg base CX0 1 "Sweep" "leave" ["self"] (sp_Sweep_leave K)) (o_Sweep_take : OkMe P w K mg base CX0 2 "Sweep" "take" ["self"] (sp_Sweep_take K)) (o_Sweep_put : OkMe P w K mg base CX0 1 "Sweep" "put" ["self"] (sp_Sweep_put K)) (o_Sweep_turn : OkMe P w K mg base CX0 1 "Sweep" "turn" ["self"] (sp_Sweep_turn K)) (cl_Sweep : Cls K (He.ga K "Sweep")) (na_Sweep_ahead : NoAttr K (He.ga K "Sweep") "ahead") (na_Sweep_arrived : NoAttr K (He.ga K "Sweep") "arrived") (na_Sweep_bay : NoAttr K (He.ga K "Sweep") "bay") (na_Sweep_coming : NoAttr K (He.ga K "Sweep") "coming") (na_Sweep_riding : NoAttr K (He.ga K "Sweep") "riding") (na_Sweep_tick : NoAttr K (He.ga K "Sweep") "tick") (na_Sweep_waiting : NoAttr K (He.ga K "Sweep") "waiting") : OkMe P w K mg base CX0 3 "Sweep" "next_tick" ["self"] (sp_Sweep_next_tick K) := by
  obtain ⟨⟨_, G_names_of, bd_names_of, _⟩, kp_names_of, gm_names_of⟩ := o_names_of
  obtain ⟨⟨_, G_Sweep_leave, bd_Sweep_leave⟩, cl_Sweep_leave, me_Sweep_leave⟩ := o_Sweep_leave
  obtain ⟨⟨_, G_Sweep_take, bd_Sweep_take⟩, cl_Sweep_take, me_Sweep_take⟩ := o_Sweep_take
  obtain ⟨⟨_, G_Sweep_put, bd_Sweep_put⟩, cl_Sweep_put, me_Sweep_put⟩ := o_Sweep_put
  obtain ⟨⟨_, G_Sweep_turn, bd_Sweep_turn⟩, cl_Sweep_turn, me_Sweep_turn⟩ := o_Sweep_turn
  obtain ⟨fd, F⟩ := hF
  refine ⟨⟨fd, F.ok sc_Sweep_next_tick (fun vs H Q E h => ?_) (fun cdv A outer s H vs Q E hr h => ⟨t_Sweep_next_tick K, PSs.nox ?_, w_Sweep_next_tick cl_Sweep na_Sweep_ahead na_Sweep_arrived na_Sweep_bay na_Sweep_coming na_Sweep_riding na_Sweep_tick na_Sweep_waiting vs H Q E h⟩), F.bindsN fun _ _ _ _ _ _ us hl => match us, hl with | [_], _ => rfl⟩, clM, meM⟩
  · obtain ⟨F0, cc, cs, x, y, h, _⟩ := h; exact ArgG.len h
  · exact (pss_cons (ps_while PassesOwn.never (PW.pt (pw_and (pt_cmpR (op_neD hr.units) (pe_fld (pv 0) rfl) (pe_lst pa_nil) (nomark _)) (pw_and1 (pt_cmpR op_le (pe_ix ix_tup (pe_ix ix_list (pe_fld (pv 0) rfl) pe_int (fun _ _ => rfl)) pe_int (fun _ _ => rfl)) (pe_fld (pv 0) rfl) (nomark _))))) (pss_one (ps_expr (pe_bm PySem.F.plainAttrs_list PySem.F.slot_list_append PySem.F.type_list_append mt_append (pe_fld (pv 0) rfl) (pa_cons (pe_bm PySem.F.plainAttrs_list PySem.F.slot_list_pop PySem.F.type_list_pop mt_popAt (pe_fld (pv 0) rfl) (pa_cons pe_int pa_nil)) pa_nil))))) (pss_cons (ps_set (i := 1) sc_Sweep_next_tick.nd rfl (Or.inl rfl) pe_non) (pss_cons (ps_if (pt_cmpR op_eq (pe_fld (pv 0) rfl) pe_int (nomark _)) (pss_cons (ps_set (i := 1) sc_Sweep_next_tick.nd rfl (Or.inl rfl) (pe_fld (pv 0) rfl)) (pss_cons (ps_expr (pe_meth0 (pv 0) cl_Sweep_turn me_Sweep_turn G_Sweep_turn (hr.mono (by decide)) bd_Sweep_turn .nil pass0)) (pss_cons (ps_expr (pe_meth0 (pv 0) cl_Sweep_put me_Sweep_put G_Sweep_put (hr.mono (by decide)) bd_Sweep_put .nil pass0)) (pss_cons (ps_expr (pe_meth0 (pv 0) cl_Sweep_take me_Sweep_take G_Sweep_take (hr.mono (by decide)) bd_Sweep_take .nil pass0)) (pss_one (ps_expr (pe_meth0 (pv 0) cl_Sweep_leave me_Sweep_leave G_Sweep_leave (hr.mono (by decide)) bd_Sweep_leave .nil pass0))))))) pss_nil) (pss_cons (ps_set (i := 2) sc_Sweep_next_tick.nd rfl (Or.inl rfl) (pe_tup (pa_cons (pe_fld (pv 0) rfl) (pa_cons (pv 1) (pa_cons (pe_call G_names_of (hr.mono (by decide)) (by rfl) gm_names_of kp_names_of bd_names_of .nil pass0 (pa_cons (pe_fld (pv 0) rfl) pa_nil)) (pa_cons (pe_call G_names_of (hr.mono (by decide)) (by rfl) gm_names_of kp_names_of bd_names_of .nil pass0 (pa_cons (pe_fld (pv 0) rfl) pa_nil)) pa_nil)))))) (pss_cons (ps_fldaug (pv 0) pe_int in_add) (pss_cons (ps_fldaug (pv 0) pe_int in_sub) (pss_one (ps_ret (pv 2)))))))))
abbrev s_bad_part : Stmt := (top 42)
def f_bad_part : ((List Int) × (Str × Int × Int × Int) × Int) → Option (PyData × (List Int)) := fun (pool_here_1, order_2, last_3) => (letM order_2.1 fun name_here_10 => letM order_2.2.1 fun tick_12 => letM order_2.2.2.1 fun at_14 => letM order_2.2.2.2 fun to_16 => (((f_take (pool_here_1, (4 : Int)))).bind fun (x28, pool_here_30) => (((f_take (pool_here_30, (12 : Int)))).bind fun (x35, pool_here_37) => (if (decide (x28 = (0 : Int))) = true then (((atI ([(eS ("" : Str)), (eS ("A" : Str)), (eS ("abcdefghi" : Str)), (eS ("a1" : Str)), (eS ("a b" : Str)), (eS ("a." : Str)), (eN ()), (eI (5 : Int)), (eB true), ((eL eS) ([name_here_10] : (List Str))), ((eT1 eS) (name_here_10)), (eS ("a\n" : Str))] : (List PyData)) x35)).bind fun x46 => some (((eT4 eD eI eI eI) (x46, tick_12, at_14, to_16)), pool_here_37)) else (if (decide (x28 = (1 : Int))) = true then (letM ([(eI (-(1 : Int))), (eI ((1000000000 : Int) + (1 : Int))), (eB true), (eN ()), (eS ("1" : Str)), ((eL eI) ([tick_12] : (List Int))), ((eT1 eI) (tick_12)), (eI (1000000000000000000000000000000 : Int)), (eB false), (eI (-(1000000000000000000 : Int))), (eI ((1000000000 : Int) + (2 : Int))), (eS ("" : Str))] : (List PyData)) fun some_72 => (((atI some_72 x35)).bind fun x76 => some (((eT4 eS eD eI eI) (name_here_10, x76, at_14, to_16)), pool_here_37))) else (if (decide (x28 = (2 : Int))) = true then (((strM last_3)).bind fun x92 => ((atI ([(eI (-(1 : Int))), (eI (last_3 + (1 : Int))), (eB true), (eN ()), (eS ("0" : Str)), ((eL eI) ([(0 : Int)] : (List Int))), ((eT1 eI) ((0 : Int))), (eI (1000000000000000000000000000000 : Int)), (eB false), (eI (-(1000000000000000000 : Int))), (eI (last_3 + (2 : Int))), (eS x92)] : (List PyData)) x35)).bind fun x94 => (((f_take (pool_here_37, (2 : Int)))).bind fun (x102, pool_here_104) => ((atI ([(name_here_10, tick_12, x94, (eI to_16)), (name_here_10, tick_12, (eI at_14), x94)] : (List (Str × Int × PyData × PyData))) x102)).bind fun x105 => some (((eT4 eS eI eD eD) x105), pool_here_104))) else (letM ([((eT3 eS eI eI) (name_here_10, tick_12, at_14)), ((eL eD) ([(eS name_here_10), (eI tick_12), (eI at_14), (eI to_16)] : (List PyData))), ((eT5 eS eI eI eI eI) (name_here_10, tick_12, at_14, to_16, (0 : Int))), ((eT4 eS eI eI eI) (name_here_10, tick_12, at_14, at_14)), (eN ()), (eS name_here_10)] : (List PyData)) fun some_121 => (((catM some_121 ([((eT4 eS eI eI eI) (name_here_10, tick_12, to_16, to_16)), (PyData.dict []), (eT0 ()), ((eT4 eI eS eI eI) (tick_12, name_here_10, at_14, to_16)), ((eT2 eS eI) (name_here_10, at_14)), ((eT1 (eT4 eS eI eI eI)) (order_2))] : (List PyData)))).bind fun x125 => (((atI x125 x35)).bind fun x133 => some (x133, pool_here_37))))))))))
abbrev A_bad_part : ((List Int) × (Str × Int × Int × Int) × Int) → List Ar := fun x => [.c (x.1.map V.int), .d ((eT4 eS eI eI eI) x.2.1), .d (eI x.2.2)]
abbrev B_bad_part : (PyData × (List Int)) → PyData := fun y => eD y.1
abbrev C_bad_part : (PyData × (List Int)) → List (List V) := fun y => [y.2.map V.int]
abbrev N_bad_part : List Str := ["_law_pool_here", "_law_order", "_law_last", "_law_way", "_law_which", "_law_some", "_law_name_here", "_law_tick", "_law_at", "_law_to", "_law_bad"]
abbrev sp_bad_part (K : PySem.W.Frag) : Sp := spC K A_bad_part B_bad_part C_bad_part f_bad_part
def t_bad_part (K : PySem.W.Frag) : TS := (tSeq (tAsg (tVar 1) (gTup K 4 (gCons (gName 6) (gCons (gName 7) (gCons (gName 8) (gCons (gName 9) gNil)))))) (tSeq (tAsg (tCall (sp_take K) [] E0 (tCons (tVar 0) (tCons (tC (.int 4)) tNil))) (gName 3)) (tSeq (tAsg (tCall (sp_take K) [] E0 (tCons (tVar 0) (tCons (tC (.int 12)) tNil))) (gName 4)) (tSeq (tIfS (tTest (tOp rEq (tVar 3) (tC (.int 0)))) (tSeq (tAsg (tOp (rIxL K) (tLst (tCons (tC (.str "")) (tCons (tC (.str "A")) (tCons (tC (.str "abcdefghi")) (tCons (tC (.str "a1")) (tCons (tC (.str "a b")) (tCons (tC (.str "a.")) (tCons (tC .non) (tCons (tC (.int 5)) (tCons (tC (.bl true)) (tCons (tLst (tCons (tVar 6) tNil)) (tCons (tTup (tCons (tVar 6) tNil)) (tCons (tC (.str "a\n")) tNil))))))))))))) (tVar 4)) (gName 10)) (tRet (tTup (tCons (tVar 10) (tCons (tVar 7) (tCons (tVar 8) (tCons (tVar 9) tNil))))))) tNext) (tSeq (tIfS (tTest (tOp rEq (tVar 3) (tC (.int 1)))) (tSeq (tAsg (tLst (tCons (tUn (rU fun i => .int (-i)) (tC (.int 1))) (tCons (tOp (rI0 fun i j => .int (i + j)) (tOp (rI CPow fun i j => .int (i ^ j.toNat)) (tC (.int 10)) (tC (.int 9))) (tC (.int 1))) (tCons (tC (.bl true)) (tCons (tC .non) (tCons (tC (.str "1")) (tCons (tLst (tCons (tVar 7) tNil)) (tCons (tTup (tCons (tVar 7) tNil)) (tCons (tOp (rI CPow fun i j => .int (i ^ j.toNat)) (tC (.int 10)) (tC (.int 30))) (tCons (tC (.bl false)) (tCons (tUn (rU fun i => .int (-i)) (tOp (rI CPow fun i j => .int (i ^ j.toNat)) (tC (.int 10)) (tC (.int 18)))) (tCons (tOp (rI0 fun i j => .int (i + j)) (tOp (rI CPow fun i j => .int (i ^ j.toNat)) (tC (.int 10)) (tC (.int 9))) (tC (.int 2))) (tCons (tC (.str "")) tNil))))))))))))) (gName 5)) (tRet (tTup (tCons (tVar 6) (tCons (tOp (rIxL K) (tVar 5) (tVar 4)) (tCons (tVar 8) (tCons (tVar 9) tNil))))))) tNext) (tSeq (tIfS (tTest (tOp rEq (tVar 3) (tC (.int 2)))) (tSeq (tAsg (tOp (rIxL K) (tLst (tCons (tUn (rU fun i => .int (-i)) (tC (.int 1))) (tCons (tOp (rI0 fun i j => .int (i + j)) (tVar 2) (tC (.int 1))) (tCons (tC (.bl true)) (tCons (tC .non) (tCons (tC (.str "0")) (tCons (tLst (tCons (tC (.int 0)) tNil)) (tCons (tTup (tCons (tC (.int 0)) tNil)) (tCons (tOp (rI CPow fun i j => .int (i ^ j.toNat)) (tC (.int 10)) (tC (.int 30))) (tCons (tC (.bl false)) (tCons (tUn (rU fun i => .int (-i)) (tOp (rI CPow fun i j => .int (i ^ j.toNat)) (tC (.int 10)) (tC (.int 18)))) (tCons (tOp (rI0 fun i j => .int (i + j)) (tVar 2) (tC (.int 2))) (tCons (tCB rStrI (tCons (tVar 2) tNil)) tNil))))))))))))) (tVar 4)) (gName 10)) (tRet (tOp (rIxL K) (tLst (tCons (tTup (tCons (tVar 6) (tCons (tVar 7) (tCons (tVar 10) (tCons (tVar 9) tNil))))) (tCons (tTup (tCons (tVar 6) (tCons (tVar 7) (tCons (tVar 8) (tCons (tVar 10) tNil))))) tNil))) (tCall (sp_take K) [] E0 (tCons (tVar 0) (tCons (tC (.int 2)) tNil)))))) tNext) (tSeq (tAsg (tLst (tCons (tTup (tCons (tVar 6) (tCons (tVar 7) (tCons (tVar 8) tNil)))) (tCons (tLst (tCons (tVar 6) (tCons (tVar 7) (tCons (tVar 8) (tCons (tVar 9) tNil))))) (tCons (tTup (tCons (tVar 6) (tCons (tVar 7) (tCons (tVar 8) (tCons (tVar 9) (tCons (tC (.int 0)) tNil)))))) (tCons (tTup (tCons (tVar 6) (tCons (tVar 7) (tCons (tVar 8) (tCons (tVar 8) tNil))))) (tCons (tC .non) (tCons (tVar 6) tNil))))))) (gName 5)) (tSeq (tAsg (tOp (rCatS K) (tVar 5) (tLst (tCons (tTup (tCons (tVar 6) (tCons (tVar 7) (tCons (tVar 9) (tCons (tVar 9) tNil))))) (tCons tDNewK (tCons (tTup tNil) (tCons (tTup (tCons (tVar 7) (tCons (tVar 6) (tCons (tVar 8) (tCons (tVar 9) tNil))))) (tCons (tTup (tCons (tVar 6) (tCons (tVar 8) tNil))) (tCons (tTup (tCons (tVar 1) tNil)) tNil)))))))) (gName 5)) (tRet (tOp (rIxL K) (tVar 5) (tVar 4)))))))))))
theorem w_bad_part {K : PySem.W.Frag} (vs : List V) (H : Hp) (Q : VK) (E : XK) (h : sp_bad_part K vs H Q E) : t_bad_part K { nx := fun _ H' => Q .non H', rt := Q } (start N_bad_part vs) H := by
  obtain ⟨F0, cc, cs, ⟨pool_here_1, order_2, last_3⟩, y, h0, hS0, m, q⟩ := h
  obtain ⟨a0, _, _, rfl, rfl, h1⟩ := ArgR.hc h0
  obtain ⟨a1, _, rfl, ha1, h2⟩ := ArgR.hd h1
  obtain ⟨a2, _, rfl, ha2, h3⟩ := ArgR.hd h2
  obtain ⟨rfl, rfl⟩ := ArgR.no h3
  obtain rfl := Dt.toInt ha2
  unfold f_bad_part at m
  try dsimp only at m
  unfold t_bad_part
  refine go (σ' := [some (.ref a0), some a1, some (.int last_3), none, none, none, none, none, none, none, none]) rfl ?_
  refine s_asg (K := K) (d := (eT4 eS eI eI eI) order_2) hS0 (d_var rfl ha1) (fun v8 F4 H5 g6 hS7 hv9 => ?_)
  obtain ⟨name_here_10, k11, m⟩ := lt m
  obtain ⟨tick_12, k13, m⟩ := lt m
  obtain ⟨at_14, k15, m⟩ := lt m
  obtain ⟨to_16, k17, m⟩ := lt m
  obtain ⟨p18, w20, w21, w22, w23, rfl, hT19, hw24, hw25, hw26, hw27⟩ := u4 hv9
  rw [k11] at hw24
  obtain rfl := Dt.toStr hw24
  rw [k13] at hw25
  obtain rfl := Dt.toInt hw25
  rw [k15] at hw26
  obtain rfl := Dt.toInt hw26
  rw [k17] at hw27
  obtain rfl := Dt.toInt hw27
  refine tg (σ' := [some (.ref a0), some a1, some (.int last_3), none, none, none, some (.str name_here_10), some (.int tick_12), some (.int at_14), some (.int to_16), none]) (fun Q hq => ⟨p18, [_, _, _, _], rfl, gr_T hS7.fr hT19, rfl, _, _, rfl, _, _, rfl, _, _, rfl, _, _, rfl, rfl, hq⟩) ?_
  obtain ⟨⟨x28, pool_here_30⟩, k29, m⟩ := bnd m; (try dsimp only at m)
  refine s_setV (K := K) (d := eI x28) (i := 3) (σ' := [some (.ref a0), some a1, some (.int last_3), some (.int x28), none, none, some (.str name_here_10), some (.int tick_12), some (.int at_14), some (.int to_16), none]) (fun _ _ h => Dt.toInt h) hS7 (d_callX (A := A_take) (B := B_take) (C := C_take) (x := (pool_here_1, (4 : Int))) (y := (x28, pool_here_30)) (cs2 := ((a0, HO.lst (pool_here_30.map V.int)) :: cs)) (cc := [(a0, HO.lst (pool_here_1.map V.int))]) (cs' := (cs)) (r_c rfl (r_d d_int r_nil)) sb_rfl k29 sb_rfl) rfl (fun F31 H32 g33 hS34 => ?_)
  obtain ⟨⟨x35, pool_here_37⟩, k36, m⟩ := bnd m; (try dsimp only at m)
  refine s_setV (K := K) (d := eI x35) (i := 4) (σ' := [some (.ref a0), some a1, some (.int last_3), some (.int x28), some (.int x35), none, some (.str name_here_10), some (.int tick_12), some (.int at_14), some (.int to_16), none]) (fun _ _ h => Dt.toInt h) hS34 (d_callX (A := A_take) (B := B_take) (C := C_take) (x := (pool_here_30, (12 : Int))) (y := (x35, pool_here_37)) (cs2 := ((a0, HO.lst (pool_here_37.map V.int)) :: cs)) (cc := [(a0, HO.lst (pool_here_30.map V.int))]) (cs' := (cs)) (r_c rfl (r_d d_int r_nil)) sb_rfl k36 sb_rfl) rfl (fun F38 H39 g40 hS41 => ?_)
  refine s_if (b := (decide (x28 = (0 : Int)))) hS41 (t_test (K := K) (d_eqI (d_var rfl (.int _)) d_int)) (fun hc F42 H43 g44 hS45 => ?_) (fun hc F60 H61 g62 hS63 => ?_)
  · rw [if_pos hc] at m
    obtain ⟨x46, k47, m⟩ := bnd m
    refine s_set (K := K) (d := eD x46) (i := 10) (σ' := fun v52 => [some (.ref a0), some a1, some (.int last_3), some (.int x28), some (.int x35), none, some (.str name_here_10), some (.int tick_12), some (.int at_14), some (.int to_16), some v52]) hS45 (d_ix (e := eD) (d_lst (a_cons d_str (a_cons d_str (a_cons d_str (a_cons d_str (a_cons d_str (a_cons d_str (a_cons d_non (a_cons d_int (a_cons d_bl (a_cons (d_lst (a_cons (d_var rfl (.str _)) a_nil) (Nat.le_of_ble_eq_true rfl)) (a_cons (d_tup (a_cons (d_var rfl (.str _)) a_nil) (Nat.le_of_ble_eq_true rfl)) (a_cons d_str a_nil)))))))))))) (Nat.le_of_ble_eq_true rfl)) (d_var rfl (.int _)) k47) (fun _ => rfl) (fun v52 F48 H49 g50 hS51 hv53 => ?_)
    refine s_ret (K := K) (d := eD ((eT4 eD eI eI eI) (x46, tick_12, at_14, to_16))) hS51 (d_tup (a_cons (d_var rfl hv53) (a_cons (d_var rfl (.int _)) (a_cons (d_var rfl (.int _)) (a_cons (d_var rfl (.int _)) a_nil)))) (Nat.le_of_ble_eq_true rfl)) (fun v58 F54 H55 g56 hS57 hv59 => ?_)
    obtain rfl := sm m
    exact q _ _ _ (Gr.tr g6 (Gr.tr g33 (Gr.tr g40 (Gr.tr g44 (Gr.tr g50 g56))))) hS57 hv59
  · rw [if_neg (bf hc)] at m
    refine nxt ?_
    refine s_if (b := (decide (x28 = (1 : Int)))) hS63 (t_test (K := K) (d_eqI (d_var rfl (.int _)) d_int)) (fun hc F64 H65 g66 hS67 => ?_) (fun hc F84 H85 g86 hS87 => ?_)
    · rw [if_pos hc] at m
      obtain ⟨some_72, k73, m⟩ := lt m
      refine s_set (K := K) (d := (eL eD) some_72) (i := 5) (σ' := fun v74 => [some (.ref a0), some a1, some (.int last_3), some (.int x28), some (.int x35), some v74, some (.str name_here_10), some (.int tick_12), some (.int at_14), some (.int to_16), none]) hS67 (d_is (d_lst (a_cons (d_neg d_int) (a_cons (d_add (d_is (e := PyData.int 1000000000) (d_powC d_int d_int ⟨by decide, by decide, by decide⟩) (congrArg PyData.int (by decide))) d_int) (a_cons d_bl (a_cons d_non (a_cons d_str (a_cons (d_lst (a_cons (d_var rfl (.int _)) a_nil) (Nat.le_of_ble_eq_true rfl)) (a_cons (d_tup (a_cons (d_var rfl (.int _)) a_nil) (Nat.le_of_ble_eq_true rfl)) (a_cons (d_is (e := PyData.int 1000000000000000000000000000000) (d_powC d_int d_int ⟨by decide, by decide, by decide⟩) (congrArg PyData.int (by decide))) (a_cons d_bl (a_cons (d_neg (d_is (e := PyData.int 1000000000000000000) (d_powC d_int d_int ⟨by decide, by decide, by decide⟩) (congrArg PyData.int (by decide)))) (a_cons (d_add (d_is (e := PyData.int 1000000000) (d_powC d_int d_int ⟨by decide, by decide, by decide⟩) (congrArg PyData.int (by decide))) d_int) (a_cons d_str a_nil)))))))))))) (Nat.le_of_ble_eq_true rfl)) (congrArg (eL eD) k73)) (fun _ => rfl) (fun v74 F68 H69 g70 hS71 hv75 => ?_)
      obtain ⟨x76, k77, m⟩ := bnd m
      refine s_ret (K := K) (d := eD ((eT4 eS eD eI eI) (name_here_10, x76, at_14, to_16))) hS71 (d_tup (a_cons (d_var rfl (.str _)) (a_cons (d_ix (e := eD) (d_var rfl hv75) (d_var rfl (.int _)) k77) (a_cons (d_var rfl (.int _)) (a_cons (d_var rfl (.int _)) a_nil)))) (Nat.le_of_ble_eq_true rfl)) (fun v82 F78 H79 g80 hS81 hv83 => ?_)
      obtain rfl := sm m
      exact q _ _ _ (Gr.tr g6 (Gr.tr g33 (Gr.tr g40 (Gr.tr g62 (Gr.tr g66 (Gr.tr g70 g80)))))) hS81 hv83
    · rw [if_neg (bf hc)] at m
      refine nxt ?_
      refine s_if (b := (decide (x28 = (2 : Int)))) hS87 (t_test (K := K) (d_eqI (d_var rfl (.int _)) d_int)) (fun hc F88 H89 g90 hS91 => ?_) (fun hc F113 H114 g115 hS116 => ?_)
      · rw [if_pos hc] at m
        obtain ⟨x92, k93, m⟩ := bnd m
        obtain ⟨x94, k95, m⟩ := bnd m
        refine s_set (K := K) (d := eD x94) (i := 10) (σ' := fun v100 => [some (.ref a0), some a1, some (.int last_3), some (.int x28), some (.int x35), none, some (.str name_here_10), some (.int tick_12), some (.int at_14), some (.int to_16), some v100]) hS91 (d_ix (e := eD) (d_lst (a_cons (d_neg d_int) (a_cons (d_add (d_var rfl (.int _)) d_int) (a_cons d_bl (a_cons d_non (a_cons d_str (a_cons (d_lst (a_cons d_int a_nil) (Nat.le_of_ble_eq_true rfl)) (a_cons (d_tup (a_cons d_int a_nil) (Nat.le_of_ble_eq_true rfl)) (a_cons (d_is (e := PyData.int 1000000000000000000000000000000) (d_powC d_int d_int ⟨by decide, by decide, by decide⟩) (congrArg PyData.int (by decide))) (a_cons d_bl (a_cons (d_neg (d_is (e := PyData.int 1000000000000000000) (d_powC d_int d_int ⟨by decide, by decide, by decide⟩) (congrArg PyData.int (by decide)))) (a_cons (d_add (d_var rfl (.int _)) d_int) (a_cons (d_strI (a_cons (d_var rfl (.int _)) a_nil) k93) a_nil)))))))))))) (Nat.le_of_ble_eq_true rfl)) (d_var rfl (.int _)) k95) (fun _ => rfl) (fun v100 F96 H97 g98 hS99 hv101 => ?_)
        obtain ⟨⟨x102, pool_here_104⟩, k103, m⟩ := bnd m; (try dsimp only at m)
        obtain ⟨x105, k106, m⟩ := bnd m
        refine s_ret (K := K) (d := eD ((eT4 eS eI eD eD) x105)) hS99 (d_ix (e := (eT4 eS eI eD eD)) (d_lst (a_cons (d_tup (a_cons (d_var rfl (.str _)) (a_cons (d_var rfl (.int _)) (a_cons (d_var rfl hv101) (a_cons (d_var rfl (.int _)) a_nil)))) (Nat.le_of_ble_eq_true rfl)) (a_cons (d_tup (a_cons (d_var rfl (.str _)) (a_cons (d_var rfl (.int _)) (a_cons (d_var rfl (.int _)) (a_cons (d_var rfl hv101) a_nil)))) (Nat.le_of_ble_eq_true rfl)) a_nil)) (Nat.le_of_ble_eq_true rfl)) (d_callX (A := A_take) (B := B_take) (C := C_take) (x := (pool_here_37, (2 : Int))) (y := (x102, pool_here_104)) (cs2 := ((a0, HO.lst (pool_here_104.map V.int)) :: cs)) (cc := [(a0, HO.lst (pool_here_37.map V.int))]) (cs' := (cs)) (r_c rfl (r_d d_int r_nil)) sb_rfl k103 sb_rfl) k106) (fun v111 F107 H108 g109 hS110 hv112 => ?_)
        obtain rfl := sm m
        exact q _ _ _ (Gr.tr g6 (Gr.tr g33 (Gr.tr g40 (Gr.tr g62 (Gr.tr g86 (Gr.tr g90 (Gr.tr g98 g109))))))) hS110 hv112
      · rw [if_neg (bf hc)] at m
        refine nxt ?_
        obtain ⟨some_121, k122, m⟩ := lt m
        refine s_set (K := K) (d := (eL eD) some_121) (i := 5) (σ' := fun v123 => [some (.ref a0), some a1, some (.int last_3), some (.int x28), some (.int x35), some v123, some (.str name_here_10), some (.int tick_12), some (.int at_14), some (.int to_16), none]) hS116 (d_is (d_lst (a_cons (d_tup (a_cons (d_var rfl (.str _)) (a_cons (d_var rfl (.int _)) (a_cons (d_var rfl (.int _)) a_nil))) (Nat.le_of_ble_eq_true rfl)) (a_cons (d_lst (a_cons (d_var rfl (.str _)) (a_cons (d_var rfl (.int _)) (a_cons (d_var rfl (.int _)) (a_cons (d_var rfl (.int _)) a_nil)))) (Nat.le_of_ble_eq_true rfl)) (a_cons (d_tup (a_cons (d_var rfl (.str _)) (a_cons (d_var rfl (.int _)) (a_cons (d_var rfl (.int _)) (a_cons (d_var rfl (.int _)) (a_cons d_int a_nil))))) (Nat.le_of_ble_eq_true rfl)) (a_cons (d_tup (a_cons (d_var rfl (.str _)) (a_cons (d_var rfl (.int _)) (a_cons (d_var rfl (.int _)) (a_cons (d_var rfl (.int _)) a_nil)))) (Nat.le_of_ble_eq_true rfl)) (a_cons d_non (a_cons (d_var rfl (.str _)) a_nil)))))) (Nat.le_of_ble_eq_true rfl)) (congrArg (eL eD) k122)) (fun _ => rfl) (fun v123 F117 H118 g119 hS120 hv124 => ?_)
        obtain ⟨x125, k126, m⟩ := bnd m
        refine s_set (K := K) (d := (eL eD) x125) (i := 5) (σ' := fun v131 => [some (.ref a0), some a1, some (.int last_3), some (.int x28), some (.int x35), some v131, some (.str name_here_10), some (.int tick_12), some (.int at_14), some (.int to_16), none]) hS120 (EvC.dd (c_cat (en := eD) (d_var rfl hv124) (d_lst (a_cons (d_tup (a_cons (d_var rfl (.str _)) (a_cons (d_var rfl (.int _)) (a_cons (d_var rfl (.int _)) (a_cons (d_var rfl (.int _)) a_nil)))) (Nat.le_of_ble_eq_true rfl)) (a_cons d_dnew (a_cons (d_tup a_nil (Nat.le_of_ble_eq_true rfl)) (a_cons (d_tup (a_cons (d_var rfl (.int _)) (a_cons (d_var rfl (.str _)) (a_cons (d_var rfl (.int _)) (a_cons (d_var rfl (.int _)) a_nil)))) (Nat.le_of_ble_eq_true rfl)) (a_cons (d_tup (a_cons (d_var rfl (.str _)) (a_cons (d_var rfl (.int _)) a_nil)) (Nat.le_of_ble_eq_true rfl)) (a_cons (d_tup (a_cons (d_var rfl (Dt.gr (Gr.tr g6 (Gr.tr g33 (Gr.tr g40 (Gr.tr g62 (Gr.tr g86 (Gr.tr g115 g119)))))) ha1)) a_nil) (Nat.le_of_ble_eq_true rfl)) a_nil)))))) (Nat.le_of_ble_eq_true rfl)) k126)) (fun _ => rfl) (fun v131 F127 H128 g129 hS130 hv132 => ?_)
        obtain ⟨x133, k134, m⟩ := bnd m
        refine s_ret (K := K) (d := eD x133) hS130 (d_ix (e := eD) (d_var rfl hv132) (d_var rfl (.int _)) k134) (fun v139 F135 H136 g137 hS138 hv140 => ?_)
        obtain rfl := sm m
        exact q _ _ _ (Gr.tr g6 (Gr.tr g33 (Gr.tr g40 (Gr.tr g62 (Gr.tr g86 (Gr.tr g115 (Gr.tr g119 (Gr.tr g129 g137)))))))) hS138 hv140
theorem sc_bad_part : FnScope N_bad_part ["_law_pool_here", "_law_order", "_law_last"] (defScope s_bad_part) := ⟨rfl, rfl, rfl, by decide +kernel, rfl, by decide +kernel, by decide +kernel⟩
theorem ok_bad_part {P : Program} {w : World} {K : PySem.W.Frag} {mg : Str → Option Value} {base : Heap} (hF : Df K mg "_law_bad_part" s_bad_part) (m_str : mg "str" = none) (o_take : Ok P w K mg base 1 "_law_take" ["_law_pool_here", "_law_many"] (sp_take K)) : Ok P w K mg base 2 "_law_bad_part" ["_law_pool_here", "_law_order", "_law_last"] (sp_bad_part K) := by
  obtain ⟨⟨_, G_take, bd_take, _⟩, kp_take, gm_take⟩ := o_take
  obtain ⟨⟨fd, F⟩, gm⟩ := hF
  refine ⟨⟨fd, F.ok sc_bad_part (fun vs H Q E h => ?_) (fun cdv A outer s H vs Q E hr h => ⟨t_bad_part K, PSs.nox ?_, w_bad_part vs H Q E h⟩), F.bindsN fun _ _ _ _ _ _ us hl => match us, hl with | [_, _, _], _ => rfl, lk_of F⟩, F.kp, gm⟩
  · obtain ⟨F0, cc, cs, x, y, h, _⟩ := h; exact ArgR.len h
  · exact (pss_cons (ps_asg (pv 1) (pg_tup rfl (pgs_cons (pg_name (i := 6) sc_bad_part.nd rfl (Or.inl rfl)) (pgs_cons (pg_name (i := 7) sc_bad_part.nd rfl (Or.inl rfl)) (pgs_cons (pg_name (i := 8) sc_bad_part.nd rfl (Or.inl rfl)) (pgs_cons (pg_name (i := 9) sc_bad_part.nd rfl (Or.inl rfl)) pgs_nil)))))) (pss_cons (ps_set (i := 3) sc_bad_part.nd rfl (Or.inl rfl) (pe_call G_take (hr.mono (by decide)) (by rfl) gm_take kp_take bd_take .nil pass0 (pa_cons (pv 0) (pa_cons pe_int pa_nil)))) (pss_cons (ps_set (i := 4) sc_bad_part.nd rfl (Or.inl rfl) (pe_call G_take (hr.mono (by decide)) (by rfl) gm_take kp_take bd_take .nil pass0 (pa_cons (pv 0) (pa_cons pe_int pa_nil)))) (pss_cons (ps_if (pt_cmpR op_eq (pv 3) pe_int (nomark _)) (pss_cons (ps_set (i := 10) sc_bad_part.nd rfl (Or.inl rfl) (pe_ix ix_list (pe_lst (pa_cons pe_str (pa_cons pe_str (pa_cons pe_str (pa_cons pe_str (pa_cons pe_str (pa_cons pe_str (pa_cons pe_non (pa_cons pe_int (pa_cons pe_bl (pa_cons (pe_lst (pa_cons (pv 6) pa_nil)) (pa_cons (pe_tup (pa_cons (pv 6) pa_nil)) (pa_cons pe_str pa_nil))))))))))))) (pv 4) (fun _ _ => rfl))) (pss_one (ps_ret (pe_tup (pa_cons (pv 10) (pa_cons (pv 7) (pa_cons (pv 8) (pa_cons (pv 9) pa_nil)))))))) pss_nil) (pss_cons (ps_if (pt_cmpR op_eq (pv 3) pe_int (nomark _)) (pss_cons (ps_set (i := 5) sc_bad_part.nd rfl (Or.inl rfl) (pe_lst (pa_cons (pe_un un_neg pe_int) (pa_cons (pe_op op_add (pe_op op_pow pe_int pe_int) pe_int) (pa_cons pe_bl (pa_cons pe_non (pa_cons pe_str (pa_cons (pe_lst (pa_cons (pv 7) pa_nil)) (pa_cons (pe_tup (pa_cons (pv 7) pa_nil)) (pa_cons (pe_op op_pow pe_int pe_int) (pa_cons pe_bl (pa_cons (pe_un un_neg (pe_op op_pow pe_int pe_int)) (pa_cons (pe_op op_add (pe_op op_pow pe_int pe_int) pe_int) (pa_cons pe_str pa_nil)))))))))))))) (pss_one (ps_ret (pe_tup (pa_cons (pv 6) (pa_cons (pe_ix ix_list (pv 5) (pv 4) (fun _ _ => rfl)) (pa_cons (pv 8) (pa_cons (pv 9) pa_nil)))))))) pss_nil) (pss_cons (ps_if (pt_cmpR op_eq (pv 3) pe_int (nomark _)) (pss_cons (ps_set (i := 10) sc_bad_part.nd rfl (Or.inl rfl) (pe_ix ix_list (pe_lst (pa_cons (pe_un un_neg pe_int) (pa_cons (pe_op op_add (pv 2) pe_int) (pa_cons pe_bl (pa_cons pe_non (pa_cons pe_str (pa_cons (pe_lst (pa_cons pe_int pa_nil)) (pa_cons (pe_tup (pa_cons pe_int pa_nil)) (pa_cons (pe_op op_pow pe_int pe_int) (pa_cons pe_bl (pa_cons (pe_un un_neg (pe_op op_pow pe_int pe_int)) (pa_cons (pe_op op_add (pv 2) pe_int) (pa_cons (pe_callTy cr_str (by rfl) m_str (by decide +kernel) (pa_cons (pv 2) pa_nil)) pa_nil))))))))))))) (pv 4) (fun _ _ => rfl))) (pss_one (ps_ret (pe_ix ix_list (pe_lst (pa_cons (pe_tup (pa_cons (pv 6) (pa_cons (pv 7) (pa_cons (pv 10) (pa_cons (pv 9) pa_nil))))) (pa_cons (pe_tup (pa_cons (pv 6) (pa_cons (pv 7) (pa_cons (pv 8) (pa_cons (pv 10) pa_nil))))) pa_nil))) (pe_call G_take (hr.mono (by decide)) (by rfl) gm_take kp_take bd_take .nil pass0 (pa_cons (pv 0) (pa_cons pe_int pa_nil))) (fun _ _ => rfl))))) pss_nil) (pss_cons (ps_set (i := 5) sc_bad_part.nd rfl (Or.inl rfl) (pe_lst (pa_cons (pe_tup (pa_cons (pv 6) (pa_cons (pv 7) (pa_cons (pv 8) pa_nil)))) (pa_cons (pe_lst (pa_cons (pv 6) (pa_cons (pv 7) (pa_cons (pv 8) (pa_cons (pv 9) pa_nil))))) (pa_cons (pe_tup (pa_cons (pv 6) (pa_cons (pv 7) (pa_cons (pv 8) (pa_cons (pv 9) (pa_cons pe_int pa_nil)))))) (pa_cons (pe_tup (pa_cons (pv 6) (pa_cons (pv 7) (pa_cons (pv 8) (pa_cons (pv 8) pa_nil))))) (pa_cons pe_non (pa_cons (pv 6) pa_nil)))))))) (pss_cons (ps_set (i := 5) sc_bad_part.nd rfl (Or.inl rfl) (pe_op op_catS (pv 5) (pe_lst (pa_cons (pe_tup (pa_cons (pv 6) (pa_cons (pv 7) (pa_cons (pv 9) (pa_cons (pv 9) pa_nil))))) (pa_cons pe_dnewK (pa_cons (pe_tup pa_nil) (pa_cons (pe_tup (pa_cons (pv 7) (pa_cons (pv 6) (pa_cons (pv 8) (pa_cons (pv 9) pa_nil))))) (pa_cons (pe_tup (pa_cons (pv 6) (pa_cons (pv 8) pa_nil))) (pa_cons (pe_tup (pa_cons (pv 1) pa_nil)) pa_nil))))))))) (pss_one (ps_ret (pe_ix ix_list (pv 5) (pv 4) (fun _ _ => rfl))))))))))))
abbrev s_bad_orders : Stmt := (top 43)
def f_bad_orders : ((List Int) × (List (Str × Int × Int × Int)) × Int × Int) → Option (PyData × (List Int)) := fun (pool_here_1, orders_here_2, last_3, salt_4) => (((f_take (pool_here_1, (4 : Int)))).bind fun (x5, pool_here_7) => (((f_take (pool_here_7, (12 : Int)))).bind fun (x12, pool_here_14) => (((eqTM (eL (eT4 eS eI eI eI)) orders_here_2 ([] : (List (Str × Int × Int × Int))))).bind fun x19 => (if ((x19) || (decide (x5 = (0 : Int)))) = true then (((catM ((fun xs => List.map (fun x => some ((fun x => x) x)) xs) orders_here_2) ([(none : Option (Str × Int × Int × Int))] : (List (Option (Str × Int × Int × Int)))))).bind fun x25 => ((catM ((fun xs => List.map (eT4 eS eI eI eI) xs) orders_here_2) ([((eT1 eS) (("b" : Str)))] : (List PyData)))).bind fun x27 => letM ([(eN ()), (eT0 ()), (PyData.dict []), (eS ("orders" : Str)), (eI (5 : Int)), (PyData.tuple (orders_here_2.map (eT4 eS eI eI eI))), ((eL (eO (eT4 eS eI eI eI))) x25), ((eL eD) x27), ((eL (eL (eT4 eS eI eI eI))) ([orders_here_2] : (List (List (Str × Int × Int × Int))))), (eB true)] : (List PyData)) fun some_33 => (((rngM (0 : Int) (61 : Int))).bind fun x38 => ((lcC (fun k_40 => (((f_name (k_40, salt_4))).bind fun x51 => some (some (x51, (5 : Int), (0 : Int), (1 : Int))))) x38)).bind fun x53 => ((appM some_33 ((eL (eT4 eS eI eI eI)) x53))).bind fun some_55 => (((catM ((fun xs => List.map (eT4 eS eI eI eI) xs) orders_here_2) ([(eS ("order" : Str))] : (List PyData)))).bind fun x63 => ((appM some_55 ((eL eD) x63))).bind fun some_65 => (((atI some_65 x12)).bind fun x74 => some (x74, pool_here_14))))) else (((f_take (pool_here_14, (orders_here_2.length : Int)))).bind fun (x86, pool_here_88) => (((atI orders_here_2 x86)).bind fun x93 => letM x93.1 fun name_here_101 => letM x93.2.1 fun tick_103 => (if ((decide (x5 = (1 : Int))) && (decide (x12 < (4 : Int)))) = true then (((catM (cutL orders_here_2 none (some x86)) ([(name_here_101, tick_103, (0 : Int), (1 : Int))] : (List (Str × Int × Int × Int))))).bind fun x119 => ((catM x119 (cutL orders_here_2 (some x86) none))).bind fun x121 => some (((eL (eT4 eS eI eI eI)) x121), pool_here_88)) else (if ((decide (x5 = (1 : Int))) && (decide (x12 < (8 : Int)))) = true then (((atI orders_here_2 (-(1 : Int)))).bind fun x137 => ((catM orders_here_2 ([(name_here_101, x137.2.1, (1 : Int), (0 : Int))] : (List (Str × Int × Int × Int))))).bind fun x139 => some (((eL (eT4 eS eI eI eI)) x139), pool_here_88)) else (if (decide (x5 = (1 : Int))) = true then (((f_name ((60 : Int), salt_4))).bind fun x155 => ((catM (cutL orders_here_2 none (some x86)) ([(x155, (tick_103 + (1 : Int)), (0 : Int), (1 : Int))] : (List (Str × Int × Int × Int))))).bind fun x157 => ((catM x157 (cutL orders_here_2 (some x86) none))).bind fun x159 => some (((eL (eT4 eS eI eI eI)) x159), pool_here_88)) else (((atI orders_here_2 x86)).bind fun x171 => ((f_bad_part (pool_here_88, x171, last_3))).bind fun (x173, pool_here_175) => ((catM ((fun xs => List.map (eT4 eS eI eI eI) xs) (cutL orders_here_2 none (some x86))) ([x173] : (List PyData)))).bind fun x176 => ((catM x176 ((fun xs => List.map (eT4 eS eI eI eI) xs) (cutL orders_here_2 (some (x86 + (1 : Int))) none)))).bind fun x178 => some (((eL eD) x178), pool_here_175)))))))))))
abbrev A_bad_orders : ((List Int) × (List (Str × Int × Int × Int)) × Int × Int) → List Ar := fun x => [.c (x.1.map V.int), .d ((eL (eT4 eS eI eI eI)) x.2.1), .d (eI x.2.2.1), .d (eI x.2.2.2)]
abbrev B_bad_orders : (PyData × (List Int)) → PyData := fun y => eD y.1
abbrev C_bad_orders : (PyData × (List Int)) → List (List V) := fun y => [y.2.map V.int]
abbrev N_bad_orders : List Str := ["_law_pool_here", "_law_orders_here", "_law_last", "_law_salt", "_law_way", "_law_which", "_law_at", "_law_some", "_law_name_here", "_law_tick", "_law_one", "_law_other", "_law_k"]
abbrev sp_bad_orders (K : PySem.W.Frag) : Sp := spC K A_bad_orders B_bad_orders C_bad_orders f_bad_orders
def t_bad_orders (K : PySem.W.Frag) : TS := (tSeq (tAsg (tCall (sp_take K) [] E0 (tCons (tVar 0) (tCons (tC (.int 4)) tNil))) (gName 4)) (tSeq (tAsg (tCall (sp_take K) [] E0 (tCons (tVar 0) (tCons (tC (.int 12)) tNil))) (gName 5)) (tSeq (tIfS (tOr (tTest (tOp (rEqD K) (tVar 1) (tLst tNil))) (tTest (tOp rEq (tVar 4) (tC (.int 0))))) (tSeq (tAsg (tLst (tCons (tC .non) (tCons (tTup tNil) (tCons tDNewK (tCons (tC (.str "orders")) (tCons (tC (.int 5)) (tCons (tCB (rTupleL K) (tCons (tVar 1) tNil)) (tCons (tOp (rCatS K) (tVar 1) (tLst (tCons (tC .non) tNil))) (tCons (tOp (rCatS K) (tVar 1) (tLst (tCons (tTup (tCons (tC (.str "b")) tNil)) tNil))) (tCons (tLst (tCons (tVar 1) tNil)) (tCons (tC (.bl true)) tNil))))))))))) (gName 7)) (tSeq (tDrop (tBM K "list" rAppend (tVar 7) (tCons (tLc (iRng1 (tCons (tC (.int 61)) tNil)) (gName 12) tYes (tTup (tCons (tCall (sp_name K) [] E0 (tCons (tVar 12) (tCons (tVar 3) tNil))) (tCons (tC (.int 5)) (tCons (tC (.int 0)) (tCons (tC (.int 1)) tNil))))) [12]) tNil))) (tSeq (tDrop (tBM K "list" rAppend (tVar 7) (tCons (tOp (rCatS K) (tVar 1) (tLst (tCons (tC (.str "order")) tNil))) tNil))) (tRet (tOp (rIxL K) (tVar 7) (tVar 5)))))) tNext) (tSeq (tAsg (tCall (sp_take K) [] E0 (tCons (tVar 0) (tCons (tCB (rLenL K) (tCons (tVar 1) tNil)) tNil))) (gName 6)) (tSeq (tAsg (tOp (rIxL K) (tVar 1) (tVar 6)) (gTup K 4 (gCons (gName 8) (gCons (gName 9) (gCons (gName 10) (gCons (gName 11) gNil)))))) (tSeq (tIfS (tAnd (tTest (tOp rEq (tVar 4) (tC (.int 1)))) (tTest (tOp (rI0 fun i j => .bl (decide (i < j))) (tVar 5) (tC (.int 4))))) (tRet (tOp (rCatS K) (tOp (rCatS K) (tSl (rSlL K) (tVar 1) tNoPart (tPart (tVar 6))) (tLst (tCons (tTup (tCons (tVar 8) (tCons (tVar 9) (tCons (tC (.int 0)) (tCons (tC (.int 1)) tNil))))) tNil))) (tSl (rSlL K) (tVar 1) (tPart (tVar 6)) tNoPart))) tNext) (tSeq (tIfS (tAnd (tTest (tOp rEq (tVar 4) (tC (.int 1)))) (tTest (tOp (rI0 fun i j => .bl (decide (i < j))) (tVar 5) (tC (.int 8))))) (tRet (tOp (rCatS K) (tVar 1) (tLst (tCons (tTup (tCons (tVar 8) (tCons (tOp (rIxT K) (tOp (rIxL K) (tVar 1) (tUn (rU fun i => .int (-i)) (tC (.int 1)))) (tC (.int 1))) (tCons (tC (.int 1)) (tCons (tC (.int 0)) tNil))))) tNil)))) tNext) (tSeq (tIfS (tTest (tOp rEq (tVar 4) (tC (.int 1)))) (tRet (tOp (rCatS K) (tOp (rCatS K) (tSl (rSlL K) (tVar 1) tNoPart (tPart (tVar 6))) (tLst (tCons (tTup (tCons (tCall (sp_name K) [] E0 (tCons (tC (.int 60)) (tCons (tVar 3) tNil))) (tCons (tOp (rI0 fun i j => .int (i + j)) (tVar 9) (tC (.int 1))) (tCons (tC (.int 0)) (tCons (tC (.int 1)) tNil))))) tNil))) (tSl (rSlL K) (tVar 1) (tPart (tVar 6)) tNoPart))) tNext) (tRet (tOp (rCatS K) (tOp (rCatS K) (tSl (rSlL K) (tVar 1) tNoPart (tPart (tVar 6))) (tLst (tCons (tCall (sp_bad_part K) [] E0 (tCons (tVar 0) (tCons (tOp (rIxL K) (tVar 1) (tVar 6)) (tCons (tVar 2) tNil)))) tNil))) (tSl (rSlL K) (tVar 1) (tPart (tOp (rI0 fun i j => .int (i + j)) (tVar 6) (tC (.int 1)))) tNoPart)))))))))))
theorem w_bad_orders {K : PySem.W.Frag} (vs : List V) (H : Hp) (Q : VK) (E : XK) (h : sp_bad_orders K vs H Q E) : t_bad_orders K { nx := fun _ H' => Q .non H', rt := Q } (start N_bad_orders vs) H := by
  obtain ⟨F0, cc, cs, ⟨pool_here_1, orders_here_2, last_3, salt_4⟩, y, h0, hS0, m, q⟩ := h
  obtain ⟨a0, _, _, rfl, rfl, h1⟩ := ArgR.hc h0
  obtain ⟨a1, _, rfl, ha1, h2⟩ := ArgR.hd h1
  obtain ⟨a2, _, rfl, ha2, h3⟩ := ArgR.hd h2
  obtain ⟨a3, _, rfl, ha3, h4⟩ := ArgR.hd h3
  obtain ⟨rfl, rfl⟩ := ArgR.no h4
  obtain rfl := Dt.toInt ha2
  obtain rfl := Dt.toInt ha3
  unfold f_bad_orders at m
  try dsimp only at m
  unfold t_bad_orders
  refine go (σ' := [some (.ref a0), some a1, some (.int last_3), some (.int salt_4), none, none, none, none, none, none, none, none, none]) rfl ?_
  obtain ⟨⟨x5, pool_here_7⟩, k6, m⟩ := bnd m; (try dsimp only at m)
  refine s_setV (K := K) (d := eI x5) (i := 4) (σ' := [some (.ref a0), some a1, some (.int last_3), some (.int salt_4), some (.int x5), none, none, none, none, none, none, none, none]) (fun _ _ h => Dt.toInt h) hS0 (d_callX (A := A_take) (B := B_take) (C := C_take) (x := (pool_here_1, (4 : Int))) (y := (x5, pool_here_7)) (cs2 := ((a0, HO.lst (pool_here_7.map V.int)) :: cs)) (cc := [(a0, HO.lst (pool_here_1.map V.int))]) (cs' := (cs)) (r_c rfl (r_d d_int r_nil)) sb_rfl k6 sb_rfl) rfl (fun F8 H9 g10 hS11 => ?_)
  obtain ⟨⟨x12, pool_here_14⟩, k13, m⟩ := bnd m; (try dsimp only at m)
  refine s_setV (K := K) (d := eI x12) (i := 5) (σ' := [some (.ref a0), some a1, some (.int last_3), some (.int salt_4), some (.int x5), some (.int x12), none, none, none, none, none, none, none]) (fun _ _ h => Dt.toInt h) hS11 (d_callX (A := A_take) (B := B_take) (C := C_take) (x := (pool_here_7, (12 : Int))) (y := (x12, pool_here_14)) (cs2 := ((a0, HO.lst (pool_here_14.map V.int)) :: cs)) (cc := [(a0, HO.lst (pool_here_7.map V.int))]) (cs' := (cs)) (r_c rfl (r_d d_int r_nil)) sb_rfl k13 sb_rfl) rfl (fun F15 H16 g17 hS18 => ?_)
  obtain ⟨x19, k20, m⟩ := bnd m
  refine s_if (b := ((x19) || (decide (x5 = (0 : Int))))) hS18 (t_orP (t_test (K := K) (d_eqTM (EqE.l (EqE.t4 eqE_S eqE_I eqE_I eqE_I)) (d_var rfl (Dt.gr (Gr.tr g10 g17) ha1)) (d_lst a_nil (Nat.le_of_ble_eq_true rfl)) k20)) (fun hc => (t_test (K := K) (d_eqI (d_var rfl (.int _)) d_int)))) (fun hc F21 H22 g23 hS24 => ?_) (fun hc F82 H83 g84 hS85 => ?_)
  · rw [if_pos hc] at m
    obtain ⟨x25, k26, m⟩ := bnd m
    obtain ⟨x27, k28, m⟩ := bnd m
    obtain ⟨some_33, k34, m⟩ := lt m
    refine s_setC (K := K) (ds := some_33.map eD) (i := 7) (σ' := fun p35 => [some (.ref a0), some a1, some (.int last_3), some (.int salt_4), some (.int x5), some (.int x12), none, some (.ref p35), none, none, none, none, none]) hS24 (c_is (c_lst (a_cons d_non (a_cons (d_tup a_nil (Nat.le_of_ble_eq_true rfl)) (a_cons d_dnew (a_cons d_str (a_cons d_int (a_cons (d_tupleL (a_cons (d_var rfl (Dt.gr (Gr.tr g10 (Gr.tr g17 g23)) ha1)) a_nil)) (a_cons (EvC.dd (c_cat (en := (eO (eT4 eS eI eI eI))) (d_is (d_var rfl (Dt.gr (Gr.tr g10 (Gr.tr g17 g23)) ha1)) ((cv_L (cv_some cv_id)) _)) (d_lst (a_cons d_non a_nil) (Nat.le_of_ble_eq_true rfl)) k26)) (a_cons (EvC.dd (c_cat (en := eD) (d_is (d_var rfl (Dt.gr (Gr.tr g10 (Gr.tr g17 g23)) ha1)) ((cv_L cv_D) _)) (d_lst (a_cons (d_tup (a_cons d_str a_nil) (Nat.le_of_ble_eq_true rfl)) a_nil) (Nat.le_of_ble_eq_true rfl)) k28)) (a_cons (d_lst (a_cons (d_var rfl (Dt.gr (Gr.tr g10 (Gr.tr g17 g23)) ha1)) a_nil) (Nat.le_of_ble_eq_true rfl)) (a_cons d_bl a_nil)))))))))) (Nat.le_of_ble_eq_true rfl)) (congrArg (List.map eD) k34)) (fun _ => rfl) (fun p35 us36 F29 H30 g31 hS32 hu37 => ?_)
    obtain ⟨x38, k39, m⟩ := bnd m
    obtain ⟨x53, k54, m⟩ := bnd m
    obtain ⟨some_55, k56, m⟩ := bnd m
    refine s_appGV (K := K) (k1 := []) (x := ((eL (eT4 eS eI eI eI)) x53)) (l1 := []) (p := p35) (en := eD) hS32 hu37 (vp_var rfl) (EvC.dd (c_lcC (K := K) (f := (fun k_40 => (((f_name (k_40, salt_4))).bind fun x51 => some (some (x51, (5 : Int), (0 : Int), (1 : Int)))))) (em := (eT4 eS eI eI eI)) (i_rng1 (a_cons d_int a_nil) k39) k54 (fun k_40 o47 v48 F41 p42 us43 g44 hv45 ho46 => by obtain rfl := Dt.toInt hv45; obtain ⟨x51, k52, ho46⟩ := bnd ho46; obtain rfl := sm ho46; exact ⟨[some (.ref a0), some a1, some (.int last_3), some (.int salt_4), some (.int x5), some (.int x12), none, some (.ref p35), none, none, none, none, some (.int k_40)], fun H50 Q hS49 hq => (fun Q hq => hq) Q hq, rfl, t_yes, fun y hy => by obtain rfl := sm hy; exact (d_tup (a_cons (d_call (A := A_name) (B := eS) (x := (k_40, salt_4)) (a_cons (d_var rfl (.int _)) (a_cons (d_var rfl (.int _)) a_nil)) k52) (a_cons d_int (a_cons d_int (a_cons d_int a_nil)))) (Nat.le_of_ble_eq_true rfl))⟩))) k56 (fun us61 F57 H58 g59 hS60 hu62 => ?_)
    obtain ⟨x63, k64, m⟩ := bnd m
    obtain ⟨some_65, k66, m⟩ := bnd m
    refine s_appGV (K := K) (k1 := []) (x := ((eL eD) x63)) (l1 := []) (p := p35) (en := eD) hS60 hu62 (vp_var rfl) (EvC.dd (c_cat (en := eD) (d_is (d_var rfl (Dt.gr (Gr.tr g10 (Gr.tr g17 (Gr.tr g23 (Gr.tr g31 g59)))) ha1)) ((cv_L cv_D) _)) (d_lst (a_cons d_str a_nil) (Nat.le_of_ble_eq_true rfl)) k64)) k66 (fun us71 F67 H68 g69 hS70 hu72 => ?_)
    have hS73 := Sta.frozeAt (l1 := []) hS70
    obtain ⟨x74, k75, m⟩ := bnd m
    refine s_ret (K := K) (d := eD x74) hS73 (d_ix (e := eD) (d_var rfl (Dt.lst (.inl (.inl upd_same)) (Dts.gr (Gr.new (Sta.freeAt (l1 := []) hS70)) hu72))) (d_var rfl (.int _)) k75) (fun v80 F76 H77 g78 hS79 hv81 => ?_)
    obtain rfl := sm m
    exact q _ _ _ (Gr.tr g10 (Gr.tr g17 (Gr.tr g23 (Gr.tr g31 (Gr.tr g59 (Gr.tr g69 (Gr.tr (Gr.new (Sta.freeAt (l1 := []) hS70)) g78))))))) hS79 hv81
  · rw [if_neg (bf hc)] at m
    refine nxt ?_
    obtain ⟨⟨x86, pool_here_88⟩, k87, m⟩ := bnd m; (try dsimp only at m)
    refine s_setV (K := K) (d := eI x86) (i := 6) (σ' := [some (.ref a0), some a1, some (.int last_3), some (.int salt_4), some (.int x5), some (.int x12), some (.int x86), none, none, none, none, none, none]) (fun _ _ h => Dt.toInt h) hS85 (d_callX (A := A_take) (B := B_take) (C := C_take) (x := (pool_here_14, (orders_here_2.length : Int))) (y := (x86, pool_here_88)) (cs2 := ((a0, HO.lst (pool_here_88.map V.int)) :: cs)) (cc := [(a0, HO.lst (pool_here_14.map V.int))]) (cs' := (cs)) (r_c rfl (r_d (d_len (e := (eT4 eS eI eI eI)) (a_cons (d_var rfl (Dt.gr (Gr.tr g10 (Gr.tr g17 g84)) ha1)) a_nil)) r_nil)) sb_rfl k87 sb_rfl) rfl (fun F89 H90 g91 hS92 => ?_)
    obtain ⟨x93, k94, m⟩ := bnd m
    refine s_asg (K := K) (d := (eT4 eS eI eI eI) x93) hS92 (d_ix (e := (eT4 eS eI eI eI)) (d_var rfl (Dt.gr (Gr.tr g10 (Gr.tr g17 (Gr.tr g84 g91))) ha1)) (d_var rfl (.int _)) k94) (fun v99 F95 H96 g97 hS98 hv100 => ?_)
    obtain ⟨name_here_101, k102, m⟩ := lt m
    obtain ⟨tick_103, k104, m⟩ := lt m
    obtain ⟨p105, w107, w108, w109, w110, rfl, hT106, hw111, hw112, hw113, hw114⟩ := u4 hv100
    rw [k102] at hw111
    obtain rfl := Dt.toStr hw111
    rw [k104] at hw112
    obtain rfl := Dt.toInt hw112
    obtain rfl := Dt.toInt hw113
    obtain rfl := Dt.toInt hw114
    refine tg (σ' := [some (.ref a0), some a1, some (.int last_3), some (.int salt_4), some (.int x5), some (.int x12), some (.int x86), none, some (.str name_here_101), some (.int tick_103), some (.int x93.2.2.1), some (.int x93.2.2.2), none]) (fun Q hq => ⟨p105, [_, _, _, _], rfl, gr_T hS98.fr hT106, rfl, _, _, rfl, _, _, rfl, _, _, rfl, _, _, rfl, rfl, hq⟩) ?_
    refine s_if (b := ((decide (x5 = (1 : Int))) && (decide (x12 < (4 : Int))))) hS98 (t_andP (t_test (K := K) (d_eqI (d_var rfl (.int _)) d_int)) (fun hc => (t_test (K := K) (d_lt (d_var rfl (.int _)) d_int)))) (fun hc F115 H116 g117 hS118 => ?_) (fun hc F129 H130 g131 hS132 => ?_)
    · rw [if_pos hc] at m
      obtain ⟨x119, k120, m⟩ := bnd m
      obtain ⟨x121, k122, m⟩ := bnd m
      refine s_ret (K := K) (d := eD ((eL (eT4 eS eI eI eI)) x121)) hS118 (EvC.dd (c_cat (en := (eT4 eS eI eI eI)) (EvC.dd (c_cat (en := (eT4 eS eI eI eI)) (d_sl (d_var rfl (Dt.gr (Gr.tr g10 (Gr.tr g17 (Gr.tr g84 (Gr.tr g91 (Gr.tr g97 g117))))) ha1)) o_none (o_some (K := K) (d_var rfl (.int _)))) (d_lst (a_cons (d_tup (a_cons (d_var rfl (.str _)) (a_cons (d_var rfl (.int _)) (a_cons d_int (a_cons d_int a_nil)))) (Nat.le_of_ble_eq_true rfl)) a_nil) (Nat.le_of_ble_eq_true rfl)) k120)) (d_sl (d_var rfl (Dt.gr (Gr.tr g10 (Gr.tr g17 (Gr.tr g84 (Gr.tr g91 (Gr.tr g97 g117))))) ha1)) (o_some (K := K) (d_var rfl (.int _))) o_none) k122)) (fun v127 F123 H124 g125 hS126 hv128 => ?_)
      obtain rfl := sm m
      exact q _ _ _ (Gr.tr g10 (Gr.tr g17 (Gr.tr g84 (Gr.tr g91 (Gr.tr g97 (Gr.tr g117 g125)))))) hS126 hv128
    · rw [if_neg (bf hc)] at m
      refine nxt ?_
      refine s_if (b := ((decide (x5 = (1 : Int))) && (decide (x12 < (8 : Int))))) hS132 (t_andP (t_test (K := K) (d_eqI (d_var rfl (.int _)) d_int)) (fun hc => (t_test (K := K) (d_lt (d_var rfl (.int _)) d_int)))) (fun hc F133 H134 g135 hS136 => ?_) (fun hc F147 H148 g149 hS150 => ?_)
      · rw [if_pos hc] at m
        obtain ⟨x137, k138, m⟩ := bnd m
        obtain ⟨x139, k140, m⟩ := bnd m
        refine s_ret (K := K) (d := eD ((eL (eT4 eS eI eI eI)) x139)) hS136 (EvC.dd (c_cat (en := (eT4 eS eI eI eI)) (d_var rfl (Dt.gr (Gr.tr g10 (Gr.tr g17 (Gr.tr g84 (Gr.tr g91 (Gr.tr g97 (Gr.tr g131 g135)))))) ha1)) (d_lst (a_cons (d_tup (a_cons (d_var rfl (.str _)) (a_cons (d_ixT (d_ix (e := (eT4 eS eI eI eI)) (d_var rfl (Dt.gr (Gr.tr g10 (Gr.tr g17 (Gr.tr g84 (Gr.tr g91 (Gr.tr g97 (Gr.tr g131 g135)))))) ha1)) (d_neg d_int) k138) d_int rfl) (a_cons d_int (a_cons d_int a_nil)))) (Nat.le_of_ble_eq_true rfl)) a_nil) (Nat.le_of_ble_eq_true rfl)) k140)) (fun v145 F141 H142 g143 hS144 hv146 => ?_)
        obtain rfl := sm m
        exact q _ _ _ (Gr.tr g10 (Gr.tr g17 (Gr.tr g84 (Gr.tr g91 (Gr.tr g97 (Gr.tr g131 (Gr.tr g135 g143))))))) hS144 hv146
      · rw [if_neg (bf hc)] at m
        refine nxt ?_
        refine s_if (b := (decide (x5 = (1 : Int)))) hS150 (t_test (K := K) (d_eqI (d_var rfl (.int _)) d_int)) (fun hc F151 H152 g153 hS154 => ?_) (fun hc F167 H168 g169 hS170 => ?_)
        · rw [if_pos hc] at m
          obtain ⟨x155, k156, m⟩ := bnd m
          obtain ⟨x157, k158, m⟩ := bnd m
          obtain ⟨x159, k160, m⟩ := bnd m
          refine s_ret (K := K) (d := eD ((eL (eT4 eS eI eI eI)) x159)) hS154 (EvC.dd (c_cat (en := (eT4 eS eI eI eI)) (EvC.dd (c_cat (en := (eT4 eS eI eI eI)) (d_sl (d_var rfl (Dt.gr (Gr.tr g10 (Gr.tr g17 (Gr.tr g84 (Gr.tr g91 (Gr.tr g97 (Gr.tr g131 (Gr.tr g149 g153))))))) ha1)) o_none (o_some (K := K) (d_var rfl (.int _)))) (d_lst (a_cons (d_tup (a_cons (d_call (A := A_name) (B := eS) (x := ((60 : Int), salt_4)) (a_cons d_int (a_cons (d_var rfl (.int _)) a_nil)) k156) (a_cons (d_add (d_var rfl (.int _)) d_int) (a_cons d_int (a_cons d_int a_nil)))) (Nat.le_of_ble_eq_true rfl)) a_nil) (Nat.le_of_ble_eq_true rfl)) k158)) (d_sl (d_var rfl (Dt.gr (Gr.tr g10 (Gr.tr g17 (Gr.tr g84 (Gr.tr g91 (Gr.tr g97 (Gr.tr g131 (Gr.tr g149 g153))))))) ha1)) (o_some (K := K) (d_var rfl (.int _))) o_none) k160)) (fun v165 F161 H162 g163 hS164 hv166 => ?_)
          obtain rfl := sm m
          exact q _ _ _ (Gr.tr g10 (Gr.tr g17 (Gr.tr g84 (Gr.tr g91 (Gr.tr g97 (Gr.tr g131 (Gr.tr g149 (Gr.tr g153 g163)))))))) hS164 hv166
        · rw [if_neg (bf hc)] at m
          refine nxt ?_
          obtain ⟨x171, k172, m⟩ := bnd m
          obtain ⟨⟨x173, pool_here_175⟩, k174, m⟩ := bnd m; (try dsimp only at m)
          obtain ⟨x176, k177, m⟩ := bnd m
          obtain ⟨x178, k179, m⟩ := bnd m
          refine s_ret (K := K) (d := eD ((eL eD) x178)) hS170 (EvC.dd (c_cat (en := eD) (EvC.dd (c_cat (en := eD) (d_is (d_sl (d_var rfl (Dt.gr (Gr.tr g10 (Gr.tr g17 (Gr.tr g84 (Gr.tr g91 (Gr.tr g97 (Gr.tr g131 (Gr.tr g149 g169))))))) ha1)) o_none (o_some (K := K) (d_var rfl (.int _)))) ((cv_L cv_D) _)) (d_lst (a_cons (d_callX (A := A_bad_part) (B := B_bad_part) (C := C_bad_part) (x := (pool_here_88, x171, last_3)) (y := (x173, pool_here_175)) (cs2 := ((a0, HO.lst (pool_here_175.map V.int)) :: cs)) (cc := [(a0, HO.lst (pool_here_88.map V.int))]) (cs' := (cs)) (r_c rfl (r_d (d_ix (e := (eT4 eS eI eI eI)) (d_var rfl (Dt.gr (Gr.tr g10 (Gr.tr g17 (Gr.tr g84 (Gr.tr g91 (Gr.tr g97 (Gr.tr g131 (Gr.tr g149 g169))))))) ha1)) (d_var rfl (.int _)) k172) (r_d (d_var rfl (.int _)) r_nil))) sb_rfl k174 sb_rfl) a_nil) (Nat.le_of_ble_eq_true rfl)) k177)) (d_is (d_sl (d_var rfl (Dt.gr (Gr.tr g10 (Gr.tr g17 (Gr.tr g84 (Gr.tr g91 (Gr.tr g97 (Gr.tr g131 (Gr.tr g149 g169))))))) ha1)) (o_some (K := K) (d_add (d_var rfl (.int _)) d_int)) o_none) ((cv_L cv_D) _)) k179)) (fun v184 F180 H181 g182 hS183 hv185 => ?_)
          obtain rfl := sm m
          exact q _ _ _ (Gr.tr g10 (Gr.tr g17 (Gr.tr g84 (Gr.tr g91 (Gr.tr g97 (Gr.tr g131 (Gr.tr g149 (Gr.tr g169 g182)))))))) hS183 hv185
theorem sc_bad_orders : FnScope N_bad_orders ["_law_pool_here", "_law_orders_here", "_law_last", "_law_salt"] (defScope s_bad_orders) := ⟨rfl, rfl, rfl, by decide +kernel, rfl, by decide +kernel, by decide +kernel⟩
theorem ok_bad_orders {P : Program} {w : World} {K : PySem.W.Frag} {mg : Str → Option Value} {base : Heap} (hF : Df K mg "_law_bad_orders" s_bad_orders) (m_len : mg "len" = none) (m_range : mg "range" = none) (m_tuple : mg "tuple" = none) (o_bad_part : Ok P w K mg base 2 "_law_bad_part" ["_law_pool_here", "_law_order", "_law_last"] (sp_bad_part K)) (o_name : Ok P w K mg base 1 "_law_name" ["_law_k", "_law_salt"] (sp_name K)) (o_take : Ok P w K mg base 1 "_law_take" ["_law_pool_here", "_law_many"] (sp_take K)) : Ok P w K mg base 3 "_law_bad_orders" ["_law_pool_here", "_law_orders_here", "_law_last", "_law_salt"] (sp_bad_orders K) := by
  obtain ⟨⟨_, G_bad_part, bd_bad_part, _⟩, kp_bad_part, gm_bad_part⟩ := o_bad_part
  obtain ⟨⟨_, G_name, bd_name, _⟩, kp_name, gm_name⟩ := o_name
  obtain ⟨⟨_, G_take, bd_take, _⟩, kp_take, gm_take⟩ := o_take
  obtain ⟨⟨fd, F⟩, gm⟩ := hF
  refine ⟨⟨fd, F.ok sc_bad_orders (fun vs H Q E h => ?_) (fun cdv A outer s H vs Q E hr h => ⟨t_bad_orders K, PSs.nox ?_, w_bad_orders vs H Q E h⟩), F.bindsN fun _ _ _ _ _ _ us hl => match us, hl with | [_, _, _, _], _ => rfl, lk_of F⟩, F.kp, gm⟩
  · obtain ⟨F0, cc, cs, x, y, h, _⟩ := h; exact ArgR.len h
  · exact (pss_cons (ps_set (i := 4) sc_bad_orders.nd rfl (Or.inl rfl) (pe_call G_take (hr.mono (by decide)) (by rfl) gm_take kp_take bd_take .nil pass0 (pa_cons (pv 0) (pa_cons pe_int pa_nil)))) (pss_cons (ps_set (i := 5) sc_bad_orders.nd rfl (Or.inl rfl) (pe_call G_take (hr.mono (by decide)) (by rfl) gm_take kp_take bd_take .nil pass0 (pa_cons (pv 0) (pa_cons pe_int pa_nil)))) (pss_cons (ps_if (PW.pt (pw_or (pt_cmpR (op_eqD hr.units) (pv 1) (pe_lst pa_nil) (nomark _)) (pw_or1 (pt_cmpR op_eq (pv 4) pe_int (nomark _))))) (pss_cons (ps_set (i := 7) sc_bad_orders.nd rfl (Or.inl rfl) (pe_lst (pa_cons pe_non (pa_cons (pe_tup pa_nil) (pa_cons pe_dnewK (pa_cons pe_str (pa_cons pe_int (pa_cons (pe_callTy cr_tuple (by rfl) m_tuple (by decide +kernel) (pa_cons (pv 1) pa_nil)) (pa_cons (pe_op op_catS (pv 1) (pe_lst (pa_cons pe_non pa_nil))) (pa_cons (pe_op op_catS (pv 1) (pe_lst (pa_cons (pe_tup (pa_cons pe_str pa_nil)) pa_nil))) (pa_cons (pe_lst (pa_cons (pv 1) pa_nil)) (pa_cons pe_bl pa_nil)))))))))))) (pss_cons (ps_expr (pe_bm PySem.F.plainAttrs_list PySem.F.slot_list_append PySem.F.type_list_append mt_append (pv 7) (pa_cons (pe_lc (own := [("_law_k", 12)]) (g := (gName 12)) (tt := tYes) (te := (tTup (tCons (tCall (sp_name K) [] E0 (tCons (tVar 12) (tCons (tVar 3) tNil))) (tCons (tC (.int 5)) (tCons (tC (.int 0)) (tCons (tC (.int 1)) tNil)))))) (by rfl) sc_bad_orders.nd (pi_range1 (by rfl) m_range (pa_cons pe_int pa_nil)) (blkOk_by (own := [("_law_k", 12)]) (N := N_bad_orders) (sc := defScope s_bad_orders) (by decide +kernel)) (fun _ _ _ _ _ => (pg_name (i := 12) sc_bad_orders.nd rfl (Or.inl rfl))) (fun _ _ _ _ _ => pts_nil) (fun _ _ _ _ _ => (pe_tup (pa_cons (pe_call G_name (hr.mono (by decide)) (by rfl) gm_name kp_name bd_name .nil pass0 (pa_cons (pv 12) (pa_cons (pv 3) pa_nil))) (pa_cons pe_int (pa_cons pe_int (pa_cons pe_int pa_nil))))))) pa_nil))) (pss_cons (ps_expr (pe_bm PySem.F.plainAttrs_list PySem.F.slot_list_append PySem.F.type_list_append mt_append (pv 7) (pa_cons (pe_op op_catS (pv 1) (pe_lst (pa_cons pe_str pa_nil))) pa_nil))) (pss_one (ps_ret (pe_ix ix_list (pv 7) (pv 5) (fun _ _ => rfl))))))) pss_nil) (pss_cons (ps_set (i := 6) sc_bad_orders.nd rfl (Or.inl rfl) (pe_call G_take (hr.mono (by decide)) (by rfl) gm_take kp_take bd_take .nil pass0 (pa_cons (pv 0) (pa_cons (pe_callB cr_lenL (by rfl) m_len PySem.boot_len (pa_cons (pv 1) pa_nil)) pa_nil)))) (pss_cons (ps_asg (pe_ix ix_list (pv 1) (pv 6) (fun _ _ => rfl)) (pg_tup rfl (pgs_cons (pg_name (i := 8) sc_bad_orders.nd rfl (Or.inl rfl)) (pgs_cons (pg_name (i := 9) sc_bad_orders.nd rfl (Or.inl rfl)) (pgs_cons (pg_name (i := 10) sc_bad_orders.nd rfl (Or.inl rfl)) (pgs_cons (pg_name (i := 11) sc_bad_orders.nd rfl (Or.inl rfl)) pgs_nil)))))) (pss_cons (ps_if (PW.pt (pw_and (pt_cmpR op_eq (pv 4) pe_int (nomark _)) (pw_and1 (pt_cmpR op_lt (pv 5) pe_int (nomark _))))) (pss_one (ps_ret (pe_op op_catS (pe_op op_catS (pe_slice sl_list (pv 1) po_none (po_some (pv 6))) (pe_lst (pa_cons (pe_tup (pa_cons (pv 8) (pa_cons (pv 9) (pa_cons pe_int (pa_cons pe_int pa_nil))))) pa_nil))) (pe_slice sl_list (pv 1) (po_some (pv 6)) po_none)))) pss_nil) (pss_cons (ps_if (PW.pt (pw_and (pt_cmpR op_eq (pv 4) pe_int (nomark _)) (pw_and1 (pt_cmpR op_lt (pv 5) pe_int (nomark _))))) (pss_one (ps_ret (pe_op op_catS (pv 1) (pe_lst (pa_cons (pe_tup (pa_cons (pv 8) (pa_cons (pe_ix ix_tup (pe_ix ix_list (pv 1) (pe_un un_neg pe_int) (fun _ _ => rfl)) pe_int (fun _ _ => rfl)) (pa_cons pe_int (pa_cons pe_int pa_nil))))) pa_nil))))) pss_nil) (pss_cons (ps_if (pt_cmpR op_eq (pv 4) pe_int (nomark _)) (pss_one (ps_ret (pe_op op_catS (pe_op op_catS (pe_slice sl_list (pv 1) po_none (po_some (pv 6))) (pe_lst (pa_cons (pe_tup (pa_cons (pe_call G_name (hr.mono (by decide)) (by rfl) gm_name kp_name bd_name .nil pass0 (pa_cons pe_int (pa_cons (pv 3) pa_nil))) (pa_cons (pe_op op_add (pv 9) pe_int) (pa_cons pe_int (pa_cons pe_int pa_nil))))) pa_nil))) (pe_slice sl_list (pv 1) (po_some (pv 6)) po_none)))) pss_nil) (pss_one (ps_ret (pe_op op_catS (pe_op op_catS (pe_slice sl_list (pv 1) po_none (po_some (pv 6))) (pe_lst (pa_cons (pe_call G_bad_part (hr.mono (by decide)) (by rfl) gm_bad_part kp_bad_part bd_bad_part .nil pass0 (pa_cons (pv 0) (pa_cons (pe_ix ix_list (pv 1) (pv 6) (fun _ _ => rfl)) (pa_cons (pv 2) pa_nil)))) pa_nil))) (pe_slice sl_list (pv 1) (po_some (pe_op op_add (pv 6) pe_int)) po_none))))))))))))
abbrev s_is_whole : Stmt := (top 19)
def f_is_whole : Int → Option Bool := fun thing_1 => some (true && (!false))
abbrev A_is_whole : Int → List PyData := fun x => [eI x]
abbrev N_is_whole : List Str := ["thing"]
abbrev sp_is_whole (K : PySem.W.Frag) : Sp := spP K A_is_whole eB f_is_whole
def t_is_whole (K : PySem.W.Frag) : TS := (tRet (tAndV (tCB (rIsi K) (tCons (tVar 0) (tCons (tC (.ty "int")) tNil))) (tNotV (tCB (rIsi K) (tCons (tVar 0) (tCons (tC (.ty "bool")) tNil))))))
theorem w_is_whole {K : PySem.W.Frag} (vs : List V) (H : Hp) (Q : VK) (E : XK) (h : sp_is_whole K vs H Q E) : t_is_whole K { nx := fun _ H' => Q .non H', rt := Q } (start N_is_whole vs) H := by
  obtain ⟨F0, cs, thing_1, y, h, hS0, m, q⟩ := h
  obtain ⟨a0, _, rfl, ha0, h⟩ := Dts.hd h
  obtain rfl := Dts.no h
  obtain rfl := Dt.toInt ha0
  unfold f_is_whole at m
  try dsimp only at m
  unfold t_is_whole
  refine go (σ' := [some (.int thing_1)]) rfl ?_
  refine s_ret (K := K) (d := eB (true && (!false))) hS0 (d_andP (d_is (e := PyData.bool true) (d_isiD (c := "int") (by decide) (d_var rfl (.int _))) (congrArg PyData.bool (by rfl))) (fun hc => (d_notV (d_is (e := PyData.bool false) (d_isiD (c := "bool") (by decide) (d_var rfl (.int _))) (congrArg PyData.bool (by rfl)))))) (fun v6 F2 H3 g4 hS5 hv7 => ?_)
  obtain rfl := sm m
  exact q _ _ _ g4 hS5 hv7
theorem sc_is_whole : FnScope N_is_whole ["thing"] (defScope s_is_whole) := ⟨rfl, rfl, rfl, by decide +kernel, rfl, by decide +kernel, by decide +kernel⟩
theorem ok_is_whole {P : Program} {w : World} {K : PySem.W.Frag} {mg : Str → Option Value} {base : Heap} (hF : Df K mg "is_whole" s_is_whole) (m_bool : mg "bool" = none) (m_int : mg "int" = none) (m_isinstance : mg "isinstance" = none) : Ok P w K mg base 1 "is_whole" ["thing"] (sp_is_whole K) := by
  obtain ⟨⟨fd, F⟩, gm⟩ := hF
  refine ⟨⟨fd, F.ok sc_is_whole (fun vs H Q E h => ?_) (fun cdv A outer s H vs Q E hr h => ⟨t_is_whole K, PSs.nox ?_, w_is_whole vs H Q E h⟩), F.bindsN fun _ _ _ _ _ _ us hl => match us, hl with | [_], _ => rfl, lk_of F⟩, F.kp, gm⟩
  · obtain ⟨F0, cs, x, y, h, _⟩ := h; exact Dts.len h
  · exact (pss_one (ps_ret (pe_and (pe_callB call_isi (by rfl) m_isinstance (by decide +kernel) (pa_cons (pv 0) (pa_cons (pe_bltn (v := .ty "int") (by rfl) m_int (by decide +kernel) rfl) pa_nil))) (pe_one (pe_not (pe_callB call_isi (by rfl) m_isinstance (by decide +kernel) (pa_cons (pv 0) (pa_cons (pe_bltn (v := .ty "bool") (by rfl) m_bool (by decide +kernel) rfl) pa_nil))))))))
abbrev s_is_whole_D : Stmt := (top 19)
def f_is_whole_D : PyData → Option Bool := fun thing_1 => some ((isiD "int" thing_1) && (!(isiD "bool" thing_1)))
abbrev A_is_whole_D : PyData → List PyData := fun x => [eD x]
abbrev N_is_whole_D : List Str := ["thing"]
abbrev sp_is_whole_D (K : PySem.W.Frag) : Sp := spP K A_is_whole_D eB f_is_whole_D
def t_is_whole_D (K : PySem.W.Frag) : TS := (tRet (tAndV (tCB (rIsi K) (tCons (tVar 0) (tCons (tC (.ty "int")) tNil))) (tNotV (tCB (rIsi K) (tCons (tVar 0) (tCons (tC (.ty "bool")) tNil))))))
theorem w_is_whole_D {K : PySem.W.Frag} (vs : List V) (H : Hp) (Q : VK) (E : XK) (h : sp_is_whole_D K vs H Q E) : t_is_whole_D K { nx := fun _ H' => Q .non H', rt := Q } (start N_is_whole_D vs) H := by
  obtain ⟨F0, cs, thing_1, y, h, hS0, m, q⟩ := h
  obtain ⟨a0, _, rfl, ha0, h⟩ := Dts.hd h
  obtain rfl := Dts.no h
  unfold f_is_whole_D at m
  try dsimp only at m
  unfold t_is_whole_D
  refine go (σ' := [some a0]) rfl ?_
  refine s_ret (K := K) (d := eB ((isiD "int" thing_1) && (!(isiD "bool" thing_1)))) hS0 (d_andP (d_isiD (c := "int") (by decide) (d_var rfl ha0)) (fun hc => (d_notV (d_isiD (c := "bool") (by decide) (d_var rfl ha0))))) (fun v6 F2 H3 g4 hS5 hv7 => ?_)
  obtain rfl := sm m
  exact q _ _ _ g4 hS5 hv7
theorem sc_is_whole_D : FnScope N_is_whole_D ["thing"] (defScope s_is_whole_D) := ⟨rfl, rfl, rfl, by decide +kernel, rfl, by decide +kernel, by decide +kernel⟩
theorem ok_is_whole_D {P : Program} {w : World} {K : PySem.W.Frag} {mg : Str → Option Value} {base : Heap} (hF : Df K mg "is_whole" s_is_whole_D) (m_bool : mg "bool" = none) (m_int : mg "int" = none) (m_isinstance : mg "isinstance" = none) : Ok P w K mg base 1 "is_whole" ["thing"] (sp_is_whole_D K) := by
  obtain ⟨⟨fd, F⟩, gm⟩ := hF
  refine ⟨⟨fd, F.ok sc_is_whole_D (fun vs H Q E h => ?_) (fun cdv A outer s H vs Q E hr h => ⟨t_is_whole_D K, PSs.nox ?_, w_is_whole_D vs H Q E h⟩), F.bindsN fun _ _ _ _ _ _ us hl => match us, hl with | [_], _ => rfl, lk_of F⟩, F.kp, gm⟩
  · obtain ⟨F0, cs, x, y, h, _⟩ := h; exact Dts.len h
  · exact (pss_one (ps_ret (pe_and (pe_callB call_isi (by rfl) m_isinstance (by decide +kernel) (pa_cons (pv 0) (pa_cons (pe_bltn (v := .ty "int") (by rfl) m_int (by decide +kernel) rfl) pa_nil))) (pe_one (pe_not (pe_callB call_isi (by rfl) m_isinstance (by decide +kernel) (pa_cons (pv 0) (pa_cons (pe_bltn (v := .ty "bool") (by rfl) m_bool (by decide +kernel) rfl) pa_nil))))))))
abbrev s_is_between : Stmt := (top 27)
def f_is_between : (Int × Int × Int) → Option Bool := fun (thing_1, least_2, greatest_3) => (((f_is_whole thing_1)).bind fun x4 => some (x4 && (decide (least_2 ≤ thing_1) && decide (thing_1 ≤ greatest_3))))
abbrev A_is_between : (Int × Int × Int) → List PyData := fun x => [eI x.1, eI x.2.1, eI x.2.2]
abbrev N_is_between : List Str := ["thing", "least", "greatest"]
abbrev sp_is_between (K : PySem.W.Frag) : Sp := spP K A_is_between eB f_is_between
def t_is_between (K : PySem.W.Frag) : TS := (tRet (tAndV (tCall (sp_is_whole K) [] E0 (tCons (tVar 0) tNil)) (tChain (rI0 fun i j => .bl (decide (i ≤ j))) (rI0 fun i j => .bl (decide (i ≤ j))) (tVar 1) (tVar 0) (tVar 2))))
theorem w_is_between {K : PySem.W.Frag} (vs : List V) (H : Hp) (Q : VK) (E : XK) (h : sp_is_between K vs H Q E) : t_is_between K { nx := fun _ H' => Q .non H', rt := Q } (start N_is_between vs) H := by
  obtain ⟨F0, cs, ⟨thing_1, least_2, greatest_3⟩, y, h, hS0, m, q⟩ := h
  obtain ⟨a0, _, rfl, ha0, h⟩ := Dts.hd h
  obtain ⟨a1, _, rfl, ha1, h⟩ := Dts.hd h
  obtain ⟨a2, _, rfl, ha2, h⟩ := Dts.hd h
  obtain rfl := Dts.no h
  obtain rfl := Dt.toInt ha0
  obtain rfl := Dt.toInt ha1
  obtain rfl := Dt.toInt ha2
  unfold f_is_between at m
  try dsimp only at m
  unfold t_is_between
  refine go (σ' := [some (.int thing_1), some (.int least_2), some (.int greatest_3)]) rfl ?_
  obtain ⟨x4, k5, m⟩ := bnd m
  refine s_ret (K := K) (d := eB (x4 && (decide (least_2 ≤ thing_1) && decide (thing_1 ≤ greatest_3)))) hS0 (d_andP (d_call (A := A_is_whole) (B := eB) (x := thing_1) (a_cons (d_var rfl (.int _)) a_nil) k5) (fun hc => (d_chain (d_var rfl (.int _)) (d_var rfl (.int _)) (d_var rfl (.int _))))) (fun v10 F6 H7 g8 hS9 hv11 => ?_)
  obtain rfl := sm m
  exact q _ _ _ g8 hS9 hv11
theorem sc_is_between : FnScope N_is_between ["thing", "least", "greatest"] (defScope s_is_between) := ⟨rfl, rfl, rfl, by decide +kernel, rfl, by decide +kernel, by decide +kernel⟩
theorem ok_is_between {P : Program} {w : World} {K : PySem.W.Frag} {mg : Str → Option Value} {base : Heap} (hF : Df K mg "is_between" s_is_between) (o_is_whole : Ok P w K mg base 1 "is_whole" ["thing"] (sp_is_whole K)) : Ok P w K mg base 2 "is_between" ["thing", "least", "greatest"] (sp_is_between K) := by
  obtain ⟨⟨_, G_is_whole, bd_is_whole, _⟩, kp_is_whole, gm_is_whole⟩ := o_is_whole
  obtain ⟨⟨fd, F⟩, gm⟩ := hF
  refine ⟨⟨fd, F.ok sc_is_between (fun vs H Q E h => ?_) (fun cdv A outer s H vs Q E hr h => ⟨t_is_between K, PSs.nox ?_, w_is_between vs H Q E h⟩), F.bindsN fun _ _ _ _ _ _ us hl => match us, hl with | [_, _, _], _ => rfl, lk_of F⟩, F.kp, gm⟩
  · obtain ⟨F0, cs, x, y, h, _⟩ := h; exact Dts.len h
  · exact (pss_one (ps_ret (pe_and (pe_call G_is_whole (hr.mono (by decide)) (by rfl) gm_is_whole kp_is_whole bd_is_whole .nil pass0 (pa_cons (pv 0) pa_nil)) (pe_one (pe_chain op_le op_le (pv 1) (pv 0) (pv 2))))))
abbrev s_is_between_D : Stmt := (top 27)
def f_is_between_D : (PyData × Int × Int) → Option Bool := fun (thing_1, least_2, greatest_3) => (((f_is_whole_D thing_1)).bind fun x4 => ((if x4 = true then (((asI thing_1)).bind fun x6 => some (decide (least_2 ≤ x6) && decide (x6 ≤ greatest_3))) else some false)).bind fun x8 => some x8)
abbrev A_is_between_D : (PyData × Int × Int) → List PyData := fun x => [eD x.1, eI x.2.1, eI x.2.2]
abbrev N_is_between_D : List Str := ["thing", "least", "greatest"]
abbrev sp_is_between_D (K : PySem.W.Frag) : Sp := spP K A_is_between_D eB f_is_between_D
def t_is_between_D (K : PySem.W.Frag) : TS := (tRet (tAndV (tCall (sp_is_whole_D K) [] E0 (tCons (tVar 0) tNil)) (tChain (rI0 fun i j => .bl (decide (i ≤ j))) (rI0 fun i j => .bl (decide (i ≤ j))) (tVar 1) (tVar 0) (tVar 2))))
theorem w_is_between_D {K : PySem.W.Frag} (vs : List V) (H : Hp) (Q : VK) (E : XK) (h : sp_is_between_D K vs H Q E) : t_is_between_D K { nx := fun _ H' => Q .non H', rt := Q } (start N_is_between_D vs) H := by
  obtain ⟨F0, cs, ⟨thing_1, least_2, greatest_3⟩, y, h, hS0, m, q⟩ := h
  obtain ⟨a0, _, rfl, ha0, h⟩ := Dts.hd h
  obtain ⟨a1, _, rfl, ha1, h⟩ := Dts.hd h
  obtain ⟨a2, _, rfl, ha2, h⟩ := Dts.hd h
  obtain rfl := Dts.no h
  obtain rfl := Dt.toInt ha1
  obtain rfl := Dt.toInt ha2
  unfold f_is_between_D at m
  try dsimp only at m
  unfold t_is_between_D
  refine go (σ' := [some a0, some (.int least_2), some (.int greatest_3)]) rfl ?_
  obtain ⟨x4, k5, m⟩ := bnd m
  obtain ⟨x8, k9, m⟩ := bnd m
  refine s_ret (K := K) (d := eB x8) hS0 (d_andM (r := x8) (d_call (A := A_is_whole_D) (B := eB) (x := thing_1) (a_cons (d_var rfl ha0) a_nil) k5) (fun hc => by rw [if_pos hc] at k9; obtain ⟨x6, k7, k9⟩ := bnd k9; obtain rfl := sm k9; exact (d_chain (d_var rfl (.int _)) (d_is (d_var rfl ha0) (ck_I _ _ k7)) (d_var rfl (.int _)))) (fun hc => by rw [if_neg (bf hc)] at k9; exact (sm k9).symm)) (fun v14 F10 H11 g12 hS13 hv15 => ?_)
  obtain rfl := sm m
  exact q _ _ _ g12 hS13 hv15
theorem sc_is_between_D : FnScope N_is_between_D ["thing", "least", "greatest"] (defScope s_is_between_D) := ⟨rfl, rfl, rfl, by decide +kernel, rfl, by decide +kernel, by decide +kernel⟩
theorem ok_is_between_D {P : Program} {w : World} {K : PySem.W.Frag} {mg : Str → Option Value} {base : Heap} (hF : Df K mg "is_between" s_is_between_D) (o_is_whole_D : Ok P w K mg base 1 "is_whole" ["thing"] (sp_is_whole_D K)) : Ok P w K mg base 2 "is_between" ["thing", "least", "greatest"] (sp_is_between_D K) := by
  obtain ⟨⟨_, G_is_whole_D, bd_is_whole_D, _⟩, kp_is_whole_D, gm_is_whole_D⟩ := o_is_whole_D
  obtain ⟨⟨fd, F⟩, gm⟩ := hF
  refine ⟨⟨fd, F.ok sc_is_between_D (fun vs H Q E h => ?_) (fun cdv A outer s H vs Q E hr h => ⟨t_is_between_D K, PSs.nox ?_, w_is_between_D vs H Q E h⟩), F.bindsN fun _ _ _ _ _ _ us hl => match us, hl with | [_, _, _], _ => rfl, lk_of F⟩, F.kp, gm⟩
  · obtain ⟨F0, cs, x, y, h, _⟩ := h; exact Dts.len h
  · exact (pss_one (ps_ret (pe_and (pe_call G_is_whole_D (hr.mono (by decide)) (by rfl) gm_is_whole_D kp_is_whole_D bd_is_whole_D .nil pass0 (pa_cons (pv 0) pa_nil)) (pe_one (pe_chain op_le op_le (pv 1) (pv 0) (pv 2))))))
abbrev s_look_at_aisle : Stmt := (top 28)
def f_look_at_aisle : ((List Int) × Int) → Option (Rs Unit) := fun thing_1 => (if ((!true) || (!decide ((2 : Int) = (2 : Int)))) = true then some (Rs.ex ("NoAisle", PyData.none)) else (letM thing_1.1 fun gaps_16 => letM thing_1.2 fun most_18 => (if ((!true) || (!(decide ((1 : Int) ≤ (gaps_16.length : Int)) && decide ((gaps_16.length : Int) ≤ (15 : Int))))) = true then some (Rs.ex ("NoAisle", PyData.none)) else (((lcC (fun gap_34 => (((f_is_between (gap_34, (1 : Int), (1000 : Int)))).bind fun x45 => some (some x45))) gaps_16)).bind fun x47 => (if (!((x47).all id)) = true then some (Rs.ex ("NoAisle", PyData.none)) else (((f_is_between (most_18, (1 : Int), (20 : Int)))).bind fun x57 => (if (!x57) = true then some (Rs.ex ("NoAisle", PyData.none)) else some (Rs.ok ()))))))))
abbrev A_look_at_aisle : ((List Int) × Int) → List PyData := fun x => [(eT2 (eL eI) eI) x]
abbrev N_look_at_aisle : List Str := ["thing", "gaps", "most", "gap"]
abbrev sp_look_at_aisle (K : PySem.W.Frag) : Sp := spPX K A_look_at_aisle eN f_look_at_aisle
def t_look_at_aisle (K : PySem.W.Frag) (E : XK) : TS := (tSeq (tIfS (tOr (tNot (tB (tCB (rIsi K) (tCons (tVar 0) (tCons (tC (.ty "tuple")) tNil))))) (tTest (tOp rNe (tCB (rLenL K) (tCons (tVar 0) tNil)) (tC (.int 2))))) (tRaiseX (WX0 E) (He.ga K "NoAisle")) tNext) (tSeq (tAsg (tVar 0) (gTup K 2 (gCons (gName 1) (gCons (gName 2) gNil)))) (tSeq (tIfS (tOr (tNot (tB (tCB (rIsi K) (tCons (tVar 1) (tCons (tC (.ty "list")) tNil))))) (tNot (tTest (tChain (rI0 fun i j => .bl (decide (i ≤ j))) (rI0 fun i j => .bl (decide (i ≤ j))) (tC (.int 1)) (tCB (rLenL K) (tCons (tVar 1) tNil)) (tC (.int 15)))))) (tRaiseX (WX0 E) (He.ga K "NoAisle")) tNext) (tSeq (tIfS (tNot (tB (tCB (rAll K) (tCons (tLc (iList K (tVar 1)) (gName 3) tYes (tCall (sp_is_between K) [] E0 (tCons (tVar 3) (tCons (tC (.int 1)) (tCons (tC (.int 1000)) tNil)))) [3]) tNil)))) (tRaiseX (WX0 E) (He.ga K "NoAisle")) tNext) (tIfS (tNot (tB (tCall (sp_is_between K) [] E0 (tCons (tVar 2) (tCons (tC (.int 1)) (tCons (tC (.int 20)) tNil)))))) (tRaiseX (WX0 E) (He.ga K "NoAisle")) tNext)))))
theorem w_look_at_aisle {K : PySem.W.Frag} (vs : List V) (H : Hp) (Q : VK) (E : XK) (h : sp_look_at_aisle K vs H Q E) : t_look_at_aisle K E { nx := fun _ H' => Q .non H', rt := Q } (start N_look_at_aisle vs) H := by
  obtain ⟨F0, cs, thing_1, y, h, hS0, m, q, qx⟩ := h
  obtain ⟨a0, _, rfl, ha0, h⟩ := Dts.hd h
  obtain rfl := Dts.no h
  unfold f_look_at_aisle at m
  try dsimp only at m
  unfold t_look_at_aisle
  refine go (σ' := [some a0, none, none, none]) rfl ?_
  refine s_if (b := ((!true) || (!decide ((2 : Int) = (2 : Int))))) hS0 (t_orP (t_not (t_B (K := K) (d_is (e := PyData.bool true) (d_isiD (c := "tuple") (by decide) (d_var rfl ha0)) (congrArg PyData.bool (by rfl))))) (fun hc => (t_test (K := K) (d_neI (d_is (e := PyData.int 2) (d_lenT (a_cons (d_var rfl ha0) a_nil)) (congrArg PyData.int (by rfl))) d_int)))) (fun hc F2 H3 g4 hS5 => ?_) (fun hc F6 H7 g8 hS9 => ?_)
  · rw [if_pos hc] at m
    refine s_raise ?_
    obtain rfl := sm m
    exact qx _ rfl _ _ _ g4 hS5 (xd0 (by decide))
  · rw [if_neg (bf hc)] at m
    refine nxt ?_
    refine s_asg (K := K) (d := (eT2 (eL eI) eI) thing_1) hS9 (d_var rfl (Dt.gr g8 ha0)) (fun v14 F10 H11 g12 hS13 hv15 => ?_)
    obtain ⟨gaps_16, k17, m⟩ := lt m
    obtain ⟨most_18, k19, m⟩ := lt m
    obtain ⟨p20, w22, w23, rfl, hT21, hw24, hw25⟩ := u2 hv15
    rw [k17] at hw24
    rw [k19] at hw25
    obtain rfl := Dt.toInt hw25
    refine tg (σ' := [some a0, some w22, some (.int most_18), none]) (fun Q hq => ⟨p20, [_, _], rfl, gr_T hS13.fr hT21, rfl, _, _, rfl, _, _, rfl, rfl, hq⟩) ?_
    refine s_if (b := ((!true) || (!(decide ((1 : Int) ≤ (gaps_16.length : Int)) && decide ((gaps_16.length : Int) ≤ (15 : Int)))))) hS13 (t_orP (t_not (t_B (K := K) (d_is (e := PyData.bool true) (d_isiD (c := "list") (by decide) (d_var rfl hw24)) (congrArg PyData.bool (by rfl))))) (fun hc => (t_not (t_test (K := K) (d_chain d_int (d_len (e := eI) (a_cons (d_var rfl hw24) a_nil)) d_int))))) (fun hc F26 H27 g28 hS29 => ?_) (fun hc F30 H31 g32 hS33 => ?_)
    · rw [if_pos hc] at m
      refine s_raise ?_
      obtain rfl := sm m
      exact qx _ rfl _ _ _ (Gr.tr g8 (Gr.tr g12 g28)) hS29 (xd0 (by decide))
    · rw [if_neg (bf hc)] at m
      refine nxt ?_
      obtain ⟨x47, k48, m⟩ := bnd m
      refine s_if (b := (!((x47).all id))) hS33 (t_not (t_B (K := K) (d_all (a_cons (EvC.dd (c_lcC (K := K) (f := (fun gap_34 => (((f_is_between (gap_34, (1 : Int), (1000 : Int)))).bind fun x45 => some (some x45)))) (em := eB) (i_list (en := eI) (d_var rfl (Dt.gr g32 hw24))) k48 (fun gap_34 o41 v42 F35 p36 us37 g38 hv39 ho40 => by obtain rfl := Dt.toInt hv39; obtain ⟨x45, k46, ho40⟩ := bnd ho40; obtain rfl := sm ho40; exact ⟨[some a0, some w22, some (.int most_18), some (.int gap_34)], fun H44 Q hS43 hq => (fun Q hq => hq) Q hq, rfl, t_yes, fun y hy => by obtain rfl := sm hy; exact (d_call (A := A_is_between) (B := eB) (x := (gap_34, (1 : Int), (1000 : Int))) (a_cons (d_var rfl (.int _)) (a_cons d_int (a_cons d_int a_nil))) k46)⟩))) a_nil)))) (fun hc F49 H50 g51 hS52 => ?_) (fun hc F53 H54 g55 hS56 => ?_)
      · rw [if_pos hc] at m
        refine s_raise ?_
        obtain rfl := sm m
        exact qx _ rfl _ _ _ (Gr.tr g8 (Gr.tr g12 (Gr.tr g32 g51))) hS52 (xd0 (by decide))
      · rw [if_neg (bf hc)] at m
        refine nxt ?_
        obtain ⟨x57, k58, m⟩ := bnd m
        refine s_if (b := (!x57)) hS56 (t_not (t_B (K := K) (d_call (A := A_is_between) (B := eB) (x := (most_18, (1 : Int), (20 : Int))) (a_cons (d_var rfl (.int _)) (a_cons d_int (a_cons d_int a_nil))) k58))) (fun hc F59 H60 g61 hS62 => ?_) (fun hc F63 H64 g65 hS66 => ?_)
        · rw [if_pos hc] at m
          refine s_raise ?_
          obtain rfl := sm m
          exact qx _ rfl _ _ _ (Gr.tr g8 (Gr.tr g12 (Gr.tr g32 (Gr.tr g55 g61)))) hS62 (xd0 (by decide))
        · rw [if_neg (bf hc)] at m
          refine nxt ?_
          obtain rfl := sm m
          exact q _ rfl _ _ _ (Gr.tr g8 (Gr.tr g12 (Gr.tr g32 (Gr.tr g55 g65)))) hS66 Dt.non
theorem sc_look_at_aisle : FnScope N_look_at_aisle ["thing"] (defScope s_look_at_aisle) := ⟨rfl, rfl, rfl, by decide +kernel, rfl, by decide +kernel, by decide +kernel⟩
theorem ok_look_at_aisle {P : Program} {w : World} {K : PySem.W.Frag} {mg : Str → Option Value} {base : Heap} (hF : Df K mg "look_at_aisle" s_look_at_aisle) (m_all : mg "all" = none) (m_isinstance : mg "isinstance" = none) (m_len : mg "len" = none) (m_list : mg "list" = none) (m_tuple : mg "tuple" = none) (c_LONGEST_GAP : ∃ t, mg "LONGEST_GAP" = some (.int 1000 t)) (c_MOST_GAPS : ∃ t, mg "MOST_GAPS" = some (.int 15 t)) (c_MOST_LOAD : ∃ t, mg "MOST_LOAD" = some (.int 20 t)) (o_is_between : Ok P w K mg base 2 "is_between" ["thing", "least", "greatest"] (sp_is_between K)) (x_NoAisle : ExD K mg "NoAisle") : OkX P w K mg base 3 "look_at_aisle" ["thing"] (sp_look_at_aisle K) := by
  obtain ⟨_, c_LONGEST_GAP⟩ := c_LONGEST_GAP
  obtain ⟨_, c_MOST_GAPS⟩ := c_MOST_GAPS
  obtain ⟨_, c_MOST_LOAD⟩ := c_MOST_LOAD
  obtain ⟨⟨_, G_is_between, bd_is_between, _⟩, kp_is_between, gm_is_between⟩ := o_is_between
  obtain ⟨⟨fd, F⟩, gm⟩ := hF
  refine ⟨⟨fd, F.ok sc_look_at_aisle (fun vs H Q E h => ?_) (fun cdv A outer s H vs Q E hr h => ⟨t_look_at_aisle K E, ?_, w_look_at_aisle vs H Q E h⟩), F.bindsN fun _ _ _ _ _ _ us hl => match us, hl with | [_], _ => rfl, lk_of F⟩, F.kp, gm⟩
  · obtain ⟨F0, cs, x, y, h, _⟩ := h; exact Dts.len h
  · refine pss_tk (W := WX0 E) (takes_of (E := E) rfl rfl rfl rfl) fun tkE => ?_
    exact (pss_cons (ps_if (PW.pt (pw_or (pt_not (pt_val (pe_callB call_isi (by rfl) m_isinstance (by decide +kernel) (pa_cons (pv 0) (pa_cons (pe_bltn (v := .ty "tuple") (by rfl) m_tuple (by decide +kernel) rfl) pa_nil))))) (pw_or1 (pt_cmpR op_ne (pe_callB cr_lenL (by rfl) m_len PySem.boot_len (pa_cons (pv 0) pa_nil)) pe_int (nomark _))))) (pss_one (ps_raiseX rfl tkE x_NoAisle (by rfl))) pss_nil) (pss_cons (ps_asg (pv 0) (pg_tup rfl (pgs_cons (pg_name (i := 1) sc_look_at_aisle.nd rfl (Or.inl rfl)) (pgs_cons (pg_name (i := 2) sc_look_at_aisle.nd rfl (Or.inl rfl)) pgs_nil)))) (pss_cons (ps_if (PW.pt (pw_or (pt_not (pt_val (pe_callB call_isi (by rfl) m_isinstance (by decide +kernel) (pa_cons (pv 1) (pa_cons (pe_bltn (v := .ty "list") (by rfl) m_list (by decide +kernel) rfl) pa_nil))))) (pw_or1 (pt_not (pt_chain op_le op_le pe_int (pe_callB cr_lenL (by rfl) m_len PySem.boot_len (pa_cons (pv 1) pa_nil)) (pe_glob (v := .int 15) (by rfl) c_MOST_GAPS ⟨_, rfl⟩)))))) (pss_one (ps_raiseX rfl tkE x_NoAisle (by rfl))) pss_nil) (pss_cons (ps_if (pt_not (pt_val (pe_callB (cr_all rfl) (by rfl) m_all (by decide +kernel) (pa_cons (pe_lc (own := [("gap", 3)]) (g := (gName 3)) (tt := tYes) (te := (tCall (sp_is_between K) [] E0 (tCons (tVar 3) (tCons (tC (.int 1)) (tCons (tC (.int 1000)) tNil))))) (by rfl) sc_look_at_aisle.nd (pi_list (pv 1)) (blkOk_by (own := [("gap", 3)]) (N := N_look_at_aisle) (sc := defScope s_look_at_aisle) (by decide +kernel)) (fun _ _ _ _ _ => (pg_name (i := 3) sc_look_at_aisle.nd rfl (Or.inl rfl))) (fun _ _ _ _ _ => pts_nil) (fun _ _ _ _ _ => (pe_call G_is_between (hr.mono (by decide)) (by rfl) gm_is_between kp_is_between bd_is_between .nil pass0 (pa_cons (pv 3) (pa_cons pe_int (pa_cons (pe_glob (v := .int 1000) (by rfl) c_LONGEST_GAP ⟨_, rfl⟩) pa_nil)))))) pa_nil)))) (pss_one (ps_raiseX rfl tkE x_NoAisle (by rfl))) pss_nil) (pss_one (ps_if (pt_not (pt_val (pe_call G_is_between (hr.mono (by decide)) (by rfl) gm_is_between kp_is_between bd_is_between .nil pass0 (pa_cons (pv 2) (pa_cons pe_int (pa_cons (pe_glob (v := .int 20) (by rfl) c_MOST_LOAD ⟨_, rfl⟩) pa_nil)))))) (pss_one (ps_raiseX rfl tkE x_NoAisle (by rfl))) pss_nil))))))
abbrev s_look_at_aisle_D : Stmt := (top 28)
def f_look_at_aisle_D : PyData → Option (Rs Unit) := fun thing_1 => (((if (!(isiD "tuple" thing_1)) = true then some true else (((lenD thing_1)).bind fun x2 => some (!decide (x2 = (2 : Int)))))).bind fun x4 => (if x4 = true then some (Rs.ex ("NoAisle", PyData.none)) else (((tupD2 thing_1)).bind fun x20 => letM x20.1 fun gaps_22 => letM x20.2 fun most_24 => (((if (!(isiD "list" gaps_22)) = true then some true else (((lenD gaps_22)).bind fun x32 => some (!(decide ((1 : Int) ≤ x32) && decide (x32 ≤ (15 : Int))))))).bind fun x34 => (if x34 = true then some (Rs.ex ("NoAisle", PyData.none)) else (((asLD gaps_22)).bind fun x44 => ((lcC (fun gap_46 => (((f_is_between_D (gap_46, (1 : Int), (1000 : Int)))).bind fun x57 => some (some x57))) x44)).bind fun x59 => (if (!((x59).all id)) = true then some (Rs.ex ("NoAisle", PyData.none)) else (((f_is_between_D (most_24, (1 : Int), (20 : Int)))).bind fun x69 => (if (!x69) = true then some (Rs.ex ("NoAisle", PyData.none)) else some (Rs.ok ()))))))))))
abbrev A_look_at_aisle_D : PyData → List PyData := fun x => [eD x]
abbrev N_look_at_aisle_D : List Str := ["thing", "gaps", "most", "gap"]
abbrev sp_look_at_aisle_D (K : PySem.W.Frag) : Sp := spPX K A_look_at_aisle_D eN f_look_at_aisle_D
def t_look_at_aisle_D (K : PySem.W.Frag) (E : XK) : TS := (tSeq (tIfS (tOr (tNot (tB (tCB (rIsi K) (tCons (tVar 0) (tCons (tC (.ty "tuple")) tNil))))) (tTest (tOp rNe (tCB (rLenG K) (tCons (tVar 0) tNil)) (tC (.int 2))))) (tRaiseX (WX0 E) (He.ga K "NoAisle")) tNext) (tSeq (tAsg (tVar 0) (gTup K 2 (gCons (gName 1) (gCons (gName 2) gNil)))) (tSeq (tIfS (tOr (tNot (tB (tCB (rIsi K) (tCons (tVar 1) (tCons (tC (.ty "list")) tNil))))) (tNot (tTest (tChain (rI0 fun i j => .bl (decide (i ≤ j))) (rI0 fun i j => .bl (decide (i ≤ j))) (tC (.int 1)) (tCB (rLenG K) (tCons (tVar 1) tNil)) (tC (.int 15)))))) (tRaiseX (WX0 E) (He.ga K "NoAisle")) tNext) (tSeq (tIfS (tNot (tB (tCB (rAll K) (tCons (tLc (iList K (tVar 1)) (gName 3) tYes (tCall (sp_is_between_D K) [] E0 (tCons (tVar 3) (tCons (tC (.int 1)) (tCons (tC (.int 1000)) tNil)))) [3]) tNil)))) (tRaiseX (WX0 E) (He.ga K "NoAisle")) tNext) (tIfS (tNot (tB (tCall (sp_is_between_D K) [] E0 (tCons (tVar 2) (tCons (tC (.int 1)) (tCons (tC (.int 20)) tNil)))))) (tRaiseX (WX0 E) (He.ga K "NoAisle")) tNext)))))
theorem w_look_at_aisle_D {K : PySem.W.Frag} (vs : List V) (H : Hp) (Q : VK) (E : XK) (h : sp_look_at_aisle_D K vs H Q E) : t_look_at_aisle_D K E { nx := fun _ H' => Q .non H', rt := Q } (start N_look_at_aisle_D vs) H := by
  obtain ⟨F0, cs, thing_1, y, h, hS0, m, q, qx⟩ := h
  obtain ⟨a0, _, rfl, ha0, h⟩ := Dts.hd h
  obtain rfl := Dts.no h
  unfold f_look_at_aisle_D at m
  try dsimp only at m
  unfold t_look_at_aisle_D
  refine go (σ' := [some a0, none, none, none]) rfl ?_
  obtain ⟨x4, k5, m⟩ := bnd m
  refine s_if (b := x4) hS0 (t_orM (r := x4) (t_not (t_B (K := K) (d_isiD (c := "tuple") (by decide) (d_var rfl ha0)))) (fun hc => by rw [if_neg (bf hc)] at k5; obtain ⟨x2, k3, k5⟩ := bnd k5; obtain rfl := sm k5; exact (t_test (K := K) (d_neI (d_lenD (a_cons (d_var rfl ha0) a_nil) k3) d_int))) (fun hc => by rw [if_pos hc] at k5; exact (sm k5).symm)) (fun hc F6 H7 g8 hS9 => ?_) (fun hc F10 H11 g12 hS13 => ?_)
  · rw [if_pos hc] at m
    refine s_raise ?_
    obtain rfl := sm m
    exact qx _ rfl _ _ _ g8 hS9 (xd0 (by decide))
  · rw [if_neg (bf hc)] at m
    refine nxt ?_
    obtain ⟨x20, k21, m⟩ := bnd m
    refine s_asg (K := K) (d := eD thing_1) hS13 (d_var rfl (Dt.gr g12 ha0)) (fun v18 F14 H15 g16 hS17 hv19 => ?_)
    rw [show eD thing_1 = _ from tupD2_eq k21] at hv19
    obtain ⟨gaps_22, k23, m⟩ := lt m
    obtain ⟨most_24, k25, m⟩ := lt m
    obtain ⟨p26, w28, w29, rfl, hT27, hw30, hw31⟩ := u2 hv19
    rw [k23] at hw30
    rw [k25] at hw31
    refine tg (σ' := [some a0, some w28, some w29, none]) (fun Q hq => ⟨p26, [_, _], rfl, gr_T hS17.fr hT27, rfl, _, _, rfl, _, _, rfl, rfl, hq⟩) ?_
    obtain ⟨x34, k35, m⟩ := bnd m
    refine s_if (b := x34) hS17 (t_orM (r := x34) (t_not (t_B (K := K) (d_isiD (c := "list") (by decide) (d_var rfl hw30)))) (fun hc => by rw [if_neg (bf hc)] at k35; obtain ⟨x32, k33, k35⟩ := bnd k35; obtain rfl := sm k35; exact (t_not (t_test (K := K) (d_chain d_int (d_lenD (a_cons (d_var rfl hw30) a_nil) k33) d_int)))) (fun hc => by rw [if_pos hc] at k35; exact (sm k35).symm)) (fun hc F36 H37 g38 hS39 => ?_) (fun hc F40 H41 g42 hS43 => ?_)
    · rw [if_pos hc] at m
      refine s_raise ?_
      obtain rfl := sm m
      exact qx _ rfl _ _ _ (Gr.tr g12 (Gr.tr g16 g38)) hS39 (xd0 (by decide))
    · rw [if_neg (bf hc)] at m
      refine nxt ?_
      obtain ⟨x44, k45, m⟩ := bnd m
      obtain ⟨x59, k60, m⟩ := bnd m
      refine s_if (b := (!((x59).all id))) hS43 (t_not (t_B (K := K) (d_all (a_cons (EvC.dd (c_lcC (K := K) (f := (fun gap_46 => (((f_is_between_D (gap_46, (1 : Int), (1000 : Int)))).bind fun x57 => some (some x57)))) (em := eB) (i_list (en := eD) (d_is (d_var rfl (Dt.gr g42 hw30)) (ck_LD _ _ k45))) k60 (fun gap_46 o53 v54 F47 p48 us49 g50 hv51 ho52 => by obtain ⟨x57, k58, ho52⟩ := bnd ho52; obtain rfl := sm ho52; exact ⟨[some a0, some w28, some w29, some v54], fun H56 Q hS55 hq => (fun Q hq => hq) Q hq, rfl, t_yes, fun y hy => by obtain rfl := sm hy; exact (d_call (A := A_is_between_D) (B := eB) (x := (gap_46, (1 : Int), (1000 : Int))) (a_cons (d_var rfl hv51) (a_cons d_int (a_cons d_int a_nil))) k58)⟩))) a_nil)))) (fun hc F61 H62 g63 hS64 => ?_) (fun hc F65 H66 g67 hS68 => ?_)
      · rw [if_pos hc] at m
        refine s_raise ?_
        obtain rfl := sm m
        exact qx _ rfl _ _ _ (Gr.tr g12 (Gr.tr g16 (Gr.tr g42 g63))) hS64 (xd0 (by decide))
      · rw [if_neg (bf hc)] at m
        refine nxt ?_
        obtain ⟨x69, k70, m⟩ := bnd m
        refine s_if (b := (!x69)) hS68 (t_not (t_B (K := K) (d_call (A := A_is_between_D) (B := eB) (x := (most_24, (1 : Int), (20 : Int))) (a_cons (d_var rfl (Dt.gr (Gr.tr g42 g67) hw31)) (a_cons d_int (a_cons d_int a_nil))) k70))) (fun hc F71 H72 g73 hS74 => ?_) (fun hc F75 H76 g77 hS78 => ?_)
        · rw [if_pos hc] at m
          refine s_raise ?_
          obtain rfl := sm m
          exact qx _ rfl _ _ _ (Gr.tr g12 (Gr.tr g16 (Gr.tr g42 (Gr.tr g67 g73)))) hS74 (xd0 (by decide))
        · rw [if_neg (bf hc)] at m
          refine nxt ?_
          obtain rfl := sm m
          exact q _ rfl _ _ _ (Gr.tr g12 (Gr.tr g16 (Gr.tr g42 (Gr.tr g67 g77)))) hS78 Dt.non
theorem sc_look_at_aisle_D : FnScope N_look_at_aisle_D ["thing"] (defScope s_look_at_aisle_D) := ⟨rfl, rfl, rfl, by decide +kernel, rfl, by decide +kernel, by decide +kernel⟩
theorem ok_look_at_aisle_D {P : Program} {w : World} {K : PySem.W.Frag} {mg : Str → Option Value} {base : Heap} (hF : Df K mg "look_at_aisle" s_look_at_aisle_D) (m_all : mg "all" = none) (m_isinstance : mg "isinstance" = none) (m_len : mg "len" = none) (m_list : mg "list" = none) (m_tuple : mg "tuple" = none) (c_LONGEST_GAP : ∃ t, mg "LONGEST_GAP" = some (.int 1000 t)) (c_MOST_GAPS : ∃ t, mg "MOST_GAPS" = some (.int 15 t)) (c_MOST_LOAD : ∃ t, mg "MOST_LOAD" = some (.int 20 t)) (o_is_between_D : Ok P w K mg base 2 "is_between" ["thing", "least", "greatest"] (sp_is_between_D K)) (x_NoAisle : ExD K mg "NoAisle") : OkX P w K mg base 3 "look_at_aisle" ["thing"] (sp_look_at_aisle_D K) := by
  obtain ⟨_, c_LONGEST_GAP⟩ := c_LONGEST_GAP
  obtain ⟨_, c_MOST_GAPS⟩ := c_MOST_GAPS
  obtain ⟨_, c_MOST_LOAD⟩ := c_MOST_LOAD
  obtain ⟨⟨_, G_is_between_D, bd_is_between_D, _⟩, kp_is_between_D, gm_is_between_D⟩ := o_is_between_D
  obtain ⟨⟨fd, F⟩, gm⟩ := hF
  refine ⟨⟨fd, F.ok sc_look_at_aisle_D (fun vs H Q E h => ?_) (fun cdv A outer s H vs Q E hr h => ⟨t_look_at_aisle_D K E, ?_, w_look_at_aisle_D vs H Q E h⟩), F.bindsN fun _ _ _ _ _ _ us hl => match us, hl with | [_], _ => rfl, lk_of F⟩, F.kp, gm⟩
  · obtain ⟨F0, cs, x, y, h, _⟩ := h; exact Dts.len h
  · refine pss_tk (W := WX0 E) (takes_of (E := E) rfl rfl rfl rfl) fun tkE => ?_
    exact (pss_cons (ps_if (PW.pt (pw_or (pt_not (pt_val (pe_callB call_isi (by rfl) m_isinstance (by decide +kernel) (pa_cons (pv 0) (pa_cons (pe_bltn (v := .ty "tuple") (by rfl) m_tuple (by decide +kernel) rfl) pa_nil))))) (pw_or1 (pt_cmpR op_ne (pe_callB cr_lenG (by rfl) m_len PySem.boot_len (pa_cons (pv 0) pa_nil)) pe_int (nomark _))))) (pss_one (ps_raiseX rfl tkE x_NoAisle (by rfl))) pss_nil) (pss_cons (ps_asg (pv 0) (pg_tup rfl (pgs_cons (pg_name (i := 1) sc_look_at_aisle_D.nd rfl (Or.inl rfl)) (pgs_cons (pg_name (i := 2) sc_look_at_aisle_D.nd rfl (Or.inl rfl)) pgs_nil)))) (pss_cons (ps_if (PW.pt (pw_or (pt_not (pt_val (pe_callB call_isi (by rfl) m_isinstance (by decide +kernel) (pa_cons (pv 1) (pa_cons (pe_bltn (v := .ty "list") (by rfl) m_list (by decide +kernel) rfl) pa_nil))))) (pw_or1 (pt_not (pt_chain op_le op_le pe_int (pe_callB cr_lenG (by rfl) m_len PySem.boot_len (pa_cons (pv 1) pa_nil)) (pe_glob (v := .int 15) (by rfl) c_MOST_GAPS ⟨_, rfl⟩)))))) (pss_one (ps_raiseX rfl tkE x_NoAisle (by rfl))) pss_nil) (pss_cons (ps_if (pt_not (pt_val (pe_callB (cr_all rfl) (by rfl) m_all (by decide +kernel) (pa_cons (pe_lc (own := [("gap", 3)]) (g := (gName 3)) (tt := tYes) (te := (tCall (sp_is_between_D K) [] E0 (tCons (tVar 3) (tCons (tC (.int 1)) (tCons (tC (.int 1000)) tNil))))) (by rfl) sc_look_at_aisle_D.nd (pi_list (pv 1)) (blkOk_by (own := [("gap", 3)]) (N := N_look_at_aisle_D) (sc := defScope s_look_at_aisle_D) (by decide +kernel)) (fun _ _ _ _ _ => (pg_name (i := 3) sc_look_at_aisle_D.nd rfl (Or.inl rfl))) (fun _ _ _ _ _ => pts_nil) (fun _ _ _ _ _ => (pe_call G_is_between_D (hr.mono (by decide)) (by rfl) gm_is_between_D kp_is_between_D bd_is_between_D .nil pass0 (pa_cons (pv 3) (pa_cons pe_int (pa_cons (pe_glob (v := .int 1000) (by rfl) c_LONGEST_GAP ⟨_, rfl⟩) pa_nil)))))) pa_nil)))) (pss_one (ps_raiseX rfl tkE x_NoAisle (by rfl))) pss_nil) (pss_one (ps_if (pt_not (pt_val (pe_call G_is_between_D (hr.mono (by decide)) (by rfl) gm_is_between_D kp_is_between_D bd_is_between_D .nil pass0 (pa_cons (pv 2) (pa_cons pe_int (pa_cons (pe_glob (v := .int 20) (by rfl) c_MOST_LOAD ⟨_, rfl⟩) pa_nil)))))) (pss_one (ps_raiseX rfl tkE x_NoAisle (by rfl))) pss_nil))))))
abbrev s_is_name : Stmt := (top 20)
def f_is_name : Str → Option Bool := fun thing_1 => (((if (!true) = true then some true else (((lenS thing_1)).bind fun x2 => some (!(decide ((1 : Int) ≤ x2) && decide (x2 ≤ (8 : Int))))))).bind fun x4 => (if x4 = true then some false else (((mapC (fun sign_20 => (inS sign_20 ("abcdefghijklmnopqrstuvwxyz" : Str))) (signs thing_1))).bind fun x31 => some ((x31).all id))))
abbrev A_is_name : Str → List PyData := fun x => [eS x]
abbrev N_is_name : List Str := ["thing", "sign"]
abbrev sp_is_name (K : PySem.W.Frag) : Sp := spP K A_is_name eB f_is_name
def t_is_name (K : PySem.W.Frag) : TS := (tSeq (tIfS (tOr (tNot (tB (tCB (rIsi K) (tCons (tVar 0) (tCons (tC (.ty "str")) tNil))))) (tNot (tTest (tChain (rI0 fun i j => .bl (decide (i ≤ j))) (rI0 fun i j => .bl (decide (i ≤ j))) (tC (.int 1)) (tCB rLenS (tCons (tVar 0) tNil)) (tC (.int 8)))))) (tRet (tC (.bl false))) tNext) (tRet (tCB (rAll K) (tCons (tLc (iStr (tVar 0)) (gName 1) tYes (tOp rInS (tVar 1) (tC (.str "abcdefghijklmnopqrstuvwxyz"))) [1]) tNil))))
theorem w_is_name {K : PySem.W.Frag} (vs : List V) (H : Hp) (Q : VK) (E : XK) (h : sp_is_name K vs H Q E) : t_is_name K { nx := fun _ H' => Q .non H', rt := Q } (start N_is_name vs) H := by
  obtain ⟨F0, cs, thing_1, y, h, hS0, m, q⟩ := h
  obtain ⟨a0, _, rfl, ha0, h⟩ := Dts.hd h
  obtain rfl := Dts.no h
  obtain rfl := Dt.toStr ha0
  unfold f_is_name at m
  try dsimp only at m
  unfold t_is_name
  refine go (σ' := [some (.str thing_1), none]) rfl ?_
  obtain ⟨x4, k5, m⟩ := bnd m
  refine s_if (b := x4) hS0 (t_orM (r := x4) (t_not (t_B (K := K) (d_is (e := PyData.bool true) (d_isiD (c := "str") (by decide) (d_var rfl (.str _))) (congrArg PyData.bool (by rfl))))) (fun hc => by rw [if_neg (bf hc)] at k5; obtain ⟨x2, k3, k5⟩ := bnd k5; obtain rfl := sm k5; exact (t_not (t_test (K := K) (d_chain d_int (d_lenS (a_cons (d_var rfl (.str _)) a_nil) k3) d_int)))) (fun hc => by rw [if_pos hc] at k5; exact (sm k5).symm)) (fun hc F6 H7 g8 hS9 => ?_) (fun hc F16 H17 g18 hS19 => ?_)
  · rw [if_pos hc] at m
    refine s_ret (K := K) (d := eB false) hS9 d_bl (fun v14 F10 H11 g12 hS13 hv15 => ?_)
    obtain rfl := sm m
    exact q _ _ _ (Gr.tr g8 g12) hS13 hv15
  · rw [if_neg (bf hc)] at m
    refine nxt ?_
    obtain ⟨x31, k32, m⟩ := bnd m
    refine s_ret (K := K) (d := eB ((x31).all id)) hS19 (d_all (a_cons (EvC.dd (c_mapC (K := K) (f := (fun sign_20 => (inS sign_20 ("abcdefghijklmnopqrstuvwxyz" : Str)))) (em := eB) (i_str (d_var rfl (.str _))) k32 (fun sign_20 o27 v28 F21 p22 us23 g24 hv25 ho26 => by obtain rfl := Dt.toStr hv25; obtain rfl := sm ho26; exact ⟨[some (.str thing_1), some (.str sign_20)], fun H30 Q hS29 hq => (fun Q hq => hq) Q hq, rfl, t_yes, fun y hy => by obtain rfl := sm hy; exact (d_inS (d_var rfl (.str _)) d_str)⟩))) a_nil)) (fun v37 F33 H34 g35 hS36 hv38 => ?_)
    obtain rfl := sm m
    exact q _ _ _ (Gr.tr g18 g35) hS36 hv38
theorem sc_is_name : FnScope N_is_name ["thing"] (defScope s_is_name) := ⟨rfl, rfl, rfl, by decide +kernel, rfl, by decide +kernel, by decide +kernel⟩
theorem ok_is_name {P : Program} {w : World} {K : PySem.W.Frag} {mg : Str → Option Value} {base : Heap} (hF : Df K mg "is_name" s_is_name) (m_all : mg "all" = none) (m_isinstance : mg "isinstance" = none) (m_len : mg "len" = none) (m_str : mg "str" = none) (c_LETTERS : ∃ t, mg "LETTERS" = some (.str "abcdefghijklmnopqrstuvwxyz" t)) (c_LONGEST : ∃ t, mg "LONGEST" = some (.int 8 t)) : Ok P w K mg base 1 "is_name" ["thing"] (sp_is_name K) := by
  obtain ⟨_, c_LETTERS⟩ := c_LETTERS
  obtain ⟨_, c_LONGEST⟩ := c_LONGEST
  obtain ⟨⟨fd, F⟩, gm⟩ := hF
  refine ⟨⟨fd, F.ok sc_is_name (fun vs H Q E h => ?_) (fun cdv A outer s H vs Q E hr h => ⟨t_is_name K, PSs.nox ?_, w_is_name vs H Q E h⟩), F.bindsN fun _ _ _ _ _ _ us hl => match us, hl with | [_], _ => rfl, lk_of F⟩, F.kp, gm⟩
  · obtain ⟨F0, cs, x, y, h, _⟩ := h; exact Dts.len h
  · exact (pss_cons (ps_if (PW.pt (pw_or (pt_not (pt_val (pe_callB call_isi (by rfl) m_isinstance (by decide +kernel) (pa_cons (pv 0) (pa_cons (pe_bltn (v := .ty "str") (by rfl) m_str (by decide +kernel) rfl) pa_nil))))) (pw_or1 (pt_not (pt_chain op_le op_le pe_int (pe_callB cr_lenS (by rfl) m_len PySem.boot_len (pa_cons (pv 0) pa_nil)) (pe_glob (v := .int 8) (by rfl) c_LONGEST ⟨_, rfl⟩)))))) (pss_one (ps_ret pe_bl)) pss_nil) (pss_one (ps_ret (pe_callB (cr_all rfl) (by rfl) m_all (by decide +kernel) (pa_cons (pe_lc (own := [("sign", 1)]) (g := (gName 1)) (tt := tYes) (te := (tOp rInS (tVar 1) (tC (.str "abcdefghijklmnopqrstuvwxyz")))) (by rfl) sc_is_name.nd (pi_str (pv 0)) (blkOk_by (own := [("sign", 1)]) (N := N_is_name) (sc := defScope s_is_name) (by decide +kernel)) (fun _ _ _ _ _ => (pg_name (i := 1) sc_is_name.nd rfl (Or.inl rfl))) (fun _ _ _ _ _ => pts_nil) (fun _ _ _ _ _ => (pe_cmpR op_inR (pv 1) (pe_glob (v := .str "abcdefghijklmnopqrstuvwxyz") (by rfl) c_LETTERS ⟨_, rfl⟩) (by rfl)))) pa_nil)))))
abbrev s_is_name_D : Stmt := (top 20)
def f_is_name_D : PyData → Option Bool := fun thing_1 => (((if (!(isiD "str" thing_1)) = true then some true else (((lenD thing_1)).bind fun x2 => some (!(decide ((1 : Int) ≤ x2) && decide (x2 ≤ (8 : Int))))))).bind fun x4 => (if x4 = true then some false else (((asS thing_1)).bind fun x20 => ((mapC (fun sign_22 => (inS sign_22 ("abcdefghijklmnopqrstuvwxyz" : Str))) (signs x20))).bind fun x33 => some ((x33).all id))))
abbrev A_is_name_D : PyData → List PyData := fun x => [eD x]
abbrev N_is_name_D : List Str := ["thing", "sign"]
abbrev sp_is_name_D (K : PySem.W.Frag) : Sp := spP K A_is_name_D eB f_is_name_D
def t_is_name_D (K : PySem.W.Frag) : TS := (tSeq (tIfS (tOr (tNot (tB (tCB (rIsi K) (tCons (tVar 0) (tCons (tC (.ty "str")) tNil))))) (tNot (tTest (tChain (rI0 fun i j => .bl (decide (i ≤ j))) (rI0 fun i j => .bl (decide (i ≤ j))) (tC (.int 1)) (tCB (rLenG K) (tCons (tVar 0) tNil)) (tC (.int 8)))))) (tRet (tC (.bl false))) tNext) (tRet (tCB (rAll K) (tCons (tLc (iStr (tVar 0)) (gName 1) tYes (tOp rInS (tVar 1) (tC (.str "abcdefghijklmnopqrstuvwxyz"))) [1]) tNil))))
theorem w_is_name_D {K : PySem.W.Frag} (vs : List V) (H : Hp) (Q : VK) (E : XK) (h : sp_is_name_D K vs H Q E) : t_is_name_D K { nx := fun _ H' => Q .non H', rt := Q } (start N_is_name_D vs) H := by
  obtain ⟨F0, cs, thing_1, y, h, hS0, m, q⟩ := h
  obtain ⟨a0, _, rfl, ha0, h⟩ := Dts.hd h
  obtain rfl := Dts.no h
  unfold f_is_name_D at m
  try dsimp only at m
  unfold t_is_name_D
  refine go (σ' := [some a0, none]) rfl ?_
  obtain ⟨x4, k5, m⟩ := bnd m
  refine s_if (b := x4) hS0 (t_orM (r := x4) (t_not (t_B (K := K) (d_isiD (c := "str") (by decide) (d_var rfl ha0)))) (fun hc => by rw [if_neg (bf hc)] at k5; obtain ⟨x2, k3, k5⟩ := bnd k5; obtain rfl := sm k5; exact (t_not (t_test (K := K) (d_chain d_int (d_lenD (a_cons (d_var rfl ha0) a_nil) k3) d_int)))) (fun hc => by rw [if_pos hc] at k5; exact (sm k5).symm)) (fun hc F6 H7 g8 hS9 => ?_) (fun hc F16 H17 g18 hS19 => ?_)
  · rw [if_pos hc] at m
    refine s_ret (K := K) (d := eB false) hS9 d_bl (fun v14 F10 H11 g12 hS13 hv15 => ?_)
    obtain rfl := sm m
    exact q _ _ _ (Gr.tr g8 g12) hS13 hv15
  · rw [if_neg (bf hc)] at m
    refine nxt ?_
    obtain ⟨x20, k21, m⟩ := bnd m
    obtain ⟨x33, k34, m⟩ := bnd m
    refine s_ret (K := K) (d := eB ((x33).all id)) hS19 (d_all (a_cons (EvC.dd (c_mapC (K := K) (f := (fun sign_22 => (inS sign_22 ("abcdefghijklmnopqrstuvwxyz" : Str)))) (em := eB) (i_str (d_is (d_var rfl (Dt.gr g18 ha0)) (ck_S _ _ k21))) k34 (fun sign_22 o29 v30 F23 p24 us25 g26 hv27 ho28 => by obtain rfl := Dt.toStr hv27; obtain rfl := sm ho28; exact ⟨[some a0, some (.str sign_22)], fun H32 Q hS31 hq => (fun Q hq => hq) Q hq, rfl, t_yes, fun y hy => by obtain rfl := sm hy; exact (d_inS (d_var rfl (.str _)) d_str)⟩))) a_nil)) (fun v39 F35 H36 g37 hS38 hv40 => ?_)
    obtain rfl := sm m
    exact q _ _ _ (Gr.tr g18 g37) hS38 hv40
theorem sc_is_name_D : FnScope N_is_name_D ["thing"] (defScope s_is_name_D) := ⟨rfl, rfl, rfl, by decide +kernel, rfl, by decide +kernel, by decide +kernel⟩
theorem ok_is_name_D {P : Program} {w : World} {K : PySem.W.Frag} {mg : Str → Option Value} {base : Heap} (hF : Df K mg "is_name" s_is_name_D) (m_all : mg "all" = none) (m_isinstance : mg "isinstance" = none) (m_len : mg "len" = none) (m_str : mg "str" = none) (c_LETTERS : ∃ t, mg "LETTERS" = some (.str "abcdefghijklmnopqrstuvwxyz" t)) (c_LONGEST : ∃ t, mg "LONGEST" = some (.int 8 t)) : Ok P w K mg base 1 "is_name" ["thing"] (sp_is_name_D K) := by
  obtain ⟨_, c_LETTERS⟩ := c_LETTERS
  obtain ⟨_, c_LONGEST⟩ := c_LONGEST
  obtain ⟨⟨fd, F⟩, gm⟩ := hF
  refine ⟨⟨fd, F.ok sc_is_name_D (fun vs H Q E h => ?_) (fun cdv A outer s H vs Q E hr h => ⟨t_is_name_D K, PSs.nox ?_, w_is_name_D vs H Q E h⟩), F.bindsN fun _ _ _ _ _ _ us hl => match us, hl with | [_], _ => rfl, lk_of F⟩, F.kp, gm⟩
  · obtain ⟨F0, cs, x, y, h, _⟩ := h; exact Dts.len h
  · exact (pss_cons (ps_if (PW.pt (pw_or (pt_not (pt_val (pe_callB call_isi (by rfl) m_isinstance (by decide +kernel) (pa_cons (pv 0) (pa_cons (pe_bltn (v := .ty "str") (by rfl) m_str (by decide +kernel) rfl) pa_nil))))) (pw_or1 (pt_not (pt_chain op_le op_le pe_int (pe_callB cr_lenG (by rfl) m_len PySem.boot_len (pa_cons (pv 0) pa_nil)) (pe_glob (v := .int 8) (by rfl) c_LONGEST ⟨_, rfl⟩)))))) (pss_one (ps_ret pe_bl)) pss_nil) (pss_one (ps_ret (pe_callB (cr_all rfl) (by rfl) m_all (by decide +kernel) (pa_cons (pe_lc (own := [("sign", 1)]) (g := (gName 1)) (tt := tYes) (te := (tOp rInS (tVar 1) (tC (.str "abcdefghijklmnopqrstuvwxyz")))) (by rfl) sc_is_name_D.nd (pi_str (pv 0)) (blkOk_by (own := [("sign", 1)]) (N := N_is_name_D) (sc := defScope s_is_name_D) (by decide +kernel)) (fun _ _ _ _ _ => (pg_name (i := 1) sc_is_name_D.nd rfl (Or.inl rfl))) (fun _ _ _ _ _ => pts_nil) (fun _ _ _ _ _ => (pe_cmpR op_inR (pv 1) (pe_glob (v := .str "abcdefghijklmnopqrstuvwxyz") (by rfl) c_LETTERS ⟨_, rfl⟩) (by rfl)))) pa_nil)))))
abbrev s_is_order : Stmt := (top 29)
def f_is_order : ((Str × Int × Int × Int) × Int) → Option Bool := fun (thing_1, last_2) => (if ((!true) || (!decide ((4 : Int) = (4 : Int)))) = true then some false else (letM thing_1.1 fun name_23 => letM thing_1.2.1 fun tick_25 => (((f_is_name name_23)).bind fun x37 => ((if (!x37) = true then some true else (((f_is_between (tick_25, (0 : Int), (1000000000 : Int)))).bind fun x39 => some (!x39)))).bind fun x41 => (if x41 = true then some false else (((f_is_between (thing_1.2.2.1, (0 : Int), last_2))).bind fun x57 => ((if x57 = true then (((f_is_between (thing_1.2.2.2, (0 : Int), last_2))).bind fun x59 => some (x59 && (!decide (thing_1.2.2.1 = thing_1.2.2.2)))) else some false)).bind fun x61 => some x61)))))
abbrev A_is_order : ((Str × Int × Int × Int) × Int) → List PyData := fun x => [(eT4 eS eI eI eI) x.1, eI x.2]
abbrev N_is_order : List Str := ["thing", "last", "name", "tick", "at", "to"]
abbrev sp_is_order (K : PySem.W.Frag) : Sp := spP K A_is_order eB f_is_order
def t_is_order (K : PySem.W.Frag) : TS := (tSeq (tIfS (tOr (tNot (tB (tCB (rIsi K) (tCons (tVar 0) (tCons (tC (.ty "tuple")) tNil))))) (tTest (tOp rNe (tCB (rLenL K) (tCons (tVar 0) tNil)) (tC (.int 4))))) (tRet (tC (.bl false))) tNext) (tSeq (tAsg (tVar 0) (gTup K 4 (gCons (gName 2) (gCons (gName 3) (gCons (gName 4) (gCons (gName 5) gNil)))))) (tSeq (tIfS (tOr (tNot (tB (tCall (sp_is_name K) [] E0 (tCons (tVar 2) tNil)))) (tNot (tB (tCall (sp_is_between K) [] E0 (tCons (tVar 3) (tCons (tC (.int 0)) (tCons (tC (.int 1000000000)) tNil))))))) (tRet (tC (.bl false))) tNext) (tRet (tAndV (tCall (sp_is_between K) [] E0 (tCons (tVar 4) (tCons (tC (.int 0)) (tCons (tVar 1) tNil)))) (tAndV (tCall (sp_is_between K) [] E0 (tCons (tVar 5) (tCons (tC (.int 0)) (tCons (tVar 1) tNil)))) (tOp rNe (tVar 4) (tVar 5))))))))
theorem w_is_order {K : PySem.W.Frag} (vs : List V) (H : Hp) (Q : VK) (E : XK) (h : sp_is_order K vs H Q E) : t_is_order K { nx := fun _ H' => Q .non H', rt := Q } (start N_is_order vs) H := by
  obtain ⟨F0, cs, ⟨thing_1, last_2⟩, y, h, hS0, m, q⟩ := h
  obtain ⟨a0, _, rfl, ha0, h⟩ := Dts.hd h
  obtain ⟨a1, _, rfl, ha1, h⟩ := Dts.hd h
  obtain rfl := Dts.no h
  obtain rfl := Dt.toInt ha1
  unfold f_is_order at m
  try dsimp only at m
  unfold t_is_order
  refine go (σ' := [some a0, some (.int last_2), none, none, none, none]) rfl ?_
  refine s_if (b := ((!true) || (!decide ((4 : Int) = (4 : Int))))) hS0 (t_orP (t_not (t_B (K := K) (d_is (e := PyData.bool true) (d_isiD (c := "tuple") (by decide) (d_var rfl ha0)) (congrArg PyData.bool (by rfl))))) (fun hc => (t_test (K := K) (d_neI (d_is (e := PyData.int 4) (d_lenT (a_cons (d_var rfl ha0) a_nil)) (congrArg PyData.int (by rfl))) d_int)))) (fun hc F3 H4 g5 hS6 => ?_) (fun hc F13 H14 g15 hS16 => ?_)
  · rw [if_pos hc] at m
    refine s_ret (K := K) (d := eB false) hS6 d_bl (fun v11 F7 H8 g9 hS10 hv12 => ?_)
    obtain rfl := sm m
    exact q _ _ _ (Gr.tr g5 g9) hS10 hv12
  · rw [if_neg (bf hc)] at m
    refine nxt ?_
    refine s_asg (K := K) (d := (eT4 eS eI eI eI) thing_1) hS16 (d_var rfl (Dt.gr g15 ha0)) (fun v21 F17 H18 g19 hS20 hv22 => ?_)
    obtain ⟨name_23, k24, m⟩ := lt m
    obtain ⟨tick_25, k26, m⟩ := lt m
    obtain ⟨p27, w29, w30, w31, w32, rfl, hT28, hw33, hw34, hw35, hw36⟩ := u4 hv22
    rw [k24] at hw33
    obtain rfl := Dt.toStr hw33
    rw [k26] at hw34
    obtain rfl := Dt.toInt hw34
    obtain rfl := Dt.toInt hw35
    obtain rfl := Dt.toInt hw36
    refine tg (σ' := [some a0, some (.int last_2), some (.str name_23), some (.int tick_25), some (.int thing_1.2.2.1), some (.int thing_1.2.2.2)]) (fun Q hq => ⟨p27, [_, _, _, _], rfl, gr_T hS20.fr hT28, rfl, _, _, rfl, _, _, rfl, _, _, rfl, _, _, rfl, rfl, hq⟩) ?_
    obtain ⟨x37, k38, m⟩ := bnd m
    obtain ⟨x41, k42, m⟩ := bnd m
    refine s_if (b := x41) hS20 (t_orM (r := x41) (t_not (t_B (K := K) (d_call (A := A_is_name) (B := eB) (x := name_23) (a_cons (d_var rfl (.str _)) a_nil) k38))) (fun hc => by rw [if_neg (bf hc)] at k42; obtain ⟨x39, k40, k42⟩ := bnd k42; obtain rfl := sm k42; exact (t_not (t_B (K := K) (d_call (A := A_is_between) (B := eB) (x := (tick_25, (0 : Int), (1000000000 : Int))) (a_cons (d_var rfl (.int _)) (a_cons d_int (a_cons d_int a_nil))) k40)))) (fun hc => by rw [if_pos hc] at k42; exact (sm k42).symm)) (fun hc F43 H44 g45 hS46 => ?_) (fun hc F53 H54 g55 hS56 => ?_)
    · rw [if_pos hc] at m
      refine s_ret (K := K) (d := eB false) hS46 d_bl (fun v51 F47 H48 g49 hS50 hv52 => ?_)
      obtain rfl := sm m
      exact q _ _ _ (Gr.tr g15 (Gr.tr g19 (Gr.tr g45 g49))) hS50 hv52
    · rw [if_neg (bf hc)] at m
      refine nxt ?_
      obtain ⟨x57, k58, m⟩ := bnd m
      obtain ⟨x61, k62, m⟩ := bnd m
      refine s_ret (K := K) (d := eB x61) hS56 (d_andM (r := x61) (d_call (A := A_is_between) (B := eB) (x := (thing_1.2.2.1, (0 : Int), last_2)) (a_cons (d_var rfl (.int _)) (a_cons d_int (a_cons (d_var rfl (.int _)) a_nil))) k58) (fun hc => by rw [if_pos hc] at k62; obtain ⟨x59, k60, k62⟩ := bnd k62; obtain rfl := sm k62; exact (d_andP (d_call (A := A_is_between) (B := eB) (x := (thing_1.2.2.2, (0 : Int), last_2)) (a_cons (d_var rfl (.int _)) (a_cons d_int (a_cons (d_var rfl (.int _)) a_nil))) k60) (fun hc => (d_neI (d_var rfl (.int _)) (d_var rfl (.int _)))))) (fun hc => by rw [if_neg (bf hc)] at k62; exact (sm k62).symm)) (fun v67 F63 H64 g65 hS66 hv68 => ?_)
      obtain rfl := sm m
      exact q _ _ _ (Gr.tr g15 (Gr.tr g19 (Gr.tr g55 g65))) hS66 hv68
theorem sc_is_order : FnScope N_is_order ["thing", "last"] (defScope s_is_order) := ⟨rfl, rfl, rfl, by decide +kernel, rfl, by decide +kernel, by decide +kernel⟩
theorem ok_is_order {P : Program} {w : World} {K : PySem.W.Frag} {mg : Str → Option Value} {base : Heap} (hF : Df K mg "is_order" s_is_order) (m_isinstance : mg "isinstance" = none) (m_len : mg "len" = none) (m_tuple : mg "tuple" = none) (c_LATEST : ∃ t, mg "LATEST" = some (.int 1000000000 t)) (o_is_between : Ok P w K mg base 2 "is_between" ["thing", "least", "greatest"] (sp_is_between K)) (o_is_name : Ok P w K mg base 1 "is_name" ["thing"] (sp_is_name K)) : Ok P w K mg base 3 "is_order" ["thing", "last"] (sp_is_order K) := by
  obtain ⟨_, c_LATEST⟩ := c_LATEST
  obtain ⟨⟨_, G_is_between, bd_is_between, _⟩, kp_is_between, gm_is_between⟩ := o_is_between
  obtain ⟨⟨_, G_is_name, bd_is_name, _⟩, kp_is_name, gm_is_name⟩ := o_is_name
  obtain ⟨⟨fd, F⟩, gm⟩ := hF
  refine ⟨⟨fd, F.ok sc_is_order (fun vs H Q E h => ?_) (fun cdv A outer s H vs Q E hr h => ⟨t_is_order K, PSs.nox ?_, w_is_order vs H Q E h⟩), F.bindsN fun _ _ _ _ _ _ us hl => match us, hl with | [_, _], _ => rfl, lk_of F⟩, F.kp, gm⟩
  · obtain ⟨F0, cs, x, y, h, _⟩ := h; exact Dts.len h
  · exact (pss_cons (ps_if (PW.pt (pw_or (pt_not (pt_val (pe_callB call_isi (by rfl) m_isinstance (by decide +kernel) (pa_cons (pv 0) (pa_cons (pe_bltn (v := .ty "tuple") (by rfl) m_tuple (by decide +kernel) rfl) pa_nil))))) (pw_or1 (pt_cmpR op_ne (pe_callB cr_lenL (by rfl) m_len PySem.boot_len (pa_cons (pv 0) pa_nil)) pe_int (nomark _))))) (pss_one (ps_ret pe_bl)) pss_nil) (pss_cons (ps_asg (pv 0) (pg_tup rfl (pgs_cons (pg_name (i := 2) sc_is_order.nd rfl (Or.inl rfl)) (pgs_cons (pg_name (i := 3) sc_is_order.nd rfl (Or.inl rfl)) (pgs_cons (pg_name (i := 4) sc_is_order.nd rfl (Or.inl rfl)) (pgs_cons (pg_name (i := 5) sc_is_order.nd rfl (Or.inl rfl)) pgs_nil)))))) (pss_cons (ps_if (PW.pt (pw_or (pt_not (pt_val (pe_call G_is_name (hr.mono (by decide)) (by rfl) gm_is_name kp_is_name bd_is_name .nil pass0 (pa_cons (pv 2) pa_nil)))) (pw_or1 (pt_not (pt_val (pe_call G_is_between (hr.mono (by decide)) (by rfl) gm_is_between kp_is_between bd_is_between .nil pass0 (pa_cons (pv 3) (pa_cons pe_int (pa_cons (pe_glob (v := .int 1000000000) (by rfl) c_LATEST ⟨_, rfl⟩) pa_nil))))))))) (pss_one (ps_ret pe_bl)) pss_nil) (pss_one (ps_ret (pe_and (pe_call G_is_between (hr.mono (by decide)) (by rfl) gm_is_between kp_is_between bd_is_between .nil pass0 (pa_cons (pv 4) (pa_cons pe_int (pa_cons (pv 1) pa_nil)))) (pe_and (pe_call G_is_between (hr.mono (by decide)) (by rfl) gm_is_between kp_is_between bd_is_between .nil pass0 (pa_cons (pv 5) (pa_cons pe_int (pa_cons (pv 1) pa_nil)))) (pe_one (pe_cmpR op_ne (pv 4) (pv 5) (nomark _))))))))))
abbrev s_is_order_D : Stmt := (top 29)
def f_is_order_D : (PyData × Int) → Option Bool := fun (thing_1, last_2) => (((if (!(isiD "tuple" thing_1)) = true then some true else (((lenD thing_1)).bind fun x3 => some (!decide (x3 = (4 : Int)))))).bind fun x5 => (if x5 = true then some false else (((tupD4 thing_1)).bind fun x27 => letM x27.1 fun name_29 => letM x27.2.1 fun tick_31 => (((f_is_name_D name_29)).bind fun x43 => ((if (!x43) = true then some true else (((f_is_between_D (tick_31, (0 : Int), (1000000000 : Int)))).bind fun x45 => some (!x45)))).bind fun x47 => (if x47 = true then some false else (((f_is_between_D (x27.2.2.1, (0 : Int), last_2))).bind fun x63 => ((if x63 = true then (((f_is_between_D (x27.2.2.2, (0 : Int), last_2))).bind fun x65 => ((if x65 = true then (((eqDM x27.2.2.1 x27.2.2.2)).bind fun x67 => some (!x67)) else some false)).bind fun x69 => some x69) else some false)).bind fun x71 => some x71))))))
abbrev A_is_order_D : (PyData × Int) → List PyData := fun x => [eD x.1, eI x.2]
abbrev N_is_order_D : List Str := ["thing", "last", "name", "tick", "at", "to"]
abbrev sp_is_order_D (K : PySem.W.Frag) : Sp := spP K A_is_order_D eB f_is_order_D
def t_is_order_D (K : PySem.W.Frag) : TS := (tSeq (tIfS (tOr (tNot (tB (tCB (rIsi K) (tCons (tVar 0) (tCons (tC (.ty "tuple")) tNil))))) (tTest (tOp rNe (tCB (rLenG K) (tCons (tVar 0) tNil)) (tC (.int 4))))) (tRet (tC (.bl false))) tNext) (tSeq (tAsg (tVar 0) (gTup K 4 (gCons (gName 2) (gCons (gName 3) (gCons (gName 4) (gCons (gName 5) gNil)))))) (tSeq (tIfS (tOr (tNot (tB (tCall (sp_is_name_D K) [] E0 (tCons (tVar 2) tNil)))) (tNot (tB (tCall (sp_is_between_D K) [] E0 (tCons (tVar 3) (tCons (tC (.int 0)) (tCons (tC (.int 1000000000)) tNil))))))) (tRet (tC (.bl false))) tNext) (tRet (tAndV (tCall (sp_is_between_D K) [] E0 (tCons (tVar 4) (tCons (tC (.int 0)) (tCons (tVar 1) tNil)))) (tAndV (tCall (sp_is_between_D K) [] E0 (tCons (tVar 5) (tCons (tC (.int 0)) (tCons (tVar 1) tNil)))) (tOp (rNeD K) (tVar 4) (tVar 5))))))))
theorem w_is_order_D {K : PySem.W.Frag} (vs : List V) (H : Hp) (Q : VK) (E : XK) (h : sp_is_order_D K vs H Q E) : t_is_order_D K { nx := fun _ H' => Q .non H', rt := Q } (start N_is_order_D vs) H := by
  obtain ⟨F0, cs, ⟨thing_1, last_2⟩, y, h, hS0, m, q⟩ := h
  obtain ⟨a0, _, rfl, ha0, h⟩ := Dts.hd h
  obtain ⟨a1, _, rfl, ha1, h⟩ := Dts.hd h
  obtain rfl := Dts.no h
  obtain rfl := Dt.toInt ha1
  unfold f_is_order_D at m
  try dsimp only at m
  unfold t_is_order_D
  refine go (σ' := [some a0, some (.int last_2), none, none, none, none]) rfl ?_
  obtain ⟨x5, k6, m⟩ := bnd m
  refine s_if (b := x5) hS0 (t_orM (r := x5) (t_not (t_B (K := K) (d_isiD (c := "tuple") (by decide) (d_var rfl ha0)))) (fun hc => by rw [if_neg (bf hc)] at k6; obtain ⟨x3, k4, k6⟩ := bnd k6; obtain rfl := sm k6; exact (t_test (K := K) (d_neI (d_lenD (a_cons (d_var rfl ha0) a_nil) k4) d_int))) (fun hc => by rw [if_pos hc] at k6; exact (sm k6).symm)) (fun hc F7 H8 g9 hS10 => ?_) (fun hc F17 H18 g19 hS20 => ?_)
  · rw [if_pos hc] at m
    refine s_ret (K := K) (d := eB false) hS10 d_bl (fun v15 F11 H12 g13 hS14 hv16 => ?_)
    obtain rfl := sm m
    exact q _ _ _ (Gr.tr g9 g13) hS14 hv16
  · rw [if_neg (bf hc)] at m
    refine nxt ?_
    obtain ⟨x27, k28, m⟩ := bnd m
    refine s_asg (K := K) (d := eD thing_1) hS20 (d_var rfl (Dt.gr g19 ha0)) (fun v25 F21 H22 g23 hS24 hv26 => ?_)
    rw [show eD thing_1 = _ from tupD4_eq k28] at hv26
    obtain ⟨name_29, k30, m⟩ := lt m
    obtain ⟨tick_31, k32, m⟩ := lt m
    obtain ⟨p33, w35, w36, w37, w38, rfl, hT34, hw39, hw40, hw41, hw42⟩ := u4 hv26
    rw [k30] at hw39
    rw [k32] at hw40
    refine tg (σ' := [some a0, some (.int last_2), some w35, some w36, some w37, some w38]) (fun Q hq => ⟨p33, [_, _, _, _], rfl, gr_T hS24.fr hT34, rfl, _, _, rfl, _, _, rfl, _, _, rfl, _, _, rfl, rfl, hq⟩) ?_
    obtain ⟨x43, k44, m⟩ := bnd m
    obtain ⟨x47, k48, m⟩ := bnd m
    refine s_if (b := x47) hS24 (t_orM (r := x47) (t_not (t_B (K := K) (d_call (A := A_is_name_D) (B := eB) (x := name_29) (a_cons (d_var rfl hw39) a_nil) k44))) (fun hc => by rw [if_neg (bf hc)] at k48; obtain ⟨x45, k46, k48⟩ := bnd k48; obtain rfl := sm k48; exact (t_not (t_B (K := K) (d_call (A := A_is_between_D) (B := eB) (x := (tick_31, (0 : Int), (1000000000 : Int))) (a_cons (d_var rfl hw40) (a_cons d_int (a_cons d_int a_nil))) k46)))) (fun hc => by rw [if_pos hc] at k48; exact (sm k48).symm)) (fun hc F49 H50 g51 hS52 => ?_) (fun hc F59 H60 g61 hS62 => ?_)
    · rw [if_pos hc] at m
      refine s_ret (K := K) (d := eB false) hS52 d_bl (fun v57 F53 H54 g55 hS56 hv58 => ?_)
      obtain rfl := sm m
      exact q _ _ _ (Gr.tr g19 (Gr.tr g23 (Gr.tr g51 g55))) hS56 hv58
    · rw [if_neg (bf hc)] at m
      refine nxt ?_
      obtain ⟨x63, k64, m⟩ := bnd m
      obtain ⟨x71, k72, m⟩ := bnd m
      refine s_ret (K := K) (d := eB x71) hS62 (d_andM (r := x71) (d_call (A := A_is_between_D) (B := eB) (x := (x27.2.2.1, (0 : Int), last_2)) (a_cons (d_var rfl (Dt.gr g61 hw41)) (a_cons d_int (a_cons (d_var rfl (.int _)) a_nil))) k64) (fun hc => by rw [if_pos hc] at k72; obtain ⟨x65, k66, k72⟩ := bnd k72; obtain ⟨x69, k70, k72⟩ := bnd k72; obtain rfl := sm k72; exact (d_andM (r := x69) (d_call (A := A_is_between_D) (B := eB) (x := (x27.2.2.2, (0 : Int), last_2)) (a_cons (d_var rfl (Dt.gr g61 hw42)) (a_cons d_int (a_cons (d_var rfl (.int _)) a_nil))) k66) (fun hc => by rw [if_pos hc] at k70; obtain ⟨x67, k68, k70⟩ := bnd k70; obtain rfl := sm k70; exact (d_neDM (d_var rfl (Dt.gr g61 hw41)) (d_var rfl (Dt.gr g61 hw42)) k68)) (fun hc => by rw [if_neg (bf hc)] at k70; exact (sm k70).symm))) (fun hc => by rw [if_neg (bf hc)] at k72; exact (sm k72).symm)) (fun v77 F73 H74 g75 hS76 hv78 => ?_)
      obtain rfl := sm m
      exact q _ _ _ (Gr.tr g19 (Gr.tr g23 (Gr.tr g61 g75))) hS76 hv78
theorem sc_is_order_D : FnScope N_is_order_D ["thing", "last"] (defScope s_is_order_D) := ⟨rfl, rfl, rfl, by decide +kernel, rfl, by decide +kernel, by decide +kernel⟩
theorem ok_is_order_D {P : Program} {w : World} {K : PySem.W.Frag} {mg : Str → Option Value} {base : Heap} (hF : Df K mg "is_order" s_is_order_D) (m_isinstance : mg "isinstance" = none) (m_len : mg "len" = none) (m_tuple : mg "tuple" = none) (c_LATEST : ∃ t, mg "LATEST" = some (.int 1000000000 t)) (o_is_between_D : Ok P w K mg base 2 "is_between" ["thing", "least", "greatest"] (sp_is_between_D K)) (o_is_name_D : Ok P w K mg base 1 "is_name" ["thing"] (sp_is_name_D K)) : Ok P w K mg base 3 "is_order" ["thing", "last"] (sp_is_order_D K) := by
  obtain ⟨_, c_LATEST⟩ := c_LATEST
  obtain ⟨⟨_, G_is_between_D, bd_is_between_D, _⟩, kp_is_between_D, gm_is_between_D⟩ := o_is_between_D
  obtain ⟨⟨_, G_is_name_D, bd_is_name_D, _⟩, kp_is_name_D, gm_is_name_D⟩ := o_is_name_D
  obtain ⟨⟨fd, F⟩, gm⟩ := hF
  refine ⟨⟨fd, F.ok sc_is_order_D (fun vs H Q E h => ?_) (fun cdv A outer s H vs Q E hr h => ⟨t_is_order_D K, PSs.nox ?_, w_is_order_D vs H Q E h⟩), F.bindsN fun _ _ _ _ _ _ us hl => match us, hl with | [_, _], _ => rfl, lk_of F⟩, F.kp, gm⟩
  · obtain ⟨F0, cs, x, y, h, _⟩ := h; exact Dts.len h
  · exact (pss_cons (ps_if (PW.pt (pw_or (pt_not (pt_val (pe_callB call_isi (by rfl) m_isinstance (by decide +kernel) (pa_cons (pv 0) (pa_cons (pe_bltn (v := .ty "tuple") (by rfl) m_tuple (by decide +kernel) rfl) pa_nil))))) (pw_or1 (pt_cmpR op_ne (pe_callB cr_lenG (by rfl) m_len PySem.boot_len (pa_cons (pv 0) pa_nil)) pe_int (nomark _))))) (pss_one (ps_ret pe_bl)) pss_nil) (pss_cons (ps_asg (pv 0) (pg_tup rfl (pgs_cons (pg_name (i := 2) sc_is_order_D.nd rfl (Or.inl rfl)) (pgs_cons (pg_name (i := 3) sc_is_order_D.nd rfl (Or.inl rfl)) (pgs_cons (pg_name (i := 4) sc_is_order_D.nd rfl (Or.inl rfl)) (pgs_cons (pg_name (i := 5) sc_is_order_D.nd rfl (Or.inl rfl)) pgs_nil)))))) (pss_cons (ps_if (PW.pt (pw_or (pt_not (pt_val (pe_call G_is_name_D (hr.mono (by decide)) (by rfl) gm_is_name_D kp_is_name_D bd_is_name_D .nil pass0 (pa_cons (pv 2) pa_nil)))) (pw_or1 (pt_not (pt_val (pe_call G_is_between_D (hr.mono (by decide)) (by rfl) gm_is_between_D kp_is_between_D bd_is_between_D .nil pass0 (pa_cons (pv 3) (pa_cons pe_int (pa_cons (pe_glob (v := .int 1000000000) (by rfl) c_LATEST ⟨_, rfl⟩) pa_nil))))))))) (pss_one (ps_ret pe_bl)) pss_nil) (pss_one (ps_ret (pe_and (pe_call G_is_between_D (hr.mono (by decide)) (by rfl) gm_is_between_D kp_is_between_D bd_is_between_D .nil pass0 (pa_cons (pv 4) (pa_cons pe_int (pa_cons (pv 1) pa_nil)))) (pe_and (pe_call G_is_between_D (hr.mono (by decide)) (by rfl) gm_is_between_D kp_is_between_D bd_is_between_D .nil pass0 (pa_cons (pv 5) (pa_cons pe_int (pa_cons (pv 1) pa_nil)))) (pe_one (pe_cmpR (op_neD hr.units) (pv 4) (pv 5) (nomark _))))))))))
abbrev s_look_at_orders : Stmt := (top 30)
def f_look_at_orders_b34 (aisle_1 : ((List Int) × Int)) : (Int × (List (Str × Bool))) → (Str × Int × Int × Int) → Option (Fl (Int × (List (Str × Bool))) (Rs Unit)) := fun (latest_37, names_38) order_39 => (((f_is_order (order_39, (aisle_1.1.length : Int)))).bind fun x58 => (if (!x58) = true then some (Fl.rt (Rs.ex ("NoOrders", PyData.none))) else (if (hasK names_38 order_39.1) = true then some (Fl.rt (Rs.ex ("NoOrders", PyData.none))) else (if (decide (order_39.2.1 < latest_37)) = true then some (Fl.rt (Rs.ex ("NoOrders", PyData.none))) else (((putM names_38 order_39.1 true)).bind fun names_93 => (letM order_39.2.1 fun latest_103 => some (Fl.nx (latest_103, names_93))))))))
def f_look_at_orders : (((List Int) × Int) × (List (Str × Int × Int × Int))) → Option (Rs Unit) := fun (aisle_1, thing_2) => (((f_look_at_aisle aisle_1)).bind fun x3 => (match x3 with | .ok y13 => (if ((!true) || (decide ((60 : Int) < (thing_2.length : Int)))) = true then some (Rs.ex ("NoOrders", PyData.none)) else (forF (f_look_at_orders_b34 aisle_1) thing_2 ((0 : Int), ([] : (List (Str × Bool))))).bind fun r35 => match r35 with | .nx (latest_111, names_112) => some (Rs.ok ()) | .br _ => none | .rt z115 => some z115) | .ex c14 => some (Rs.ex c14)))
abbrev A_look_at_orders : (((List Int) × Int) × (List (Str × Int × Int × Int))) → List PyData := fun x => [(eT2 (eL eI) eI) x.1, (eL (eT4 eS eI eI eI)) x.2]
abbrev N_look_at_orders : List Str := ["aisle", "thing", "names", "latest", "order"]
abbrev sp_look_at_orders (K : PySem.W.Frag) : Sp := spPX K A_look_at_orders eN f_look_at_orders
def t_look_at_orders (K : PySem.W.Frag) (E : XK) : TS := (tSeq (tDrop (tCallS (sp_look_at_aisle K) (WE (WX0 E)) (tCons (tVar 0) tNil))) (tSeq (tIfS (tOr (tNot (tB (tCB (rIsi K) (tCons (tVar 1) (tCons (tC (.ty "list")) tNil))))) (tTest (tOp (rI0 fun i j => .bl (decide (j < i))) (tCB (rLenL K) (tCons (tVar 1) tNil)) (tC (.int 60))))) (tRaiseX (WX0 E) (He.ga K "NoOrders")) tNext) (tSeq (tAsg tDNewK (gName 2)) (tSeq (tAsg (tC (.int 0)) (gName 3)) (tFor (iList K (tVar 1)) (gName 4) (tSeq (tIfS (tNot (tB (tCall (sp_is_order K) [] E0 (tCons (tVar 4) (tCons (tCB (rLenL K) (tCons (tOp (rIxT K) (tVar 0) (tC (.int 0))) tNil)) tNil))))) (tRaiseX (WX0 E) (He.ga K "NoOrders")) tNext) (tSeq (tIfS (tB (tDIn (tOp (rIxT K) (tVar 4) (tC (.int 0))) (tVar 2))) (tRaiseX (WX0 E) (He.ga K "NoOrders")) tNext) (tSeq (tIfS (tTest (tOp (rI0 fun i j => .bl (decide (i < j))) (tOp (rIxT K) (tVar 4) (tC (.int 1))) (tVar 3))) (tRaiseX (WX0 E) (He.ga K "NoOrders")) tNext) (tSeq (sDPut (tVar 2) (tOp (rIxT K) (tVar 4) (tC (.int 0))) (tC (.bl true))) (tAsg (tOp (rIxT K) (tVar 4) (tC (.int 1))) (gName 3)))))))))))
theorem w_look_at_orders {K : PySem.W.Frag} (vs : List V) (H : Hp) (Q : VK) (E : XK) (h : sp_look_at_orders K vs H Q E) : t_look_at_orders K E { nx := fun _ H' => Q .non H', rt := Q } (start N_look_at_orders vs) H := by
  obtain ⟨F0, cs, ⟨aisle_1, thing_2⟩, y, h, hS0, m, q, qx⟩ := h
  obtain ⟨a0, _, rfl, ha0, h⟩ := Dts.hd h
  obtain ⟨a1, _, rfl, ha1, h⟩ := Dts.hd h
  obtain rfl := Dts.no h
  unfold f_look_at_orders at m
  try dsimp only at m
  unfold t_look_at_orders
  refine go (σ' := [some a0, some a1, none, none, none]) rfl ?_
  obtain ⟨x3, k4, m⟩ := bnd m
  refine s_dropX (B := eN) hS0 (x_call (A := A_look_at_aisle) (x := aisle_1) (a_cons (d_var rfl ha0) a_nil) k4) (fun y13 hy15 F5 H6 g7 hS8 => ?_) (fun c14 hc16 dd17 F9 H10 g11 hS12 xd18 => ?_)
  · subst hy15
    try dsimp only at m
    refine s_if (b := ((!true) || (decide ((60 : Int) < (thing_2.length : Int))))) hS8 (t_orP (t_not (t_B (K := K) (d_is (e := PyData.bool true) (d_isiD (c := "list") (by decide) (d_var rfl (Dt.gr g7 ha1))) (congrArg PyData.bool (by rfl))))) (fun hc => (t_test (K := K) (d_gt (d_len (e := (eT4 eS eI eI eI)) (a_cons (d_var rfl (Dt.gr g7 ha1)) a_nil)) d_int)))) (fun hc F19 H20 g21 hS22 => ?_) (fun hc F23 H24 g25 hS26 => ?_)
    · rw [if_pos hc] at m
      refine s_raise ?_
      obtain rfl := sm m
      exact qx _ rfl _ _ _ (Gr.tr g7 g21) hS22 (xd0 (by decide))
    · rw [if_neg (bf hc)] at m
      refine nxt ?_
      refine s_setDict (kf := kS) (vf := V.bl) (σ' := fun p27 => [some a0, some a1, some (.ref p27), none, none]) hS26 (fun _ => rfl) (fun p27 H28 hS29 => ?_)
      refine s_setV (K := K) (d := eI (0 : Int)) (i := 3) (σ' := [some a0, some a1, some (.ref p27), some (.int (0 : Int)), none]) (fun _ _ h => Dt.toInt h) hS29 d_int rfl (fun F30 H31 g32 hS33 => ?_)
      obtain ⟨r35, k36, m⟩ := bnd m
      refine s_forF (K := K) (xs := thing_2) (en := (eT4 eS eI eI eI)) (body := (f_look_at_orders_b34 aisle_1)) (s0 := ((0 : Int), ([] : (List (Str × Bool))))) (r := r35) (fun (a : Int × (List (Str × Bool))) F σ c => ∃ (j4 : Option V), σ = [some a0, some a1, some (.ref p27), some (.int a.1), j4] ∧ (p27, .dK (kvE kS V.bl a.2)) :: cs = c) hS33 (i_list (en := (eT4 eS eI eI eI)) (d_var rfl (Dt.gr (Gr.tr g7 (Gr.tr g25 g32)) ha1))) (fun _ _ => ⟨_, rfl, rfl⟩) k36 ?_ ?_
      · rintro ⟨latest_111, names_112⟩ F105 σ110 c109 H106 hz116 g107 hS108 ⟨u113, rfl, rfl⟩
        rcases hz116.symm with rfl | rfl
        · cases (show (none : Option _) = some _ from m)
        try dsimp only at m
        have hS114 := Sta.frozeAt (l1 := []) hS108
        obtain rfl := sm m
        exact q _ rfl _ _ _ (Gr.tr g7 (Gr.tr g25 (Gr.tr g32 (Gr.tr g107 (Gr.new (Sta.freeAt (l1 := []) hS108)))))) hS114 Dt.non
      · rintro order_39 ⟨latest_37, names_38⟩ b48 F40 F41 σ54 c55 H42 v47 N49 B50 g43 ⟨u57, rfl, rfl⟩ g44 hS45 hv46 m56 hN51 hB52 hR53
        refine tg (σ' := [some a0, some a1, some (.ref p27), some (.int latest_37), some v47]) (fun Q hq => hq) ?_
        unfold f_look_at_orders_b34 at m56
        try dsimp only at m56
        obtain ⟨x58, k59, m56⟩ := bnd m56
        refine s_if (b := (!x58)) hS45 (t_not (t_B (K := K) (d_call (A := A_is_order) (B := eB) (x := (order_39, (aisle_1.1.length : Int))) (a_cons (d_var rfl hv46) (a_cons (d_len (e := eI) (a_cons (d_ixT (d_var rfl (Dt.gr (Gr.tr g7 (Gr.tr g25 (Gr.tr g32 (Gr.tr g43 g44)))) ha0)) d_int rfl) a_nil)) a_nil)) k59))) (fun hc F60 H61 g62 hS63 => ?_) (fun hc F66 H67 g68 hS69 => ?_)
        · rw [if_pos hc] at m56
          refine s_raise ?_
          obtain rfl := sm m56
          have hr64 := hR53 _ rfl
          subst hr64
          have hS65 := sb_drop _ _ hS63
          obtain rfl := sm m
          exact qx _ rfl _ _ _ (Gr.tr g7 (Gr.tr g25 (Gr.tr g32 (Gr.tr g43 (Gr.tr g44 g62))))) hS65 (xd0 (by decide))
        · rw [if_neg (bf hc)] at m56
          refine nxt ?_
          refine s_if (b := (hasK names_38 order_39.1)) hS69 (t_lendX (l1 := []) (m1 := []) (fun F70 g71 hn72 => (t_B (K := K) (d_din kf_S (d_ixT (d_var rfl (Dt.gr (Gr.tr g68 (Gr.tr g71 (Gr.new hn72))) hv46)) d_int rfl) (vp_var rfl) upd_same)))) (fun hc F73 H74 g75 hS76 => ?_) (fun hc F79 H80 g81 hS82 => ?_)
          · rw [if_pos hc] at m56
            refine s_raise ?_
            obtain rfl := sm m56
            have hr77 := hR53 _ rfl
            subst hr77
            have hS78 := sb_drop _ _ hS76
            obtain rfl := sm m
            exact qx _ rfl _ _ _ (Gr.tr g7 (Gr.tr g25 (Gr.tr g32 (Gr.tr g43 (Gr.tr g44 (Gr.tr g68 g75)))))) hS78 (xd0 (by decide))
          · rw [if_neg (bf hc)] at m56
            refine nxt ?_
            refine s_if (b := (decide (order_39.2.1 < latest_37))) hS82 (t_test (K := K) (d_lt (d_ixT (d_var rfl (Dt.gr (Gr.tr g68 g81) hv46)) d_int rfl) (d_var rfl (.int _)))) (fun hc F83 H84 g85 hS86 => ?_) (fun hc F89 H90 g91 hS92 => ?_)
            · rw [if_pos hc] at m56
              refine s_raise ?_
              obtain rfl := sm m56
              have hr87 := hR53 _ rfl
              subst hr87
              have hS88 := sb_drop _ _ hS86
              obtain rfl := sm m
              exact qx _ rfl _ _ _ (Gr.tr g7 (Gr.tr g25 (Gr.tr g32 (Gr.tr g43 (Gr.tr g44 (Gr.tr g68 (Gr.tr g81 g85))))))) hS88 (xd0 (by decide))
            · rw [if_neg (bf hc)] at m56
              refine nxt ?_
              obtain ⟨names_93, k94, m56⟩ := bnd m56
              refine s_dput (K := K) (k1 := []) (m1 := []) (l1 := []) (p := p27) (kf := kS) (vf := V.bl) (ek := eS) (ev := eB) (x := true) kf_S (fun _ _ _ h => Dt.toBl h) hS92 d_bl (vp_var rfl) (d_ixT (d_var rfl (Dt.gr (Gr.tr g68 (Gr.tr g81 g91)) hv46)) d_int rfl) k94 (fun F95 H96 g97 hS98 => ?_)
              obtain ⟨latest_103, k104, m56⟩ := lt m56
              refine s_setV (K := K) (d := eI latest_103) (i := 3) (σ' := [some a0, some a1, some (.ref p27), some (.int latest_103), some v47]) (fun _ _ h => Dt.toInt h) hS98 (d_is (d_ixT (d_var rfl (Dt.gr (Gr.tr g68 (Gr.tr g81 (Gr.tr g91 g97))) hv46)) d_int rfl) (congrArg eI k104)) rfl (fun F99 H100 g101 hS102 => ?_)
              obtain rfl := sm m56
              exact hN51 _ _ _ _ _ rfl (Gr.tr g68 (Gr.tr g81 (Gr.tr g91 (Gr.tr g97 g101)))) hS102 ⟨_, rfl, rfl⟩
  · subst hc16
    try dsimp only at m
    obtain rfl := sm m
    exact qx _ rfl _ _ _ g11 hS12 xd18
theorem sc_look_at_orders : FnScope N_look_at_orders ["aisle", "thing"] (defScope s_look_at_orders) := ⟨rfl, rfl, rfl, by decide +kernel, rfl, by decide +kernel, by decide +kernel⟩
theorem ok_look_at_orders {P : Program} {w : World} {K : PySem.W.Frag} {mg : Str → Option Value} {base : Heap} (hF : Df K mg "look_at_orders" s_look_at_orders) (m_isinstance : mg "isinstance" = none) (m_len : mg "len" = none) (m_list : mg "list" = none) (c_MOST_ORDERS : ∃ t, mg "MOST_ORDERS" = some (.int 60 t)) (o_is_order : Ok P w K mg base 3 "is_order" ["thing", "last"] (sp_is_order K)) (o_look_at_aisle : OkX P w K mg base 3 "look_at_aisle" ["thing"] (sp_look_at_aisle K)) (x_NoOrders : ExD K mg "NoOrders") : OkX P w K mg base 4 "look_at_orders" ["aisle", "thing"] (sp_look_at_orders K) := by
  obtain ⟨_, c_MOST_ORDERS⟩ := c_MOST_ORDERS
  obtain ⟨⟨_, G_is_order, bd_is_order, _⟩, kp_is_order, gm_is_order⟩ := o_is_order
  obtain ⟨⟨_, G_look_at_aisle, bd_look_at_aisle, _⟩, kp_look_at_aisle, gm_look_at_aisle⟩ := o_look_at_aisle
  obtain ⟨⟨fd, F⟩, gm⟩ := hF
  refine ⟨⟨fd, F.ok sc_look_at_orders (fun vs H Q E h => ?_) (fun cdv A outer s H vs Q E hr h => ⟨t_look_at_orders K E, ?_, w_look_at_orders vs H Q E h⟩), F.bindsN fun _ _ _ _ _ _ us hl => match us, hl with | [_, _], _ => rfl, lk_of F⟩, F.kp, gm⟩
  · obtain ⟨F0, cs, x, y, h, _⟩ := h; exact Dts.len h
  · refine pss_tk (W := WX0 E) (takes_of (E := E) rfl rfl rfl rfl) fun tkE => ?_
    exact (pss_cons (ps_expr (pe_callS (E := WE (WX0 E)) G_look_at_aisle (hr.mono (by decide)) (by rfl) gm_look_at_aisle kp_look_at_aisle bd_look_at_aisle (fun σ => passAt tkE σ) (pa_cons (pv 0) pa_nil))) (pss_cons (ps_if (PW.pt (pw_or (pt_not (pt_val (pe_callB call_isi (by rfl) m_isinstance (by decide +kernel) (pa_cons (pv 1) (pa_cons (pe_bltn (v := .ty "list") (by rfl) m_list (by decide +kernel) rfl) pa_nil))))) (pw_or1 (pt_cmpR op_gt (pe_callB cr_lenL (by rfl) m_len PySem.boot_len (pa_cons (pv 1) pa_nil)) (pe_glob (v := .int 60) (by rfl) c_MOST_ORDERS ⟨_, rfl⟩) (nomark _))))) (pss_one (ps_raiseX rfl tkE x_NoOrders (by rfl))) pss_nil) (pss_cons (ps_set (i := 2) sc_look_at_orders.nd rfl (Or.inl rfl) pe_dnewK) (pss_cons (ps_set (i := 3) sc_look_at_orders.nd rfl (Or.inl rfl) pe_int) (pss_one (ps_for (passes_of rfl) rfl (pi_list (pv 1)) (pg_name (i := 4) sc_look_at_orders.nd rfl (Or.inl rfl)) (pss_cons (ps_if (pt_not (pt_val (pe_call G_is_order (hr.mono (by decide)) (by rfl) gm_is_order kp_is_order bd_is_order .nil pass0 (pa_cons (pv 4) (pa_cons (pe_callB cr_lenL (by rfl) m_len PySem.boot_len (pa_cons (pe_ix ix_tup (pv 0) pe_int (fun _ _ => rfl)) pa_nil)) pa_nil))))) (pss_one (ps_raiseX rfl tkE x_NoOrders (by rfl))) pss_nil) (pss_cons (ps_if (pt_cmp (pc_din (hu_of hr) (pe_ix ix_tup (pv 4) pe_int (fun _ _ => rfl)) (pv 2))) (pss_one (ps_raiseX rfl tkE x_NoOrders (by rfl))) pss_nil) (pss_cons (ps_if (pt_cmpR op_lt (pe_ix ix_tup (pv 4) pe_int (fun _ _ => rfl)) (pv 3) (nomark _)) (pss_one (ps_raiseX rfl tkE x_NoOrders (by rfl))) pss_nil) (pss_cons (ps_dput (hu_of hr) (pv 2) (pe_ix ix_tup (pv 4) pe_int (fun _ _ => rfl)) pe_bl rfl) (pss_one (ps_set (i := 3) sc_look_at_orders.nd rfl (Or.inl rfl) (pe_ix ix_tup (pv 4) pe_int (fun _ _ => rfl))))))))))))))
abbrev s_look_at_orders_D : Stmt := (top 30)
def f_look_at_orders_D_b44 (aisle_1 : ((List Int) × Int)) : (PyData × (List (Str × Bool))) → PyData → Option (Fl (PyData × (List (Str × Bool))) (Rs Unit)) := fun (latest_47, names_48) order_49 => (((f_is_order_D (order_49, (aisle_1.1.length : Int)))).bind fun x70 => (if (!x70) = true then some (Fl.rt (Rs.ex ("NoOrders", PyData.none))) else (((ixD order_49 (0 : Int))).bind fun x85 => ((asS x85)).bind fun x87 => (if (hasK names_48 x87) = true then some (Fl.rt (Rs.ex ("NoOrders", PyData.none))) else (((ixD order_49 (1 : Int))).bind fun x99 => ((asI x99)).bind fun x101 => ((asI latest_47)).bind fun x103 => (if (decide (x101 < x103)) = true then some (Fl.rt (Rs.ex ("NoOrders", PyData.none))) else (((ixD order_49 (0 : Int))).bind fun x115 => ((asS x115)).bind fun x117 => ((putM names_48 x117 true)).bind fun names_119 => (((ixD order_49 (1 : Int))).bind fun x125 => some (Fl.nx (x125, names_119))))))))))
def f_look_at_orders_D : (((List Int) × Int) × PyData) → Option (Rs Unit) := fun (aisle_1, thing_2) => (((f_look_at_aisle aisle_1)).bind fun x3 => (match x3 with | .ok y13 => (((if (!(isiD "list" thing_2)) = true then some true else (((lenD thing_2)).bind fun x19 => some (decide ((60 : Int) < x19))))).bind fun x21 => (if x21 = true then some (Rs.ex ("NoOrders", PyData.none)) else (letM (eI (0 : Int)) fun latest_38 => (((asLD thing_2)).bind fun x42 => (forF (f_look_at_orders_D_b44 aisle_1) x42 (latest_38, ([] : (List (Str × Bool))))).bind fun r45 => match r45 with | .nx (latest_139, names_140) => some (Rs.ok ()) | .br _ => none | .rt z145 => some z145)))) | .ex c14 => some (Rs.ex c14)))
abbrev A_look_at_orders_D : (((List Int) × Int) × PyData) → List PyData := fun x => [(eT2 (eL eI) eI) x.1, eD x.2]
abbrev N_look_at_orders_D : List Str := ["aisle", "thing", "names", "latest", "order"]
abbrev sp_look_at_orders_D (K : PySem.W.Frag) : Sp := spPX K A_look_at_orders_D eN f_look_at_orders_D
def t_look_at_orders_D (K : PySem.W.Frag) (E : XK) : TS := (tSeq (tDrop (tCallS (sp_look_at_aisle K) (WE (WX0 E)) (tCons (tVar 0) tNil))) (tSeq (tIfS (tOr (tNot (tB (tCB (rIsi K) (tCons (tVar 1) (tCons (tC (.ty "list")) tNil))))) (tTest (tOp (rI0 fun i j => .bl (decide (j < i))) (tCB (rLenG K) (tCons (tVar 1) tNil)) (tC (.int 60))))) (tRaiseX (WX0 E) (He.ga K "NoOrders")) tNext) (tSeq (tAsg tDNewK (gName 2)) (tSeq (tAsg (tC (.int 0)) (gName 3)) (tFor (iList K (tVar 1)) (gName 4) (tSeq (tIfS (tNot (tB (tCall (sp_is_order_D K) [] E0 (tCons (tVar 4) (tCons (tCB (rLenL K) (tCons (tOp (rIxT K) (tVar 0) (tC (.int 0))) tNil)) tNil))))) (tRaiseX (WX0 E) (He.ga K "NoOrders")) tNext) (tSeq (tIfS (tB (tDIn (tOp (rIx K) (tVar 4) (tC (.int 0))) (tVar 2))) (tRaiseX (WX0 E) (He.ga K "NoOrders")) tNext) (tSeq (tIfS (tTest (tOp (rI0 fun i j => .bl (decide (i < j))) (tOp (rIx K) (tVar 4) (tC (.int 1))) (tVar 3))) (tRaiseX (WX0 E) (He.ga K "NoOrders")) tNext) (tSeq (sDPut (tVar 2) (tOp (rIx K) (tVar 4) (tC (.int 0))) (tC (.bl true))) (tAsg (tOp (rIx K) (tVar 4) (tC (.int 1))) (gName 3)))))))))))
theorem w_look_at_orders_D {K : PySem.W.Frag} (vs : List V) (H : Hp) (Q : VK) (E : XK) (h : sp_look_at_orders_D K vs H Q E) : t_look_at_orders_D K E { nx := fun _ H' => Q .non H', rt := Q } (start N_look_at_orders_D vs) H := by
  obtain ⟨F0, cs, ⟨aisle_1, thing_2⟩, y, h, hS0, m, q, qx⟩ := h
  obtain ⟨a0, _, rfl, ha0, h⟩ := Dts.hd h
  obtain ⟨a1, _, rfl, ha1, h⟩ := Dts.hd h
  obtain rfl := Dts.no h
  unfold f_look_at_orders_D at m
  try dsimp only at m
  unfold t_look_at_orders_D
  refine go (σ' := [some a0, some a1, none, none, none]) rfl ?_
  obtain ⟨x3, k4, m⟩ := bnd m
  refine s_dropX (B := eN) hS0 (x_call (A := A_look_at_aisle) (x := aisle_1) (a_cons (d_var rfl ha0) a_nil) k4) (fun y13 hy15 F5 H6 g7 hS8 => ?_) (fun c14 hc16 dd17 F9 H10 g11 hS12 xd18 => ?_)
  · subst hy15
    try dsimp only at m
    obtain ⟨x21, k22, m⟩ := bnd m
    refine s_if (b := x21) hS8 (t_orM (r := x21) (t_not (t_B (K := K) (d_isiD (c := "list") (by decide) (d_var rfl (Dt.gr g7 ha1))))) (fun hc => by rw [if_neg (bf hc)] at k22; obtain ⟨x19, k20, k22⟩ := bnd k22; obtain rfl := sm k22; exact (t_test (K := K) (d_gt (d_lenD (a_cons (d_var rfl (Dt.gr g7 ha1)) a_nil) k20) d_int))) (fun hc => by rw [if_pos hc] at k22; exact (sm k22).symm)) (fun hc F23 H24 g25 hS26 => ?_) (fun hc F27 H28 g29 hS30 => ?_)
    · rw [if_pos hc] at m
      refine s_raise ?_
      obtain rfl := sm m
      exact qx _ rfl _ _ _ (Gr.tr g7 g25) hS26 (xd0 (by decide))
    · rw [if_neg (bf hc)] at m
      refine nxt ?_
      refine s_setDict (kf := kS) (vf := V.bl) (σ' := fun p31 => [some a0, some a1, some (.ref p31), none, none]) hS30 (fun _ => rfl) (fun p31 H32 hS33 => ?_)
      obtain ⟨latest_38, k39, m⟩ := lt m
      refine s_set (K := K) (d := eD latest_38) (i := 3) (σ' := fun v40 => [some a0, some a1, some (.ref p31), some v40, none]) hS33 (d_is d_int (congrArg eD k39)) (fun _ => rfl) (fun v40 F34 H35 g36 hS37 hv41 => ?_)
      obtain ⟨x42, k43, m⟩ := bnd m
      obtain ⟨r45, k46, m⟩ := bnd m
      refine s_forF (K := K) (xs := x42) (en := eD) (body := (f_look_at_orders_D_b44 aisle_1)) (s0 := (latest_38, ([] : (List (Str × Bool))))) (r := r45) (fun (a : PyData × (List (Str × Bool))) F σ c => ∃ (j3 : V) (j4 : Option V), σ = [some a0, some a1, some (.ref p31), some j3, j4] ∧ (p31, .dK (kvE kS V.bl a.2)) :: cs = c ∧ Dt K F j3 (eD a.1)) hS37 (i_list (en := eD) (d_is (d_var rfl (Dt.gr (Gr.tr g7 (Gr.tr g29 g36)) ha1)) (ck_LD _ _ k43))) (fun _ _ => ⟨_, _, rfl, rfl, (Dt.gr ‹_› hv41)⟩) k46 ?_ ?_
      · rintro ⟨latest_139, names_140⟩ F133 σ138 c137 H134 hz146 g135 hS136 ⟨v141, u142, rfl, rfl, h143⟩
        rcases hz146.symm with rfl | rfl
        · cases (show (none : Option _) = some _ from m)
        try dsimp only at m
        have hS144 := Sta.frozeAt (l1 := []) hS136
        obtain rfl := sm m
        exact q _ rfl _ _ _ (Gr.tr g7 (Gr.tr g29 (Gr.tr g36 (Gr.tr g135 (Gr.new (Sta.freeAt (l1 := []) hS136)))))) hS144 Dt.non
      · rintro order_49 ⟨latest_47, names_48⟩ b58 F50 F51 σ64 c65 H52 v57 N59 B60 g53 ⟨v67, u68, rfl, rfl, h69⟩ g54 hS55 hv56 m66 hN61 hB62 hR63
        refine tg (σ' := [some a0, some a1, some (.ref p31), some v67, some v57]) (fun Q hq => hq) ?_
        unfold f_look_at_orders_D_b44 at m66
        try dsimp only at m66
        obtain ⟨x70, k71, m66⟩ := bnd m66
        refine s_if (b := (!x70)) hS55 (t_not (t_B (K := K) (d_call (A := A_is_order_D) (B := eB) (x := (order_49, (aisle_1.1.length : Int))) (a_cons (d_var rfl hv56) (a_cons (d_len (e := eI) (a_cons (d_ixT (d_var rfl (Dt.gr (Gr.tr g7 (Gr.tr g29 (Gr.tr g36 (Gr.tr g53 g54)))) ha0)) d_int rfl) a_nil)) a_nil)) k71))) (fun hc F72 H73 g74 hS75 => ?_) (fun hc F78 H79 g80 hS81 => ?_)
        · rw [if_pos hc] at m66
          refine s_raise ?_
          obtain rfl := sm m66
          have hr76 := hR63 _ rfl
          subst hr76
          have hS77 := sb_drop _ _ hS75
          obtain rfl := sm m
          exact qx _ rfl _ _ _ (Gr.tr g7 (Gr.tr g29 (Gr.tr g36 (Gr.tr g53 (Gr.tr g54 g74))))) hS77 (xd0 (by decide))
        · rw [if_neg (bf hc)] at m66
          refine nxt ?_
          obtain ⟨x85, k86, m66⟩ := bnd m66
          obtain ⟨x87, k88, m66⟩ := bnd m66
          refine s_if (b := (hasK names_48 x87)) hS81 (t_lendX (l1 := []) (m1 := []) (fun F82 g83 hn84 => (t_B (K := K) (d_din kf_S (d_is (d_ixD (d_var rfl (Dt.gr (Gr.tr g80 (Gr.tr g83 (Gr.new hn84))) hv56)) d_int k86) (ck_S _ _ k88)) (vp_var rfl) upd_same)))) (fun hc F89 H90 g91 hS92 => ?_) (fun hc F95 H96 g97 hS98 => ?_)
          · rw [if_pos hc] at m66
            refine s_raise ?_
            obtain rfl := sm m66
            have hr93 := hR63 _ rfl
            subst hr93
            have hS94 := sb_drop _ _ hS92
            obtain rfl := sm m
            exact qx _ rfl _ _ _ (Gr.tr g7 (Gr.tr g29 (Gr.tr g36 (Gr.tr g53 (Gr.tr g54 (Gr.tr g80 g91)))))) hS94 (xd0 (by decide))
          · rw [if_neg (bf hc)] at m66
            refine nxt ?_
            obtain ⟨x99, k100, m66⟩ := bnd m66
            obtain ⟨x101, k102, m66⟩ := bnd m66
            obtain ⟨x103, k104, m66⟩ := bnd m66
            refine s_if (b := (decide (x101 < x103))) hS98 (t_test (K := K) (d_lt (d_is (d_ixD (d_var rfl (Dt.gr (Gr.tr g80 g97) hv56)) d_int k100) (ck_I _ _ k102)) (d_is (d_var rfl (Dt.gr (Gr.tr g54 (Gr.tr g80 g97)) h69)) (ck_I _ _ k104)))) (fun hc F105 H106 g107 hS108 => ?_) (fun hc F111 H112 g113 hS114 => ?_)
            · rw [if_pos hc] at m66
              refine s_raise ?_
              obtain rfl := sm m66
              have hr109 := hR63 _ rfl
              subst hr109
              have hS110 := sb_drop _ _ hS108
              obtain rfl := sm m
              exact qx _ rfl _ _ _ (Gr.tr g7 (Gr.tr g29 (Gr.tr g36 (Gr.tr g53 (Gr.tr g54 (Gr.tr g80 (Gr.tr g97 g107))))))) hS110 (xd0 (by decide))
            · rw [if_neg (bf hc)] at m66
              refine nxt ?_
              obtain ⟨x115, k116, m66⟩ := bnd m66
              obtain ⟨x117, k118, m66⟩ := bnd m66
              obtain ⟨names_119, k120, m66⟩ := bnd m66
              refine s_dput (K := K) (k1 := []) (m1 := []) (l1 := []) (p := p31) (kf := kS) (vf := V.bl) (ek := eS) (ev := eB) (x := true) kf_S (fun _ _ _ h => Dt.toBl h) hS114 d_bl (vp_var rfl) (d_is (d_ixD (d_var rfl (Dt.gr (Gr.tr g80 (Gr.tr g97 g113)) hv56)) d_int k116) (ck_S _ _ k118)) k120 (fun F121 H122 g123 hS124 => ?_)
              obtain ⟨x125, k126, m66⟩ := bnd m66
              refine s_set (K := K) (d := eD x125) (i := 3) (σ' := fun v131 => [some a0, some a1, some (.ref p31), some v131, some v57]) hS124 (d_ixD (d_var rfl (Dt.gr (Gr.tr g80 (Gr.tr g97 (Gr.tr g113 g123))) hv56)) d_int k126) (fun _ => rfl) (fun v131 F127 H128 g129 hS130 hv132 => ?_)
              obtain rfl := sm m66
              exact hN61 _ _ _ _ _ rfl (Gr.tr g80 (Gr.tr g97 (Gr.tr g113 (Gr.tr g123 g129)))) hS130 ⟨_, _, rfl, rfl, hv132⟩
  · subst hc16
    try dsimp only at m
    obtain rfl := sm m
    exact qx _ rfl _ _ _ g11 hS12 xd18
theorem sc_look_at_orders_D : FnScope N_look_at_orders_D ["aisle", "thing"] (defScope s_look_at_orders_D) := ⟨rfl, rfl, rfl, by decide +kernel, rfl, by decide +kernel, by decide +kernel⟩
theorem ok_look_at_orders_D {P : Program} {w : World} {K : PySem.W.Frag} {mg : Str → Option Value} {base : Heap} (hF : Df K mg "look_at_orders" s_look_at_orders_D) (m_isinstance : mg "isinstance" = none) (m_len : mg "len" = none) (m_list : mg "list" = none) (c_MOST_ORDERS : ∃ t, mg "MOST_ORDERS" = some (.int 60 t)) (o_is_order_D : Ok P w K mg base 3 "is_order" ["thing", "last"] (sp_is_order_D K)) (o_look_at_aisle : OkX P w K mg base 3 "look_at_aisle" ["thing"] (sp_look_at_aisle K)) (x_NoOrders : ExD K mg "NoOrders") : OkX P w K mg base 4 "look_at_orders" ["aisle", "thing"] (sp_look_at_orders_D K) := by
  obtain ⟨_, c_MOST_ORDERS⟩ := c_MOST_ORDERS
  obtain ⟨⟨_, G_is_order_D, bd_is_order_D, _⟩, kp_is_order_D, gm_is_order_D⟩ := o_is_order_D
  obtain ⟨⟨_, G_look_at_aisle, bd_look_at_aisle, _⟩, kp_look_at_aisle, gm_look_at_aisle⟩ := o_look_at_aisle
  obtain ⟨⟨fd, F⟩, gm⟩ := hF
  refine ⟨⟨fd, F.ok sc_look_at_orders_D (fun vs H Q E h => ?_) (fun cdv A outer s H vs Q E hr h => ⟨t_look_at_orders_D K E, ?_, w_look_at_orders_D vs H Q E h⟩), F.bindsN fun _ _ _ _ _ _ us hl => match us, hl with | [_, _], _ => rfl, lk_of F⟩, F.kp, gm⟩
  · obtain ⟨F0, cs, x, y, h, _⟩ := h; exact Dts.len h
  · refine pss_tk (W := WX0 E) (takes_of (E := E) rfl rfl rfl rfl) fun tkE => ?_
    exact (pss_cons (ps_expr (pe_callS (E := WE (WX0 E)) G_look_at_aisle (hr.mono (by decide)) (by rfl) gm_look_at_aisle kp_look_at_aisle bd_look_at_aisle (fun σ => passAt tkE σ) (pa_cons (pv 0) pa_nil))) (pss_cons (ps_if (PW.pt (pw_or (pt_not (pt_val (pe_callB call_isi (by rfl) m_isinstance (by decide +kernel) (pa_cons (pv 1) (pa_cons (pe_bltn (v := .ty "list") (by rfl) m_list (by decide +kernel) rfl) pa_nil))))) (pw_or1 (pt_cmpR op_gt (pe_callB cr_lenG (by rfl) m_len PySem.boot_len (pa_cons (pv 1) pa_nil)) (pe_glob (v := .int 60) (by rfl) c_MOST_ORDERS ⟨_, rfl⟩) (nomark _))))) (pss_one (ps_raiseX rfl tkE x_NoOrders (by rfl))) pss_nil) (pss_cons (ps_set (i := 2) sc_look_at_orders_D.nd rfl (Or.inl rfl) pe_dnewK) (pss_cons (ps_set (i := 3) sc_look_at_orders_D.nd rfl (Or.inl rfl) pe_int) (pss_one (ps_for (passes_of rfl) rfl (pi_list (pv 1)) (pg_name (i := 4) sc_look_at_orders_D.nd rfl (Or.inl rfl)) (pss_cons (ps_if (pt_not (pt_val (pe_call G_is_order_D (hr.mono (by decide)) (by rfl) gm_is_order_D kp_is_order_D bd_is_order_D .nil pass0 (pa_cons (pv 4) (pa_cons (pe_callB cr_lenL (by rfl) m_len PySem.boot_len (pa_cons (pe_ix ix_tup (pv 0) pe_int (fun _ _ => rfl)) pa_nil)) pa_nil))))) (pss_one (ps_raiseX rfl tkE x_NoOrders (by rfl))) pss_nil) (pss_cons (ps_if (pt_cmp (pc_din (hu_of hr) (pe_ix ix_seq (pv 4) pe_int (fun _ _ => rfl)) (pv 2))) (pss_one (ps_raiseX rfl tkE x_NoOrders (by rfl))) pss_nil) (pss_cons (ps_if (pt_cmpR op_lt (pe_ix ix_seq (pv 4) pe_int (fun _ _ => rfl)) (pv 3) (nomark _)) (pss_one (ps_raiseX rfl tkE x_NoOrders (by rfl))) pss_nil) (pss_cons (ps_dput (hu_of hr) (pv 2) (pe_ix ix_seq (pv 4) pe_int (fun _ _ => rfl)) pe_bl rfl) (pss_one (ps_set (i := 3) sc_look_at_orders_D.nd rfl (Or.inl rfl) (pe_ix ix_seq (pv 4) pe_int (fun _ _ => rfl))))))))))))))
abbrev s_look_at_orders_D_2 : Stmt := (top 30)
def f_look_at_orders_D_2_b44 (aisle_1 : PyData) : (PyData × (List (Str × Bool))) → PyData → Option (Fl (PyData × (List (Str × Bool))) (Rs Unit)) := fun (latest_47, names_48) order_49 => (((ixD aisle_1 (0 : Int))).bind fun x70 => ((lenD x70)).bind fun x72 => ((f_is_order_D (order_49, x72))).bind fun x74 => (if (!x74) = true then some (Fl.rt (Rs.ex ("NoOrders", PyData.none))) else (((ixD order_49 (0 : Int))).bind fun x89 => ((asS x89)).bind fun x91 => (if (hasK names_48 x91) = true then some (Fl.rt (Rs.ex ("NoOrders", PyData.none))) else (((ixD order_49 (1 : Int))).bind fun x103 => ((asI x103)).bind fun x105 => ((asI latest_47)).bind fun x107 => (if (decide (x105 < x107)) = true then some (Fl.rt (Rs.ex ("NoOrders", PyData.none))) else (((ixD order_49 (0 : Int))).bind fun x119 => ((asS x119)).bind fun x121 => ((putM names_48 x121 true)).bind fun names_123 => (((ixD order_49 (1 : Int))).bind fun x129 => some (Fl.nx (x129, names_123))))))))))
def f_look_at_orders_D_2 : (PyData × PyData) → Option (Rs Unit) := fun (aisle_1, thing_2) => (((f_look_at_aisle_D aisle_1)).bind fun x3 => (match x3 with | .ok y13 => (((if (!(isiD "list" thing_2)) = true then some true else (((lenD thing_2)).bind fun x19 => some (decide ((60 : Int) < x19))))).bind fun x21 => (if x21 = true then some (Rs.ex ("NoOrders", PyData.none)) else (letM (eI (0 : Int)) fun latest_38 => (((asLD thing_2)).bind fun x42 => (forF (f_look_at_orders_D_2_b44 aisle_1) x42 (latest_38, ([] : (List (Str × Bool))))).bind fun r45 => match r45 with | .nx (latest_143, names_144) => some (Rs.ok ()) | .br _ => none | .rt z149 => some z149)))) | .ex c14 => some (Rs.ex c14)))
abbrev A_look_at_orders_D_2 : (PyData × PyData) → List PyData := fun x => [eD x.1, eD x.2]
abbrev N_look_at_orders_D_2 : List Str := ["aisle", "thing", "names", "latest", "order"]
abbrev sp_look_at_orders_D_2 (K : PySem.W.Frag) : Sp := spPX K A_look_at_orders_D_2 eN f_look_at_orders_D_2
def t_look_at_orders_D_2 (K : PySem.W.Frag) (E : XK) : TS := (tSeq (tDrop (tCallS (sp_look_at_aisle_D K) (WE (WX0 E)) (tCons (tVar 0) tNil))) (tSeq (tIfS (tOr (tNot (tB (tCB (rIsi K) (tCons (tVar 1) (tCons (tC (.ty "list")) tNil))))) (tTest (tOp (rI0 fun i j => .bl (decide (j < i))) (tCB (rLenG K) (tCons (tVar 1) tNil)) (tC (.int 60))))) (tRaiseX (WX0 E) (He.ga K "NoOrders")) tNext) (tSeq (tAsg tDNewK (gName 2)) (tSeq (tAsg (tC (.int 0)) (gName 3)) (tFor (iList K (tVar 1)) (gName 4) (tSeq (tIfS (tNot (tB (tCall (sp_is_order_D K) [] E0 (tCons (tVar 4) (tCons (tCB (rLenG K) (tCons (tOp (rIx K) (tVar 0) (tC (.int 0))) tNil)) tNil))))) (tRaiseX (WX0 E) (He.ga K "NoOrders")) tNext) (tSeq (tIfS (tB (tDIn (tOp (rIx K) (tVar 4) (tC (.int 0))) (tVar 2))) (tRaiseX (WX0 E) (He.ga K "NoOrders")) tNext) (tSeq (tIfS (tTest (tOp (rI0 fun i j => .bl (decide (i < j))) (tOp (rIx K) (tVar 4) (tC (.int 1))) (tVar 3))) (tRaiseX (WX0 E) (He.ga K "NoOrders")) tNext) (tSeq (sDPut (tVar 2) (tOp (rIx K) (tVar 4) (tC (.int 0))) (tC (.bl true))) (tAsg (tOp (rIx K) (tVar 4) (tC (.int 1))) (gName 3)))))))))))
theorem w_look_at_orders_D_2 {K : PySem.W.Frag} (vs : List V) (H : Hp) (Q : VK) (E : XK) (h : sp_look_at_orders_D_2 K vs H Q E) : t_look_at_orders_D_2 K E { nx := fun _ H' => Q .non H', rt := Q } (start N_look_at_orders_D_2 vs) H := by
  obtain ⟨F0, cs, ⟨aisle_1, thing_2⟩, y, h, hS0, m, q, qx⟩ := h
  obtain ⟨a0, _, rfl, ha0, h⟩ := Dts.hd h
  obtain ⟨a1, _, rfl, ha1, h⟩ := Dts.hd h
  obtain rfl := Dts.no h
  unfold f_look_at_orders_D_2 at m
  try dsimp only at m
  unfold t_look_at_orders_D_2
  refine go (σ' := [some a0, some a1, none, none, none]) rfl ?_
  obtain ⟨x3, k4, m⟩ := bnd m
  refine s_dropX (B := eN) hS0 (x_call (A := A_look_at_aisle_D) (x := aisle_1) (a_cons (d_var rfl ha0) a_nil) k4) (fun y13 hy15 F5 H6 g7 hS8 => ?_) (fun c14 hc16 dd17 F9 H10 g11 hS12 xd18 => ?_)
  · subst hy15
    try dsimp only at m
    obtain ⟨x21, k22, m⟩ := bnd m
    refine s_if (b := x21) hS8 (t_orM (r := x21) (t_not (t_B (K := K) (d_isiD (c := "list") (by decide) (d_var rfl (Dt.gr g7 ha1))))) (fun hc => by rw [if_neg (bf hc)] at k22; obtain ⟨x19, k20, k22⟩ := bnd k22; obtain rfl := sm k22; exact (t_test (K := K) (d_gt (d_lenD (a_cons (d_var rfl (Dt.gr g7 ha1)) a_nil) k20) d_int))) (fun hc => by rw [if_pos hc] at k22; exact (sm k22).symm)) (fun hc F23 H24 g25 hS26 => ?_) (fun hc F27 H28 g29 hS30 => ?_)
    · rw [if_pos hc] at m
      refine s_raise ?_
      obtain rfl := sm m
      exact qx _ rfl _ _ _ (Gr.tr g7 g25) hS26 (xd0 (by decide))
    · rw [if_neg (bf hc)] at m
      refine nxt ?_
      refine s_setDict (kf := kS) (vf := V.bl) (σ' := fun p31 => [some a0, some a1, some (.ref p31), none, none]) hS30 (fun _ => rfl) (fun p31 H32 hS33 => ?_)
      obtain ⟨latest_38, k39, m⟩ := lt m
      refine s_set (K := K) (d := eD latest_38) (i := 3) (σ' := fun v40 => [some a0, some a1, some (.ref p31), some v40, none]) hS33 (d_is d_int (congrArg eD k39)) (fun _ => rfl) (fun v40 F34 H35 g36 hS37 hv41 => ?_)
      obtain ⟨x42, k43, m⟩ := bnd m
      obtain ⟨r45, k46, m⟩ := bnd m
      refine s_forF (K := K) (xs := x42) (en := eD) (body := (f_look_at_orders_D_2_b44 aisle_1)) (s0 := (latest_38, ([] : (List (Str × Bool))))) (r := r45) (fun (a : PyData × (List (Str × Bool))) F σ c => ∃ (j3 : V) (j4 : Option V), σ = [some a0, some a1, some (.ref p31), some j3, j4] ∧ (p31, .dK (kvE kS V.bl a.2)) :: cs = c ∧ Dt K F j3 (eD a.1)) hS37 (i_list (en := eD) (d_is (d_var rfl (Dt.gr (Gr.tr g7 (Gr.tr g29 g36)) ha1)) (ck_LD _ _ k43))) (fun _ _ => ⟨_, _, rfl, rfl, (Dt.gr ‹_› hv41)⟩) k46 ?_ ?_
      · rintro ⟨latest_143, names_144⟩ F137 σ142 c141 H138 hz150 g139 hS140 ⟨v145, u146, rfl, rfl, h147⟩
        rcases hz150.symm with rfl | rfl
        · cases (show (none : Option _) = some _ from m)
        try dsimp only at m
        have hS148 := Sta.frozeAt (l1 := []) hS140
        obtain rfl := sm m
        exact q _ rfl _ _ _ (Gr.tr g7 (Gr.tr g29 (Gr.tr g36 (Gr.tr g139 (Gr.new (Sta.freeAt (l1 := []) hS140)))))) hS148 Dt.non
      · rintro order_49 ⟨latest_47, names_48⟩ b58 F50 F51 σ64 c65 H52 v57 N59 B60 g53 ⟨v67, u68, rfl, rfl, h69⟩ g54 hS55 hv56 m66 hN61 hB62 hR63
        refine tg (σ' := [some a0, some a1, some (.ref p31), some v67, some v57]) (fun Q hq => hq) ?_
        unfold f_look_at_orders_D_2_b44 at m66
        try dsimp only at m66
        obtain ⟨x70, k71, m66⟩ := bnd m66
        obtain ⟨x72, k73, m66⟩ := bnd m66
        obtain ⟨x74, k75, m66⟩ := bnd m66
        refine s_if (b := (!x74)) hS55 (t_not (t_B (K := K) (d_call (A := A_is_order_D) (B := eB) (x := (order_49, x72)) (a_cons (d_var rfl hv56) (a_cons (d_lenD (a_cons (d_ixD (d_var rfl (Dt.gr (Gr.tr g7 (Gr.tr g29 (Gr.tr g36 (Gr.tr g53 g54)))) ha0)) d_int k71) a_nil) k73) a_nil)) k75))) (fun hc F76 H77 g78 hS79 => ?_) (fun hc F82 H83 g84 hS85 => ?_)
        · rw [if_pos hc] at m66
          refine s_raise ?_
          obtain rfl := sm m66
          have hr80 := hR63 _ rfl
          subst hr80
          have hS81 := sb_drop _ _ hS79
          obtain rfl := sm m
          exact qx _ rfl _ _ _ (Gr.tr g7 (Gr.tr g29 (Gr.tr g36 (Gr.tr g53 (Gr.tr g54 g78))))) hS81 (xd0 (by decide))
        · rw [if_neg (bf hc)] at m66
          refine nxt ?_
          obtain ⟨x89, k90, m66⟩ := bnd m66
          obtain ⟨x91, k92, m66⟩ := bnd m66
          refine s_if (b := (hasK names_48 x91)) hS85 (t_lendX (l1 := []) (m1 := []) (fun F86 g87 hn88 => (t_B (K := K) (d_din kf_S (d_is (d_ixD (d_var rfl (Dt.gr (Gr.tr g84 (Gr.tr g87 (Gr.new hn88))) hv56)) d_int k90) (ck_S _ _ k92)) (vp_var rfl) upd_same)))) (fun hc F93 H94 g95 hS96 => ?_) (fun hc F99 H100 g101 hS102 => ?_)
          · rw [if_pos hc] at m66
            refine s_raise ?_
            obtain rfl := sm m66
            have hr97 := hR63 _ rfl
            subst hr97
            have hS98 := sb_drop _ _ hS96
            obtain rfl := sm m
            exact qx _ rfl _ _ _ (Gr.tr g7 (Gr.tr g29 (Gr.tr g36 (Gr.tr g53 (Gr.tr g54 (Gr.tr g84 g95)))))) hS98 (xd0 (by decide))
          · rw [if_neg (bf hc)] at m66
            refine nxt ?_
            obtain ⟨x103, k104, m66⟩ := bnd m66
            obtain ⟨x105, k106, m66⟩ := bnd m66
            obtain ⟨x107, k108, m66⟩ := bnd m66
            refine s_if (b := (decide (x105 < x107))) hS102 (t_test (K := K) (d_lt (d_is (d_ixD (d_var rfl (Dt.gr (Gr.tr g84 g101) hv56)) d_int k104) (ck_I _ _ k106)) (d_is (d_var rfl (Dt.gr (Gr.tr g54 (Gr.tr g84 g101)) h69)) (ck_I _ _ k108)))) (fun hc F109 H110 g111 hS112 => ?_) (fun hc F115 H116 g117 hS118 => ?_)
            · rw [if_pos hc] at m66
              refine s_raise ?_
              obtain rfl := sm m66
              have hr113 := hR63 _ rfl
              subst hr113
              have hS114 := sb_drop _ _ hS112
              obtain rfl := sm m
              exact qx _ rfl _ _ _ (Gr.tr g7 (Gr.tr g29 (Gr.tr g36 (Gr.tr g53 (Gr.tr g54 (Gr.tr g84 (Gr.tr g101 g111))))))) hS114 (xd0 (by decide))
            · rw [if_neg (bf hc)] at m66
              refine nxt ?_
              obtain ⟨x119, k120, m66⟩ := bnd m66
              obtain ⟨x121, k122, m66⟩ := bnd m66
              obtain ⟨names_123, k124, m66⟩ := bnd m66
              refine s_dput (K := K) (k1 := []) (m1 := []) (l1 := []) (p := p31) (kf := kS) (vf := V.bl) (ek := eS) (ev := eB) (x := true) kf_S (fun _ _ _ h => Dt.toBl h) hS118 d_bl (vp_var rfl) (d_is (d_ixD (d_var rfl (Dt.gr (Gr.tr g84 (Gr.tr g101 g117)) hv56)) d_int k120) (ck_S _ _ k122)) k124 (fun F125 H126 g127 hS128 => ?_)
              obtain ⟨x129, k130, m66⟩ := bnd m66
              refine s_set (K := K) (d := eD x129) (i := 3) (σ' := fun v135 => [some a0, some a1, some (.ref p31), some v135, some v57]) hS128 (d_ixD (d_var rfl (Dt.gr (Gr.tr g84 (Gr.tr g101 (Gr.tr g117 g127))) hv56)) d_int k130) (fun _ => rfl) (fun v135 F131 H132 g133 hS134 hv136 => ?_)
              obtain rfl := sm m66
              exact hN61 _ _ _ _ _ rfl (Gr.tr g84 (Gr.tr g101 (Gr.tr g117 (Gr.tr g127 g133)))) hS134 ⟨_, _, rfl, rfl, hv136⟩
  · subst hc16
    try dsimp only at m
    obtain rfl := sm m
    exact qx _ rfl _ _ _ g11 hS12 xd18
theorem sc_look_at_orders_D_2 : FnScope N_look_at_orders_D_2 ["aisle", "thing"] (defScope s_look_at_orders_D_2) := ⟨rfl, rfl, rfl, by decide +kernel, rfl, by decide +kernel, by decide +kernel⟩
theorem ok_look_at_orders_D_2 {P : Program} {w : World} {K : PySem.W.Frag} {mg : Str → Option Value} {base : Heap} (hF : Df K mg "look_at_orders" s_look_at_orders_D_2) (m_isinstance : mg "isinstance" = none) (m_len : mg "len" = none) (m_list : mg "list" = none) (c_MOST_ORDERS : ∃ t, mg "MOST_ORDERS" = some (.int 60 t)) (o_is_order_D : Ok P w K mg base 3 "is_order" ["thing", "last"] (sp_is_order_D K)) (o_look_at_aisle_D : OkX P w K mg base 3 "look_at_aisle" ["thing"] (sp_look_at_aisle_D K)) (x_NoOrders : ExD K mg "NoOrders") : OkX P w K mg base 4 "look_at_orders" ["aisle", "thing"] (sp_look_at_orders_D_2 K) := by
  obtain ⟨_, c_MOST_ORDERS⟩ := c_MOST_ORDERS
  obtain ⟨⟨_, G_is_order_D, bd_is_order_D, _⟩, kp_is_order_D, gm_is_order_D⟩ := o_is_order_D
  obtain ⟨⟨_, G_look_at_aisle_D, bd_look_at_aisle_D, _⟩, kp_look_at_aisle_D, gm_look_at_aisle_D⟩ := o_look_at_aisle_D
  obtain ⟨⟨fd, F⟩, gm⟩ := hF
  refine ⟨⟨fd, F.ok sc_look_at_orders_D_2 (fun vs H Q E h => ?_) (fun cdv A outer s H vs Q E hr h => ⟨t_look_at_orders_D_2 K E, ?_, w_look_at_orders_D_2 vs H Q E h⟩), F.bindsN fun _ _ _ _ _ _ us hl => match us, hl with | [_, _], _ => rfl, lk_of F⟩, F.kp, gm⟩
  · obtain ⟨F0, cs, x, y, h, _⟩ := h; exact Dts.len h
  · refine pss_tk (W := WX0 E) (takes_of (E := E) rfl rfl rfl rfl) fun tkE => ?_
    exact (pss_cons (ps_expr (pe_callS (E := WE (WX0 E)) G_look_at_aisle_D (hr.mono (by decide)) (by rfl) gm_look_at_aisle_D kp_look_at_aisle_D bd_look_at_aisle_D (fun σ => passAt tkE σ) (pa_cons (pv 0) pa_nil))) (pss_cons (ps_if (PW.pt (pw_or (pt_not (pt_val (pe_callB call_isi (by rfl) m_isinstance (by decide +kernel) (pa_cons (pv 1) (pa_cons (pe_bltn (v := .ty "list") (by rfl) m_list (by decide +kernel) rfl) pa_nil))))) (pw_or1 (pt_cmpR op_gt (pe_callB cr_lenG (by rfl) m_len PySem.boot_len (pa_cons (pv 1) pa_nil)) (pe_glob (v := .int 60) (by rfl) c_MOST_ORDERS ⟨_, rfl⟩) (nomark _))))) (pss_one (ps_raiseX rfl tkE x_NoOrders (by rfl))) pss_nil) (pss_cons (ps_set (i := 2) sc_look_at_orders_D_2.nd rfl (Or.inl rfl) pe_dnewK) (pss_cons (ps_set (i := 3) sc_look_at_orders_D_2.nd rfl (Or.inl rfl) pe_int) (pss_one (ps_for (passes_of rfl) rfl (pi_list (pv 1)) (pg_name (i := 4) sc_look_at_orders_D_2.nd rfl (Or.inl rfl)) (pss_cons (ps_if (pt_not (pt_val (pe_call G_is_order_D (hr.mono (by decide)) (by rfl) gm_is_order_D kp_is_order_D bd_is_order_D .nil pass0 (pa_cons (pv 4) (pa_cons (pe_callB cr_lenG (by rfl) m_len PySem.boot_len (pa_cons (pe_ix ix_seq (pv 0) pe_int (fun _ _ => rfl)) pa_nil)) pa_nil))))) (pss_one (ps_raiseX rfl tkE x_NoOrders (by rfl))) pss_nil) (pss_cons (ps_if (pt_cmp (pc_din (hu_of hr) (pe_ix ix_seq (pv 4) pe_int (fun _ _ => rfl)) (pv 2))) (pss_one (ps_raiseX rfl tkE x_NoOrders (by rfl))) pss_nil) (pss_cons (ps_if (pt_cmpR op_lt (pe_ix ix_seq (pv 4) pe_int (fun _ _ => rfl)) (pv 3) (nomark _)) (pss_one (ps_raiseX rfl tkE x_NoOrders (by rfl))) pss_nil) (pss_cons (ps_dput (hu_of hr) (pv 2) (pe_ix ix_seq (pv 4) pe_int (fun _ _ => rfl)) pe_bl rfl) (pss_one (ps_set (i := 3) sc_look_at_orders_D_2.nd rfl (Or.inl rfl) (pe_ix ix_seq (pv 4) pe_int (fun _ _ => rfl))))))))))))))
abbrev s_look_at_orders_D_3 : Stmt := (top 30)
def f_look_at_orders_D_3_b34 (aisle_1 : PyData) : (Int × (List (Str × Bool))) → (Str × Int × Int × Int) → Option (Fl (Int × (List (Str × Bool))) (Rs Unit)) := fun (latest_37, names_38) order_39 => (((ixD aisle_1 (0 : Int))).bind fun x58 => ((lenD x58)).bind fun x60 => ((f_is_order (order_39, x60))).bind fun x62 => (if (!x62) = true then some (Fl.rt (Rs.ex ("NoOrders", PyData.none))) else (if (hasK names_38 order_39.1) = true then some (Fl.rt (Rs.ex ("NoOrders", PyData.none))) else (if (decide (order_39.2.1 < latest_37)) = true then some (Fl.rt (Rs.ex ("NoOrders", PyData.none))) else (((putM names_38 order_39.1 true)).bind fun names_97 => (letM order_39.2.1 fun latest_107 => some (Fl.nx (latest_107, names_97))))))))
def f_look_at_orders_D_3 : (PyData × (List (Str × Int × Int × Int))) → Option (Rs Unit) := fun (aisle_1, thing_2) => (((f_look_at_aisle_D aisle_1)).bind fun x3 => (match x3 with | .ok y13 => (if ((!true) || (decide ((60 : Int) < (thing_2.length : Int)))) = true then some (Rs.ex ("NoOrders", PyData.none)) else (forF (f_look_at_orders_D_3_b34 aisle_1) thing_2 ((0 : Int), ([] : (List (Str × Bool))))).bind fun r35 => match r35 with | .nx (latest_115, names_116) => some (Rs.ok ()) | .br _ => none | .rt z119 => some z119) | .ex c14 => some (Rs.ex c14)))
abbrev A_look_at_orders_D_3 : (PyData × (List (Str × Int × Int × Int))) → List PyData := fun x => [eD x.1, (eL (eT4 eS eI eI eI)) x.2]
abbrev N_look_at_orders_D_3 : List Str := ["aisle", "thing", "names", "latest", "order"]
abbrev sp_look_at_orders_D_3 (K : PySem.W.Frag) : Sp := spPX K A_look_at_orders_D_3 eN f_look_at_orders_D_3
def t_look_at_orders_D_3 (K : PySem.W.Frag) (E : XK) : TS := (tSeq (tDrop (tCallS (sp_look_at_aisle_D K) (WE (WX0 E)) (tCons (tVar 0) tNil))) (tSeq (tIfS (tOr (tNot (tB (tCB (rIsi K) (tCons (tVar 1) (tCons (tC (.ty "list")) tNil))))) (tTest (tOp (rI0 fun i j => .bl (decide (j < i))) (tCB (rLenL K) (tCons (tVar 1) tNil)) (tC (.int 60))))) (tRaiseX (WX0 E) (He.ga K "NoOrders")) tNext) (tSeq (tAsg tDNewK (gName 2)) (tSeq (tAsg (tC (.int 0)) (gName 3)) (tFor (iList K (tVar 1)) (gName 4) (tSeq (tIfS (tNot (tB (tCall (sp_is_order K) [] E0 (tCons (tVar 4) (tCons (tCB (rLenG K) (tCons (tOp (rIx K) (tVar 0) (tC (.int 0))) tNil)) tNil))))) (tRaiseX (WX0 E) (He.ga K "NoOrders")) tNext) (tSeq (tIfS (tB (tDIn (tOp (rIxT K) (tVar 4) (tC (.int 0))) (tVar 2))) (tRaiseX (WX0 E) (He.ga K "NoOrders")) tNext) (tSeq (tIfS (tTest (tOp (rI0 fun i j => .bl (decide (i < j))) (tOp (rIxT K) (tVar 4) (tC (.int 1))) (tVar 3))) (tRaiseX (WX0 E) (He.ga K "NoOrders")) tNext) (tSeq (sDPut (tVar 2) (tOp (rIxT K) (tVar 4) (tC (.int 0))) (tC (.bl true))) (tAsg (tOp (rIxT K) (tVar 4) (tC (.int 1))) (gName 3)))))))))))
theorem w_look_at_orders_D_3 {K : PySem.W.Frag} (vs : List V) (H : Hp) (Q : VK) (E : XK) (h : sp_look_at_orders_D_3 K vs H Q E) : t_look_at_orders_D_3 K E { nx := fun _ H' => Q .non H', rt := Q } (start N_look_at_orders_D_3 vs) H := by
  obtain ⟨F0, cs, ⟨aisle_1, thing_2⟩, y, h, hS0, m, q, qx⟩ := h
  obtain ⟨a0, _, rfl, ha0, h⟩ := Dts.hd h
  obtain ⟨a1, _, rfl, ha1, h⟩ := Dts.hd h
  obtain rfl := Dts.no h
  unfold f_look_at_orders_D_3 at m
  try dsimp only at m
  unfold t_look_at_orders_D_3
  refine go (σ' := [some a0, some a1, none, none, none]) rfl ?_
  obtain ⟨x3, k4, m⟩ := bnd m
  refine s_dropX (B := eN) hS0 (x_call (A := A_look_at_aisle_D) (x := aisle_1) (a_cons (d_var rfl ha0) a_nil) k4) (fun y13 hy15 F5 H6 g7 hS8 => ?_) (fun c14 hc16 dd17 F9 H10 g11 hS12 xd18 => ?_)
  · subst hy15
    try dsimp only at m
    refine s_if (b := ((!true) || (decide ((60 : Int) < (thing_2.length : Int))))) hS8 (t_orP (t_not (t_B (K := K) (d_is (e := PyData.bool true) (d_isiD (c := "list") (by decide) (d_var rfl (Dt.gr g7 ha1))) (congrArg PyData.bool (by rfl))))) (fun hc => (t_test (K := K) (d_gt (d_len (e := (eT4 eS eI eI eI)) (a_cons (d_var rfl (Dt.gr g7 ha1)) a_nil)) d_int)))) (fun hc F19 H20 g21 hS22 => ?_) (fun hc F23 H24 g25 hS26 => ?_)
    · rw [if_pos hc] at m
      refine s_raise ?_
      obtain rfl := sm m
      exact qx _ rfl _ _ _ (Gr.tr g7 g21) hS22 (xd0 (by decide))
    · rw [if_neg (bf hc)] at m
      refine nxt ?_
      refine s_setDict (kf := kS) (vf := V.bl) (σ' := fun p27 => [some a0, some a1, some (.ref p27), none, none]) hS26 (fun _ => rfl) (fun p27 H28 hS29 => ?_)
      refine s_setV (K := K) (d := eI (0 : Int)) (i := 3) (σ' := [some a0, some a1, some (.ref p27), some (.int (0 : Int)), none]) (fun _ _ h => Dt.toInt h) hS29 d_int rfl (fun F30 H31 g32 hS33 => ?_)
      obtain ⟨r35, k36, m⟩ := bnd m
      refine s_forF (K := K) (xs := thing_2) (en := (eT4 eS eI eI eI)) (body := (f_look_at_orders_D_3_b34 aisle_1)) (s0 := ((0 : Int), ([] : (List (Str × Bool))))) (r := r35) (fun (a : Int × (List (Str × Bool))) F σ c => ∃ (j4 : Option V), σ = [some a0, some a1, some (.ref p27), some (.int a.1), j4] ∧ (p27, .dK (kvE kS V.bl a.2)) :: cs = c) hS33 (i_list (en := (eT4 eS eI eI eI)) (d_var rfl (Dt.gr (Gr.tr g7 (Gr.tr g25 g32)) ha1))) (fun _ _ => ⟨_, rfl, rfl⟩) k36 ?_ ?_
      · rintro ⟨latest_115, names_116⟩ F109 σ114 c113 H110 hz120 g111 hS112 ⟨u117, rfl, rfl⟩
        rcases hz120.symm with rfl | rfl
        · cases (show (none : Option _) = some _ from m)
        try dsimp only at m
        have hS118 := Sta.frozeAt (l1 := []) hS112
        obtain rfl := sm m
        exact q _ rfl _ _ _ (Gr.tr g7 (Gr.tr g25 (Gr.tr g32 (Gr.tr g111 (Gr.new (Sta.freeAt (l1 := []) hS112)))))) hS118 Dt.non
      · rintro order_39 ⟨latest_37, names_38⟩ b48 F40 F41 σ54 c55 H42 v47 N49 B50 g43 ⟨u57, rfl, rfl⟩ g44 hS45 hv46 m56 hN51 hB52 hR53
        refine tg (σ' := [some a0, some a1, some (.ref p27), some (.int latest_37), some v47]) (fun Q hq => hq) ?_
        unfold f_look_at_orders_D_3_b34 at m56
        try dsimp only at m56
        obtain ⟨x58, k59, m56⟩ := bnd m56
        obtain ⟨x60, k61, m56⟩ := bnd m56
        obtain ⟨x62, k63, m56⟩ := bnd m56
        refine s_if (b := (!x62)) hS45 (t_not (t_B (K := K) (d_call (A := A_is_order) (B := eB) (x := (order_39, x60)) (a_cons (d_var rfl hv46) (a_cons (d_lenD (a_cons (d_ixD (d_var rfl (Dt.gr (Gr.tr g7 (Gr.tr g25 (Gr.tr g32 (Gr.tr g43 g44)))) ha0)) d_int k59) a_nil) k61) a_nil)) k63))) (fun hc F64 H65 g66 hS67 => ?_) (fun hc F70 H71 g72 hS73 => ?_)
        · rw [if_pos hc] at m56
          refine s_raise ?_
          obtain rfl := sm m56
          have hr68 := hR53 _ rfl
          subst hr68
          have hS69 := sb_drop _ _ hS67
          obtain rfl := sm m
          exact qx _ rfl _ _ _ (Gr.tr g7 (Gr.tr g25 (Gr.tr g32 (Gr.tr g43 (Gr.tr g44 g66))))) hS69 (xd0 (by decide))
        · rw [if_neg (bf hc)] at m56
          refine nxt ?_
          refine s_if (b := (hasK names_38 order_39.1)) hS73 (t_lendX (l1 := []) (m1 := []) (fun F74 g75 hn76 => (t_B (K := K) (d_din kf_S (d_ixT (d_var rfl (Dt.gr (Gr.tr g72 (Gr.tr g75 (Gr.new hn76))) hv46)) d_int rfl) (vp_var rfl) upd_same)))) (fun hc F77 H78 g79 hS80 => ?_) (fun hc F83 H84 g85 hS86 => ?_)
          · rw [if_pos hc] at m56
            refine s_raise ?_
            obtain rfl := sm m56
            have hr81 := hR53 _ rfl
            subst hr81
            have hS82 := sb_drop _ _ hS80
            obtain rfl := sm m
            exact qx _ rfl _ _ _ (Gr.tr g7 (Gr.tr g25 (Gr.tr g32 (Gr.tr g43 (Gr.tr g44 (Gr.tr g72 g79)))))) hS82 (xd0 (by decide))
          · rw [if_neg (bf hc)] at m56
            refine nxt ?_
            refine s_if (b := (decide (order_39.2.1 < latest_37))) hS86 (t_test (K := K) (d_lt (d_ixT (d_var rfl (Dt.gr (Gr.tr g72 g85) hv46)) d_int rfl) (d_var rfl (.int _)))) (fun hc F87 H88 g89 hS90 => ?_) (fun hc F93 H94 g95 hS96 => ?_)
            · rw [if_pos hc] at m56
              refine s_raise ?_
              obtain rfl := sm m56
              have hr91 := hR53 _ rfl
              subst hr91
              have hS92 := sb_drop _ _ hS90
              obtain rfl := sm m
              exact qx _ rfl _ _ _ (Gr.tr g7 (Gr.tr g25 (Gr.tr g32 (Gr.tr g43 (Gr.tr g44 (Gr.tr g72 (Gr.tr g85 g89))))))) hS92 (xd0 (by decide))
            · rw [if_neg (bf hc)] at m56
              refine nxt ?_
              obtain ⟨names_97, k98, m56⟩ := bnd m56
              refine s_dput (K := K) (k1 := []) (m1 := []) (l1 := []) (p := p27) (kf := kS) (vf := V.bl) (ek := eS) (ev := eB) (x := true) kf_S (fun _ _ _ h => Dt.toBl h) hS96 d_bl (vp_var rfl) (d_ixT (d_var rfl (Dt.gr (Gr.tr g72 (Gr.tr g85 g95)) hv46)) d_int rfl) k98 (fun F99 H100 g101 hS102 => ?_)
              obtain ⟨latest_107, k108, m56⟩ := lt m56
              refine s_setV (K := K) (d := eI latest_107) (i := 3) (σ' := [some a0, some a1, some (.ref p27), some (.int latest_107), some v47]) (fun _ _ h => Dt.toInt h) hS102 (d_is (d_ixT (d_var rfl (Dt.gr (Gr.tr g72 (Gr.tr g85 (Gr.tr g95 g101))) hv46)) d_int rfl) (congrArg eI k108)) rfl (fun F103 H104 g105 hS106 => ?_)
              obtain rfl := sm m56
              exact hN51 _ _ _ _ _ rfl (Gr.tr g72 (Gr.tr g85 (Gr.tr g95 (Gr.tr g101 g105)))) hS106 ⟨_, rfl, rfl⟩
  · subst hc16
    try dsimp only at m
    obtain rfl := sm m
    exact qx _ rfl _ _ _ g11 hS12 xd18
theorem sc_look_at_orders_D_3 : FnScope N_look_at_orders_D_3 ["aisle", "thing"] (defScope s_look_at_orders_D_3) := ⟨rfl, rfl, rfl, by decide +kernel, rfl, by decide +kernel, by decide +kernel⟩
theorem ok_look_at_orders_D_3 {P : Program} {w : World} {K : PySem.W.Frag} {mg : Str → Option Value} {base : Heap} (hF : Df K mg "look_at_orders" s_look_at_orders_D_3) (m_isinstance : mg "isinstance" = none) (m_len : mg "len" = none) (m_list : mg "list" = none) (c_MOST_ORDERS : ∃ t, mg "MOST_ORDERS" = some (.int 60 t)) (o_is_order : Ok P w K mg base 3 "is_order" ["thing", "last"] (sp_is_order K)) (o_look_at_aisle_D : OkX P w K mg base 3 "look_at_aisle" ["thing"] (sp_look_at_aisle_D K)) (x_NoOrders : ExD K mg "NoOrders") : OkX P w K mg base 4 "look_at_orders" ["aisle", "thing"] (sp_look_at_orders_D_3 K) := by
  obtain ⟨_, c_MOST_ORDERS⟩ := c_MOST_ORDERS
  obtain ⟨⟨_, G_is_order, bd_is_order, _⟩, kp_is_order, gm_is_order⟩ := o_is_order
  obtain ⟨⟨_, G_look_at_aisle_D, bd_look_at_aisle_D, _⟩, kp_look_at_aisle_D, gm_look_at_aisle_D⟩ := o_look_at_aisle_D
  obtain ⟨⟨fd, F⟩, gm⟩ := hF
  refine ⟨⟨fd, F.ok sc_look_at_orders_D_3 (fun vs H Q E h => ?_) (fun cdv A outer s H vs Q E hr h => ⟨t_look_at_orders_D_3 K E, ?_, w_look_at_orders_D_3 vs H Q E h⟩), F.bindsN fun _ _ _ _ _ _ us hl => match us, hl with | [_, _], _ => rfl, lk_of F⟩, F.kp, gm⟩
  · obtain ⟨F0, cs, x, y, h, _⟩ := h; exact Dts.len h
  · refine pss_tk (W := WX0 E) (takes_of (E := E) rfl rfl rfl rfl) fun tkE => ?_
    exact (pss_cons (ps_expr (pe_callS (E := WE (WX0 E)) G_look_at_aisle_D (hr.mono (by decide)) (by rfl) gm_look_at_aisle_D kp_look_at_aisle_D bd_look_at_aisle_D (fun σ => passAt tkE σ) (pa_cons (pv 0) pa_nil))) (pss_cons (ps_if (PW.pt (pw_or (pt_not (pt_val (pe_callB call_isi (by rfl) m_isinstance (by decide +kernel) (pa_cons (pv 1) (pa_cons (pe_bltn (v := .ty "list") (by rfl) m_list (by decide +kernel) rfl) pa_nil))))) (pw_or1 (pt_cmpR op_gt (pe_callB cr_lenL (by rfl) m_len PySem.boot_len (pa_cons (pv 1) pa_nil)) (pe_glob (v := .int 60) (by rfl) c_MOST_ORDERS ⟨_, rfl⟩) (nomark _))))) (pss_one (ps_raiseX rfl tkE x_NoOrders (by rfl))) pss_nil) (pss_cons (ps_set (i := 2) sc_look_at_orders_D_3.nd rfl (Or.inl rfl) pe_dnewK) (pss_cons (ps_set (i := 3) sc_look_at_orders_D_3.nd rfl (Or.inl rfl) pe_int) (pss_one (ps_for (passes_of rfl) rfl (pi_list (pv 1)) (pg_name (i := 4) sc_look_at_orders_D_3.nd rfl (Or.inl rfl)) (pss_cons (ps_if (pt_not (pt_val (pe_call G_is_order (hr.mono (by decide)) (by rfl) gm_is_order kp_is_order bd_is_order .nil pass0 (pa_cons (pv 4) (pa_cons (pe_callB cr_lenG (by rfl) m_len PySem.boot_len (pa_cons (pe_ix ix_seq (pv 0) pe_int (fun _ _ => rfl)) pa_nil)) pa_nil))))) (pss_one (ps_raiseX rfl tkE x_NoOrders (by rfl))) pss_nil) (pss_cons (ps_if (pt_cmp (pc_din (hu_of hr) (pe_ix ix_tup (pv 4) pe_int (fun _ _ => rfl)) (pv 2))) (pss_one (ps_raiseX rfl tkE x_NoOrders (by rfl))) pss_nil) (pss_cons (ps_if (pt_cmpR op_lt (pe_ix ix_tup (pv 4) pe_int (fun _ _ => rfl)) (pv 3) (nomark _)) (pss_one (ps_raiseX rfl tkE x_NoOrders (by rfl))) pss_nil) (pss_cons (ps_dput (hu_of hr) (pv 2) (pe_ix ix_tup (pv 4) pe_int (fun _ _ => rfl)) pe_bl rfl) (pss_one (ps_set (i := 3) sc_look_at_orders_D_3.nd rfl (Or.inl rfl) (pe_ix ix_tup (pv 4) pe_int (fun _ _ => rfl))))))))))))))
abbrev s_Sweep : Stmt := ((clsB (top 35)).getD 0 (.Pass ⟨0, 0, 0, 0⟩))
def f_Sweep : (((List Int) × Int) × (List (Str × Int × Int × Int))) → Option T_Sweep := fun (aisle_1, orders_2) => (((f_look_at_orders (aisle_1, orders_2))).bind fun x3 => ((okM x3)).bind fun x5 => (letM aisle_1.1 fun x11 => (letM aisle_1.2 fun x22 => (letM ([] : (List (Str × Int × Int × Int))) fun x41 => (letM ([] : (List (Str × Int × Int × Int))) fun x52 => (letM ([] : (List (Str × Int × Int × Int))) fun x63 => some (x11, x22, orders_2, x41, x52, x63, (0 : Int), (0 : Int), (1 : Int), (0 : Int))))))))
abbrev N_Sweep : List Str := ["self", "aisle", "orders"]
abbrev A_Sweep : (((List Int) × Int) × (List (Str × Int × Int × Int))) → List PyData := fun x => [(eT2 (eL eI) eI) x.1, (eL (eT4 eS eI eI eI)) x.2]
abbrev sp_Sweep (K : PySem.W.Frag) : Sp := spMk K (He.ga K "Sweep") A_Sweep (O_Sweep K) f_Sweep
def t_Sweep (K : PySem.W.Frag) : TS := (tSeq (tDrop (tCallS (sp_look_at_orders K) (fun _ => XF0) (tCons (tVar 1) (tCons (tVar 2) tNil)))) (tSeq (sFld K (tVar 0) (tCB (rListS K) (tCons (tOp (rIxT K) (tVar 1) (tC (.int 0))) tNil)) "gaps") (tSeq (sFld K (tVar 0) (tOp (rIxT K) (tVar 1) (tC (.int 1))) "most") (tSeq (sFld K (tVar 0) (tCB (rListS K) (tCons (tVar 2) tNil)) "coming") (tSeq (sFld K (tVar 0) (tLst tNil) "waiting") (tSeq (sFld K (tVar 0) (tLst tNil) "riding") (tSeq (sFld K (tVar 0) (tLst tNil) "arrived") (tSeq (sFld K (tVar 0) (tC (.int 0)) "tick") (tSeq (sFld K (tVar 0) (tC (.int 0)) "bay") (tSeq (sFld K (tVar 0) (tC (.int 1)) "step") (sFld K (tVar 0) (tC (.int 0)) "ahead")))))))))))
theorem w_Sweep {K : PySem.W.Frag} (cl_Sweep : Cls K (He.ga K "Sweep")) (na_Sweep_ahead : NoAttr K (He.ga K "Sweep") "ahead") (na_Sweep_arrived : NoAttr K (He.ga K "Sweep") "arrived") (na_Sweep_bay : NoAttr K (He.ga K "Sweep") "bay") (na_Sweep_coming : NoAttr K (He.ga K "Sweep") "coming") (na_Sweep_gaps : NoAttr K (He.ga K "Sweep") "gaps") (na_Sweep_most : NoAttr K (He.ga K "Sweep") "most") (na_Sweep_riding : NoAttr K (He.ga K "Sweep") "riding") (na_Sweep_step : NoAttr K (He.ga K "Sweep") "step") (na_Sweep_tick : NoAttr K (He.ga K "Sweep") "tick") (na_Sweep_waiting : NoAttr K (He.ga K "Sweep") "waiting") (vs : List V) (H : Hp) (Q : VK) (E : XK) (h : sp_Sweep K vs H Q E) : t_Sweep K { nx := fun _ H' => Q .non H', rt := Q } (start N_Sweep vs) H := by
  obtain ⟨F0, cs, z0, dx0, ws, ⟨aisle_1, orders_2⟩, y, rfl, h, hS0, m, q⟩ := h
  obtain ⟨a0, _, rfl, ha0, h⟩ := Dts.hd h
  obtain ⟨a1, _, rfl, ha1, h⟩ := Dts.hd h
  obtain rfl := Dts.no h
  have hS1 : Sta F0 ((z0, .ins (He.ga K "Sweep") dx0 []) :: (dx0, .own z0) :: cs) H := hS0
  unfold f_Sweep at m
  try dsimp only at m
  unfold t_Sweep
  refine go (σ' := [some (.ref z0), some a0, some a1]) rfl ?_
  obtain ⟨x3, k4, m⟩ := bnd m
  obtain ⟨x5, k6, m⟩ := bnd m
  refine s_drop (K := K) (d := eN x5) hS1 (dx_call (A := A_look_at_orders) (B := eN) (x := (aisle_1, orders_2)) (a_cons (d_var rfl ha0) (a_cons (d_var rfl ha1) a_nil)) (k4.trans (congrArg some (okM_some k6)))) (fun F7 H8 g9 hS10 => ?_)
  refine s_fldO ?_
  obtain ⟨x11, k12, m⟩ := lt m
  refine o_c (K := K) (ds := x11.map eI) hS10 (c_is (c_list (a_cons (d_ixT (d_var rfl (Dt.gr g9 ha0)) d_int rfl) a_nil)) (congrArg (List.map eI) k12)) (fun p17 us18 F13 H14 g15 hS16 hu19 => ?_)
  obtain rfl := Dts.ints hu19
  refine o_fld (σ := [some (.ref z0), some a0, some a1]) (ta := (tVar 0)) (l1 := [(p17, .lst (x11.map V.int))]) (fs' := [("gaps", (.ref p17))]) hS16 (vp_var rfl) cl_Sweep na_Sweep_gaps (Nat.le_of_ble_eq_true rfl) rfl (fun H20 hS21 => ?_)
  refine s_fldO ?_
  obtain ⟨x22, k23, m⟩ := lt m
  refine o_d (K := K) (d := eI x22) hS21 (d_is (d_ixT (d_var rfl (Dt.gr (Gr.tr g9 g15) ha0)) d_int rfl) (congrArg eI k23)) (fun v28 F24 H25 g26 hS27 hv29 => ?_)
  obtain rfl := Dt.toInt hv29
  refine o_fld (σ := [some (.ref z0), some a0, some a1]) (ta := (tVar 0)) (l1 := [(p17, .lst (x11.map V.int))]) (fs' := [("gaps", (.ref p17)), ("most", (.int x22))]) hS27 (vp_var rfl) cl_Sweep na_Sweep_most (Nat.le_of_ble_eq_true rfl) rfl (fun H30 hS31 => ?_)
  refine s_fldO ?_
  refine o_c (K := K) (ds := orders_2.map (eT4 eS eI eI eI)) hS31 (c_list (a_cons (d_var rfl (Dt.gr (Gr.tr g9 (Gr.tr g15 g26)) ha1)) a_nil)) (fun p36 us37 F32 H33 g34 hS35 hu38 => ?_)
  refine o_fld (σ := [some (.ref z0), some a0, some a1]) (ta := (tVar 0)) (l1 := [(p36, .lst us37), (p17, .lst (x11.map V.int))]) (fs' := [("gaps", (.ref p17)), ("most", (.int x22)), ("coming", (.ref p36))]) hS35 (vp_var rfl) cl_Sweep na_Sweep_coming (Nat.le_of_ble_eq_true rfl) rfl (fun H39 hS40 => ?_)
  refine s_fldO ?_
  obtain ⟨x41, k42, m⟩ := lt m
  refine o_c (K := K) (ds := x41.map (eT4 eS eI eI eI)) hS40 (c_is (c_lst a_nil (Nat.le_of_ble_eq_true rfl)) (congrArg (List.map (eT4 eS eI eI eI)) k42)) (fun p47 us48 F43 H44 g45 hS46 hu49 => ?_)
  refine o_fld (σ := [some (.ref z0), some a0, some a1]) (ta := (tVar 0)) (l1 := [(p47, .lst us48), (p36, .lst us37), (p17, .lst (x11.map V.int))]) (fs' := [("gaps", (.ref p17)), ("most", (.int x22)), ("coming", (.ref p36)), ("waiting", (.ref p47))]) hS46 (vp_var rfl) cl_Sweep na_Sweep_waiting (Nat.le_of_ble_eq_true rfl) rfl (fun H50 hS51 => ?_)
  refine s_fldO ?_
  obtain ⟨x52, k53, m⟩ := lt m
  refine o_c (K := K) (ds := x52.map (eT4 eS eI eI eI)) hS51 (c_is (c_lst a_nil (Nat.le_of_ble_eq_true rfl)) (congrArg (List.map (eT4 eS eI eI eI)) k53)) (fun p58 us59 F54 H55 g56 hS57 hu60 => ?_)
  refine o_fld (σ := [some (.ref z0), some a0, some a1]) (ta := (tVar 0)) (l1 := [(p58, .lst us59), (p47, .lst us48), (p36, .lst us37), (p17, .lst (x11.map V.int))]) (fs' := [("gaps", (.ref p17)), ("most", (.int x22)), ("coming", (.ref p36)), ("waiting", (.ref p47)), ("riding", (.ref p58))]) hS57 (vp_var rfl) cl_Sweep na_Sweep_riding (Nat.le_of_ble_eq_true rfl) rfl (fun H61 hS62 => ?_)
  refine s_fldO ?_
  obtain ⟨x63, k64, m⟩ := lt m
  refine o_c (K := K) (ds := x63.map (eT4 eS eI eI eI)) hS62 (c_is (c_lst a_nil (Nat.le_of_ble_eq_true rfl)) (congrArg (List.map (eT4 eS eI eI eI)) k64)) (fun p69 us70 F65 H66 g67 hS68 hu71 => ?_)
  refine o_fld (σ := [some (.ref z0), some a0, some a1]) (ta := (tVar 0)) (l1 := [(p69, .lst us70), (p58, .lst us59), (p47, .lst us48), (p36, .lst us37), (p17, .lst (x11.map V.int))]) (fs' := [("gaps", (.ref p17)), ("most", (.int x22)), ("coming", (.ref p36)), ("waiting", (.ref p47)), ("riding", (.ref p58)), ("arrived", (.ref p69))]) hS68 (vp_var rfl) cl_Sweep na_Sweep_arrived (Nat.le_of_ble_eq_true rfl) rfl (fun H72 hS73 => ?_)
  refine s_fldO ?_
  refine o_d (K := K) (d := eI (0 : Int)) hS73 d_int (fun v78 F74 H75 g76 hS77 hv79 => ?_)
  obtain rfl := Dt.toInt hv79
  refine o_fld (σ := [some (.ref z0), some a0, some a1]) (ta := (tVar 0)) (l1 := [(p69, .lst us70), (p58, .lst us59), (p47, .lst us48), (p36, .lst us37), (p17, .lst (x11.map V.int))]) (fs' := [("gaps", (.ref p17)), ("most", (.int x22)), ("coming", (.ref p36)), ("waiting", (.ref p47)), ("riding", (.ref p58)), ("arrived", (.ref p69)), ("tick", (.int (0 : Int)))]) hS77 (vp_var rfl) cl_Sweep na_Sweep_tick (Nat.le_of_ble_eq_true rfl) rfl (fun H80 hS81 => ?_)
  refine s_fldO ?_
  refine o_d (K := K) (d := eI (0 : Int)) hS81 d_int (fun v86 F82 H83 g84 hS85 hv87 => ?_)
  obtain rfl := Dt.toInt hv87
  refine o_fld (σ := [some (.ref z0), some a0, some a1]) (ta := (tVar 0)) (l1 := [(p69, .lst us70), (p58, .lst us59), (p47, .lst us48), (p36, .lst us37), (p17, .lst (x11.map V.int))]) (fs' := [("gaps", (.ref p17)), ("most", (.int x22)), ("coming", (.ref p36)), ("waiting", (.ref p47)), ("riding", (.ref p58)), ("arrived", (.ref p69)), ("tick", (.int (0 : Int))), ("bay", (.int (0 : Int)))]) hS85 (vp_var rfl) cl_Sweep na_Sweep_bay (Nat.le_of_ble_eq_true rfl) rfl (fun H88 hS89 => ?_)
  refine s_fldO ?_
  refine o_d (K := K) (d := eI (1 : Int)) hS89 d_int (fun v94 F90 H91 g92 hS93 hv95 => ?_)
  obtain rfl := Dt.toInt hv95
  refine o_fld (σ := [some (.ref z0), some a0, some a1]) (ta := (tVar 0)) (l1 := [(p69, .lst us70), (p58, .lst us59), (p47, .lst us48), (p36, .lst us37), (p17, .lst (x11.map V.int))]) (fs' := [("gaps", (.ref p17)), ("most", (.int x22)), ("coming", (.ref p36)), ("waiting", (.ref p47)), ("riding", (.ref p58)), ("arrived", (.ref p69)), ("tick", (.int (0 : Int))), ("bay", (.int (0 : Int))), ("step", (.int (1 : Int)))]) hS93 (vp_var rfl) cl_Sweep na_Sweep_step (Nat.le_of_ble_eq_true rfl) rfl (fun H96 hS97 => ?_)
  refine s_fldO ?_
  refine o_d (K := K) (d := eI (0 : Int)) hS97 d_int (fun v102 F98 H99 g100 hS101 hv103 => ?_)
  obtain rfl := Dt.toInt hv103
  refine o_fld (σ := [some (.ref z0), some a0, some a1]) (ta := (tVar 0)) (l1 := [(p69, .lst us70), (p58, .lst us59), (p47, .lst us48), (p36, .lst us37), (p17, .lst (x11.map V.int))]) (fs' := [("gaps", (.ref p17)), ("most", (.int x22)), ("coming", (.ref p36)), ("waiting", (.ref p47)), ("riding", (.ref p58)), ("arrived", (.ref p69)), ("tick", (.int (0 : Int))), ("bay", (.int (0 : Int))), ("step", (.int (1 : Int))), ("ahead", (.int (0 : Int)))]) hS101 (vp_var rfl) cl_Sweep na_Sweep_ahead (Nat.le_of_ble_eq_true rfl) rfl (fun H104 hS105 => ?_)
  have hS106 := Sta.perm hS105 (List.Perm.trans (List.perm_middle (l₁ := [(p69, HO.lst us70)])) (List.Perm.trans (List.perm_middle (l₁ := [(p58, HO.lst us59), (p69, HO.lst us70)])) (List.Perm.trans (List.perm_middle (l₁ := [(p47, HO.lst us48), (p58, HO.lst us59), (p69, HO.lst us70)])) (List.Perm.trans (List.perm_middle (l₁ := [(p36, HO.lst us37), (p47, HO.lst us48), (p58, HO.lst us59), (p69, HO.lst us70)])) (List.Perm.trans (List.perm_middle (l₁ := [(p17, HO.lst (x11.map V.int)), (p36, HO.lst us37), (p47, HO.lst us48), (p58, HO.lst us59), (p69, HO.lst us70), (z0, HO.ins (He.ga K "Sweep") dx0 [("gaps", (.ref p17)), ("most", (.int x22)), ("coming", (.ref p36)), ("waiting", (.ref p47)), ("riding", (.ref p58)), ("arrived", (.ref p69)), ("tick", (.int (0 : Int))), ("bay", (.int (0 : Int))), ("step", (.int (1 : Int))), ("ahead", (.int (0 : Int)))])])) (List.perm_middle (l₁ := [(dx0, HO.own z0), (p17, HO.lst (x11.map V.int)), (p36, HO.lst us37), (p47, HO.lst us48), (p58, HO.lst us59), (p69, HO.lst us70)])))))))
  obtain rfl := sm m
  exact q [(z0, HO.ins (He.ga K "Sweep") dx0 [("gaps", (.ref p17)), ("most", (.int x22)), ("coming", (.ref p36)), ("waiting", (.ref p47)), ("riding", (.ref p58)), ("arrived", (.ref p69)), ("tick", (.int (0 : Int))), ("bay", (.int (0 : Int))), ("step", (.int (1 : Int))), ("ahead", (.int (0 : Int)))]), (dx0, HO.own z0), (p17, HO.lst (x11.map V.int)), (p36, HO.lst us37), (p47, HO.lst us48), (p58, HO.lst us59), (p69, HO.lst us70)] _ _ (Gr.tr g9 (Gr.tr g15 (Gr.tr g26 (Gr.tr g34 (Gr.tr g45 (Gr.tr g56 (Gr.tr g67 (Gr.tr g76 (Gr.tr g84 (Gr.tr g92 g100)))))))))) hS106 ⟨_, _, _, _, _, _, _, _, _, _, rfl, (Dts.gr (Gr.tr g45 (Gr.tr g56 (Gr.tr g67 (Gr.tr g76 (Gr.tr g84 (Gr.tr g92 g100)))))) hu38), (Dts.gr (Gr.tr g56 (Gr.tr g67 (Gr.tr g76 (Gr.tr g84 (Gr.tr g92 g100))))) hu49), (Dts.gr (Gr.tr g67 (Gr.tr g76 (Gr.tr g84 (Gr.tr g92 g100)))) hu60), (Dts.gr (Gr.tr g76 (Gr.tr g84 (Gr.tr g92 g100))) hu71)⟩
theorem sc_Sweep : FnScope N_Sweep ["self", "aisle", "orders"] (defScope s_Sweep) := ⟨rfl, rfl, rfl, by decide +kernel, rfl, by decide +kernel, by decide +kernel⟩
theorem ok_Sweep {P : Program} {w : World} {K : PySem.W.Frag} {mg : Str → Option Value} {base : Heap} (hF : DfM K "Sweep" "__init__" "Sweep.__init__" s_Sweep) (gmM : mg "Sweep" = some (.ref (He.ga K "Sweep"))) (mkM : Mk K (He.ga K "Sweep") (He.ma K (He.ga K "Sweep") "__init__")) (m_list : mg "list" = none) (o_look_at_orders : OkX P w K mg base 4 "look_at_orders" ["aisle", "thing"] (sp_look_at_orders K)) (cl_Sweep : Cls K (He.ga K "Sweep")) (na_Sweep_ahead : NoAttr K (He.ga K "Sweep") "ahead") (na_Sweep_arrived : NoAttr K (He.ga K "Sweep") "arrived") (na_Sweep_bay : NoAttr K (He.ga K "Sweep") "bay") (na_Sweep_coming : NoAttr K (He.ga K "Sweep") "coming") (na_Sweep_gaps : NoAttr K (He.ga K "Sweep") "gaps") (na_Sweep_most : NoAttr K (He.ga K "Sweep") "most") (na_Sweep_riding : NoAttr K (He.ga K "Sweep") "riding") (na_Sweep_step : NoAttr K (He.ga K "Sweep") "step") (na_Sweep_tick : NoAttr K (He.ga K "Sweep") "tick") (na_Sweep_waiting : NoAttr K (He.ga K "Sweep") "waiting") : OkMk P w K mg base CX0 5 "Sweep" ["self", "aisle", "orders"] (sp_Sweep K) := by
  obtain ⟨⟨_, G_look_at_orders, bd_look_at_orders, _⟩, kp_look_at_orders, gm_look_at_orders⟩ := o_look_at_orders
  obtain ⟨fd, F⟩ := hF
  refine ⟨⟨fd, F.ok sc_Sweep (fun vs H Q E h => ?_) (fun cdv A outer s H vs Q E hr h => ⟨t_Sweep K, PSs.nox ?_, w_Sweep cl_Sweep na_Sweep_ahead na_Sweep_arrived na_Sweep_bay na_Sweep_coming na_Sweep_gaps na_Sweep_most na_Sweep_riding na_Sweep_step na_Sweep_tick na_Sweep_waiting vs H Q E h⟩), F.bindsN fun _ _ _ _ _ _ us hl => match us, hl with | [_, _, _], _ => rfl⟩, gmM, mkM⟩
  · obtain ⟨F0, cs, a, dx, ws, x, y, rfl, h, _⟩ := h; exact congrArg Nat.succ (Dts.len h)
  · exact (pss_cons (ps_expr (pe_callS (E := fun _ => XF0) G_look_at_orders (hr.mono (by decide)) (by rfl) gm_look_at_orders kp_look_at_orders bd_look_at_orders (fun σ => passF σ) (pa_cons (pv 1) (pa_cons (pv 2) pa_nil)))) (pss_cons (ps_fld (pv 0) (pe_callTy cr_list (by rfl) m_list (by decide +kernel) (pa_cons (pe_ix ix_tup (pv 1) pe_int (fun _ _ => rfl)) pa_nil)) rfl) (pss_cons (ps_fld (pv 0) (pe_ix ix_tup (pv 1) pe_int (fun _ _ => rfl)) rfl) (pss_cons (ps_fld (pv 0) (pe_callTy cr_list (by rfl) m_list (by decide +kernel) (pa_cons (pv 2) pa_nil)) rfl) (pss_cons (ps_fld (pv 0) (pe_lst pa_nil) rfl) (pss_cons (ps_fld (pv 0) (pe_lst pa_nil) rfl) (pss_cons (ps_fld (pv 0) (pe_lst pa_nil) rfl) (pss_cons (ps_fld (pv 0) pe_int rfl) (pss_cons (ps_fld (pv 0) pe_int rfl) (pss_cons (ps_fld (pv 0) pe_int rfl) (pss_one (ps_fld (pv 0) pe_int rfl))))))))))))
abbrev s_Sweep_D : Stmt := ((clsB (top 35)).getD 0 (.Pass ⟨0, 0, 0, 0⟩))
def f_Sweep_D : (((List Int) × Int) × PyData) → Option (Rs Unit) := fun (aisle_1, orders_2) => (((f_look_at_orders_D (aisle_1, orders_2))).bind fun x7 => (match x7 with | .ok y17 => none | .ex c18 => some (Rs.ex c18)))
abbrev A_Sweep_D : (((List Int) × Int) × PyData) → List PyData := fun x => [(eT2 (eL eI) eI) x.1, eD x.2]
abbrev N_Sweep_D : List Str := ["self", "aisle", "orders"]
abbrev sp_Sweep_D (K : PySem.W.Frag) : Sp := spMX K (He.ga K "Sweep") A_Sweep_D f_Sweep_D
def t_Sweep_D (K : PySem.W.Frag) (E : XK) : TS := (tSeq (tDrop (tCallS (sp_look_at_orders_D K) (WE (WX0 E)) (tCons (tVar 1) (tCons (tVar 2) tNil)))) (tSeq tNever (tSeq tNever (tSeq tNever (tSeq tNever (tSeq tNever (tSeq tNever (tSeq tNever (tSeq tNever (tSeq tNever tNever))))))))))
theorem w_Sweep_D {K : PySem.W.Frag} (vs : List V) (H : Hp) (Q : VK) (E : XK) (h : sp_Sweep_D K vs H Q E) : t_Sweep_D K E { nx := fun _ H' => Q .non H', rt := Q } (start N_Sweep_D vs) H := by
  obtain ⟨F0, cs, a0, dx0, ws, ⟨aisle_1, orders_2⟩, e0, rfl, h, hS0, m, qx⟩ := h
  obtain ⟨v3, _, rfl, h5, h⟩ := Dts.hd h
  obtain ⟨v4, _, rfl, h6, h⟩ := Dts.hd h
  obtain rfl := Dts.no h
  unfold f_Sweep_D at m
  try dsimp only at m
  unfold t_Sweep_D
  refine go (σ' := [some (.ref a0), some v3, some v4]) rfl ?_
  obtain ⟨x7, k8, m⟩ := bnd m
  refine s_dropX (B := eN) hS0 (x_call (A := A_look_at_orders_D) (x := (aisle_1, orders_2)) (a_cons (d_var rfl h5) (a_cons (d_var rfl h6) a_nil)) k8) (fun y17 hy19 F9 H10 g11 hS12 => ?_) (fun c18 hc20 dd21 F13 H14 g15 hS16 xd22 => ?_)
  · subst hy19
    try dsimp only at m
    cases m
  · subst hc20
    try dsimp only at m
    have hS23 := Sta.perm hS16 (List.Perm.trans (List.perm_middle (l₁ := [(a0, HO.ins (He.ga K "Sweep") dx0 [])])) (List.perm_middle (l₁ := [(dx0, HO.own a0)])))
    have hS24 := sb_drop _ _ hS23
    have hS25 := sb_drop _ _ hS24
    obtain rfl := exinj m
    exact qx _ _ _ g15 hS25 xd22
theorem sc_Sweep_D : FnScope N_Sweep_D ["self", "aisle", "orders"] (defScope s_Sweep_D) := ⟨rfl, rfl, rfl, by decide +kernel, rfl, by decide +kernel, by decide +kernel⟩
theorem ok_Sweep_D {P : Program} {w : World} {K : PySem.W.Frag} {mg : Str → Option Value} {base : Heap} (hF : DfM K "Sweep" "__init__" "Sweep.__init__" s_Sweep_D) (gm : mg "Sweep" = some (.ref (He.ga K "Sweep"))) (mk : Mk K (He.ga K "Sweep") (He.ma K (He.ga K "Sweep") "__init__")) (o_look_at_orders_D : OkX P w K mg base 4 "look_at_orders" ["aisle", "thing"] (sp_look_at_orders_D K)) : OkM P w K mg base 5 "Sweep" ["self", "aisle", "orders"] (sp_Sweep_D K) := by
  obtain ⟨⟨_, G_look_at_orders_D, bd_look_at_orders_D, _⟩, kp_look_at_orders_D, gm_look_at_orders_D⟩ := o_look_at_orders_D
  obtain ⟨fd, F⟩ := hF
  refine ⟨⟨fd, F.ok sc_Sweep_D (fun vs H Q E h => ?_) (fun cdv A outer s H vs Q E hr h => ⟨t_Sweep_D K E, ?_, w_Sweep_D vs H Q E h⟩), F.bindsN fun _ _ _ _ _ _ us hl => match us, hl with | [_, _, _], _ => rfl⟩, gm, mk⟩
  · obtain ⟨F0, cs, a, dx, ws, x, e, rfl, h, _⟩ := h; exact congrArg Nat.succ (Dts.len h)
  · refine pss_tk (W := WX0 E) (takes_of (E := E) rfl rfl rfl rfl) fun tkE => ?_
    exact (pss_cons (ps_expr (pe_callS (E := WE (WX0 E)) G_look_at_orders_D (hr.mono (by decide)) (by rfl) gm_look_at_orders_D kp_look_at_orders_D bd_look_at_orders_D (fun σ => passAt tkE σ) (pa_cons (pv 1) (pa_cons (pv 2) pa_nil)))) (pss_cons ps_never (pss_cons ps_never (pss_cons ps_never (pss_cons ps_never (pss_cons ps_never (pss_cons ps_never (pss_cons ps_never (pss_cons ps_never (pss_cons ps_never (pss_one ps_never)))))))))))
abbrev s_Sweep_D_2 : Stmt := ((clsB (top 35)).getD 0 (.Pass ⟨0, 0, 0, 0⟩))
def f_Sweep_D_2 : (PyData × PyData) → Option (Rs Unit) := fun (aisle_1, orders_2) => (((f_look_at_orders_D_2 (aisle_1, orders_2))).bind fun x7 => (match x7 with | .ok y17 => none | .ex c18 => some (Rs.ex c18)))
abbrev A_Sweep_D_2 : (PyData × PyData) → List PyData := fun x => [eD x.1, eD x.2]
abbrev N_Sweep_D_2 : List Str := ["self", "aisle", "orders"]
abbrev sp_Sweep_D_2 (K : PySem.W.Frag) : Sp := spMX K (He.ga K "Sweep") A_Sweep_D_2 f_Sweep_D_2
def t_Sweep_D_2 (K : PySem.W.Frag) (E : XK) : TS := (tSeq (tDrop (tCallS (sp_look_at_orders_D_2 K) (WE (WX0 E)) (tCons (tVar 1) (tCons (tVar 2) tNil)))) (tSeq tNever (tSeq tNever (tSeq tNever (tSeq tNever (tSeq tNever (tSeq tNever (tSeq tNever (tSeq tNever (tSeq tNever tNever))))))))))
theorem w_Sweep_D_2 {K : PySem.W.Frag} (vs : List V) (H : Hp) (Q : VK) (E : XK) (h : sp_Sweep_D_2 K vs H Q E) : t_Sweep_D_2 K E { nx := fun _ H' => Q .non H', rt := Q } (start N_Sweep_D_2 vs) H := by
  obtain ⟨F0, cs, a0, dx0, ws, ⟨aisle_1, orders_2⟩, e0, rfl, h, hS0, m, qx⟩ := h
  obtain ⟨v3, _, rfl, h5, h⟩ := Dts.hd h
  obtain ⟨v4, _, rfl, h6, h⟩ := Dts.hd h
  obtain rfl := Dts.no h
  unfold f_Sweep_D_2 at m
  try dsimp only at m
  unfold t_Sweep_D_2
  refine go (σ' := [some (.ref a0), some v3, some v4]) rfl ?_
  obtain ⟨x7, k8, m⟩ := bnd m
  refine s_dropX (B := eN) hS0 (x_call (A := A_look_at_orders_D_2) (x := (aisle_1, orders_2)) (a_cons (d_var rfl h5) (a_cons (d_var rfl h6) a_nil)) k8) (fun y17 hy19 F9 H10 g11 hS12 => ?_) (fun c18 hc20 dd21 F13 H14 g15 hS16 xd22 => ?_)
  · subst hy19
    try dsimp only at m
    cases m
  · subst hc20
    try dsimp only at m
    have hS23 := Sta.perm hS16 (List.Perm.trans (List.perm_middle (l₁ := [(a0, HO.ins (He.ga K "Sweep") dx0 [])])) (List.perm_middle (l₁ := [(dx0, HO.own a0)])))
    have hS24 := sb_drop _ _ hS23
    have hS25 := sb_drop _ _ hS24
    obtain rfl := exinj m
    exact qx _ _ _ g15 hS25 xd22
theorem sc_Sweep_D_2 : FnScope N_Sweep_D_2 ["self", "aisle", "orders"] (defScope s_Sweep_D_2) := ⟨rfl, rfl, rfl, by decide +kernel, rfl, by decide +kernel, by decide +kernel⟩
theorem ok_Sweep_D_2 {P : Program} {w : World} {K : PySem.W.Frag} {mg : Str → Option Value} {base : Heap} (hF : DfM K "Sweep" "__init__" "Sweep.__init__" s_Sweep_D_2) (gm : mg "Sweep" = some (.ref (He.ga K "Sweep"))) (mk : Mk K (He.ga K "Sweep") (He.ma K (He.ga K "Sweep") "__init__")) (o_look_at_orders_D_2 : OkX P w K mg base 4 "look_at_orders" ["aisle", "thing"] (sp_look_at_orders_D_2 K)) : OkM P w K mg base 5 "Sweep" ["self", "aisle", "orders"] (sp_Sweep_D_2 K) := by
  obtain ⟨⟨_, G_look_at_orders_D_2, bd_look_at_orders_D_2, _⟩, kp_look_at_orders_D_2, gm_look_at_orders_D_2⟩ := o_look_at_orders_D_2
  obtain ⟨fd, F⟩ := hF
  refine ⟨⟨fd, F.ok sc_Sweep_D_2 (fun vs H Q E h => ?_) (fun cdv A outer s H vs Q E hr h => ⟨t_Sweep_D_2 K E, ?_, w_Sweep_D_2 vs H Q E h⟩), F.bindsN fun _ _ _ _ _ _ us hl => match us, hl with | [_, _, _], _ => rfl⟩, gm, mk⟩
  · obtain ⟨F0, cs, a, dx, ws, x, e, rfl, h, _⟩ := h; exact congrArg Nat.succ (Dts.len h)
  · refine pss_tk (W := WX0 E) (takes_of (E := E) rfl rfl rfl rfl) fun tkE => ?_
    exact (pss_cons (ps_expr (pe_callS (E := WE (WX0 E)) G_look_at_orders_D_2 (hr.mono (by decide)) (by rfl) gm_look_at_orders_D_2 kp_look_at_orders_D_2 bd_look_at_orders_D_2 (fun σ => passAt tkE σ) (pa_cons (pv 1) (pa_cons (pv 2) pa_nil)))) (pss_cons ps_never (pss_cons ps_never (pss_cons ps_never (pss_cons ps_never (pss_cons ps_never (pss_cons ps_never (pss_cons ps_never (pss_cons ps_never (pss_cons ps_never (pss_one ps_never)))))))))))
abbrev s_Sweep_D_3 : Stmt := ((clsB (top 35)).getD 0 (.Pass ⟨0, 0, 0, 0⟩))
def f_Sweep_D_3 : (PyData × (List (Str × Int × Int × Int))) → Option (Rs Unit) := fun (aisle_1, orders_2) => (((f_look_at_orders_D_3 (aisle_1, orders_2))).bind fun x7 => (match x7 with | .ok y17 => none | .ex c18 => some (Rs.ex c18)))
abbrev A_Sweep_D_3 : (PyData × (List (Str × Int × Int × Int))) → List PyData := fun x => [eD x.1, (eL (eT4 eS eI eI eI)) x.2]
abbrev N_Sweep_D_3 : List Str := ["self", "aisle", "orders"]
abbrev sp_Sweep_D_3 (K : PySem.W.Frag) : Sp := spMX K (He.ga K "Sweep") A_Sweep_D_3 f_Sweep_D_3
def t_Sweep_D_3 (K : PySem.W.Frag) (E : XK) : TS := (tSeq (tDrop (tCallS (sp_look_at_orders_D_3 K) (WE (WX0 E)) (tCons (tVar 1) (tCons (tVar 2) tNil)))) (tSeq tNever (tSeq tNever (tSeq tNever (tSeq tNever (tSeq tNever (tSeq tNever (tSeq tNever (tSeq tNever (tSeq tNever tNever))))))))))
theorem w_Sweep_D_3 {K : PySem.W.Frag} (vs : List V) (H : Hp) (Q : VK) (E : XK) (h : sp_Sweep_D_3 K vs H Q E) : t_Sweep_D_3 K E { nx := fun _ H' => Q .non H', rt := Q } (start N_Sweep_D_3 vs) H := by
  obtain ⟨F0, cs, a0, dx0, ws, ⟨aisle_1, orders_2⟩, e0, rfl, h, hS0, m, qx⟩ := h
  obtain ⟨v3, _, rfl, h5, h⟩ := Dts.hd h
  obtain ⟨v4, _, rfl, h6, h⟩ := Dts.hd h
  obtain rfl := Dts.no h
  unfold f_Sweep_D_3 at m
  try dsimp only at m
  unfold t_Sweep_D_3
  refine go (σ' := [some (.ref a0), some v3, some v4]) rfl ?_
  obtain ⟨x7, k8, m⟩ := bnd m
  refine s_dropX (B := eN) hS0 (x_call (A := A_look_at_orders_D_3) (x := (aisle_1, orders_2)) (a_cons (d_var rfl h5) (a_cons (d_var rfl h6) a_nil)) k8) (fun y17 hy19 F9 H10 g11 hS12 => ?_) (fun c18 hc20 dd21 F13 H14 g15 hS16 xd22 => ?_)
  · subst hy19
    try dsimp only at m
    cases m
  · subst hc20
    try dsimp only at m
    have hS23 := Sta.perm hS16 (List.Perm.trans (List.perm_middle (l₁ := [(a0, HO.ins (He.ga K "Sweep") dx0 [])])) (List.perm_middle (l₁ := [(dx0, HO.own a0)])))
    have hS24 := sb_drop _ _ hS23
    have hS25 := sb_drop _ _ hS24
    obtain rfl := exinj m
    exact qx _ _ _ g15 hS25 xd22
theorem sc_Sweep_D_3 : FnScope N_Sweep_D_3 ["self", "aisle", "orders"] (defScope s_Sweep_D_3) := ⟨rfl, rfl, rfl, by decide +kernel, rfl, by decide +kernel, by decide +kernel⟩
theorem ok_Sweep_D_3 {P : Program} {w : World} {K : PySem.W.Frag} {mg : Str → Option Value} {base : Heap} (hF : DfM K "Sweep" "__init__" "Sweep.__init__" s_Sweep_D_3) (gm : mg "Sweep" = some (.ref (He.ga K "Sweep"))) (mk : Mk K (He.ga K "Sweep") (He.ma K (He.ga K "Sweep") "__init__")) (o_look_at_orders_D_3 : OkX P w K mg base 4 "look_at_orders" ["aisle", "thing"] (sp_look_at_orders_D_3 K)) : OkM P w K mg base 5 "Sweep" ["self", "aisle", "orders"] (sp_Sweep_D_3 K) := by
  obtain ⟨⟨_, G_look_at_orders_D_3, bd_look_at_orders_D_3, _⟩, kp_look_at_orders_D_3, gm_look_at_orders_D_3⟩ := o_look_at_orders_D_3
  obtain ⟨fd, F⟩ := hF
  refine ⟨⟨fd, F.ok sc_Sweep_D_3 (fun vs H Q E h => ?_) (fun cdv A outer s H vs Q E hr h => ⟨t_Sweep_D_3 K E, ?_, w_Sweep_D_3 vs H Q E h⟩), F.bindsN fun _ _ _ _ _ _ us hl => match us, hl with | [_, _, _], _ => rfl⟩, gm, mk⟩
  · obtain ⟨F0, cs, a, dx, ws, x, e, rfl, h, _⟩ := h; exact congrArg Nat.succ (Dts.len h)
  · refine pss_tk (W := WX0 E) (takes_of (E := E) rfl rfl rfl rfl) fun tkE => ?_
    exact (pss_cons (ps_expr (pe_callS (E := WE (WX0 E)) G_look_at_orders_D_3 (hr.mono (by decide)) (by rfl) gm_look_at_orders_D_3 kp_look_at_orders_D_3 bd_look_at_orders_D_3 (fun σ => passAt tkE σ) (pa_cons (pv 1) (pa_cons (pv 2) pa_nil)))) (pss_cons ps_never (pss_cons ps_never (pss_cons ps_never (pss_cons ps_never (pss_cons ps_never (pss_cons ps_never (pss_cons ps_never (pss_cons ps_never (pss_cons ps_never (pss_one ps_never)))))))))))
abbrev s_told_D : Stmt := (top 44)
def f_told_D : (Int × ((List Int) × Int) × PyData) → Option Str := fun (way_1, aisle_here_2, orders_here_3) => ((if (decide (way_1 = (0 : Int))) = true then (((f_look_at_orders_D (aisle_here_2, orders_here_3))).bind fun x76 => (match x76 with | .ok y86 => (if (decide (way_1 = (1 : Int))) = true then (((f_Sweep_D (aisle_here_2, orders_here_3))).bind fun x96 => (match x96 with | .ok y102 => none | .ex c103 => (if (c103).1 ∈ xcl then some (some c103) else none))) else some (none : Option Xe)) | .ex c87 => (if (c87).1 ∈ xcl then some (some c87) else none))) else (if (decide (way_1 = (1 : Int))) = true then (((f_Sweep_D (aisle_here_2, orders_here_3))).bind fun x134 => (match x134 with | .ok y140 => none | .ex c141 => (if (c141).1 ∈ xcl then some (some c141) else none))) else some (none : Option Xe)))).bind fun error_8 => (if ((!(error_8).isSome) || (anyX error_8 ["NoStore", "NoPlan", "NoPaper", "NoFork", "NoWants"])) = true then some ("other" : Str) else (if (anyX error_8 ["NoText", "NoBay", "NoBox", "NoRoom", "NoRow", "Unknown", "TooMany"]) = true then some ("other" : Str) else (if (isX error_8 "NoAisle") = true then (((atI ([("aisle" : Str), ("other" : Str)] : (List Str)) (b2I (isX error_8 "NoOrders")))).bind fun x52 => some x52) else (((atI ([("other" : Str), ("orders" : Str)] : (List Str)) (b2I (isX error_8 "NoOrders")))).bind fun x64 => some x64))))
abbrev A_told_D : (Int × ((List Int) × Int) × PyData) → List PyData := fun x => [eI x.1, (eT2 (eL eI) eI) x.2.1, eD x.2.2]
abbrev N_told_D : List Str := ["_law_way", "_law_aisle_here", "_law_orders_here", "_law_error", "e"]
abbrev sp_told_D (K : PySem.W.Frag) : Sp := spP K A_told_D eS f_told_D
def t_told_D (K : PySem.W.Frag) : TS := (tSeq (tAsg (tC .non) (gName 3)) (tSeq (tTryK K 4 3 WF0 (fun W => (tSeq (tIfS (tTest (tOp rEq (tVar 0) (tC (.int 0)))) (tDrop (tCallS (sp_look_at_orders_D K) (WE W) (tCons (tVar 1) (tCons (tVar 2) tNil)))) tNext) (tIfS (tTest (tOp rEq (tVar 0) (tC (.int 1)))) (tDrop (tMakeS (He.ga K "Sweep") (sp_Sweep_D K) (WE W) (tCons (tVar 1) (tCons (tVar 2) tNil)))) tNext)))) (tSeq (tIfS (tOr (tNot (tB (tCB (rIsiX K) (tCons (tVar 3) (tCons (tC (.ty "ValueError")) tNil))))) (tB (tCB (rIsiXT K) (tCons (tVar 3) (tCons (tTup (tCons (tC (.ref (He.ga K "NoStore"))) (tCons (tC (.ref (He.ga K "NoPlan"))) (tCons (tC (.ref (He.ga K "NoPaper"))) (tCons (tC (.ref (He.ga K "NoFork"))) (tCons (tC (.ref (He.ga K "NoWants"))) tNil)))))) tNil))))) (tRet (tC (.str "other"))) tNext) (tSeq (tIfS (tB (tCB (rIsiXT K) (tCons (tVar 3) (tCons (tTup (tCons (tC (.ref (He.ga K "NoText"))) (tCons (tC (.ref (He.ga K "NoBay"))) (tCons (tC (.ref (He.ga K "NoBox"))) (tCons (tC (.ref (He.ga K "NoRoom"))) (tCons (tC (.ref (He.ga K "NoRow"))) (tCons (tC (.ref (He.ga K "Unknown"))) (tCons (tC (.ref (He.ga K "TooMany"))) tNil)))))))) tNil)))) (tRet (tC (.str "other"))) tNext) (tSeq (tIfS (tB (tCB (rIsiX K) (tCons (tVar 3) (tCons (tC (.ref (He.ga K "NoAisle"))) tNil)))) (tRet (tOp (rIxL K) (tLst (tCons (tC (.str "aisle")) (tCons (tC (.str "other")) tNil))) (tCB rInt (tCons (tCB (rIsiX K) (tCons (tVar 3) (tCons (tC (.ref (He.ga K "NoOrders"))) tNil))) tNil)))) tNext) (tRet (tOp (rIxL K) (tLst (tCons (tC (.str "other")) (tCons (tC (.str "orders")) tNil))) (tCB rInt (tCons (tCB (rIsiX K) (tCons (tVar 3) (tCons (tC (.ref (He.ga K "NoOrders"))) tNil))) tNil)))))))))
theorem w_told_D {K : PySem.W.Frag} (XC : XFc K xcl xts) (vs : List V) (H : Hp) (Q : VK) (E : XK) (h : sp_told_D K vs H Q E) : t_told_D K { nx := fun _ H' => Q .non H', rt := Q } (start N_told_D vs) H := by
  obtain ⟨F0, cs, ⟨way_1, aisle_here_2, orders_here_3⟩, y, h, hS0, m, q⟩ := h
  obtain ⟨a0, _, rfl, ha0, h⟩ := Dts.hd h
  obtain ⟨a1, _, rfl, ha1, h⟩ := Dts.hd h
  obtain ⟨a2, _, rfl, ha2, h⟩ := Dts.hd h
  obtain rfl := Dts.no h
  obtain rfl := Dt.toInt ha0
  unfold f_told_D at m
  try dsimp only at m
  unfold t_told_D
  refine go (σ' := [some (.int way_1), some a1, some a2, none, none]) rfl ?_
  refine s_setV (K := K) (d := PyData.none) (i := 3) (σ' := [some (.int way_1), some a1, some a2, some .non, none]) (fun _ _ h => Dt.toNon h) hS0 d_non rfl (fun F4 H5 g6 hS7 => ?_)
  obtain ⟨error_8, k10, m⟩ := bnd m
  refine s_tryJ (fun σ H => ∃ (F : Hp) (c : Cs), Gr F4 F ∧ Sta F c H ∧ ∃ (j3 : V) (j4 : Option V), σ = [some (.int way_1), some a1, some a2, some j3, j4] ∧ cs = c ∧ Xv K xcl F j3 error_8) ?_ (fun jn9 => ?_)
  · rintro σ16 H12 ⟨F11, c15, g13, hS14, v17, u18, rfl, rfl, h19⟩
    refine s_if (b := ((!(error_8).isSome) || (anyX error_8 ["NoStore", "NoPlan", "NoPaper", "NoFork", "NoWants"]))) hS14 (t_orP (t_not (t_B (K := K) (d_isiXV XC (i := 3) rfl h19))) (fun hc => (t_B (K := K) (d_isiXT (ds := ["NoStore", "NoPlan", "NoPaper", "NoFork", "NoWants"]) XC (i := 3) rfl h19 (by decide) (by decide) (fun _ _ q => q))))) (fun hc F20 H21 g22 hS23 => ?_) (fun hc F30 H31 g32 hS33 => ?_)
    · rw [if_pos hc] at m
      refine s_ret (K := K) (d := eS ("other" : Str)) hS23 d_str (fun v28 F24 H25 g26 hS27 hv29 => ?_)
      obtain rfl := sm m
      exact q _ _ _ (Gr.tr g6 (Gr.tr g13 (Gr.tr g22 g26))) hS27 hv29
    · rw [if_neg (bf hc)] at m
      refine nxt ?_
      refine s_if (b := (anyX error_8 ["NoText", "NoBay", "NoBox", "NoRoom", "NoRow", "Unknown", "TooMany"])) hS33 (t_B (K := K) (d_isiXT (ds := ["NoText", "NoBay", "NoBox", "NoRoom", "NoRow", "Unknown", "TooMany"]) XC (i := 3) rfl (Xv.gr g32 h19) (by decide) (by decide) (fun _ _ q => q))) (fun hc F34 H35 g36 hS37 => ?_) (fun hc F44 H45 g46 hS47 => ?_)
      · rw [if_pos hc] at m
        refine s_ret (K := K) (d := eS ("other" : Str)) hS37 d_str (fun v42 F38 H39 g40 hS41 hv43 => ?_)
        obtain rfl := sm m
        exact q _ _ _ (Gr.tr g6 (Gr.tr g13 (Gr.tr g32 (Gr.tr g36 g40)))) hS41 hv43
      · rw [if_neg (bf hc)] at m
        refine nxt ?_
        refine s_if (b := (isX error_8 "NoAisle")) hS47 (t_B (K := K) (d_isiX XC (i := 3) (d := "NoAisle") rfl (Xv.gr (Gr.tr g32 g46) h19) (by decide))) (fun hc F48 H49 g50 hS51 => ?_) (fun hc F60 H61 g62 hS63 => ?_)
        · rw [if_pos hc] at m
          obtain ⟨x52, k53, m⟩ := bnd m
          refine s_ret (K := K) (d := eS x52) hS51 (d_ix (e := eS) (d_lst (a_cons d_str (a_cons d_str a_nil)) (Nat.le_of_ble_eq_true rfl)) (d_intB (a_cons (d_isiX XC (i := 3) (d := "NoOrders") rfl (Xv.gr (Gr.tr g32 (Gr.tr g46 g50)) h19) (by decide)) a_nil)) k53) (fun v58 F54 H55 g56 hS57 hv59 => ?_)
          obtain rfl := sm m
          exact q _ _ _ (Gr.tr g6 (Gr.tr g13 (Gr.tr g32 (Gr.tr g46 (Gr.tr g50 g56))))) hS57 hv59
        · rw [if_neg (bf hc)] at m
          refine nxt ?_
          obtain ⟨x64, k65, m⟩ := bnd m
          refine s_ret (K := K) (d := eS x64) hS63 (d_ix (e := eS) (d_lst (a_cons d_str (a_cons d_str a_nil)) (Nat.le_of_ble_eq_true rfl)) (d_intB (a_cons (d_isiX XC (i := 3) (d := "NoOrders") rfl (Xv.gr (Gr.tr g32 (Gr.tr g46 g62)) h19) (by decide)) a_nil)) k65) (fun v70 F66 H67 g68 hS69 hv71 => ?_)
          obtain rfl := sm m
          exact q _ _ _ (Gr.tr g6 (Gr.tr g13 (Gr.tr g32 (Gr.tr g46 (Gr.tr g62 g68))))) hS69 hv71
  · refine s_if (b := (decide (way_1 = (0 : Int)))) hS7 (t_test (K := K) (d_eqI (d_var rfl (.int _)) d_int)) (fun hc F72 H73 g74 hS75 => ?_) (fun hc F126 H127 g128 hS129 => ?_)
    · rw [if_pos hc] at k10
      obtain ⟨x76, k77, k10⟩ := bnd k10
      refine s_dropX (B := eN) hS75 (x_call (A := A_look_at_orders_D) (x := (aisle_here_2, orders_here_3)) (a_cons (d_var rfl (Dt.gr (Gr.tr g6 g74) ha1)) (a_cons (d_var rfl (Dt.gr (Gr.tr g6 g74) ha2)) a_nil)) k77) (fun y86 hy88 F78 H79 g80 hS81 => ?_) (fun c87 hc89 dd90 F82 H83 g84 hS85 xd91 => ?_)
      · subst hy88
        try dsimp only at k10
        refine s_if (b := (decide (way_1 = (1 : Int)))) hS81 (t_test (K := K) (d_eqI (d_var rfl (.int _)) d_int)) (fun hc F92 H93 g94 hS95 => ?_) (fun hc F115 H116 g117 hS118 => ?_)
        · rw [if_pos hc] at k10
          obtain ⟨x96, k97, k10⟩ := bnd k10
          cases x96 with
          | ok y102 => (try dsimp only at k10); cases k10
          | ex c103 =>
            refine s_dropX (r := .ex c103) (B := eN) hS95 (x_makeX (A := A_Sweep_D) (x := (aisle_here_2, orders_here_3)) (a_cons (d_var rfl (Dt.gr (Gr.tr g6 (Gr.tr g74 (Gr.tr g80 g94))) ha1)) (a_cons (d_var rfl (Dt.gr (Gr.tr g6 (Gr.tr g74 (Gr.tr g80 g94))) ha2)) a_nil)) k97) (fun _ hy => nomatch hy) (fun c106 hc107 dd104 F98 H99 g100 hS101 xd105 => ?_)
            cases hc107
            try dsimp only at k10
            by_cases hcl114 : (c103).1 ∈ xcl
            case neg => rw [if_neg hcl114] at k10; cases k10
            rw [if_pos hcl114] at k10
            refine s_catch (σ' := fun a108 => [some (.int way_1), some a1, some a2, some (.ref a108), none]) XC hcl114 hS101 xd105 (fun _ => rfl) (fun _ => rfl) (fun a108 F109 H110 g111 hS112 ha113 => ?_)
            obtain rfl := sm k10
            exact jn9 _ _ ⟨_, _, (Gr.tr g74 (Gr.tr g80 (Gr.tr g94 (Gr.tr g100 g111)))), hS112, _, _, rfl, rfl, ha113⟩
        · rw [if_neg (bf hc)] at k10
          refine nxt ?_
          obtain rfl := sm k10
          exact jn9 _ _ ⟨_, _, (Gr.tr g74 (Gr.tr g80 g117)), hS118, _, _, rfl, rfl, (Xv.gr (Gr.tr g74 (Gr.tr g80 g117)) (show Xv K xcl _ V.non none from rfl))⟩
      · subst hc89
        try dsimp only at k10
        by_cases hcl125 : (c87).1 ∈ xcl
        case neg => rw [if_neg hcl125] at k10; cases k10
        rw [if_pos hcl125] at k10
        refine s_catch (σ' := fun a119 => [some (.int way_1), some a1, some a2, some (.ref a119), none]) XC hcl125 hS85 xd91 (fun _ => rfl) (fun _ => rfl) (fun a119 F120 H121 g122 hS123 ha124 => ?_)
        obtain rfl := sm k10
        exact jn9 _ _ ⟨_, _, (Gr.tr g74 (Gr.tr g84 g122)), hS123, _, _, rfl, rfl, ha124⟩
    · rw [if_neg (bf hc)] at k10
      refine nxt ?_
      refine s_if (b := (decide (way_1 = (1 : Int)))) hS129 (t_test (K := K) (d_eqI (d_var rfl (.int _)) d_int)) (fun hc F130 H131 g132 hS133 => ?_) (fun hc F153 H154 g155 hS156 => ?_)
      · rw [if_pos hc] at k10
        obtain ⟨x134, k135, k10⟩ := bnd k10
        cases x134 with
        | ok y140 => (try dsimp only at k10); cases k10
        | ex c141 =>
          refine s_dropX (r := .ex c141) (B := eN) hS133 (x_makeX (A := A_Sweep_D) (x := (aisle_here_2, orders_here_3)) (a_cons (d_var rfl (Dt.gr (Gr.tr g6 (Gr.tr g128 g132)) ha1)) (a_cons (d_var rfl (Dt.gr (Gr.tr g6 (Gr.tr g128 g132)) ha2)) a_nil)) k135) (fun _ hy => nomatch hy) (fun c144 hc145 dd142 F136 H137 g138 hS139 xd143 => ?_)
          cases hc145
          try dsimp only at k10
          by_cases hcl152 : (c141).1 ∈ xcl
          case neg => rw [if_neg hcl152] at k10; cases k10
          rw [if_pos hcl152] at k10
          refine s_catch (σ' := fun a146 => [some (.int way_1), some a1, some a2, some (.ref a146), none]) XC hcl152 hS139 xd143 (fun _ => rfl) (fun _ => rfl) (fun a146 F147 H148 g149 hS150 ha151 => ?_)
          obtain rfl := sm k10
          exact jn9 _ _ ⟨_, _, (Gr.tr g128 (Gr.tr g132 (Gr.tr g138 g149))), hS150, _, _, rfl, rfl, ha151⟩
      · rw [if_neg (bf hc)] at k10
        refine nxt ?_
        obtain rfl := sm k10
        exact jn9 _ _ ⟨_, _, (Gr.tr g128 g155), hS156, _, _, rfl, rfl, (Xv.gr (Gr.tr g128 g155) (show Xv K xcl _ V.non none from rfl))⟩
theorem sc_told_D : FnScope N_told_D ["_law_way", "_law_aisle_here", "_law_orders_here"] (defScope s_told_D) := ⟨rfl, rfl, rfl, by decide +kernel, rfl, by decide +kernel, by decide +kernel⟩
theorem ok_told_D {P : Program} {w : World} {K : PySem.W.Frag} {mg : Str → Option Value} {base : Heap} (hF : Df K mg "_law_told" s_told_D) (m_ValueError : mg "ValueError" = none) (m_int : mg "int" = none) (m_isinstance : mg "isinstance" = none) (o_Sweep_D : OkM P w K mg base 5 "Sweep" ["self", "aisle", "orders"] (sp_Sweep_D K)) (o_look_at_orders_D : OkX P w K mg base 4 "look_at_orders" ["aisle", "thing"] (sp_look_at_orders_D K)) (XC : XFc K xcl xts) (g_CartError : mg "CartError" = some (.ref (He.ga K "CartError"))) (g_NoAisle : mg "NoAisle" = some (.ref (He.ga K "NoAisle"))) (g_NoBay : mg "NoBay" = some (.ref (He.ga K "NoBay"))) (g_NoBox : mg "NoBox" = some (.ref (He.ga K "NoBox"))) (g_NoFork : mg "NoFork" = some (.ref (He.ga K "NoFork"))) (g_NoOrders : mg "NoOrders" = some (.ref (He.ga K "NoOrders"))) (g_NoPaper : mg "NoPaper" = some (.ref (He.ga K "NoPaper"))) (g_NoPlan : mg "NoPlan" = some (.ref (He.ga K "NoPlan"))) (g_NoRoom : mg "NoRoom" = some (.ref (He.ga K "NoRoom"))) (g_NoRow : mg "NoRow" = some (.ref (He.ga K "NoRow"))) (g_NoStore : mg "NoStore" = some (.ref (He.ga K "NoStore"))) (g_NoText : mg "NoText" = some (.ref (He.ga K "NoText"))) (g_NoWants : mg "NoWants" = some (.ref (He.ga K "NoWants"))) (g_TooMany : mg "TooMany" = some (.ref (He.ga K "TooMany"))) (g_Unknown : mg "Unknown" = some (.ref (He.ga K "Unknown"))) : Ok P w K mg base 7 "_law_told" ["_law_way", "_law_aisle_here", "_law_orders_here"] (sp_told_D K) := by
  obtain ⟨⟨_, G_Sweep_D, bd_Sweep_D⟩, gm_Sweep_D, mk_Sweep_D⟩ := o_Sweep_D
  obtain ⟨⟨_, G_look_at_orders_D, bd_look_at_orders_D, _⟩, kp_look_at_orders_D, gm_look_at_orders_D⟩ := o_look_at_orders_D
  obtain ⟨⟨fd, F⟩, gm⟩ := hF
  refine ⟨⟨fd, F.ok sc_told_D (fun vs H Q E h => ?_) (fun cdv A outer s H vs Q E hr h => ⟨t_told_D K, PSs.nox ?_, w_told_D XC vs H Q E h⟩), F.bindsN fun _ _ _ _ _ _ us hl => match us, hl with | [_, _, _], _ => rfl, lk_of F⟩, F.kp, gm⟩
  · obtain ⟨F0, cs, x, y, h, _⟩ := h; exact Dts.len h
  · exact (pss_cons (ps_set (i := 3) sc_told_D.nd rfl (Or.inl rfl) pe_non) (pss_cons (ps_try_keep (i := 4) rfl rfl rfl sc_told_D.nd rfl rfl ⟨by rfl, by decide, .inl g_CartError⟩ takesF (fun W pn xe tkE po => (pss_cons (ps_if (pt_cmpR op_eq (pv 0) pe_int (nomark _)) (pss_one (ps_expr (pe_callS (E := WE W) G_look_at_orders_D (hr.mono (by decide)) (by rfl) gm_look_at_orders_D kp_look_at_orders_D bd_look_at_orders_D (fun σ => passAt tkE σ) (pa_cons (pv 1) (pa_cons (pv 2) pa_nil))))) pss_nil) (pss_one (ps_if (pt_cmpR op_eq (pv 0) pe_int (nomark _)) (pss_one (ps_expr (pe_makeS mk_Sweep_D G_Sweep_D (hr.mono (by decide)) (by rfl) gm_Sweep_D bd_Sweep_D (fun σ => passAt tkE σ) (pa_cons (pv 1) (pa_cons (pv 2) pa_nil))))) pss_nil)))) (fun a oe cls d pn _ _ => pss_one (ps_set (i := 3) sc_told_D.nd rfl (Or.inl rfl) (pv 4)))) (pss_cons (ps_if (PW.pt (pw_or (pt_not (pt_val (pe_callB cr_isiX (by rfl) m_isinstance (by decide +kernel) (pa_cons (pv 3) (pa_cons (pe_bltn (v := .ty "ValueError") (by rfl) m_ValueError (by decide +kernel) rfl) pa_nil))))) (pw_or1 (pt_val (pe_callB cr_isiXT (by rfl) m_isinstance (by decide +kernel) (pa_cons (pv 3) (pa_cons (pe_tup (pa_cons (pe_glob (by rfl) g_NoStore rfl) (pa_cons (pe_glob (by rfl) g_NoPlan rfl) (pa_cons (pe_glob (by rfl) g_NoPaper rfl) (pa_cons (pe_glob (by rfl) g_NoFork rfl) (pa_cons (pe_glob (by rfl) g_NoWants rfl) pa_nil)))))) pa_nil))))))) (pss_one (ps_ret pe_str)) pss_nil) (pss_cons (ps_if (pt_val (pe_callB cr_isiXT (by rfl) m_isinstance (by decide +kernel) (pa_cons (pv 3) (pa_cons (pe_tup (pa_cons (pe_glob (by rfl) g_NoText rfl) (pa_cons (pe_glob (by rfl) g_NoBay rfl) (pa_cons (pe_glob (by rfl) g_NoBox rfl) (pa_cons (pe_glob (by rfl) g_NoRoom rfl) (pa_cons (pe_glob (by rfl) g_NoRow rfl) (pa_cons (pe_glob (by rfl) g_Unknown rfl) (pa_cons (pe_glob (by rfl) g_TooMany rfl) pa_nil)))))))) pa_nil)))) (pss_one (ps_ret pe_str)) pss_nil) (pss_cons (ps_if (pt_val (pe_callB cr_isiX (by rfl) m_isinstance (by decide +kernel) (pa_cons (pv 3) (pa_cons (pe_glob (by rfl) g_NoAisle rfl) pa_nil)))) (pss_one (ps_ret (pe_ix ix_list (pe_lst (pa_cons pe_str (pa_cons pe_str pa_nil))) (pe_callTy cr_int (by rfl) m_int (by decide +kernel) (pa_cons (pe_callB cr_isiX (by rfl) m_isinstance (by decide +kernel) (pa_cons (pv 3) (pa_cons (pe_glob (by rfl) g_NoOrders rfl) pa_nil))) pa_nil)) (fun _ _ => rfl)))) pss_nil) (pss_one (ps_ret (pe_ix ix_list (pe_lst (pa_cons pe_str (pa_cons pe_str pa_nil))) (pe_callTy cr_int (by rfl) m_int (by decide +kernel) (pa_cons (pe_callB cr_isiX (by rfl) m_isinstance (by decide +kernel) (pa_cons (pv 3) (pa_cons (pe_glob (by rfl) g_NoOrders rfl) pa_nil))) pa_nil)) (fun _ _ => rfl)))))))))
abbrev s_told_D_2 : Stmt := (top 44)
def f_told_D_2 : (Int × PyData × PyData) → Option Str := fun (way_1, aisle_here_2, orders_here_3) => ((if (decide (way_1 = (0 : Int))) = true then (((f_look_at_orders_D_2 (aisle_here_2, orders_here_3))).bind fun x76 => (match x76 with | .ok y86 => (if (decide (way_1 = (1 : Int))) = true then (((f_Sweep_D_2 (aisle_here_2, orders_here_3))).bind fun x96 => (match x96 with | .ok y102 => none | .ex c103 => (if (c103).1 ∈ xcl then some (some c103) else none))) else some (none : Option Xe)) | .ex c87 => (if (c87).1 ∈ xcl then some (some c87) else none))) else (if (decide (way_1 = (1 : Int))) = true then (((f_Sweep_D_2 (aisle_here_2, orders_here_3))).bind fun x134 => (match x134 with | .ok y140 => none | .ex c141 => (if (c141).1 ∈ xcl then some (some c141) else none))) else some (none : Option Xe)))).bind fun error_8 => (if ((!(error_8).isSome) || (anyX error_8 ["NoStore", "NoPlan", "NoPaper", "NoFork", "NoWants"])) = true then some ("other" : Str) else (if (anyX error_8 ["NoText", "NoBay", "NoBox", "NoRoom", "NoRow", "Unknown", "TooMany"]) = true then some ("other" : Str) else (if (isX error_8 "NoAisle") = true then (((atI ([("aisle" : Str), ("other" : Str)] : (List Str)) (b2I (isX error_8 "NoOrders")))).bind fun x52 => some x52) else (((atI ([("other" : Str), ("orders" : Str)] : (List Str)) (b2I (isX error_8 "NoOrders")))).bind fun x64 => some x64))))
abbrev A_told_D_2 : (Int × PyData × PyData) → List PyData := fun x => [eI x.1, eD x.2.1, eD x.2.2]
abbrev N_told_D_2 : List Str := ["_law_way", "_law_aisle_here", "_law_orders_here", "_law_error", "e"]
abbrev sp_told_D_2 (K : PySem.W.Frag) : Sp := spP K A_told_D_2 eS f_told_D_2
def t_told_D_2 (K : PySem.W.Frag) : TS := (tSeq (tAsg (tC .non) (gName 3)) (tSeq (tTryK K 4 3 WF0 (fun W => (tSeq (tIfS (tTest (tOp rEq (tVar 0) (tC (.int 0)))) (tDrop (tCallS (sp_look_at_orders_D_2 K) (WE W) (tCons (tVar 1) (tCons (tVar 2) tNil)))) tNext) (tIfS (tTest (tOp rEq (tVar 0) (tC (.int 1)))) (tDrop (tMakeS (He.ga K "Sweep") (sp_Sweep_D_2 K) (WE W) (tCons (tVar 1) (tCons (tVar 2) tNil)))) tNext)))) (tSeq (tIfS (tOr (tNot (tB (tCB (rIsiX K) (tCons (tVar 3) (tCons (tC (.ty "ValueError")) tNil))))) (tB (tCB (rIsiXT K) (tCons (tVar 3) (tCons (tTup (tCons (tC (.ref (He.ga K "NoStore"))) (tCons (tC (.ref (He.ga K "NoPlan"))) (tCons (tC (.ref (He.ga K "NoPaper"))) (tCons (tC (.ref (He.ga K "NoFork"))) (tCons (tC (.ref (He.ga K "NoWants"))) tNil)))))) tNil))))) (tRet (tC (.str "other"))) tNext) (tSeq (tIfS (tB (tCB (rIsiXT K) (tCons (tVar 3) (tCons (tTup (tCons (tC (.ref (He.ga K "NoText"))) (tCons (tC (.ref (He.ga K "NoBay"))) (tCons (tC (.ref (He.ga K "NoBox"))) (tCons (tC (.ref (He.ga K "NoRoom"))) (tCons (tC (.ref (He.ga K "NoRow"))) (tCons (tC (.ref (He.ga K "Unknown"))) (tCons (tC (.ref (He.ga K "TooMany"))) tNil)))))))) tNil)))) (tRet (tC (.str "other"))) tNext) (tSeq (tIfS (tB (tCB (rIsiX K) (tCons (tVar 3) (tCons (tC (.ref (He.ga K "NoAisle"))) tNil)))) (tRet (tOp (rIxL K) (tLst (tCons (tC (.str "aisle")) (tCons (tC (.str "other")) tNil))) (tCB rInt (tCons (tCB (rIsiX K) (tCons (tVar 3) (tCons (tC (.ref (He.ga K "NoOrders"))) tNil))) tNil)))) tNext) (tRet (tOp (rIxL K) (tLst (tCons (tC (.str "other")) (tCons (tC (.str "orders")) tNil))) (tCB rInt (tCons (tCB (rIsiX K) (tCons (tVar 3) (tCons (tC (.ref (He.ga K "NoOrders"))) tNil))) tNil)))))))))
theorem w_told_D_2 {K : PySem.W.Frag} (XC : XFc K xcl xts) (vs : List V) (H : Hp) (Q : VK) (E : XK) (h : sp_told_D_2 K vs H Q E) : t_told_D_2 K { nx := fun _ H' => Q .non H', rt := Q } (start N_told_D_2 vs) H := by
  obtain ⟨F0, cs, ⟨way_1, aisle_here_2, orders_here_3⟩, y, h, hS0, m, q⟩ := h
  obtain ⟨a0, _, rfl, ha0, h⟩ := Dts.hd h
  obtain ⟨a1, _, rfl, ha1, h⟩ := Dts.hd h
  obtain ⟨a2, _, rfl, ha2, h⟩ := Dts.hd h
  obtain rfl := Dts.no h
  obtain rfl := Dt.toInt ha0
  unfold f_told_D_2 at m
  try dsimp only at m
  unfold t_told_D_2
  refine go (σ' := [some (.int way_1), some a1, some a2, none, none]) rfl ?_
  refine s_setV (K := K) (d := PyData.none) (i := 3) (σ' := [some (.int way_1), some a1, some a2, some .non, none]) (fun _ _ h => Dt.toNon h) hS0 d_non rfl (fun F4 H5 g6 hS7 => ?_)
  obtain ⟨error_8, k10, m⟩ := bnd m
  refine s_tryJ (fun σ H => ∃ (F : Hp) (c : Cs), Gr F4 F ∧ Sta F c H ∧ ∃ (j3 : V) (j4 : Option V), σ = [some (.int way_1), some a1, some a2, some j3, j4] ∧ cs = c ∧ Xv K xcl F j3 error_8) ?_ (fun jn9 => ?_)
  · rintro σ16 H12 ⟨F11, c15, g13, hS14, v17, u18, rfl, rfl, h19⟩
    refine s_if (b := ((!(error_8).isSome) || (anyX error_8 ["NoStore", "NoPlan", "NoPaper", "NoFork", "NoWants"]))) hS14 (t_orP (t_not (t_B (K := K) (d_isiXV XC (i := 3) rfl h19))) (fun hc => (t_B (K := K) (d_isiXT (ds := ["NoStore", "NoPlan", "NoPaper", "NoFork", "NoWants"]) XC (i := 3) rfl h19 (by decide) (by decide) (fun _ _ q => q))))) (fun hc F20 H21 g22 hS23 => ?_) (fun hc F30 H31 g32 hS33 => ?_)
    · rw [if_pos hc] at m
      refine s_ret (K := K) (d := eS ("other" : Str)) hS23 d_str (fun v28 F24 H25 g26 hS27 hv29 => ?_)
      obtain rfl := sm m
      exact q _ _ _ (Gr.tr g6 (Gr.tr g13 (Gr.tr g22 g26))) hS27 hv29
    · rw [if_neg (bf hc)] at m
      refine nxt ?_
      refine s_if (b := (anyX error_8 ["NoText", "NoBay", "NoBox", "NoRoom", "NoRow", "Unknown", "TooMany"])) hS33 (t_B (K := K) (d_isiXT (ds := ["NoText", "NoBay", "NoBox", "NoRoom", "NoRow", "Unknown", "TooMany"]) XC (i := 3) rfl (Xv.gr g32 h19) (by decide) (by decide) (fun _ _ q => q))) (fun hc F34 H35 g36 hS37 => ?_) (fun hc F44 H45 g46 hS47 => ?_)
      · rw [if_pos hc] at m
        refine s_ret (K := K) (d := eS ("other" : Str)) hS37 d_str (fun v42 F38 H39 g40 hS41 hv43 => ?_)
        obtain rfl := sm m
        exact q _ _ _ (Gr.tr g6 (Gr.tr g13 (Gr.tr g32 (Gr.tr g36 g40)))) hS41 hv43
      · rw [if_neg (bf hc)] at m
        refine nxt ?_
        refine s_if (b := (isX error_8 "NoAisle")) hS47 (t_B (K := K) (d_isiX XC (i := 3) (d := "NoAisle") rfl (Xv.gr (Gr.tr g32 g46) h19) (by decide))) (fun hc F48 H49 g50 hS51 => ?_) (fun hc F60 H61 g62 hS63 => ?_)
        · rw [if_pos hc] at m
          obtain ⟨x52, k53, m⟩ := bnd m
          refine s_ret (K := K) (d := eS x52) hS51 (d_ix (e := eS) (d_lst (a_cons d_str (a_cons d_str a_nil)) (Nat.le_of_ble_eq_true rfl)) (d_intB (a_cons (d_isiX XC (i := 3) (d := "NoOrders") rfl (Xv.gr (Gr.tr g32 (Gr.tr g46 g50)) h19) (by decide)) a_nil)) k53) (fun v58 F54 H55 g56 hS57 hv59 => ?_)
          obtain rfl := sm m
          exact q _ _ _ (Gr.tr g6 (Gr.tr g13 (Gr.tr g32 (Gr.tr g46 (Gr.tr g50 g56))))) hS57 hv59
        · rw [if_neg (bf hc)] at m
          refine nxt ?_
          obtain ⟨x64, k65, m⟩ := bnd m
          refine s_ret (K := K) (d := eS x64) hS63 (d_ix (e := eS) (d_lst (a_cons d_str (a_cons d_str a_nil)) (Nat.le_of_ble_eq_true rfl)) (d_intB (a_cons (d_isiX XC (i := 3) (d := "NoOrders") rfl (Xv.gr (Gr.tr g32 (Gr.tr g46 g62)) h19) (by decide)) a_nil)) k65) (fun v70 F66 H67 g68 hS69 hv71 => ?_)
          obtain rfl := sm m
          exact q _ _ _ (Gr.tr g6 (Gr.tr g13 (Gr.tr g32 (Gr.tr g46 (Gr.tr g62 g68))))) hS69 hv71
  · refine s_if (b := (decide (way_1 = (0 : Int)))) hS7 (t_test (K := K) (d_eqI (d_var rfl (.int _)) d_int)) (fun hc F72 H73 g74 hS75 => ?_) (fun hc F126 H127 g128 hS129 => ?_)
    · rw [if_pos hc] at k10
      obtain ⟨x76, k77, k10⟩ := bnd k10
      refine s_dropX (B := eN) hS75 (x_call (A := A_look_at_orders_D_2) (x := (aisle_here_2, orders_here_3)) (a_cons (d_var rfl (Dt.gr (Gr.tr g6 g74) ha1)) (a_cons (d_var rfl (Dt.gr (Gr.tr g6 g74) ha2)) a_nil)) k77) (fun y86 hy88 F78 H79 g80 hS81 => ?_) (fun c87 hc89 dd90 F82 H83 g84 hS85 xd91 => ?_)
      · subst hy88
        try dsimp only at k10
        refine s_if (b := (decide (way_1 = (1 : Int)))) hS81 (t_test (K := K) (d_eqI (d_var rfl (.int _)) d_int)) (fun hc F92 H93 g94 hS95 => ?_) (fun hc F115 H116 g117 hS118 => ?_)
        · rw [if_pos hc] at k10
          obtain ⟨x96, k97, k10⟩ := bnd k10
          cases x96 with
          | ok y102 => (try dsimp only at k10); cases k10
          | ex c103 =>
            refine s_dropX (r := .ex c103) (B := eN) hS95 (x_makeX (A := A_Sweep_D_2) (x := (aisle_here_2, orders_here_3)) (a_cons (d_var rfl (Dt.gr (Gr.tr g6 (Gr.tr g74 (Gr.tr g80 g94))) ha1)) (a_cons (d_var rfl (Dt.gr (Gr.tr g6 (Gr.tr g74 (Gr.tr g80 g94))) ha2)) a_nil)) k97) (fun _ hy => nomatch hy) (fun c106 hc107 dd104 F98 H99 g100 hS101 xd105 => ?_)
            cases hc107
            try dsimp only at k10
            by_cases hcl114 : (c103).1 ∈ xcl
            case neg => rw [if_neg hcl114] at k10; cases k10
            rw [if_pos hcl114] at k10
            refine s_catch (σ' := fun a108 => [some (.int way_1), some a1, some a2, some (.ref a108), none]) XC hcl114 hS101 xd105 (fun _ => rfl) (fun _ => rfl) (fun a108 F109 H110 g111 hS112 ha113 => ?_)
            obtain rfl := sm k10
            exact jn9 _ _ ⟨_, _, (Gr.tr g74 (Gr.tr g80 (Gr.tr g94 (Gr.tr g100 g111)))), hS112, _, _, rfl, rfl, ha113⟩
        · rw [if_neg (bf hc)] at k10
          refine nxt ?_
          obtain rfl := sm k10
          exact jn9 _ _ ⟨_, _, (Gr.tr g74 (Gr.tr g80 g117)), hS118, _, _, rfl, rfl, (Xv.gr (Gr.tr g74 (Gr.tr g80 g117)) (show Xv K xcl _ V.non none from rfl))⟩
      · subst hc89
        try dsimp only at k10
        by_cases hcl125 : (c87).1 ∈ xcl
        case neg => rw [if_neg hcl125] at k10; cases k10
        rw [if_pos hcl125] at k10
        refine s_catch (σ' := fun a119 => [some (.int way_1), some a1, some a2, some (.ref a119), none]) XC hcl125 hS85 xd91 (fun _ => rfl) (fun _ => rfl) (fun a119 F120 H121 g122 hS123 ha124 => ?_)
        obtain rfl := sm k10
        exact jn9 _ _ ⟨_, _, (Gr.tr g74 (Gr.tr g84 g122)), hS123, _, _, rfl, rfl, ha124⟩
    · rw [if_neg (bf hc)] at k10
      refine nxt ?_
      refine s_if (b := (decide (way_1 = (1 : Int)))) hS129 (t_test (K := K) (d_eqI (d_var rfl (.int _)) d_int)) (fun hc F130 H131 g132 hS133 => ?_) (fun hc F153 H154 g155 hS156 => ?_)
      · rw [if_pos hc] at k10
        obtain ⟨x134, k135, k10⟩ := bnd k10
        cases x134 with
        | ok y140 => (try dsimp only at k10); cases k10
        | ex c141 =>
          refine s_dropX (r := .ex c141) (B := eN) hS133 (x_makeX (A := A_Sweep_D_2) (x := (aisle_here_2, orders_here_3)) (a_cons (d_var rfl (Dt.gr (Gr.tr g6 (Gr.tr g128 g132)) ha1)) (a_cons (d_var rfl (Dt.gr (Gr.tr g6 (Gr.tr g128 g132)) ha2)) a_nil)) k135) (fun _ hy => nomatch hy) (fun c144 hc145 dd142 F136 H137 g138 hS139 xd143 => ?_)
          cases hc145
          try dsimp only at k10
          by_cases hcl152 : (c141).1 ∈ xcl
          case neg => rw [if_neg hcl152] at k10; cases k10
          rw [if_pos hcl152] at k10
          refine s_catch (σ' := fun a146 => [some (.int way_1), some a1, some a2, some (.ref a146), none]) XC hcl152 hS139 xd143 (fun _ => rfl) (fun _ => rfl) (fun a146 F147 H148 g149 hS150 ha151 => ?_)
          obtain rfl := sm k10
          exact jn9 _ _ ⟨_, _, (Gr.tr g128 (Gr.tr g132 (Gr.tr g138 g149))), hS150, _, _, rfl, rfl, ha151⟩
      · rw [if_neg (bf hc)] at k10
        refine nxt ?_
        obtain rfl := sm k10
        exact jn9 _ _ ⟨_, _, (Gr.tr g128 g155), hS156, _, _, rfl, rfl, (Xv.gr (Gr.tr g128 g155) (show Xv K xcl _ V.non none from rfl))⟩
theorem sc_told_D_2 : FnScope N_told_D_2 ["_law_way", "_law_aisle_here", "_law_orders_here"] (defScope s_told_D_2) := ⟨rfl, rfl, rfl, by decide +kernel, rfl, by decide +kernel, by decide +kernel⟩
theorem ok_told_D_2 {P : Program} {w : World} {K : PySem.W.Frag} {mg : Str → Option Value} {base : Heap} (hF : Df K mg "_law_told" s_told_D_2) (m_ValueError : mg "ValueError" = none) (m_int : mg "int" = none) (m_isinstance : mg "isinstance" = none) (o_Sweep_D_2 : OkM P w K mg base 5 "Sweep" ["self", "aisle", "orders"] (sp_Sweep_D_2 K)) (o_look_at_orders_D_2 : OkX P w K mg base 4 "look_at_orders" ["aisle", "thing"] (sp_look_at_orders_D_2 K)) (XC : XFc K xcl xts) (g_CartError : mg "CartError" = some (.ref (He.ga K "CartError"))) (g_NoAisle : mg "NoAisle" = some (.ref (He.ga K "NoAisle"))) (g_NoBay : mg "NoBay" = some (.ref (He.ga K "NoBay"))) (g_NoBox : mg "NoBox" = some (.ref (He.ga K "NoBox"))) (g_NoFork : mg "NoFork" = some (.ref (He.ga K "NoFork"))) (g_NoOrders : mg "NoOrders" = some (.ref (He.ga K "NoOrders"))) (g_NoPaper : mg "NoPaper" = some (.ref (He.ga K "NoPaper"))) (g_NoPlan : mg "NoPlan" = some (.ref (He.ga K "NoPlan"))) (g_NoRoom : mg "NoRoom" = some (.ref (He.ga K "NoRoom"))) (g_NoRow : mg "NoRow" = some (.ref (He.ga K "NoRow"))) (g_NoStore : mg "NoStore" = some (.ref (He.ga K "NoStore"))) (g_NoText : mg "NoText" = some (.ref (He.ga K "NoText"))) (g_NoWants : mg "NoWants" = some (.ref (He.ga K "NoWants"))) (g_TooMany : mg "TooMany" = some (.ref (He.ga K "TooMany"))) (g_Unknown : mg "Unknown" = some (.ref (He.ga K "Unknown"))) : Ok P w K mg base 7 "_law_told" ["_law_way", "_law_aisle_here", "_law_orders_here"] (sp_told_D_2 K) := by
  obtain ⟨⟨_, G_Sweep_D_2, bd_Sweep_D_2⟩, gm_Sweep_D_2, mk_Sweep_D_2⟩ := o_Sweep_D_2
  obtain ⟨⟨_, G_look_at_orders_D_2, bd_look_at_orders_D_2, _⟩, kp_look_at_orders_D_2, gm_look_at_orders_D_2⟩ := o_look_at_orders_D_2
  obtain ⟨⟨fd, F⟩, gm⟩ := hF
  refine ⟨⟨fd, F.ok sc_told_D_2 (fun vs H Q E h => ?_) (fun cdv A outer s H vs Q E hr h => ⟨t_told_D_2 K, PSs.nox ?_, w_told_D_2 XC vs H Q E h⟩), F.bindsN fun _ _ _ _ _ _ us hl => match us, hl with | [_, _, _], _ => rfl, lk_of F⟩, F.kp, gm⟩
  · obtain ⟨F0, cs, x, y, h, _⟩ := h; exact Dts.len h
  · exact (pss_cons (ps_set (i := 3) sc_told_D_2.nd rfl (Or.inl rfl) pe_non) (pss_cons (ps_try_keep (i := 4) rfl rfl rfl sc_told_D_2.nd rfl rfl ⟨by rfl, by decide, .inl g_CartError⟩ takesF (fun W pn xe tkE po => (pss_cons (ps_if (pt_cmpR op_eq (pv 0) pe_int (nomark _)) (pss_one (ps_expr (pe_callS (E := WE W) G_look_at_orders_D_2 (hr.mono (by decide)) (by rfl) gm_look_at_orders_D_2 kp_look_at_orders_D_2 bd_look_at_orders_D_2 (fun σ => passAt tkE σ) (pa_cons (pv 1) (pa_cons (pv 2) pa_nil))))) pss_nil) (pss_one (ps_if (pt_cmpR op_eq (pv 0) pe_int (nomark _)) (pss_one (ps_expr (pe_makeS mk_Sweep_D_2 G_Sweep_D_2 (hr.mono (by decide)) (by rfl) gm_Sweep_D_2 bd_Sweep_D_2 (fun σ => passAt tkE σ) (pa_cons (pv 1) (pa_cons (pv 2) pa_nil))))) pss_nil)))) (fun a oe cls d pn _ _ => pss_one (ps_set (i := 3) sc_told_D_2.nd rfl (Or.inl rfl) (pv 4)))) (pss_cons (ps_if (PW.pt (pw_or (pt_not (pt_val (pe_callB cr_isiX (by rfl) m_isinstance (by decide +kernel) (pa_cons (pv 3) (pa_cons (pe_bltn (v := .ty "ValueError") (by rfl) m_ValueError (by decide +kernel) rfl) pa_nil))))) (pw_or1 (pt_val (pe_callB cr_isiXT (by rfl) m_isinstance (by decide +kernel) (pa_cons (pv 3) (pa_cons (pe_tup (pa_cons (pe_glob (by rfl) g_NoStore rfl) (pa_cons (pe_glob (by rfl) g_NoPlan rfl) (pa_cons (pe_glob (by rfl) g_NoPaper rfl) (pa_cons (pe_glob (by rfl) g_NoFork rfl) (pa_cons (pe_glob (by rfl) g_NoWants rfl) pa_nil)))))) pa_nil))))))) (pss_one (ps_ret pe_str)) pss_nil) (pss_cons (ps_if (pt_val (pe_callB cr_isiXT (by rfl) m_isinstance (by decide +kernel) (pa_cons (pv 3) (pa_cons (pe_tup (pa_cons (pe_glob (by rfl) g_NoText rfl) (pa_cons (pe_glob (by rfl) g_NoBay rfl) (pa_cons (pe_glob (by rfl) g_NoBox rfl) (pa_cons (pe_glob (by rfl) g_NoRoom rfl) (pa_cons (pe_glob (by rfl) g_NoRow rfl) (pa_cons (pe_glob (by rfl) g_Unknown rfl) (pa_cons (pe_glob (by rfl) g_TooMany rfl) pa_nil)))))))) pa_nil)))) (pss_one (ps_ret pe_str)) pss_nil) (pss_cons (ps_if (pt_val (pe_callB cr_isiX (by rfl) m_isinstance (by decide +kernel) (pa_cons (pv 3) (pa_cons (pe_glob (by rfl) g_NoAisle rfl) pa_nil)))) (pss_one (ps_ret (pe_ix ix_list (pe_lst (pa_cons pe_str (pa_cons pe_str pa_nil))) (pe_callTy cr_int (by rfl) m_int (by decide +kernel) (pa_cons (pe_callB cr_isiX (by rfl) m_isinstance (by decide +kernel) (pa_cons (pv 3) (pa_cons (pe_glob (by rfl) g_NoOrders rfl) pa_nil))) pa_nil)) (fun _ _ => rfl)))) pss_nil) (pss_one (ps_ret (pe_ix ix_list (pe_lst (pa_cons pe_str (pa_cons pe_str pa_nil))) (pe_callTy cr_int (by rfl) m_int (by decide +kernel) (pa_cons (pe_callB cr_isiX (by rfl) m_isinstance (by decide +kernel) (pa_cons (pv 3) (pa_cons (pe_glob (by rfl) g_NoOrders rfl) pa_nil))) pa_nil)) (fun _ _ => rfl)))))))))
abbrev s_told_D_3 : Stmt := (top 44)
def f_told_D_3 : (Int × PyData × (List (Str × Int × Int × Int))) → Option Str := fun (way_1, aisle_here_2, orders_here_3) => ((if (decide (way_1 = (0 : Int))) = true then (((f_look_at_orders_D_3 (aisle_here_2, orders_here_3))).bind fun x76 => (match x76 with | .ok y86 => (if (decide (way_1 = (1 : Int))) = true then (((f_Sweep_D_3 (aisle_here_2, orders_here_3))).bind fun x96 => (match x96 with | .ok y102 => none | .ex c103 => (if (c103).1 ∈ xcl then some (some c103) else none))) else some (none : Option Xe)) | .ex c87 => (if (c87).1 ∈ xcl then some (some c87) else none))) else (if (decide (way_1 = (1 : Int))) = true then (((f_Sweep_D_3 (aisle_here_2, orders_here_3))).bind fun x134 => (match x134 with | .ok y140 => none | .ex c141 => (if (c141).1 ∈ xcl then some (some c141) else none))) else some (none : Option Xe)))).bind fun error_8 => (if ((!(error_8).isSome) || (anyX error_8 ["NoStore", "NoPlan", "NoPaper", "NoFork", "NoWants"])) = true then some ("other" : Str) else (if (anyX error_8 ["NoText", "NoBay", "NoBox", "NoRoom", "NoRow", "Unknown", "TooMany"]) = true then some ("other" : Str) else (if (isX error_8 "NoAisle") = true then (((atI ([("aisle" : Str), ("other" : Str)] : (List Str)) (b2I (isX error_8 "NoOrders")))).bind fun x52 => some x52) else (((atI ([("other" : Str), ("orders" : Str)] : (List Str)) (b2I (isX error_8 "NoOrders")))).bind fun x64 => some x64))))
abbrev A_told_D_3 : (Int × PyData × (List (Str × Int × Int × Int))) → List PyData := fun x => [eI x.1, eD x.2.1, (eL (eT4 eS eI eI eI)) x.2.2]
abbrev N_told_D_3 : List Str := ["_law_way", "_law_aisle_here", "_law_orders_here", "_law_error", "e"]
abbrev sp_told_D_3 (K : PySem.W.Frag) : Sp := spP K A_told_D_3 eS f_told_D_3
def t_told_D_3 (K : PySem.W.Frag) : TS := (tSeq (tAsg (tC .non) (gName 3)) (tSeq (tTryK K 4 3 WF0 (fun W => (tSeq (tIfS (tTest (tOp rEq (tVar 0) (tC (.int 0)))) (tDrop (tCallS (sp_look_at_orders_D_3 K) (WE W) (tCons (tVar 1) (tCons (tVar 2) tNil)))) tNext) (tIfS (tTest (tOp rEq (tVar 0) (tC (.int 1)))) (tDrop (tMakeS (He.ga K "Sweep") (sp_Sweep_D_3 K) (WE W) (tCons (tVar 1) (tCons (tVar 2) tNil)))) tNext)))) (tSeq (tIfS (tOr (tNot (tB (tCB (rIsiX K) (tCons (tVar 3) (tCons (tC (.ty "ValueError")) tNil))))) (tB (tCB (rIsiXT K) (tCons (tVar 3) (tCons (tTup (tCons (tC (.ref (He.ga K "NoStore"))) (tCons (tC (.ref (He.ga K "NoPlan"))) (tCons (tC (.ref (He.ga K "NoPaper"))) (tCons (tC (.ref (He.ga K "NoFork"))) (tCons (tC (.ref (He.ga K "NoWants"))) tNil)))))) tNil))))) (tRet (tC (.str "other"))) tNext) (tSeq (tIfS (tB (tCB (rIsiXT K) (tCons (tVar 3) (tCons (tTup (tCons (tC (.ref (He.ga K "NoText"))) (tCons (tC (.ref (He.ga K "NoBay"))) (tCons (tC (.ref (He.ga K "NoBox"))) (tCons (tC (.ref (He.ga K "NoRoom"))) (tCons (tC (.ref (He.ga K "NoRow"))) (tCons (tC (.ref (He.ga K "Unknown"))) (tCons (tC (.ref (He.ga K "TooMany"))) tNil)))))))) tNil)))) (tRet (tC (.str "other"))) tNext) (tSeq (tIfS (tB (tCB (rIsiX K) (tCons (tVar 3) (tCons (tC (.ref (He.ga K "NoAisle"))) tNil)))) (tRet (tOp (rIxL K) (tLst (tCons (tC (.str "aisle")) (tCons (tC (.str "other")) tNil))) (tCB rInt (tCons (tCB (rIsiX K) (tCons (tVar 3) (tCons (tC (.ref (He.ga K "NoOrders"))) tNil))) tNil)))) tNext) (tRet (tOp (rIxL K) (tLst (tCons (tC (.str "other")) (tCons (tC (.str "orders")) tNil))) (tCB rInt (tCons (tCB (rIsiX K) (tCons (tVar 3) (tCons (tC (.ref (He.ga K "NoOrders"))) tNil))) tNil)))))))))
theorem w_told_D_3 {K : PySem.W.Frag} (XC : XFc K xcl xts) (vs : List V) (H : Hp) (Q : VK) (E : XK) (h : sp_told_D_3 K vs H Q E) : t_told_D_3 K { nx := fun _ H' => Q .non H', rt := Q } (start N_told_D_3 vs) H := by
  obtain ⟨F0, cs, ⟨way_1, aisle_here_2, orders_here_3⟩, y, h, hS0, m, q⟩ := h
  obtain ⟨a0, _, rfl, ha0, h⟩ := Dts.hd h
  obtain ⟨a1, _, rfl, ha1, h⟩ := Dts.hd h
  obtain ⟨a2, _, rfl, ha2, h⟩ := Dts.hd h
  obtain rfl := Dts.no h
  obtain rfl := Dt.toInt ha0
  unfold f_told_D_3 at m
  try dsimp only at m
  unfold t_told_D_3
  refine go (σ' := [some (.int way_1), some a1, some a2, none, none]) rfl ?_
  refine s_setV (K := K) (d := PyData.none) (i := 3) (σ' := [some (.int way_1), some a1, some a2, some .non, none]) (fun _ _ h => Dt.toNon h) hS0 d_non rfl (fun F4 H5 g6 hS7 => ?_)
  obtain ⟨error_8, k10, m⟩ := bnd m
  refine s_tryJ (fun σ H => ∃ (F : Hp) (c : Cs), Gr F4 F ∧ Sta F c H ∧ ∃ (j3 : V) (j4 : Option V), σ = [some (.int way_1), some a1, some a2, some j3, j4] ∧ cs = c ∧ Xv K xcl F j3 error_8) ?_ (fun jn9 => ?_)
  · rintro σ16 H12 ⟨F11, c15, g13, hS14, v17, u18, rfl, rfl, h19⟩
    refine s_if (b := ((!(error_8).isSome) || (anyX error_8 ["NoStore", "NoPlan", "NoPaper", "NoFork", "NoWants"]))) hS14 (t_orP (t_not (t_B (K := K) (d_isiXV XC (i := 3) rfl h19))) (fun hc => (t_B (K := K) (d_isiXT (ds := ["NoStore", "NoPlan", "NoPaper", "NoFork", "NoWants"]) XC (i := 3) rfl h19 (by decide) (by decide) (fun _ _ q => q))))) (fun hc F20 H21 g22 hS23 => ?_) (fun hc F30 H31 g32 hS33 => ?_)
    · rw [if_pos hc] at m
      refine s_ret (K := K) (d := eS ("other" : Str)) hS23 d_str (fun v28 F24 H25 g26 hS27 hv29 => ?_)
      obtain rfl := sm m
      exact q _ _ _ (Gr.tr g6 (Gr.tr g13 (Gr.tr g22 g26))) hS27 hv29
    · rw [if_neg (bf hc)] at m
      refine nxt ?_
      refine s_if (b := (anyX error_8 ["NoText", "NoBay", "NoBox", "NoRoom", "NoRow", "Unknown", "TooMany"])) hS33 (t_B (K := K) (d_isiXT (ds := ["NoText", "NoBay", "NoBox", "NoRoom", "NoRow", "Unknown", "TooMany"]) XC (i := 3) rfl (Xv.gr g32 h19) (by decide) (by decide) (fun _ _ q => q))) (fun hc F34 H35 g36 hS37 => ?_) (fun hc F44 H45 g46 hS47 => ?_)
      · rw [if_pos hc] at m
        refine s_ret (K := K) (d := eS ("other" : Str)) hS37 d_str (fun v42 F38 H39 g40 hS41 hv43 => ?_)
        obtain rfl := sm m
        exact q _ _ _ (Gr.tr g6 (Gr.tr g13 (Gr.tr g32 (Gr.tr g36 g40)))) hS41 hv43
      · rw [if_neg (bf hc)] at m
        refine nxt ?_
        refine s_if (b := (isX error_8 "NoAisle")) hS47 (t_B (K := K) (d_isiX XC (i := 3) (d := "NoAisle") rfl (Xv.gr (Gr.tr g32 g46) h19) (by decide))) (fun hc F48 H49 g50 hS51 => ?_) (fun hc F60 H61 g62 hS63 => ?_)
        · rw [if_pos hc] at m
          obtain ⟨x52, k53, m⟩ := bnd m
          refine s_ret (K := K) (d := eS x52) hS51 (d_ix (e := eS) (d_lst (a_cons d_str (a_cons d_str a_nil)) (Nat.le_of_ble_eq_true rfl)) (d_intB (a_cons (d_isiX XC (i := 3) (d := "NoOrders") rfl (Xv.gr (Gr.tr g32 (Gr.tr g46 g50)) h19) (by decide)) a_nil)) k53) (fun v58 F54 H55 g56 hS57 hv59 => ?_)
          obtain rfl := sm m
          exact q _ _ _ (Gr.tr g6 (Gr.tr g13 (Gr.tr g32 (Gr.tr g46 (Gr.tr g50 g56))))) hS57 hv59
        · rw [if_neg (bf hc)] at m
          refine nxt ?_
          obtain ⟨x64, k65, m⟩ := bnd m
          refine s_ret (K := K) (d := eS x64) hS63 (d_ix (e := eS) (d_lst (a_cons d_str (a_cons d_str a_nil)) (Nat.le_of_ble_eq_true rfl)) (d_intB (a_cons (d_isiX XC (i := 3) (d := "NoOrders") rfl (Xv.gr (Gr.tr g32 (Gr.tr g46 g62)) h19) (by decide)) a_nil)) k65) (fun v70 F66 H67 g68 hS69 hv71 => ?_)
          obtain rfl := sm m
          exact q _ _ _ (Gr.tr g6 (Gr.tr g13 (Gr.tr g32 (Gr.tr g46 (Gr.tr g62 g68))))) hS69 hv71
  · refine s_if (b := (decide (way_1 = (0 : Int)))) hS7 (t_test (K := K) (d_eqI (d_var rfl (.int _)) d_int)) (fun hc F72 H73 g74 hS75 => ?_) (fun hc F126 H127 g128 hS129 => ?_)
    · rw [if_pos hc] at k10
      obtain ⟨x76, k77, k10⟩ := bnd k10
      refine s_dropX (B := eN) hS75 (x_call (A := A_look_at_orders_D_3) (x := (aisle_here_2, orders_here_3)) (a_cons (d_var rfl (Dt.gr (Gr.tr g6 g74) ha1)) (a_cons (d_var rfl (Dt.gr (Gr.tr g6 g74) ha2)) a_nil)) k77) (fun y86 hy88 F78 H79 g80 hS81 => ?_) (fun c87 hc89 dd90 F82 H83 g84 hS85 xd91 => ?_)
      · subst hy88
        try dsimp only at k10
        refine s_if (b := (decide (way_1 = (1 : Int)))) hS81 (t_test (K := K) (d_eqI (d_var rfl (.int _)) d_int)) (fun hc F92 H93 g94 hS95 => ?_) (fun hc F115 H116 g117 hS118 => ?_)
        · rw [if_pos hc] at k10
          obtain ⟨x96, k97, k10⟩ := bnd k10
          cases x96 with
          | ok y102 => (try dsimp only at k10); cases k10
          | ex c103 =>
            refine s_dropX (r := .ex c103) (B := eN) hS95 (x_makeX (A := A_Sweep_D_3) (x := (aisle_here_2, orders_here_3)) (a_cons (d_var rfl (Dt.gr (Gr.tr g6 (Gr.tr g74 (Gr.tr g80 g94))) ha1)) (a_cons (d_var rfl (Dt.gr (Gr.tr g6 (Gr.tr g74 (Gr.tr g80 g94))) ha2)) a_nil)) k97) (fun _ hy => nomatch hy) (fun c106 hc107 dd104 F98 H99 g100 hS101 xd105 => ?_)
            cases hc107
            try dsimp only at k10
            by_cases hcl114 : (c103).1 ∈ xcl
            case neg => rw [if_neg hcl114] at k10; cases k10
            rw [if_pos hcl114] at k10
            refine s_catch (σ' := fun a108 => [some (.int way_1), some a1, some a2, some (.ref a108), none]) XC hcl114 hS101 xd105 (fun _ => rfl) (fun _ => rfl) (fun a108 F109 H110 g111 hS112 ha113 => ?_)
            obtain rfl := sm k10
            exact jn9 _ _ ⟨_, _, (Gr.tr g74 (Gr.tr g80 (Gr.tr g94 (Gr.tr g100 g111)))), hS112, _, _, rfl, rfl, ha113⟩
        · rw [if_neg (bf hc)] at k10
          refine nxt ?_
          obtain rfl := sm k10
          exact jn9 _ _ ⟨_, _, (Gr.tr g74 (Gr.tr g80 g117)), hS118, _, _, rfl, rfl, (Xv.gr (Gr.tr g74 (Gr.tr g80 g117)) (show Xv K xcl _ V.non none from rfl))⟩
      · subst hc89
        try dsimp only at k10
        by_cases hcl125 : (c87).1 ∈ xcl
        case neg => rw [if_neg hcl125] at k10; cases k10
        rw [if_pos hcl125] at k10
        refine s_catch (σ' := fun a119 => [some (.int way_1), some a1, some a2, some (.ref a119), none]) XC hcl125 hS85 xd91 (fun _ => rfl) (fun _ => rfl) (fun a119 F120 H121 g122 hS123 ha124 => ?_)
        obtain rfl := sm k10
        exact jn9 _ _ ⟨_, _, (Gr.tr g74 (Gr.tr g84 g122)), hS123, _, _, rfl, rfl, ha124⟩
    · rw [if_neg (bf hc)] at k10
      refine nxt ?_
      refine s_if (b := (decide (way_1 = (1 : Int)))) hS129 (t_test (K := K) (d_eqI (d_var rfl (.int _)) d_int)) (fun hc F130 H131 g132 hS133 => ?_) (fun hc F153 H154 g155 hS156 => ?_)
      · rw [if_pos hc] at k10
        obtain ⟨x134, k135, k10⟩ := bnd k10
        cases x134 with
        | ok y140 => (try dsimp only at k10); cases k10
        | ex c141 =>
          refine s_dropX (r := .ex c141) (B := eN) hS133 (x_makeX (A := A_Sweep_D_3) (x := (aisle_here_2, orders_here_3)) (a_cons (d_var rfl (Dt.gr (Gr.tr g6 (Gr.tr g128 g132)) ha1)) (a_cons (d_var rfl (Dt.gr (Gr.tr g6 (Gr.tr g128 g132)) ha2)) a_nil)) k135) (fun _ hy => nomatch hy) (fun c144 hc145 dd142 F136 H137 g138 hS139 xd143 => ?_)
          cases hc145
          try dsimp only at k10
          by_cases hcl152 : (c141).1 ∈ xcl
          case neg => rw [if_neg hcl152] at k10; cases k10
          rw [if_pos hcl152] at k10
          refine s_catch (σ' := fun a146 => [some (.int way_1), some a1, some a2, some (.ref a146), none]) XC hcl152 hS139 xd143 (fun _ => rfl) (fun _ => rfl) (fun a146 F147 H148 g149 hS150 ha151 => ?_)
          obtain rfl := sm k10
          exact jn9 _ _ ⟨_, _, (Gr.tr g128 (Gr.tr g132 (Gr.tr g138 g149))), hS150, _, _, rfl, rfl, ha151⟩
      · rw [if_neg (bf hc)] at k10
        refine nxt ?_
        obtain rfl := sm k10
        exact jn9 _ _ ⟨_, _, (Gr.tr g128 g155), hS156, _, _, rfl, rfl, (Xv.gr (Gr.tr g128 g155) (show Xv K xcl _ V.non none from rfl))⟩
theorem sc_told_D_3 : FnScope N_told_D_3 ["_law_way", "_law_aisle_here", "_law_orders_here"] (defScope s_told_D_3) := ⟨rfl, rfl, rfl, by decide +kernel, rfl, by decide +kernel, by decide +kernel⟩
theorem ok_told_D_3 {P : Program} {w : World} {K : PySem.W.Frag} {mg : Str → Option Value} {base : Heap} (hF : Df K mg "_law_told" s_told_D_3) (m_ValueError : mg "ValueError" = none) (m_int : mg "int" = none) (m_isinstance : mg "isinstance" = none) (o_Sweep_D_3 : OkM P w K mg base 5 "Sweep" ["self", "aisle", "orders"] (sp_Sweep_D_3 K)) (o_look_at_orders_D_3 : OkX P w K mg base 4 "look_at_orders" ["aisle", "thing"] (sp_look_at_orders_D_3 K)) (XC : XFc K xcl xts) (g_CartError : mg "CartError" = some (.ref (He.ga K "CartError"))) (g_NoAisle : mg "NoAisle" = some (.ref (He.ga K "NoAisle"))) (g_NoBay : mg "NoBay" = some (.ref (He.ga K "NoBay"))) (g_NoBox : mg "NoBox" = some (.ref (He.ga K "NoBox"))) (g_NoFork : mg "NoFork" = some (.ref (He.ga K "NoFork"))) (g_NoOrders : mg "NoOrders" = some (.ref (He.ga K "NoOrders"))) (g_NoPaper : mg "NoPaper" = some (.ref (He.ga K "NoPaper"))) (g_NoPlan : mg "NoPlan" = some (.ref (He.ga K "NoPlan"))) (g_NoRoom : mg "NoRoom" = some (.ref (He.ga K "NoRoom"))) (g_NoRow : mg "NoRow" = some (.ref (He.ga K "NoRow"))) (g_NoStore : mg "NoStore" = some (.ref (He.ga K "NoStore"))) (g_NoText : mg "NoText" = some (.ref (He.ga K "NoText"))) (g_NoWants : mg "NoWants" = some (.ref (He.ga K "NoWants"))) (g_TooMany : mg "TooMany" = some (.ref (He.ga K "TooMany"))) (g_Unknown : mg "Unknown" = some (.ref (He.ga K "Unknown"))) : Ok P w K mg base 7 "_law_told" ["_law_way", "_law_aisle_here", "_law_orders_here"] (sp_told_D_3 K) := by
  obtain ⟨⟨_, G_Sweep_D_3, bd_Sweep_D_3⟩, gm_Sweep_D_3, mk_Sweep_D_3⟩ := o_Sweep_D_3
  obtain ⟨⟨_, G_look_at_orders_D_3, bd_look_at_orders_D_3, _⟩, kp_look_at_orders_D_3, gm_look_at_orders_D_3⟩ := o_look_at_orders_D_3
  obtain ⟨⟨fd, F⟩, gm⟩ := hF
  refine ⟨⟨fd, F.ok sc_told_D_3 (fun vs H Q E h => ?_) (fun cdv A outer s H vs Q E hr h => ⟨t_told_D_3 K, PSs.nox ?_, w_told_D_3 XC vs H Q E h⟩), F.bindsN fun _ _ _ _ _ _ us hl => match us, hl with | [_, _, _], _ => rfl, lk_of F⟩, F.kp, gm⟩
  · obtain ⟨F0, cs, x, y, h, _⟩ := h; exact Dts.len h
  · exact (pss_cons (ps_set (i := 3) sc_told_D_3.nd rfl (Or.inl rfl) pe_non) (pss_cons (ps_try_keep (i := 4) rfl rfl rfl sc_told_D_3.nd rfl rfl ⟨by rfl, by decide, .inl g_CartError⟩ takesF (fun W pn xe tkE po => (pss_cons (ps_if (pt_cmpR op_eq (pv 0) pe_int (nomark _)) (pss_one (ps_expr (pe_callS (E := WE W) G_look_at_orders_D_3 (hr.mono (by decide)) (by rfl) gm_look_at_orders_D_3 kp_look_at_orders_D_3 bd_look_at_orders_D_3 (fun σ => passAt tkE σ) (pa_cons (pv 1) (pa_cons (pv 2) pa_nil))))) pss_nil) (pss_one (ps_if (pt_cmpR op_eq (pv 0) pe_int (nomark _)) (pss_one (ps_expr (pe_makeS mk_Sweep_D_3 G_Sweep_D_3 (hr.mono (by decide)) (by rfl) gm_Sweep_D_3 bd_Sweep_D_3 (fun σ => passAt tkE σ) (pa_cons (pv 1) (pa_cons (pv 2) pa_nil))))) pss_nil)))) (fun a oe cls d pn _ _ => pss_one (ps_set (i := 3) sc_told_D_3.nd rfl (Or.inl rfl) (pv 4)))) (pss_cons (ps_if (PW.pt (pw_or (pt_not (pt_val (pe_callB cr_isiX (by rfl) m_isinstance (by decide +kernel) (pa_cons (pv 3) (pa_cons (pe_bltn (v := .ty "ValueError") (by rfl) m_ValueError (by decide +kernel) rfl) pa_nil))))) (pw_or1 (pt_val (pe_callB cr_isiXT (by rfl) m_isinstance (by decide +kernel) (pa_cons (pv 3) (pa_cons (pe_tup (pa_cons (pe_glob (by rfl) g_NoStore rfl) (pa_cons (pe_glob (by rfl) g_NoPlan rfl) (pa_cons (pe_glob (by rfl) g_NoPaper rfl) (pa_cons (pe_glob (by rfl) g_NoFork rfl) (pa_cons (pe_glob (by rfl) g_NoWants rfl) pa_nil)))))) pa_nil))))))) (pss_one (ps_ret pe_str)) pss_nil) (pss_cons (ps_if (pt_val (pe_callB cr_isiXT (by rfl) m_isinstance (by decide +kernel) (pa_cons (pv 3) (pa_cons (pe_tup (pa_cons (pe_glob (by rfl) g_NoText rfl) (pa_cons (pe_glob (by rfl) g_NoBay rfl) (pa_cons (pe_glob (by rfl) g_NoBox rfl) (pa_cons (pe_glob (by rfl) g_NoRoom rfl) (pa_cons (pe_glob (by rfl) g_NoRow rfl) (pa_cons (pe_glob (by rfl) g_Unknown rfl) (pa_cons (pe_glob (by rfl) g_TooMany rfl) pa_nil)))))))) pa_nil)))) (pss_one (ps_ret pe_str)) pss_nil) (pss_cons (ps_if (pt_val (pe_callB cr_isiX (by rfl) m_isinstance (by decide +kernel) (pa_cons (pv 3) (pa_cons (pe_glob (by rfl) g_NoAisle rfl) pa_nil)))) (pss_one (ps_ret (pe_ix ix_list (pe_lst (pa_cons pe_str (pa_cons pe_str pa_nil))) (pe_callTy cr_int (by rfl) m_int (by decide +kernel) (pa_cons (pe_callB cr_isiX (by rfl) m_isinstance (by decide +kernel) (pa_cons (pv 3) (pa_cons (pe_glob (by rfl) g_NoOrders rfl) pa_nil))) pa_nil)) (fun _ _ => rfl)))) pss_nil) (pss_one (ps_ret (pe_ix ix_list (pe_lst (pa_cons pe_str (pa_cons pe_str pa_nil))) (pe_callTy cr_int (by rfl) m_int (by decide +kernel) (pa_cons (pe_callB cr_isiX (by rfl) m_isinstance (by decide +kernel) (pa_cons (pv 3) (pa_cons (pe_glob (by rfl) g_NoOrders rfl) pa_nil))) pa_nil)) (fun _ _ => rfl)))))))))
abbrev s_law : Stmt := (top 45)
def f_law_b366 (x11 : ((List Int) × Int)) (x36 : (List (Str × Int × Int × Int))) (x344 : PyData) (x356 : PyData) : Unit → Int → Option (Fl Unit Bool) := fun _ way_369 => (((f_told_D (way_369, x11, x344))).bind fun x388 => ((if (!decide (x388 = ("orders" : Str))) = true then some true else (((f_told_D_2 (way_369, x356, x344))).bind fun x390 => some (!decide (x390 = ("aisle" : Str)))))).bind fun x392 => (if x392 = true then some (Fl.rt false) else (((f_told_D_3 (way_369, x356, x36))).bind fun x411 => (if (!decide (x411 = ("aisle" : Str))) = true then some (Fl.rt false) else some (Fl.nx ())))))
def f_law_b307 (script_1 : (List Int)) (x11 : ((List Int) × Int)) (last_24 : Int) (x26 : Int) (x36 : (List (Str × Int × Int × Int))) (no_aisles_301 : (List PyData)) : (List Int) → Int → Option (Fl (List Int) Bool) := fun pool_here_310 k_311 => (((f_pool (script_1, k_311))).bind fun x335 => (((f_bad_orders (x335, x36, last_24, x26))).bind fun (x344, pool_here_346) => (((f_take (pool_here_346, (6 : Int)))).bind fun (x353, pool_here_355) => ((atI no_aisles_301 x353)).bind fun x356 => (((rngM (0 : Int) (2 : Int))).bind fun x364 => (forF (f_law_b366 x11 x36 x344 x356) x364 ()).bind fun r367 => match r367 with | .nx _ => (((f_look_at_orders (x11, x36))).bind fun x437 => ((okM x437)).bind fun x439 => (if false = true then some (Fl.rt false) else some (Fl.nx pool_here_355))) | .br _ => none | .rt z457 => some (Fl.rt z457)))))
def f_law : (List Int) → Option Bool := fun script_1 => (((f_pool (script_1, (0 : Int)))).bind fun x2 => (((f_aisle (x2, (15 : Int), (1000 : Int)))).bind fun (x11, pool_here_13) => (letM (x11.1.length : Int) fun last_24 => (((f_take (pool_here_13, (9516 : Int)))).bind fun (x26, pool_here_28) => (((f_take (pool_here_28, (61 : Int)))).bind fun (x33, pool_here_35) => ((f_orders (pool_here_35, last_24, x26, x33))).bind fun (x36, pool_here_38) => (letM ([((eT2 (eL eI) eI) (x11.1, x11.2)), ((eL (eT4 eS eI eI eI)) x36)] : (List PyData)) fun kept_49 => (((rngM (0 : Int) (60 : Int))).bind fun x53 => ((lcC (fun k_55 => (((f_name (k_55, x26))).bind fun x66 => some (some (x66, (1000000000 : Int), (0 : Int), last_24)))) x53)).bind fun x68 => (((f_look_at_orders (x11, x36))).bind fun x76 => ((okM x76)).bind fun x78 => ((if false = true then some true else (((f_look_at_orders (x11, x68))).bind fun x80 => ((okM x80)).bind fun x82 => some false))).bind fun x84 => (if x84 = true then some false else (((f_Sweep (x11, x68))).bind fun r113 => ((f_Sweep_next_tick r113)).bind fun r142 => (((eqTM (eT4 eI (eO eI) (eL eS) (eL eS)) r142.1 ((0 : Int), (some (0 : Int)), ([] : (List Str)), ([] : (List Str))))).bind fun x179 => (if (!x179) = true then some false else (((f_Sweep (x11, x36))).bind fun r208 => ((f_Sweep_next_tick r208)).bind fun r237 => (((if (!true) = true then some true else (((if (!decide ((r237.1.1, r237.1.2.1) = ((0 : Int), (some (0 : Int))))) = true then some true else (((eqTM (eL eS) r237.1.2.2.2 ([] : (List Str)))).bind fun x274 => some (!x274)))).bind fun x276 => some x276))).bind fun x278 => (if x278 = true then some false else (((catM x11.1 ([(0 : Int)] : (List Int)))).bind fun x295 => letM ([(eN ()), ((eL eD) ([(eL eI) x11.1, eI x11.2] : (List PyData))), ((eT1 (eL eI)) (x11.1)), ((eT2 (eL eN) eI) ([], (1 : Int))), ((eT2 (eL eI) eI) (x295, (1 : Int))), ((eT2 (eL eI) eI) (x11.1, (21 : Int)))] : (List PyData)) fun no_aisles_301 => (((rngM (1 : Int) (maxI (2 : Int) (minI (script_1.length : Int) (63 : Int))))).bind fun x305 => (forF (f_law_b307 script_1 x11 last_24 x26 x36 no_aisles_301) x305 pool_here_38).bind fun r308 => match r308 with | .nx pool_here_465 => (((eqDM ((eL eD) ([((eT2 (eL eI) eI) x11), ((eL (eT4 eS eI eI eI)) x36)] : (List PyData))) ((eL eD) kept_49))).bind fun x472 => some (x472)) | .br _ => none | .rt z480 => some z480)))))))))))))))))
abbrev A_law : (List Int) → List PyData := fun x => [(eL eI) x]
abbrev N_law : List Str := ["_law_script", "_law_pool_here", "_law_aisle_here", "_law_last", "_law_salt", "_law_orders_here", "_law_kept", "_law_great", "_law_found", "_law_no_aisles", "_law_k", "_law_spoiled", "_law_bad", "_law_way"]
abbrev sp_law (K : PySem.W.Frag) : Sp := spP K A_law eB f_law
def t_law (K : PySem.W.Frag) : TS := (tSeq (tAsg (tCall (sp_pool K) [] E0 (tCons (tVar 0) (tCons (tC (.int 0)) tNil))) (gName 1)) (tSeq (tAsg (tCall (sp_aisle K) [] E0 (tCons (tVar 1) (tCons (tC (.int 15)) (tCons (tC (.int 1000)) tNil)))) (gName 2)) (tSeq (tAsg (tCB (rLenL K) (tCons (tOp (rIxT K) (tVar 2) (tC (.int 0))) tNil)) (gName 3)) (tSeq (tAsg (tCall (sp_take K) [] E0 (tCons (tVar 1) (tCons (tC (.int 9516)) tNil))) (gName 4)) (tSeq (tAsg (tCall (sp_orders K) [] E0 (tCons (tVar 1) (tCons (tVar 3) (tCons (tVar 4) (tCons (tCall (sp_take K) [] E0 (tCons (tVar 1) (tCons (tC (.int 61)) tNil))) tNil))))) (gName 5)) (tSeq (tAsg (tLst (tCons (tTup (tCons (tCB (rListS K) (tCons (tOp (rIxT K) (tVar 2) (tC (.int 0))) tNil)) (tCons (tOp (rIxT K) (tVar 2) (tC (.int 1))) tNil))) (tCons (tCB (rListS K) (tCons (tVar 5) tNil)) tNil))) (gName 6)) (tSeq (tAsg (tLc (iRng1 (tCons (tC (.int 60)) tNil)) (gName 10) tYes (tTup (tCons (tCall (sp_name K) [] E0 (tCons (tVar 10) (tCons (tVar 4) tNil))) (tCons (tOp (rI CPow fun i j => .int (i ^ j.toNat)) (tC (.int 10)) (tC (.int 9))) (tCons (tC (.int 0)) (tCons (tVar 3) tNil))))) [10]) (gName 7)) (tSeq (tIfS (tOr (tTest (tOp rNotN (tCallS (sp_look_at_orders K) (fun _ => XF0) (tCons (tVar 2) (tCons (tVar 5) tNil))) (tC .non))) (tTest (tOp rNotN (tCallS (sp_look_at_orders K) (fun _ => XF0) (tCons (tVar 2) (tCons (tVar 7) tNil))) (tC .non)))) (tRet (tC (.bl false))) tNext) (tSeq (tIfS (tTest (tOp (rNeD K) (tMeth (He.ga K "Sweep") "next_tick" (sp_Sweep_next_tick K) [] E0 (tMake (He.ga K "Sweep") (sp_Sweep K) [] E0 (tCons (tVar 2) (tCons (tVar 7) tNil))) tNil) (tTup (tCons (tC (.int 0)) (tCons (tC (.int 0)) (tCons (tLst tNil) (tCons (tLst tNil) tNil))))))) (tRet (tC (.bl false))) tNext) (tSeq (tAsg (tMeth (He.ga K "Sweep") "next_tick" (sp_Sweep_next_tick K) [] E0 (tMake (He.ga K "Sweep") (sp_Sweep K) [] E0 (tCons (tVar 2) (tCons (tVar 5) tNil))) tNil) (gName 8)) (tSeq (tIfS (tOr (tNot (tB (tCB (rIsi K) (tCons (tVar 8) (tCons (tC (.ty "tuple")) tNil))))) (tOr (tTest (tOp (rNeD K) (tSl (rSlA K) (tVar 8) tNoPart (tPart (tC (.int 2)))) (tTup (tCons (tC (.int 0)) (tCons (tC (.int 0)) tNil))))) (tTest (tOp (rNeD K) (tOp (rIxT K) (tVar 8) (tC (.int 3))) (tLst tNil))))) (tRet (tC (.bl false))) tNext) (tSeq (tAsg (tLst (tCons (tC .non) (tCons (tCB (rListS K) (tCons (tVar 2) tNil)) (tCons (tTup (tCons (tOp (rIxT K) (tVar 2) (tC (.int 0))) tNil)) (tCons (tTup (tCons (tLst tNil) (tCons (tC (.int 1)) tNil))) (tCons (tTup (tCons (tOp (rCatS K) (tOp (rIxT K) (tVar 2) (tC (.int 0))) (tLst (tCons (tC (.int 0)) tNil))) (tCons (tC (.int 1)) tNil))) (tCons (tTup (tCons (tOp (rIxT K) (tVar 2) (tC (.int 0))) (tCons (tC (.int 21)) tNil))) tNil))))))) (gName 9)) (tSeq (tFor (iRng2 (tCons (tC (.int 1)) (tCons (tCB rMax2 (tCons (tC (.int 2)) (tCons (tCB rMin2 (tCons (tCB (rLenL K) (tCons (tVar 0) tNil)) (tCons (tC (.int 63)) tNil))) tNil))) tNil))) (gName 10) (tSeq (tAsg (tCall (sp_pool K) [] E0 (tCons (tVar 0) (tCons (tVar 10) tNil))) (gName 1)) (tSeq (tAsg (tCall (sp_bad_orders K) [] E0 (tCons (tVar 1) (tCons (tVar 5) (tCons (tVar 3) (tCons (tVar 4) tNil))))) (gName 11)) (tSeq (tAsg (tOp (rIxL K) (tVar 9) (tCall (sp_take K) [] E0 (tCons (tVar 1) (tCons (tC (.int 6)) tNil)))) (gName 12)) (tSeq (tFor (iRng1 (tCons (tC (.int 2)) tNil)) (gName 13) (tSeq (tIfS (tOr (tTest (tOp rNe (tCall (sp_told_D K) [] E0 (tCons (tVar 13) (tCons (tVar 2) (tCons (tVar 11) tNil)))) (tC (.str "orders")))) (tTest (tOp rNe (tCall (sp_told_D_2 K) [] E0 (tCons (tVar 13) (tCons (tVar 12) (tCons (tVar 11) tNil)))) (tC (.str "aisle"))))) (tRet (tC (.bl false))) tNext) (tIfS (tTest (tOp rNe (tCall (sp_told_D_3 K) [] E0 (tCons (tVar 13) (tCons (tVar 12) (tCons (tVar 5) tNil)))) (tC (.str "aisle")))) (tRet (tC (.bl false))) tNext))) (tIfS (tTest (tOp rNotN (tCallS (sp_look_at_orders K) (fun _ => XF0) (tCons (tVar 2) (tCons (tVar 5) tNil))) (tC .non))) (tRet (tC (.bl false))) tNext)))))) (tRet (tOp (rEqD K) (tLst (tCons (tVar 2) (tCons (tVar 5) tNil))) (tVar 6))))))))))))))))
theorem w_law {K : PySem.W.Frag} (vs : List V) (H : Hp) (Q : VK) (E : XK) (h : sp_law K vs H Q E) : t_law K { nx := fun _ H' => Q .non H', rt := Q } (start N_law vs) H := by
  obtain ⟨F0, cs, script_1, y, h, hS0, m, q⟩ := h
  obtain ⟨a0, _, rfl, ha0, h⟩ := Dts.hd h
  obtain rfl := Dts.no h
  unfold f_law at m
  try dsimp only at m
  unfold t_law
  refine go (σ' := [some a0, none, none, none, none, none, none, none, none, none, none, none, none, none]) rfl ?_
  obtain ⟨x2, k3, m⟩ := bnd m
  refine s_setC (K := K) (ds := x2.map eI) (i := 1) (σ' := fun p8 => [some a0, some (.ref p8), none, none, none, none, none, none, none, none, none, none, none, none]) hS0 (c_callX (A := A_pool) (B := B_pool) (C := C_pool) (x := (script_1, (0 : Int))) (y := x2) (cs2 := (cs)) (cc := []) (cs' := (cs)) (r_d (d_var rfl ha0) (r_d d_int r_nil)) sb_rfl k3 (fun _ => sb_rfl)) (fun _ => rfl) (fun p8 us9 F4 H5 g6 hS7 hu10 => ?_)
  obtain rfl := Dts.ints hu10
  obtain ⟨⟨x11, pool_here_13⟩, k12, m⟩ := bnd m; (try dsimp only at m)
  refine s_set (K := K) (d := (eT2 (eL eI) eI) x11) (i := 2) (σ' := fun v18 => [some a0, some (.ref p8), some v18, none, none, none, none, none, none, none, none, none, none, none]) hS7 (d_callX (A := A_aisle) (B := B_aisle) (C := C_aisle) (x := (x2, (15 : Int), (1000 : Int))) (y := (x11, pool_here_13)) (cs2 := ((p8, HO.lst (pool_here_13.map V.int)) :: cs)) (cc := [(p8, HO.lst (x2.map V.int))]) (cs' := (cs)) (r_c rfl (r_d d_int (r_d d_int r_nil))) sb_rfl k12 sb_rfl) (fun _ => rfl) (fun v18 F14 H15 g16 hS17 hv19 => ?_)
  obtain ⟨last_24, k25, m⟩ := lt m
  refine s_setV (K := K) (d := eI last_24) (i := 3) (σ' := [some a0, some (.ref p8), some v18, some (.int last_24), none, none, none, none, none, none, none, none, none, none]) (fun _ _ h => Dt.toInt h) hS17 (d_is (d_len (e := eI) (a_cons (d_ixT (d_var rfl hv19) d_int rfl) a_nil)) (congrArg eI k25)) rfl (fun F20 H21 g22 hS23 => ?_)
  obtain ⟨⟨x26, pool_here_28⟩, k27, m⟩ := bnd m; (try dsimp only at m)
  refine s_setV (K := K) (d := eI x26) (i := 4) (σ' := [some a0, some (.ref p8), some v18, some (.int last_24), some (.int x26), none, none, none, none, none, none, none, none, none]) (fun _ _ h => Dt.toInt h) hS23 (d_callX (A := A_take) (B := B_take) (C := C_take) (x := (pool_here_13, (9516 : Int))) (y := (x26, pool_here_28)) (cs2 := ((p8, HO.lst (pool_here_28.map V.int)) :: cs)) (cc := [(p8, HO.lst (pool_here_13.map V.int))]) (cs' := (cs)) (r_c rfl (r_d d_int r_nil)) sb_rfl k27 sb_rfl) rfl (fun F29 H30 g31 hS32 => ?_)
  obtain ⟨⟨x33, pool_here_35⟩, k34, m⟩ := bnd m; (try dsimp only at m)
  obtain ⟨⟨x36, pool_here_38⟩, k37, m⟩ := bnd m; (try dsimp only at m)
  refine s_set (K := K) (d := (eL (eT4 eS eI eI eI)) x36) (i := 5) (σ' := fun v43 => [some a0, some (.ref p8), some v18, some (.int last_24), some (.int x26), some v43, none, none, none, none, none, none, none, none]) hS32 (EvC.dd (c_callX (A := A_orders) (B := B_orders) (C := C_orders) (x := (pool_here_35, last_24, x26, x33)) (y := (x36, pool_here_38)) (cs2 := ((p8, HO.lst (pool_here_38.map V.int)) :: cs)) (cc := [(p8, HO.lst (pool_here_35.map V.int))]) (cs' := (cs)) (r_c rfl (r_d (d_var rfl (.int _)) (r_d (d_var rfl (.int _)) (r_d (d_callX (A := A_take) (B := B_take) (C := C_take) (x := (pool_here_28, (61 : Int))) (y := (x33, pool_here_35)) (cs2 := ((p8, HO.lst (pool_here_35.map V.int)) :: cs)) (cc := [(p8, HO.lst (pool_here_28.map V.int))]) (cs' := (cs)) (r_c rfl (r_d d_int r_nil)) sb_rfl k34 sb_rfl) r_nil)))) sb_rfl k37 (fun _ => sb_rfl))) (fun _ => rfl) (fun v43 F39 H40 g41 hS42 hv44 => ?_)
  obtain ⟨kept_49, k50, m⟩ := lt m
  refine s_set (K := K) (d := (eL eD) kept_49) (i := 6) (σ' := fun v51 => [some a0, some (.ref p8), some v18, some (.int last_24), some (.int x26), some v43, some v51, none, none, none, none, none, none, none]) hS42 (d_is (d_lst (a_cons (d_tup (a_cons (d_listL (a_cons (d_ixT (d_var rfl (Dt.gr (Gr.tr g22 (Gr.tr g31 g41)) hv19)) d_int rfl) a_nil)) (a_cons (d_ixT (d_var rfl (Dt.gr (Gr.tr g22 (Gr.tr g31 g41)) hv19)) d_int rfl) a_nil)) (Nat.le_of_ble_eq_true rfl)) (a_cons (d_listL (a_cons (d_var rfl hv44) a_nil)) a_nil)) (Nat.le_of_ble_eq_true rfl)) (congrArg (eL eD) k50)) (fun _ => rfl) (fun v51 F45 H46 g47 hS48 hv52 => ?_)
  obtain ⟨x53, k54, m⟩ := bnd m
  obtain ⟨x68, k69, m⟩ := bnd m
  refine s_set (K := K) (d := (eL (eT4 eS eI eI eI)) x68) (i := 7) (σ' := fun v74 => [some a0, some (.ref p8), some v18, some (.int last_24), some (.int x26), some v43, some v51, some v74, none, none, none, none, none, none]) hS48 (EvC.dd (c_lcC (K := K) (f := (fun k_55 => (((f_name (k_55, x26))).bind fun x66 => some (some (x66, (1000000000 : Int), (0 : Int), last_24))))) (em := (eT4 eS eI eI eI)) (i_rng1 (a_cons d_int a_nil) k54) k69 (fun k_55 o62 v63 F56 p57 us58 g59 hv60 ho61 => by obtain rfl := Dt.toInt hv60; obtain ⟨x66, k67, ho61⟩ := bnd ho61; obtain rfl := sm ho61; exact ⟨[some a0, some (.ref p8), some v18, some (.int last_24), some (.int x26), some v43, some v51, none, none, none, some (.int k_55), none, none, none], fun H65 Q hS64 hq => (fun Q hq => hq) Q hq, rfl, t_yes, fun y hy => by obtain rfl := sm hy; exact (d_tup (a_cons (d_call (A := A_name) (B := eS) (x := (k_55, x26)) (a_cons (d_var rfl (.int _)) (a_cons (d_var rfl (.int _)) a_nil)) k67) (a_cons (d_is (e := PyData.int 1000000000) (d_powC d_int d_int ⟨by decide, by decide, by decide⟩) (congrArg PyData.int (by decide))) (a_cons d_int (a_cons (d_var rfl (.int _)) a_nil)))) (Nat.le_of_ble_eq_true rfl))⟩))) (fun _ => rfl) (fun v74 F70 H71 g72 hS73 hv75 => ?_)
  obtain ⟨x76, k77, m⟩ := bnd m
  obtain ⟨x78, k79, m⟩ := bnd m
  obtain ⟨x84, k85, m⟩ := bnd m
  refine s_if (b := x84) hS73 (t_orM (r := x84) (t_test (K := K) (d_nisN (dx_call (A := A_look_at_orders) (B := eN) (x := (x11, x36)) (a_cons (d_var rfl (Dt.gr (Gr.tr g22 (Gr.tr g31 (Gr.tr g41 (Gr.tr g47 g72)))) hv19)) (a_cons (d_var rfl (Dt.gr (Gr.tr g47 g72) hv44)) a_nil)) (k77.trans (congrArg some (okM_some k79)))))) (fun hc => by rw [if_neg (bf hc)] at k85; obtain ⟨x80, k81, k85⟩ := bnd k85; obtain ⟨x82, k83, k85⟩ := bnd k85; obtain rfl := sm k85; exact (t_test (K := K) (d_nisN (dx_call (A := A_look_at_orders) (B := eN) (x := (x11, x68)) (a_cons (d_var rfl (Dt.gr (Gr.tr g22 (Gr.tr g31 (Gr.tr g41 (Gr.tr g47 g72)))) hv19)) (a_cons (d_var rfl hv75) a_nil)) (k81.trans (congrArg some (okM_some k83))))))) (fun hc => by rw [if_pos hc] at k85; exact (sm k85).symm)) (fun hc F86 H87 g88 hS89 => ?_) (fun hc F97 H98 g99 hS100 => ?_)
  · rw [if_pos hc] at m
    have hS90 := Sta.frozeAt (l1 := []) hS89
    refine s_ret (K := K) (d := eB false) hS90 d_bl (fun v95 F91 H92 g93 hS94 hv96 => ?_)
    obtain rfl := sm m
    exact q _ _ _ (Gr.tr g6 (Gr.tr g16 (Gr.tr g22 (Gr.tr g31 (Gr.tr g41 (Gr.tr g47 (Gr.tr g72 (Gr.tr g88 (Gr.tr (Gr.new (Sta.freeAt (l1 := []) hS89)) g93))))))))) hS94 hv96
  · rw [if_neg (bf hc)] at m
    refine nxt ?_
    refine s_ifL ?_
    refine o_methN ?_
    refine o_make ?_
    refine o_cons ?_
    refine o_d (K := K) (d := (eT2 (eL eI) eI) x11) hS100 (d_var rfl (Dt.gr (Gr.tr g22 (Gr.tr g31 (Gr.tr g41 (Gr.tr g47 (Gr.tr g72 g99))))) hv19)) (fun v105 F101 H102 g103 hS104 hv106 => ?_)
    refine o_cons ?_
    refine o_d (K := K) (d := (eL (eT4 eS eI eI eI)) x68) hS104 (d_var rfl (Dt.gr (Gr.tr g99 g103) hv75)) (fun v111 F107 H108 g109 hS110 hv112 => ?_)
    refine o_nil ?_
    obtain ⟨r113, k114, m⟩ := bnd m
    intro a115 dx116 h117 h118 h119
    refine ⟨_, _, _, _, _, (x11, x68), r113, rfl, (Dts.cons (Dt.gr g109 hv106) (Dts.cons hv112 Dts.nil)), Sta.make hS110 h117 h118 h119, k114, fun c120 F121 H122 g123 hS124 ho125 => ⟨rfl, ?_⟩⟩
    obtain ⟨dx126, p127, p128, us129, p131, us132, p134, us135, p137, us138, rfl, hu130, hu133, hu136, hu139⟩ := ho125
    have hS140 : Sta F121 ((a115, .ins (He.ga K "Sweep") dx126 [("gaps", (.ref p127)), ("most", (.int r113.2.1)), ("coming", (.ref p128)), ("waiting", (.ref p131)), ("riding", (.ref p134)), ("arrived", (.ref p137)), ("tick", (.int r113.2.2.2.2.2.2.1)), ("bay", (.int r113.2.2.2.2.2.2.2.1)), ("step", (.int r113.2.2.2.2.2.2.2.2.1)), ("ahead", (.int r113.2.2.2.2.2.2.2.2.2))]) :: (dx126, .own a115) :: (p127, .lst (r113.1.map V.int)) :: (p128, .lst us129) :: (p131, .lst us132) :: (p134, .lst us135) :: (p137, .lst us138) :: (p8, .lst (pool_here_38.map V.int)) :: cs) H122 := hS124
    refine o_methN2 (l1 := []) hS140 rfl ?_
    refine o_nil ?_
    have hS141 := Sta.perm hS140 (List.Perm.trans (List.perm_middle (l₁ := [(a115, HO.ins (He.ga K "Sweep") dx126 [("gaps", (.ref p127)), ("most", (.int r113.2.1)), ("coming", (.ref p128)), ("waiting", (.ref p131)), ("riding", (.ref p134)), ("arrived", (.ref p137)), ("tick", (.int r113.2.2.2.2.2.2.1)), ("bay", (.int r113.2.2.2.2.2.2.2.1)), ("step", (.int r113.2.2.2.2.2.2.2.2.1)), ("ahead", (.int r113.2.2.2.2.2.2.2.2.2))]), (dx126, HO.own a115), (p127, HO.lst (r113.1.map V.int)), (p128, HO.lst us129), (p131, HO.lst us132), (p134, HO.lst us135)])) (List.Perm.trans (List.perm_middle (l₁ := [(p137, HO.lst us138), (a115, HO.ins (He.ga K "Sweep") dx126 [("gaps", (.ref p127)), ("most", (.int r113.2.1)), ("coming", (.ref p128)), ("waiting", (.ref p131)), ("riding", (.ref p134)), ("arrived", (.ref p137)), ("tick", (.int r113.2.2.2.2.2.2.1)), ("bay", (.int r113.2.2.2.2.2.2.2.1)), ("step", (.int r113.2.2.2.2.2.2.2.2.1)), ("ahead", (.int r113.2.2.2.2.2.2.2.2.2))]), (dx126, HO.own a115), (p127, HO.lst (r113.1.map V.int)), (p128, HO.lst us129), (p131, HO.lst us132)])) (List.Perm.trans (List.perm_middle (l₁ := [(p134, HO.lst us135), (p137, HO.lst us138), (a115, HO.ins (He.ga K "Sweep") dx126 [("gaps", (.ref p127)), ("most", (.int r113.2.1)), ("coming", (.ref p128)), ("waiting", (.ref p131)), ("riding", (.ref p134)), ("arrived", (.ref p137)), ("tick", (.int r113.2.2.2.2.2.2.1)), ("bay", (.int r113.2.2.2.2.2.2.2.1)), ("step", (.int r113.2.2.2.2.2.2.2.2.1)), ("ahead", (.int r113.2.2.2.2.2.2.2.2.2))]), (dx126, HO.own a115), (p127, HO.lst (r113.1.map V.int)), (p128, HO.lst us129)])) (List.Perm.trans (List.perm_middle (l₁ := [(p131, HO.lst us132), (p134, HO.lst us135), (p137, HO.lst us138), (a115, HO.ins (He.ga K "Sweep") dx126 [("gaps", (.ref p127)), ("most", (.int r113.2.1)), ("coming", (.ref p128)), ("waiting", (.ref p131)), ("riding", (.ref p134)), ("arrived", (.ref p137)), ("tick", (.int r113.2.2.2.2.2.2.1)), ("bay", (.int r113.2.2.2.2.2.2.2.1)), ("step", (.int r113.2.2.2.2.2.2.2.2.1)), ("ahead", (.int r113.2.2.2.2.2.2.2.2.2))]), (dx126, HO.own a115), (p127, HO.lst (r113.1.map V.int))])) (List.Perm.trans (List.perm_middle (l₁ := [(p128, HO.lst us129), (p131, HO.lst us132), (p134, HO.lst us135), (p137, HO.lst us138), (a115, HO.ins (He.ga K "Sweep") dx126 [("gaps", (.ref p127)), ("most", (.int r113.2.1)), ("coming", (.ref p128)), ("waiting", (.ref p131)), ("riding", (.ref p134)), ("arrived", (.ref p137)), ("tick", (.int r113.2.2.2.2.2.2.1)), ("bay", (.int r113.2.2.2.2.2.2.2.1)), ("step", (.int r113.2.2.2.2.2.2.2.2.1)), ("ahead", (.int r113.2.2.2.2.2.2.2.2.2))]), (dx126, HO.own a115)])) (List.Perm.trans (List.perm_middle (l₁ := [(p127, HO.lst (r113.1.map V.int)), (p128, HO.lst us129), (p131, HO.lst us132), (p134, HO.lst us135), (p137, HO.lst us138), (a115, HO.ins (He.ga K "Sweep") dx126 [("gaps", (.ref p127)), ("most", (.int r113.2.1)), ("coming", (.ref p128)), ("waiting", (.ref p131)), ("riding", (.ref p134)), ("arrived", (.ref p137)), ("tick", (.int r113.2.2.2.2.2.2.1)), ("bay", (.int r113.2.2.2.2.2.2.2.1)), ("step", (.int r113.2.2.2.2.2.2.2.2.1)), ("ahead", (.int r113.2.2.2.2.2.2.2.2.2))])])) (List.perm_middle (l₁ := [(dx126, HO.own a115), (p127, HO.lst (r113.1.map V.int)), (p128, HO.lst us129), (p131, HO.lst us132), (p134, HO.lst us135), (p137, HO.lst us138)]))))))))
    obtain ⟨r142, k143, m⟩ := bnd m
    refine ⟨_, _, ((p8, HO.lst (pool_here_38.map V.int)) :: cs), r113, r142, (ArgG.o (c := [(a115, HO.ins (He.ga K "Sweep") dx126 [("gaps", (.ref p127)), ("most", (.int r113.2.1)), ("coming", (.ref p128)), ("waiting", (.ref p131)), ("riding", (.ref p134)), ("arrived", (.ref p137)), ("tick", (.int r113.2.2.2.2.2.2.1)), ("bay", (.int r113.2.2.2.2.2.2.2.1)), ("step", (.int r113.2.2.2.2.2.2.2.2.1)), ("ahead", (.int r113.2.2.2.2.2.2.2.2.2))]), (dx126, HO.own a115), (p127, HO.lst (r113.1.map V.int)), (p128, HO.lst us129), (p131, HO.lst us132), (p134, HO.lst us135), (p137, HO.lst us138)]) ⟨_, rfl, ⟨_, _, _, _, _, _, _, _, _, _, rfl, hu130, hu133, hu136, hu139⟩⟩ ArgG.nil), hS141, k143, fun v144 c145 F146 H147 g148 hS149 r150 => ?_⟩
    obtain ⟨c151, c152, rfl, h153, h154⟩ := r150
    obtain ⟨rfl, hv155⟩ := h153
    obtain ⟨dx156, p157, p158, us159, p161, us162, p164, us165, p167, us168, rfl, hu160, hu163, hu166, hu169⟩ := h154
    have hS170 : Sta F146 ((a115, .ins (He.ga K "Sweep") dx156 [("gaps", (.ref p157)), ("most", (.int r142.2.2.1)), ("coming", (.ref p158)), ("waiting", (.ref p161)), ("riding", (.ref p164)), ("arrived", (.ref p167)), ("tick", (.int r142.2.2.2.2.2.2.2.1)), ("bay", (.int r142.2.2.2.2.2.2.2.2.1)), ("step", (.int r142.2.2.2.2.2.2.2.2.2.1)), ("ahead", (.int r142.2.2.2.2.2.2.2.2.2.2))]) :: (dx156, .own a115) :: (p157, .lst (r142.2.1.map V.int)) :: (p158, .lst us159) :: (p161, .lst us162) :: (p164, .lst us165) :: (p167, .lst us168) :: (p8, .lst (pool_here_38.map V.int)) :: cs) H147 := hS149
    have hS171 := Sta.perm hS170 (List.Perm.trans (List.perm_middle (l₁ := [(a115, HO.ins (He.ga K "Sweep") dx156 [("gaps", (.ref p157)), ("most", (.int r142.2.2.1)), ("coming", (.ref p158)), ("waiting", (.ref p161)), ("riding", (.ref p164)), ("arrived", (.ref p167)), ("tick", (.int r142.2.2.2.2.2.2.2.1)), ("bay", (.int r142.2.2.2.2.2.2.2.2.1)), ("step", (.int r142.2.2.2.2.2.2.2.2.2.1)), ("ahead", (.int r142.2.2.2.2.2.2.2.2.2.2))]), (dx156, HO.own a115), (p157, HO.lst (r142.2.1.map V.int)), (p158, HO.lst us159), (p161, HO.lst us162), (p164, HO.lst us165), (p167, HO.lst us168)])) (List.Perm.trans (List.perm_middle (l₁ := [(p8, HO.lst (pool_here_38.map V.int)), (a115, HO.ins (He.ga K "Sweep") dx156 [("gaps", (.ref p157)), ("most", (.int r142.2.2.1)), ("coming", (.ref p158)), ("waiting", (.ref p161)), ("riding", (.ref p164)), ("arrived", (.ref p167)), ("tick", (.int r142.2.2.2.2.2.2.2.1)), ("bay", (.int r142.2.2.2.2.2.2.2.2.1)), ("step", (.int r142.2.2.2.2.2.2.2.2.2.1)), ("ahead", (.int r142.2.2.2.2.2.2.2.2.2.2))]), (dx156, HO.own a115), (p157, HO.lst (r142.2.1.map V.int)), (p158, HO.lst us159), (p161, HO.lst us162), (p164, HO.lst us165)])) (List.Perm.trans (List.perm_middle (l₁ := [(p167, HO.lst us168), (p8, HO.lst (pool_here_38.map V.int)), (a115, HO.ins (He.ga K "Sweep") dx156 [("gaps", (.ref p157)), ("most", (.int r142.2.2.1)), ("coming", (.ref p158)), ("waiting", (.ref p161)), ("riding", (.ref p164)), ("arrived", (.ref p167)), ("tick", (.int r142.2.2.2.2.2.2.2.1)), ("bay", (.int r142.2.2.2.2.2.2.2.2.1)), ("step", (.int r142.2.2.2.2.2.2.2.2.2.1)), ("ahead", (.int r142.2.2.2.2.2.2.2.2.2.2))]), (dx156, HO.own a115), (p157, HO.lst (r142.2.1.map V.int)), (p158, HO.lst us159), (p161, HO.lst us162)])) (List.Perm.trans (List.perm_middle (l₁ := [(p164, HO.lst us165), (p167, HO.lst us168), (p8, HO.lst (pool_here_38.map V.int)), (a115, HO.ins (He.ga K "Sweep") dx156 [("gaps", (.ref p157)), ("most", (.int r142.2.2.1)), ("coming", (.ref p158)), ("waiting", (.ref p161)), ("riding", (.ref p164)), ("arrived", (.ref p167)), ("tick", (.int r142.2.2.2.2.2.2.2.1)), ("bay", (.int r142.2.2.2.2.2.2.2.2.1)), ("step", (.int r142.2.2.2.2.2.2.2.2.2.1)), ("ahead", (.int r142.2.2.2.2.2.2.2.2.2.2))]), (dx156, HO.own a115), (p157, HO.lst (r142.2.1.map V.int)), (p158, HO.lst us159)])) (List.Perm.trans (List.perm_middle (l₁ := [(p161, HO.lst us162), (p164, HO.lst us165), (p167, HO.lst us168), (p8, HO.lst (pool_here_38.map V.int)), (a115, HO.ins (He.ga K "Sweep") dx156 [("gaps", (.ref p157)), ("most", (.int r142.2.2.1)), ("coming", (.ref p158)), ("waiting", (.ref p161)), ("riding", (.ref p164)), ("arrived", (.ref p167)), ("tick", (.int r142.2.2.2.2.2.2.2.1)), ("bay", (.int r142.2.2.2.2.2.2.2.2.1)), ("step", (.int r142.2.2.2.2.2.2.2.2.2.1)), ("ahead", (.int r142.2.2.2.2.2.2.2.2.2.2))]), (dx156, HO.own a115), (p157, HO.lst (r142.2.1.map V.int))])) (List.Perm.trans (List.perm_middle (l₁ := [(p158, HO.lst us159), (p161, HO.lst us162), (p164, HO.lst us165), (p167, HO.lst us168), (p8, HO.lst (pool_here_38.map V.int)), (a115, HO.ins (He.ga K "Sweep") dx156 [("gaps", (.ref p157)), ("most", (.int r142.2.2.1)), ("coming", (.ref p158)), ("waiting", (.ref p161)), ("riding", (.ref p164)), ("arrived", (.ref p167)), ("tick", (.int r142.2.2.2.2.2.2.2.1)), ("bay", (.int r142.2.2.2.2.2.2.2.2.1)), ("step", (.int r142.2.2.2.2.2.2.2.2.2.1)), ("ahead", (.int r142.2.2.2.2.2.2.2.2.2.2))]), (dx156, HO.own a115)])) (List.Perm.trans (List.perm_middle (l₁ := [(p157, HO.lst (r142.2.1.map V.int)), (p158, HO.lst us159), (p161, HO.lst us162), (p164, HO.lst us165), (p167, HO.lst us168), (p8, HO.lst (pool_here_38.map V.int)), (a115, HO.ins (He.ga K "Sweep") dx156 [("gaps", (.ref p157)), ("most", (.int r142.2.2.1)), ("coming", (.ref p158)), ("waiting", (.ref p161)), ("riding", (.ref p164)), ("arrived", (.ref p167)), ("tick", (.int r142.2.2.2.2.2.2.2.1)), ("bay", (.int r142.2.2.2.2.2.2.2.2.1)), ("step", (.int r142.2.2.2.2.2.2.2.2.2.1)), ("ahead", (.int r142.2.2.2.2.2.2.2.2.2.2))])])) (List.perm_middle (l₁ := [(dx156, HO.own a115), (p157, HO.lst (r142.2.1.map V.int)), (p158, HO.lst us159), (p161, HO.lst us162), (p164, HO.lst us165), (p167, HO.lst us168), (p8, HO.lst (pool_here_38.map V.int))])))))))))
    have hS172 := sb_drop _ _ hS171
    have hS173 := sb_drop _ _ hS172
    have hS174 := sb_drop _ _ hS173
    have hS175 := sb_drop _ _ hS174
    have hS176 := sb_drop _ _ hS175
    have hS177 := sb_drop _ _ hS176
    have hS178 := sb_drop _ _ hS177
    obtain ⟨x179, k180, m⟩ := bnd m
    refine s_if (b := (!x179)) hS178 (t_test (K := K) (d_neTM (EqE.t4 eqE_I eqE_OI (EqE.l eqE_S) (EqE.l eqE_S)) (d_vp vp_con hv155) (d_tup (a_cons d_int (a_cons d_int (a_cons (d_lst a_nil (Nat.le_of_ble_eq_true rfl)) (a_cons (d_lst a_nil (Nat.le_of_ble_eq_true rfl)) a_nil)))) (Nat.le_of_ble_eq_true rfl)) k180)) (fun hc F181 H182 g183 hS184 => ?_) (fun hc F192 H193 g194 hS195 => ?_)
    · rw [if_pos hc] at m
      have hS185 := Sta.frozeAt (l1 := []) hS184
      refine s_ret (K := K) (d := eB false) hS185 d_bl (fun v190 F186 H187 g188 hS189 hv191 => ?_)
      obtain rfl := sm m
      exact q _ _ _ (Gr.tr g6 (Gr.tr g16 (Gr.tr g22 (Gr.tr g31 (Gr.tr g41 (Gr.tr g47 (Gr.tr g72 (Gr.tr g99 (Gr.tr g103 (Gr.tr g109 (Gr.tr g123 (Gr.tr g148 (Gr.tr g183 (Gr.tr (Gr.new (Sta.freeAt (l1 := []) hS184)) g188)))))))))))))) hS189 hv191
    · rw [if_neg (bf hc)] at m
      refine nxt ?_
      refine o_asg ?_
      refine o_methN ?_
      refine o_make ?_
      refine o_cons ?_
      refine o_d (K := K) (d := (eT2 (eL eI) eI) x11) hS195 (d_var rfl (Dt.gr (Gr.tr g22 (Gr.tr g31 (Gr.tr g41 (Gr.tr g47 (Gr.tr g72 (Gr.tr g99 (Gr.tr g103 (Gr.tr g109 (Gr.tr g123 (Gr.tr g148 g194)))))))))) hv19)) (fun v200 F196 H197 g198 hS199 hv201 => ?_)
      refine o_cons ?_
      refine o_d (K := K) (d := (eL (eT4 eS eI eI eI)) x36) hS199 (d_var rfl (Dt.gr (Gr.tr g47 (Gr.tr g72 (Gr.tr g99 (Gr.tr g103 (Gr.tr g109 (Gr.tr g123 (Gr.tr g148 (Gr.tr g194 g198)))))))) hv44)) (fun v206 F202 H203 g204 hS205 hv207 => ?_)
      refine o_nil ?_
      obtain ⟨r208, k209, m⟩ := bnd m
      intro a210 dx211 h212 h213 h214
      refine ⟨_, _, _, _, _, (x11, x36), r208, rfl, (Dts.cons (Dt.gr g204 hv201) (Dts.cons hv207 Dts.nil)), Sta.make hS205 h212 h213 h214, k209, fun c215 F216 H217 g218 hS219 ho220 => ⟨rfl, ?_⟩⟩
      obtain ⟨dx221, p222, p223, us224, p226, us227, p229, us230, p232, us233, rfl, hu225, hu228, hu231, hu234⟩ := ho220
      have hS235 : Sta F216 ((a210, .ins (He.ga K "Sweep") dx221 [("gaps", (.ref p222)), ("most", (.int r208.2.1)), ("coming", (.ref p223)), ("waiting", (.ref p226)), ("riding", (.ref p229)), ("arrived", (.ref p232)), ("tick", (.int r208.2.2.2.2.2.2.1)), ("bay", (.int r208.2.2.2.2.2.2.2.1)), ("step", (.int r208.2.2.2.2.2.2.2.2.1)), ("ahead", (.int r208.2.2.2.2.2.2.2.2.2))]) :: (dx221, .own a210) :: (p222, .lst (r208.1.map V.int)) :: (p223, .lst us224) :: (p226, .lst us227) :: (p229, .lst us230) :: (p232, .lst us233) :: (p8, .lst (pool_here_38.map V.int)) :: cs) H217 := hS219
      refine o_methN2 (l1 := []) hS235 rfl ?_
      refine o_nil ?_
      have hS236 := Sta.perm hS235 (List.Perm.trans (List.perm_middle (l₁ := [(a210, HO.ins (He.ga K "Sweep") dx221 [("gaps", (.ref p222)), ("most", (.int r208.2.1)), ("coming", (.ref p223)), ("waiting", (.ref p226)), ("riding", (.ref p229)), ("arrived", (.ref p232)), ("tick", (.int r208.2.2.2.2.2.2.1)), ("bay", (.int r208.2.2.2.2.2.2.2.1)), ("step", (.int r208.2.2.2.2.2.2.2.2.1)), ("ahead", (.int r208.2.2.2.2.2.2.2.2.2))]), (dx221, HO.own a210), (p222, HO.lst (r208.1.map V.int)), (p223, HO.lst us224), (p226, HO.lst us227), (p229, HO.lst us230)])) (List.Perm.trans (List.perm_middle (l₁ := [(p232, HO.lst us233), (a210, HO.ins (He.ga K "Sweep") dx221 [("gaps", (.ref p222)), ("most", (.int r208.2.1)), ("coming", (.ref p223)), ("waiting", (.ref p226)), ("riding", (.ref p229)), ("arrived", (.ref p232)), ("tick", (.int r208.2.2.2.2.2.2.1)), ("bay", (.int r208.2.2.2.2.2.2.2.1)), ("step", (.int r208.2.2.2.2.2.2.2.2.1)), ("ahead", (.int r208.2.2.2.2.2.2.2.2.2))]), (dx221, HO.own a210), (p222, HO.lst (r208.1.map V.int)), (p223, HO.lst us224), (p226, HO.lst us227)])) (List.Perm.trans (List.perm_middle (l₁ := [(p229, HO.lst us230), (p232, HO.lst us233), (a210, HO.ins (He.ga K "Sweep") dx221 [("gaps", (.ref p222)), ("most", (.int r208.2.1)), ("coming", (.ref p223)), ("waiting", (.ref p226)), ("riding", (.ref p229)), ("arrived", (.ref p232)), ("tick", (.int r208.2.2.2.2.2.2.1)), ("bay", (.int r208.2.2.2.2.2.2.2.1)), ("step", (.int r208.2.2.2.2.2.2.2.2.1)), ("ahead", (.int r208.2.2.2.2.2.2.2.2.2))]), (dx221, HO.own a210), (p222, HO.lst (r208.1.map V.int)), (p223, HO.lst us224)])) (List.Perm.trans (List.perm_middle (l₁ := [(p226, HO.lst us227), (p229, HO.lst us230), (p232, HO.lst us233), (a210, HO.ins (He.ga K "Sweep") dx221 [("gaps", (.ref p222)), ("most", (.int r208.2.1)), ("coming", (.ref p223)), ("waiting", (.ref p226)), ("riding", (.ref p229)), ("arrived", (.ref p232)), ("tick", (.int r208.2.2.2.2.2.2.1)), ("bay", (.int r208.2.2.2.2.2.2.2.1)), ("step", (.int r208.2.2.2.2.2.2.2.2.1)), ("ahead", (.int r208.2.2.2.2.2.2.2.2.2))]), (dx221, HO.own a210), (p222, HO.lst (r208.1.map V.int))])) (List.Perm.trans (List.perm_middle (l₁ := [(p223, HO.lst us224), (p226, HO.lst us227), (p229, HO.lst us230), (p232, HO.lst us233), (a210, HO.ins (He.ga K "Sweep") dx221 [("gaps", (.ref p222)), ("most", (.int r208.2.1)), ("coming", (.ref p223)), ("waiting", (.ref p226)), ("riding", (.ref p229)), ("arrived", (.ref p232)), ("tick", (.int r208.2.2.2.2.2.2.1)), ("bay", (.int r208.2.2.2.2.2.2.2.1)), ("step", (.int r208.2.2.2.2.2.2.2.2.1)), ("ahead", (.int r208.2.2.2.2.2.2.2.2.2))]), (dx221, HO.own a210)])) (List.Perm.trans (List.perm_middle (l₁ := [(p222, HO.lst (r208.1.map V.int)), (p223, HO.lst us224), (p226, HO.lst us227), (p229, HO.lst us230), (p232, HO.lst us233), (a210, HO.ins (He.ga K "Sweep") dx221 [("gaps", (.ref p222)), ("most", (.int r208.2.1)), ("coming", (.ref p223)), ("waiting", (.ref p226)), ("riding", (.ref p229)), ("arrived", (.ref p232)), ("tick", (.int r208.2.2.2.2.2.2.1)), ("bay", (.int r208.2.2.2.2.2.2.2.1)), ("step", (.int r208.2.2.2.2.2.2.2.2.1)), ("ahead", (.int r208.2.2.2.2.2.2.2.2.2))])])) (List.perm_middle (l₁ := [(dx221, HO.own a210), (p222, HO.lst (r208.1.map V.int)), (p223, HO.lst us224), (p226, HO.lst us227), (p229, HO.lst us230), (p232, HO.lst us233)]))))))))
      obtain ⟨r237, k238, m⟩ := bnd m
      refine ⟨_, _, ((p8, HO.lst (pool_here_38.map V.int)) :: cs), r208, r237, (ArgG.o (c := [(a210, HO.ins (He.ga K "Sweep") dx221 [("gaps", (.ref p222)), ("most", (.int r208.2.1)), ("coming", (.ref p223)), ("waiting", (.ref p226)), ("riding", (.ref p229)), ("arrived", (.ref p232)), ("tick", (.int r208.2.2.2.2.2.2.1)), ("bay", (.int r208.2.2.2.2.2.2.2.1)), ("step", (.int r208.2.2.2.2.2.2.2.2.1)), ("ahead", (.int r208.2.2.2.2.2.2.2.2.2))]), (dx221, HO.own a210), (p222, HO.lst (r208.1.map V.int)), (p223, HO.lst us224), (p226, HO.lst us227), (p229, HO.lst us230), (p232, HO.lst us233)]) ⟨_, rfl, ⟨_, _, _, _, _, _, _, _, _, _, rfl, hu225, hu228, hu231, hu234⟩⟩ ArgG.nil), hS236, k238, fun v239 c240 F241 H242 g243 hS244 r245 => ?_⟩
      obtain ⟨c246, c247, rfl, h248, h249⟩ := r245
      obtain ⟨rfl, hv250⟩ := h248
      obtain ⟨dx251, p252, p253, us254, p256, us257, p259, us260, p262, us263, rfl, hu255, hu258, hu261, hu264⟩ := h249
      have hS265 : Sta F241 ((a210, .ins (He.ga K "Sweep") dx251 [("gaps", (.ref p252)), ("most", (.int r237.2.2.1)), ("coming", (.ref p253)), ("waiting", (.ref p256)), ("riding", (.ref p259)), ("arrived", (.ref p262)), ("tick", (.int r237.2.2.2.2.2.2.2.1)), ("bay", (.int r237.2.2.2.2.2.2.2.2.1)), ("step", (.int r237.2.2.2.2.2.2.2.2.2.1)), ("ahead", (.int r237.2.2.2.2.2.2.2.2.2.2))]) :: (dx251, .own a210) :: (p252, .lst (r237.2.1.map V.int)) :: (p253, .lst us254) :: (p256, .lst us257) :: (p259, .lst us260) :: (p262, .lst us263) :: (p8, .lst (pool_here_38.map V.int)) :: cs) H242 := hS244
      have hS266 := Sta.perm hS265 (List.Perm.trans (List.perm_middle (l₁ := [(a210, HO.ins (He.ga K "Sweep") dx251 [("gaps", (.ref p252)), ("most", (.int r237.2.2.1)), ("coming", (.ref p253)), ("waiting", (.ref p256)), ("riding", (.ref p259)), ("arrived", (.ref p262)), ("tick", (.int r237.2.2.2.2.2.2.2.1)), ("bay", (.int r237.2.2.2.2.2.2.2.2.1)), ("step", (.int r237.2.2.2.2.2.2.2.2.2.1)), ("ahead", (.int r237.2.2.2.2.2.2.2.2.2.2))]), (dx251, HO.own a210), (p252, HO.lst (r237.2.1.map V.int)), (p253, HO.lst us254), (p256, HO.lst us257), (p259, HO.lst us260), (p262, HO.lst us263)])) (List.Perm.trans (List.perm_middle (l₁ := [(p8, HO.lst (pool_here_38.map V.int)), (a210, HO.ins (He.ga K "Sweep") dx251 [("gaps", (.ref p252)), ("most", (.int r237.2.2.1)), ("coming", (.ref p253)), ("waiting", (.ref p256)), ("riding", (.ref p259)), ("arrived", (.ref p262)), ("tick", (.int r237.2.2.2.2.2.2.2.1)), ("bay", (.int r237.2.2.2.2.2.2.2.2.1)), ("step", (.int r237.2.2.2.2.2.2.2.2.2.1)), ("ahead", (.int r237.2.2.2.2.2.2.2.2.2.2))]), (dx251, HO.own a210), (p252, HO.lst (r237.2.1.map V.int)), (p253, HO.lst us254), (p256, HO.lst us257), (p259, HO.lst us260)])) (List.Perm.trans (List.perm_middle (l₁ := [(p262, HO.lst us263), (p8, HO.lst (pool_here_38.map V.int)), (a210, HO.ins (He.ga K "Sweep") dx251 [("gaps", (.ref p252)), ("most", (.int r237.2.2.1)), ("coming", (.ref p253)), ("waiting", (.ref p256)), ("riding", (.ref p259)), ("arrived", (.ref p262)), ("tick", (.int r237.2.2.2.2.2.2.2.1)), ("bay", (.int r237.2.2.2.2.2.2.2.2.1)), ("step", (.int r237.2.2.2.2.2.2.2.2.2.1)), ("ahead", (.int r237.2.2.2.2.2.2.2.2.2.2))]), (dx251, HO.own a210), (p252, HO.lst (r237.2.1.map V.int)), (p253, HO.lst us254), (p256, HO.lst us257)])) (List.Perm.trans (List.perm_middle (l₁ := [(p259, HO.lst us260), (p262, HO.lst us263), (p8, HO.lst (pool_here_38.map V.int)), (a210, HO.ins (He.ga K "Sweep") dx251 [("gaps", (.ref p252)), ("most", (.int r237.2.2.1)), ("coming", (.ref p253)), ("waiting", (.ref p256)), ("riding", (.ref p259)), ("arrived", (.ref p262)), ("tick", (.int r237.2.2.2.2.2.2.2.1)), ("bay", (.int r237.2.2.2.2.2.2.2.2.1)), ("step", (.int r237.2.2.2.2.2.2.2.2.2.1)), ("ahead", (.int r237.2.2.2.2.2.2.2.2.2.2))]), (dx251, HO.own a210), (p252, HO.lst (r237.2.1.map V.int)), (p253, HO.lst us254)])) (List.Perm.trans (List.perm_middle (l₁ := [(p256, HO.lst us257), (p259, HO.lst us260), (p262, HO.lst us263), (p8, HO.lst (pool_here_38.map V.int)), (a210, HO.ins (He.ga K "Sweep") dx251 [("gaps", (.ref p252)), ("most", (.int r237.2.2.1)), ("coming", (.ref p253)), ("waiting", (.ref p256)), ("riding", (.ref p259)), ("arrived", (.ref p262)), ("tick", (.int r237.2.2.2.2.2.2.2.1)), ("bay", (.int r237.2.2.2.2.2.2.2.2.1)), ("step", (.int r237.2.2.2.2.2.2.2.2.2.1)), ("ahead", (.int r237.2.2.2.2.2.2.2.2.2.2))]), (dx251, HO.own a210), (p252, HO.lst (r237.2.1.map V.int))])) (List.Perm.trans (List.perm_middle (l₁ := [(p253, HO.lst us254), (p256, HO.lst us257), (p259, HO.lst us260), (p262, HO.lst us263), (p8, HO.lst (pool_here_38.map V.int)), (a210, HO.ins (He.ga K "Sweep") dx251 [("gaps", (.ref p252)), ("most", (.int r237.2.2.1)), ("coming", (.ref p253)), ("waiting", (.ref p256)), ("riding", (.ref p259)), ("arrived", (.ref p262)), ("tick", (.int r237.2.2.2.2.2.2.2.1)), ("bay", (.int r237.2.2.2.2.2.2.2.2.1)), ("step", (.int r237.2.2.2.2.2.2.2.2.2.1)), ("ahead", (.int r237.2.2.2.2.2.2.2.2.2.2))]), (dx251, HO.own a210)])) (List.Perm.trans (List.perm_middle (l₁ := [(p252, HO.lst (r237.2.1.map V.int)), (p253, HO.lst us254), (p256, HO.lst us257), (p259, HO.lst us260), (p262, HO.lst us263), (p8, HO.lst (pool_here_38.map V.int)), (a210, HO.ins (He.ga K "Sweep") dx251 [("gaps", (.ref p252)), ("most", (.int r237.2.2.1)), ("coming", (.ref p253)), ("waiting", (.ref p256)), ("riding", (.ref p259)), ("arrived", (.ref p262)), ("tick", (.int r237.2.2.2.2.2.2.2.1)), ("bay", (.int r237.2.2.2.2.2.2.2.2.1)), ("step", (.int r237.2.2.2.2.2.2.2.2.2.1)), ("ahead", (.int r237.2.2.2.2.2.2.2.2.2.2))])])) (List.perm_middle (l₁ := [(dx251, HO.own a210), (p252, HO.lst (r237.2.1.map V.int)), (p253, HO.lst us254), (p256, HO.lst us257), (p259, HO.lst us260), (p262, HO.lst us263), (p8, HO.lst (pool_here_38.map V.int))])))))))))
      have hS267 := sb_drop _ _ hS266
      have hS268 := sb_drop _ _ hS267
      have hS269 := sb_drop _ _ hS268
      have hS270 := sb_drop _ _ hS269
      have hS271 := sb_drop _ _ hS270
      have hS272 := sb_drop _ _ hS271
      have hS273 := sb_drop _ _ hS272
      refine o_name (σ' := [some a0, some (.ref p8), some v18, some (.int last_24), some (.int x26), some v43, some v51, some v74, some v239, none, none, none, none, none]) rfl ?_
      obtain ⟨x278, k279, m⟩ := bnd m
      refine s_if (b := x278) hS273 (t_orM (r := x278) (t_not (t_B (K := K) (d_is (e := PyData.bool true) (d_isiD (c := "tuple") (by decide) (d_var rfl hv250)) (congrArg PyData.bool (by rfl))))) (fun hc => by rw [if_neg (bf hc)] at k279; obtain ⟨x276, k277, k279⟩ := bnd k279; obtain rfl := sm k279; exact (t_orM (r := x276) (t_test (K := K) (d_neT (e := (eT2 eI (eO eI))) (EqE.t2 eqE_I eqE_OI) (ShE.t2 sh_I sh_OI) (by decide) (d_is (d_slT (d_var rfl hv250) o_none (o_some (K := K) d_int)) rfl) (d_tup (a_cons d_int (a_cons d_int a_nil)) (Nat.le_of_ble_eq_true rfl)))) (fun hc => by rw [if_neg (bf hc)] at k277; obtain ⟨x274, k275, k277⟩ := bnd k277; obtain rfl := sm k277; exact (t_test (K := K) (d_neTM (EqE.l eqE_S) (d_ixT (d_var rfl hv250) d_int rfl) (d_lst a_nil (Nat.le_of_ble_eq_true rfl)) k275))) (fun hc => by rw [if_pos hc] at k277; exact (sm k277).symm))) (fun hc => by rw [if_pos hc] at k279; exact (sm k279).symm)) (fun hc F280 H281 g282 hS283 => ?_) (fun hc F291 H292 g293 hS294 => ?_)
      · rw [if_pos hc] at m
        have hS284 := Sta.frozeAt (l1 := []) hS283
        refine s_ret (K := K) (d := eB false) hS284 d_bl (fun v289 F285 H286 g287 hS288 hv290 => ?_)
        obtain rfl := sm m
        exact q _ _ _ (Gr.tr g6 (Gr.tr g16 (Gr.tr g22 (Gr.tr g31 (Gr.tr g41 (Gr.tr g47 (Gr.tr g72 (Gr.tr g99 (Gr.tr g103 (Gr.tr g109 (Gr.tr g123 (Gr.tr g148 (Gr.tr g194 (Gr.tr g198 (Gr.tr g204 (Gr.tr g218 (Gr.tr g243 (Gr.tr g282 (Gr.tr (Gr.new (Sta.freeAt (l1 := []) hS283)) g287))))))))))))))))))) hS288 hv290
      · rw [if_neg (bf hc)] at m
        refine nxt ?_
        obtain ⟨x295, k296, m⟩ := bnd m
        obtain ⟨no_aisles_301, k302, m⟩ := lt m
        refine s_set (K := K) (d := (eL eD) no_aisles_301) (i := 9) (σ' := fun v303 => [some a0, some (.ref p8), some v18, some (.int last_24), some (.int x26), some v43, some v51, some v74, some v239, some v303, none, none, none, none]) hS294 (d_is (d_lst (a_cons d_non (a_cons (EvC.dd (c_is (c_listT (a_cons (d_var rfl (Dt.gr (Gr.tr g22 (Gr.tr g31 (Gr.tr g41 (Gr.tr g47 (Gr.tr g72 (Gr.tr g99 (Gr.tr g103 (Gr.tr g109 (Gr.tr g123 (Gr.tr g148 (Gr.tr g194 (Gr.tr g198 (Gr.tr g204 (Gr.tr g218 (Gr.tr g243 g293))))))))))))))) hv19)) a_nil)) (show _ = (([(eL eI) x11.1, eI x11.2] : (List PyData)).map eD) from rfl))) (a_cons (d_tup (a_cons (d_ixT (d_var rfl (Dt.gr (Gr.tr g22 (Gr.tr g31 (Gr.tr g41 (Gr.tr g47 (Gr.tr g72 (Gr.tr g99 (Gr.tr g103 (Gr.tr g109 (Gr.tr g123 (Gr.tr g148 (Gr.tr g194 (Gr.tr g198 (Gr.tr g204 (Gr.tr g218 (Gr.tr g243 g293))))))))))))))) hv19)) d_int rfl) a_nil) (Nat.le_of_ble_eq_true rfl)) (a_cons (d_tup (a_cons (d_lst a_nil (Nat.le_of_ble_eq_true rfl)) (a_cons d_int a_nil)) (Nat.le_of_ble_eq_true rfl)) (a_cons (d_tup (a_cons (EvC.dd (c_cat (en := eI) (d_ixT (d_var rfl (Dt.gr (Gr.tr g22 (Gr.tr g31 (Gr.tr g41 (Gr.tr g47 (Gr.tr g72 (Gr.tr g99 (Gr.tr g103 (Gr.tr g109 (Gr.tr g123 (Gr.tr g148 (Gr.tr g194 (Gr.tr g198 (Gr.tr g204 (Gr.tr g218 (Gr.tr g243 g293))))))))))))))) hv19)) d_int rfl) (d_lst (a_cons d_int a_nil) (Nat.le_of_ble_eq_true rfl)) k296)) (a_cons d_int a_nil)) (Nat.le_of_ble_eq_true rfl)) (a_cons (d_tup (a_cons (d_ixT (d_var rfl (Dt.gr (Gr.tr g22 (Gr.tr g31 (Gr.tr g41 (Gr.tr g47 (Gr.tr g72 (Gr.tr g99 (Gr.tr g103 (Gr.tr g109 (Gr.tr g123 (Gr.tr g148 (Gr.tr g194 (Gr.tr g198 (Gr.tr g204 (Gr.tr g218 (Gr.tr g243 g293))))))))))))))) hv19)) d_int rfl) (a_cons d_int a_nil)) (Nat.le_of_ble_eq_true rfl)) a_nil)))))) (Nat.le_of_ble_eq_true rfl)) (congrArg (eL eD) k302)) (fun _ => rfl) (fun v303 F297 H298 g299 hS300 hv304 => ?_)
        obtain ⟨x305, k306, m⟩ := bnd m
        obtain ⟨r308, k309, m⟩ := bnd m
        refine s_forF (K := K) (xs := x305) (en := eI) (body := (f_law_b307 script_1 x11 last_24 x26 x36 no_aisles_301)) (s0 := pool_here_38) (r := r308) (fun (a : (List Int)) F σ c => ∃ (j10 : Option V) (j11 : Option V) (j12 : Option V) (j13 : Option V) (y1 : Addr), σ = [some a0, some (.ref y1), some v18, some (.int last_24), some (.int x26), some v43, some v51, some v74, some v239, some v303, j10, j11, j12, j13] ∧ (y1, .lst (a.map V.int)) :: cs = c) hS300 (i_rng2 (a_cons d_int (a_cons (d_max2 (a_cons d_int (a_cons (d_min2 (a_cons (d_len (e := eI) (a_cons (d_var rfl (Dt.gr (Gr.tr g6 (Gr.tr g16 (Gr.tr g22 (Gr.tr g31 (Gr.tr g41 (Gr.tr g47 (Gr.tr g72 (Gr.tr g99 (Gr.tr g103 (Gr.tr g109 (Gr.tr g123 (Gr.tr g148 (Gr.tr g194 (Gr.tr g198 (Gr.tr g204 (Gr.tr g218 (Gr.tr g243 (Gr.tr g293 g299)))))))))))))))))) ha0)) a_nil)) (a_cons d_int a_nil))) a_nil))) a_nil)) k306) (fun _ _ => ⟨_, _, _, _, _, rfl, rfl⟩) k309 ?_ ?_
        · rintro pool_here_465 F459 σ464 c463 H460 hz481 g461 hS462 ⟨u466, u467, u468, u469, p470, rfl, rfl⟩
          rcases hz481.symm with rfl | rfl
          · cases (show (none : Option _) = some _ from m)
          try dsimp only at m
          have hS471 := Sta.frozeAt (l1 := []) hS462
          obtain ⟨x472, k473, m⟩ := bnd m
          refine s_ret (K := K) (d := eB (x472)) hS471 (d_eqDM (d_lst (a_cons (d_var rfl (Dt.gr (Gr.tr g22 (Gr.tr g31 (Gr.tr g41 (Gr.tr g47 (Gr.tr g72 (Gr.tr g99 (Gr.tr g103 (Gr.tr g109 (Gr.tr g123 (Gr.tr g148 (Gr.tr g194 (Gr.tr g198 (Gr.tr g204 (Gr.tr g218 (Gr.tr g243 (Gr.tr g293 (Gr.tr g299 (Gr.tr g461 (Gr.new (Sta.freeAt (l1 := []) hS462)))))))))))))))))))) hv19)) (a_cons (d_var rfl (Dt.gr (Gr.tr g47 (Gr.tr g72 (Gr.tr g99 (Gr.tr g103 (Gr.tr g109 (Gr.tr g123 (Gr.tr g148 (Gr.tr g194 (Gr.tr g198 (Gr.tr g204 (Gr.tr g218 (Gr.tr g243 (Gr.tr g293 (Gr.tr g299 (Gr.tr g461 (Gr.new (Sta.freeAt (l1 := []) hS462))))))))))))))))) hv44)) a_nil)) (Nat.le_of_ble_eq_true rfl)) (d_var rfl (Dt.gr (Gr.tr g72 (Gr.tr g99 (Gr.tr g103 (Gr.tr g109 (Gr.tr g123 (Gr.tr g148 (Gr.tr g194 (Gr.tr g198 (Gr.tr g204 (Gr.tr g218 (Gr.tr g243 (Gr.tr g293 (Gr.tr g299 (Gr.tr g461 (Gr.new (Sta.freeAt (l1 := []) hS462)))))))))))))))) hv52)) k473) (fun v478 F474 H475 g476 hS477 hv479 => ?_)
          obtain rfl := sm m
          exact q _ _ _ (Gr.tr g6 (Gr.tr g16 (Gr.tr g22 (Gr.tr g31 (Gr.tr g41 (Gr.tr g47 (Gr.tr g72 (Gr.tr g99 (Gr.tr g103 (Gr.tr g109 (Gr.tr g123 (Gr.tr g148 (Gr.tr g194 (Gr.tr g198 (Gr.tr g204 (Gr.tr g218 (Gr.tr g243 (Gr.tr g293 (Gr.tr g299 (Gr.tr g461 (Gr.tr (Gr.new (Sta.freeAt (l1 := []) hS462)) g476))))))))))))))))))))) hS477 hv479
        · rintro k_311 pool_here_310 b320 F312 F313 σ326 c327 H314 v319 N321 B322 g315 ⟨u329, u330, u331, u332, p333, rfl, rfl⟩ g316 hS317 hv318 m328 hN323 hB324 hR325
          obtain rfl := Dt.toInt hv318
          refine tg (σ' := [some a0, some (.ref p333), some v18, some (.int last_24), some (.int x26), some v43, some v51, some v74, some v239, some v303, some (.int k_311), u330, u331, u332]) (fun Q hq => hq) ?_
          unfold f_law_b307 at m328
          try dsimp only at m328
          have hS334 := Sta.frozeAt (l1 := []) hS317
          obtain ⟨x335, k336, m328⟩ := bnd m328
          refine s_setC (K := K) (ds := x335.map eI) (i := 1) (σ' := fun p341 => [some a0, some (.ref p341), some v18, some (.int last_24), some (.int x26), some v43, some v51, some v74, some v239, some v303, some (.int k_311), u330, u331, u332]) hS334 (c_callX (A := A_pool) (B := B_pool) (C := C_pool) (x := (script_1, k_311)) (y := x335) (cs2 := (cs)) (cc := []) (cs' := (cs)) (r_d (d_var rfl (Dt.gr (Gr.tr g6 (Gr.tr g16 (Gr.tr g22 (Gr.tr g31 (Gr.tr g41 (Gr.tr g47 (Gr.tr g72 (Gr.tr g99 (Gr.tr g103 (Gr.tr g109 (Gr.tr g123 (Gr.tr g148 (Gr.tr g194 (Gr.tr g198 (Gr.tr g204 (Gr.tr g218 (Gr.tr g243 (Gr.tr g293 (Gr.tr g299 (Gr.tr g315 (Gr.tr g316 (Gr.new (Sta.freeAt (l1 := []) hS317))))))))))))))))))))))) ha0)) (r_d (d_var rfl (.int _)) r_nil)) sb_rfl k336 (fun _ => sb_rfl)) (fun _ => rfl) (fun p341 us342 F337 H338 g339 hS340 hu343 => ?_)
          obtain rfl := Dts.ints hu343
          obtain ⟨⟨x344, pool_here_346⟩, k345, m328⟩ := bnd m328; (try dsimp only at m328)
          refine s_set (K := K) (d := eD x344) (i := 11) (σ' := fun v351 => [some a0, some (.ref p341), some v18, some (.int last_24), some (.int x26), some v43, some v51, some v74, some v239, some v303, some (.int k_311), some v351, u331, u332]) hS340 (d_callX (A := A_bad_orders) (B := B_bad_orders) (C := C_bad_orders) (x := (x335, x36, last_24, x26)) (y := (x344, pool_here_346)) (cs2 := ((p341, HO.lst (pool_here_346.map V.int)) :: cs)) (cc := [(p341, HO.lst (x335.map V.int))]) (cs' := (cs)) (r_c rfl (r_d (d_var rfl (Dt.gr (Gr.tr g47 (Gr.tr g72 (Gr.tr g99 (Gr.tr g103 (Gr.tr g109 (Gr.tr g123 (Gr.tr g148 (Gr.tr g194 (Gr.tr g198 (Gr.tr g204 (Gr.tr g218 (Gr.tr g243 (Gr.tr g293 (Gr.tr g299 (Gr.tr g315 (Gr.tr g316 (Gr.tr (Gr.new (Sta.freeAt (l1 := []) hS317)) g339))))))))))))))))) hv44)) (r_d (d_var rfl (.int _)) (r_d (d_var rfl (.int _)) r_nil)))) sb_rfl k345 sb_rfl) (fun _ => rfl) (fun v351 F347 H348 g349 hS350 hv352 => ?_)
          obtain ⟨⟨x353, pool_here_355⟩, k354, m328⟩ := bnd m328; (try dsimp only at m328)
          obtain ⟨x356, k357, m328⟩ := bnd m328
          refine s_set (K := K) (d := eD x356) (i := 12) (σ' := fun v362 => [some a0, some (.ref p341), some v18, some (.int last_24), some (.int x26), some v43, some v51, some v74, some v239, some v303, some (.int k_311), some v351, some v362, u332]) hS350 (d_ix (e := eD) (d_var rfl (Dt.gr (Gr.tr g315 (Gr.tr g316 (Gr.tr (Gr.new (Sta.freeAt (l1 := []) hS317)) (Gr.tr g339 g349)))) hv304)) (d_callX (A := A_take) (B := B_take) (C := C_take) (x := (pool_here_346, (6 : Int))) (y := (x353, pool_here_355)) (cs2 := ((p341, HO.lst (pool_here_355.map V.int)) :: cs)) (cc := [(p341, HO.lst (pool_here_346.map V.int))]) (cs' := (cs)) (r_c rfl (r_d d_int r_nil)) sb_rfl k354 sb_rfl) k357) (fun _ => rfl) (fun v362 F358 H359 g360 hS361 hv363 => ?_)
          obtain ⟨x364, k365, m328⟩ := bnd m328
          obtain ⟨r367, k368, m328⟩ := bnd m328
          refine s_forF (K := K) (xs := x364) (en := eI) (body := (f_law_b366 x11 x36 x344 x356)) (s0 := ()) (r := r367) (fun (a : Unit) F σ c => ∃ (j13 : Option V), σ = [some a0, some (.ref p341), some v18, some (.int last_24), some (.int x26), some v43, some v51, some v74, some v239, some v303, some (.int k_311), some v351, some v362, j13] ∧ (p341, .lst (pool_here_355.map V.int)) :: cs = c) hS361 (i_rng1 (a_cons d_int a_nil) k365) (fun _ _ => ⟨_, rfl, rfl⟩) k368 ?_ ?_
          · rintro ⟨⟩ F430 σ435 c434 H431 hz458 g432 hS433 ⟨u436, rfl, rfl⟩
            rcases hz458.symm with rfl | rfl
            · cases (show (none : Option _) = some _ from m328)
            try dsimp only at m328
            obtain ⟨x437, k438, m328⟩ := bnd m328
            obtain ⟨x439, k440, m328⟩ := bnd m328
            refine s_if (b := false) hS433 (t_test (K := K) (d_nisN (dx_call (A := A_look_at_orders) (B := eN) (x := (x11, x36)) (a_cons (d_var rfl (Dt.gr (Gr.tr g22 (Gr.tr g31 (Gr.tr g41 (Gr.tr g47 (Gr.tr g72 (Gr.tr g99 (Gr.tr g103 (Gr.tr g109 (Gr.tr g123 (Gr.tr g148 (Gr.tr g194 (Gr.tr g198 (Gr.tr g204 (Gr.tr g218 (Gr.tr g243 (Gr.tr g293 (Gr.tr g299 (Gr.tr g315 (Gr.tr g316 (Gr.tr (Gr.new (Sta.freeAt (l1 := []) hS317)) (Gr.tr g339 (Gr.tr g349 (Gr.tr g360 g432))))))))))))))))))))))) hv19)) (a_cons (d_var rfl (Dt.gr (Gr.tr g47 (Gr.tr g72 (Gr.tr g99 (Gr.tr g103 (Gr.tr g109 (Gr.tr g123 (Gr.tr g148 (Gr.tr g194 (Gr.tr g198 (Gr.tr g204 (Gr.tr g218 (Gr.tr g243 (Gr.tr g293 (Gr.tr g299 (Gr.tr g315 (Gr.tr g316 (Gr.tr (Gr.new (Sta.freeAt (l1 := []) hS317)) (Gr.tr g339 (Gr.tr g349 (Gr.tr g360 g432)))))))))))))))))))) hv44)) a_nil)) (k438.trans (congrArg some (okM_some k440)))))) (fun hc F441 H442 g443 hS444 => ?_) (fun hc F453 H454 g455 hS456 => ?_)
            · rw [if_pos hc] at m328
              have hS445 := Sta.frozeAt (l1 := []) hS444
              refine s_ret (K := K) (d := eB false) hS445 d_bl (fun v450 F446 H447 g448 hS449 hv451 => ?_)
              obtain rfl := sm m328
              have hr452 := hR325 _ rfl
              subst hr452
              obtain rfl := sm m
              exact q _ _ _ (Gr.tr g6 (Gr.tr g16 (Gr.tr g22 (Gr.tr g31 (Gr.tr g41 (Gr.tr g47 (Gr.tr g72 (Gr.tr g99 (Gr.tr g103 (Gr.tr g109 (Gr.tr g123 (Gr.tr g148 (Gr.tr g194 (Gr.tr g198 (Gr.tr g204 (Gr.tr g218 (Gr.tr g243 (Gr.tr g293 (Gr.tr g299 (Gr.tr g315 (Gr.tr g316 (Gr.tr (Gr.new (Sta.freeAt (l1 := []) hS317)) (Gr.tr g339 (Gr.tr g349 (Gr.tr g360 (Gr.tr g432 (Gr.tr g443 (Gr.tr (Gr.new (Sta.freeAt (l1 := []) hS444)) g448)))))))))))))))))))))))))))) hS449 hv451
            · rw [if_neg (bf hc)] at m328
              refine nxt ?_
              obtain rfl := sm m328
              exact hN323 _ _ _ _ _ rfl (Gr.tr (Gr.new (Sta.freeAt (l1 := []) hS317)) (Gr.tr g339 (Gr.tr g349 (Gr.tr g360 (Gr.tr g432 g455))))) hS456 ⟨_, _, _, _, _, rfl, rfl⟩
          · rintro way_369 ⟨⟩ b378 F370 F371 σ384 c385 H372 v377 N379 B380 g373 ⟨u387, rfl, rfl⟩ g374 hS375 hv376 m386 hN381 hB382 hR383
            obtain rfl := Dt.toInt hv376
            refine tg (σ' := [some a0, some (.ref p341), some v18, some (.int last_24), some (.int x26), some v43, some v51, some v74, some v239, some v303, some (.int k_311), some v351, some v362, some (.int way_369)]) (fun Q hq => hq) ?_
            unfold f_law_b366 at m386
            try dsimp only at m386
            obtain ⟨x388, k389, m386⟩ := bnd m386
            obtain ⟨x392, k393, m386⟩ := bnd m386
            refine s_if (b := x392) hS375 (t_orM (r := x392) (t_test (K := K) (d_neS (d_call (A := A_told_D) (B := eS) (x := (way_369, x11, x344)) (a_cons (d_var rfl (.int _)) (a_cons (d_var rfl (Dt.gr (Gr.tr g22 (Gr.tr g31 (Gr.tr g41 (Gr.tr g47 (Gr.tr g72 (Gr.tr g99 (Gr.tr g103 (Gr.tr g109 (Gr.tr g123 (Gr.tr g148 (Gr.tr g194 (Gr.tr g198 (Gr.tr g204 (Gr.tr g218 (Gr.tr g243 (Gr.tr g293 (Gr.tr g299 (Gr.tr g315 (Gr.tr g316 (Gr.tr (Gr.new (Sta.freeAt (l1 := []) hS317)) (Gr.tr g339 (Gr.tr g349 (Gr.tr g360 (Gr.tr g373 g374)))))))))))))))))))))))) hv19)) (a_cons (d_var rfl (Dt.gr (Gr.tr g360 (Gr.tr g373 g374)) hv352)) a_nil))) k389) d_str)) (fun hc => by rw [if_neg (bf hc)] at k393; obtain ⟨x390, k391, k393⟩ := bnd k393; obtain rfl := sm k393; exact (t_test (K := K) (d_neS (d_call (A := A_told_D_2) (B := eS) (x := (way_369, x356, x344)) (a_cons (d_var rfl (.int _)) (a_cons (d_var rfl (Dt.gr (Gr.tr g373 g374) hv363)) (a_cons (d_var rfl (Dt.gr (Gr.tr g360 (Gr.tr g373 g374)) hv352)) a_nil))) k391) d_str))) (fun hc => by rw [if_pos hc] at k393; exact (sm k393).symm)) (fun hc F394 H395 g396 hS397 => ?_) (fun hc F407 H408 g409 hS410 => ?_)
            · rw [if_pos hc] at m386
              have hS398 := Sta.frozeAt (l1 := []) hS397
              refine s_ret (K := K) (d := eB false) hS398 d_bl (fun v403 F399 H400 g401 hS402 hv404 => ?_)
              obtain rfl := sm m386
              have hr405 := hR383 _ rfl
              subst hr405
              obtain rfl := sm m328
              have hr406 := hR325 _ rfl
              subst hr406
              obtain rfl := sm m
              exact q _ _ _ (Gr.tr g6 (Gr.tr g16 (Gr.tr g22 (Gr.tr g31 (Gr.tr g41 (Gr.tr g47 (Gr.tr g72 (Gr.tr g99 (Gr.tr g103 (Gr.tr g109 (Gr.tr g123 (Gr.tr g148 (Gr.tr g194 (Gr.tr g198 (Gr.tr g204 (Gr.tr g218 (Gr.tr g243 (Gr.tr g293 (Gr.tr g299 (Gr.tr g315 (Gr.tr g316 (Gr.tr (Gr.new (Sta.freeAt (l1 := []) hS317)) (Gr.tr g339 (Gr.tr g349 (Gr.tr g360 (Gr.tr g373 (Gr.tr g374 (Gr.tr g396 (Gr.tr (Gr.new (Sta.freeAt (l1 := []) hS397)) g401))))))))))))))))))))))))))))) hS402 hv404
            · rw [if_neg (bf hc)] at m386
              refine nxt ?_
              obtain ⟨x411, k412, m386⟩ := bnd m386
              refine s_if (b := (!decide (x411 = ("aisle" : Str)))) hS410 (t_test (K := K) (d_neS (d_call (A := A_told_D_3) (B := eS) (x := (way_369, x356, x36)) (a_cons (d_var rfl (.int _)) (a_cons (d_var rfl (Dt.gr (Gr.tr g373 (Gr.tr g374 g409)) hv363)) (a_cons (d_var rfl (Dt.gr (Gr.tr g47 (Gr.tr g72 (Gr.tr g99 (Gr.tr g103 (Gr.tr g109 (Gr.tr g123 (Gr.tr g148 (Gr.tr g194 (Gr.tr g198 (Gr.tr g204 (Gr.tr g218 (Gr.tr g243 (Gr.tr g293 (Gr.tr g299 (Gr.tr g315 (Gr.tr g316 (Gr.tr (Gr.new (Sta.freeAt (l1 := []) hS317)) (Gr.tr g339 (Gr.tr g349 (Gr.tr g360 (Gr.tr g373 (Gr.tr g374 g409)))))))))))))))))))))) hv44)) a_nil))) k412) d_str)) (fun hc F413 H414 g415 hS416 => ?_) (fun hc F426 H427 g428 hS429 => ?_)
              · rw [if_pos hc] at m386
                have hS417 := Sta.frozeAt (l1 := []) hS416
                refine s_ret (K := K) (d := eB false) hS417 d_bl (fun v422 F418 H419 g420 hS421 hv423 => ?_)
                obtain rfl := sm m386
                have hr424 := hR383 _ rfl
                subst hr424
                obtain rfl := sm m328
                have hr425 := hR325 _ rfl
                subst hr425
                obtain rfl := sm m
                exact q _ _ _ (Gr.tr g6 (Gr.tr g16 (Gr.tr g22 (Gr.tr g31 (Gr.tr g41 (Gr.tr g47 (Gr.tr g72 (Gr.tr g99 (Gr.tr g103 (Gr.tr g109 (Gr.tr g123 (Gr.tr g148 (Gr.tr g194 (Gr.tr g198 (Gr.tr g204 (Gr.tr g218 (Gr.tr g243 (Gr.tr g293 (Gr.tr g299 (Gr.tr g315 (Gr.tr g316 (Gr.tr (Gr.new (Sta.freeAt (l1 := []) hS317)) (Gr.tr g339 (Gr.tr g349 (Gr.tr g360 (Gr.tr g373 (Gr.tr g374 (Gr.tr g409 (Gr.tr g415 (Gr.tr (Gr.new (Sta.freeAt (l1 := []) hS416)) g420)))))))))))))))))))))))))))))) hS421 hv423
              · rw [if_neg (bf hc)] at m386
                refine nxt ?_
                obtain rfl := sm m386
                exact hN381 _ _ _ _ _ rfl (Gr.tr g409 g428) hS429 ⟨_, rfl, rfl⟩
theorem sc_law : FnScope N_law ["_law_script"] (defScope s_law) := ⟨rfl, rfl, rfl, by decide +kernel, rfl, by decide +kernel, by decide +kernel⟩
theorem ok_law {P : Program} {w : World} {K : PySem.W.Frag} {mg : Str → Option Value} {base : Heap} (hF : Df K mg "law" s_law) (m_isinstance : mg "isinstance" = none) (m_len : mg "len" = none) (m_list : mg "list" = none) (m_max : mg "max" = none) (m_min : mg "min" = none) (m_range : mg "range" = none) (m_tuple : mg "tuple" = none) (o_look_at_orders : OkX P w K mg base 4 "look_at_orders" ["aisle", "thing"] (sp_look_at_orders K)) (o_told_D_3 : Ok P w K mg base 7 "_law_told" ["_law_way", "_law_aisle_here", "_law_orders_here"] (sp_told_D_3 K)) (o_told_D : Ok P w K mg base 7 "_law_told" ["_law_way", "_law_aisle_here", "_law_orders_here"] (sp_told_D K)) (o_told_D_2 : Ok P w K mg base 7 "_law_told" ["_law_way", "_law_aisle_here", "_law_orders_here"] (sp_told_D_2 K)) (o_take : Ok P w K mg base 1 "_law_take" ["_law_pool_here", "_law_many"] (sp_take K)) (o_bad_orders : Ok P w K mg base 3 "_law_bad_orders" ["_law_pool_here", "_law_orders_here", "_law_last", "_law_salt"] (sp_bad_orders K)) (o_pool : Ok P w K mg base 1 "_law_pool" ["_law_script", "_law_k"] (sp_pool K)) (o_Sweep_next_tick : OkMe P w K mg base CX0 3 "Sweep" "next_tick" ["self"] (sp_Sweep_next_tick K)) (o_Sweep : OkMk P w K mg base CX0 5 "Sweep" ["self", "aisle", "orders"] (sp_Sweep K)) (o_name : Ok P w K mg base 1 "_law_name" ["_law_k", "_law_salt"] (sp_name K)) (o_orders : Ok P w K mg base 2 "_law_orders" ["_law_pool_here", "_law_last", "_law_salt", "_law_many"] (sp_orders K)) (o_aisle : Ok P w K mg base 2 "_law_aisle" ["_law_pool_here", "_law_most_gaps", "_law_longest"] (sp_aisle K)) : Ok P w K mg base 8 "law" ["_law_script"] (sp_law K) := by
  obtain ⟨⟨_, G_look_at_orders, bd_look_at_orders, _⟩, kp_look_at_orders, gm_look_at_orders⟩ := o_look_at_orders
  obtain ⟨⟨_, G_told_D_3, bd_told_D_3, _⟩, kp_told_D_3, gm_told_D_3⟩ := o_told_D_3
  obtain ⟨⟨_, G_told_D, bd_told_D, _⟩, kp_told_D, gm_told_D⟩ := o_told_D
  obtain ⟨⟨_, G_told_D_2, bd_told_D_2, _⟩, kp_told_D_2, gm_told_D_2⟩ := o_told_D_2
  obtain ⟨⟨_, G_take, bd_take, _⟩, kp_take, gm_take⟩ := o_take
  obtain ⟨⟨_, G_bad_orders, bd_bad_orders, _⟩, kp_bad_orders, gm_bad_orders⟩ := o_bad_orders
  obtain ⟨⟨_, G_pool, bd_pool, _⟩, kp_pool, gm_pool⟩ := o_pool
  obtain ⟨⟨_, G_Sweep_next_tick, bd_Sweep_next_tick⟩, cl_Sweep_next_tick, me_Sweep_next_tick⟩ := o_Sweep_next_tick
  obtain ⟨⟨_, G_Sweep, bd_Sweep⟩, gm_Sweep, mk_Sweep⟩ := o_Sweep
  obtain ⟨⟨_, G_name, bd_name, _⟩, kp_name, gm_name⟩ := o_name
  obtain ⟨⟨_, G_orders, bd_orders, _⟩, kp_orders, gm_orders⟩ := o_orders
  obtain ⟨⟨_, G_aisle, bd_aisle, _⟩, kp_aisle, gm_aisle⟩ := o_aisle
  obtain ⟨⟨fd, F⟩, gm⟩ := hF
  refine ⟨⟨fd, F.ok sc_law (fun vs H Q E h => ?_) (fun cdv A outer s H vs Q E hr h => ⟨t_law K, PSs.nox ?_, w_law vs H Q E h⟩), F.bindsN fun _ _ _ _ _ _ us hl => match us, hl with | [_], _ => rfl, lk_of F⟩, F.kp, gm⟩
  · obtain ⟨F0, cs, x, y, h, _⟩ := h; exact Dts.len h
  · exact (pss_cons (ps_set (i := 1) sc_law.nd rfl (Or.inl rfl) (pe_call G_pool (hr.mono (by decide)) (by rfl) gm_pool kp_pool bd_pool .nil pass0 (pa_cons (pv 0) (pa_cons pe_int pa_nil)))) (pss_cons (ps_set (i := 2) sc_law.nd rfl (Or.inl rfl) (pe_call G_aisle (hr.mono (by decide)) (by rfl) gm_aisle kp_aisle bd_aisle .nil pass0 (pa_cons (pv 1) (pa_cons pe_int (pa_cons pe_int pa_nil))))) (pss_cons (ps_set (i := 3) sc_law.nd rfl (Or.inr rfl) (pe_callB cr_lenL (by rfl) m_len PySem.boot_len (pa_cons (pe_ix ix_tup (pv 2) pe_int (fun _ _ => rfl)) pa_nil))) (pss_cons (ps_set (i := 4) sc_law.nd rfl (Or.inr rfl) (pe_call G_take (hr.mono (by decide)) (by rfl) gm_take kp_take bd_take .nil pass0 (pa_cons (pv 1) (pa_cons pe_int pa_nil)))) (pss_cons (ps_set (i := 5) sc_law.nd rfl (Or.inl rfl) (pe_call G_orders (hr.mono (by decide)) (by rfl) gm_orders kp_orders bd_orders .nil pass0 (pa_cons (pv 1) (pa_cons (pv 3) (pa_cons (pv 4) (pa_cons (pe_call G_take (hr.mono (by decide)) (by rfl) gm_take kp_take bd_take .nil pass0 (pa_cons (pv 1) (pa_cons pe_int pa_nil))) pa_nil)))))) (pss_cons (ps_set (i := 6) sc_law.nd rfl (Or.inl rfl) (pe_lst (pa_cons (pe_tup (pa_cons (pe_callTy cr_list (by rfl) m_list (by decide +kernel) (pa_cons (pe_ix ix_tup (pv 2) pe_int (fun _ _ => rfl)) pa_nil)) (pa_cons (pe_ix ix_tup (pv 2) pe_int (fun _ _ => rfl)) pa_nil))) (pa_cons (pe_callTy cr_list (by rfl) m_list (by decide +kernel) (pa_cons (pv 5) pa_nil)) pa_nil)))) (pss_cons (ps_setLc (i := 7) (own := [("_law_k", 10)]) (g := (gName 10)) (tt := tYes) (te := (tTup (tCons (tCall (sp_name K) [] E0 (tCons (tVar 10) (tCons (tVar 4) tNil))) (tCons (tOp (rI CPow fun i j => .int (i ^ j.toNat)) (tC (.int 10)) (tC (.int 9))) (tCons (tC (.int 0)) (tCons (tVar 3) tNil)))))) (by rfl) sc_law.nd rfl rfl (sw_true rfl rfl rfl (by decide +kernel)) (pi_range1 (by rfl) m_range (pa_cons pe_int pa_nil)) (blkOk_by (own := [("_law_k", 10)]) (N := N_law) (sc := defScope s_law) (by decide +kernel)) (fun _ _ _ _ _ => (pg_name (i := 10) sc_law.nd rfl (Or.inl rfl))) (fun _ _ _ _ _ => pts_nil) (fun _ _ _ _ _ => (pe_tup (pa_cons (pe_call G_name (hr.mono (by decide)) (by rfl) gm_name kp_name bd_name .nil pass0 (pa_cons (pv 10) (pa_cons (pv 4) pa_nil))) (pa_cons (pe_op op_pow pe_int pe_int) (pa_cons pe_int (pa_cons (pv 3) pa_nil))))))) (pss_cons (ps_if (PW.pt (pw_or (pt_cmpR op_notNR (pe_callS (E := fun _ => XF0) G_look_at_orders (hr.mono (by decide)) (by rfl) gm_look_at_orders kp_look_at_orders bd_look_at_orders (fun σ => passF σ) (pa_cons (pv 2) (pa_cons (pv 5) pa_nil))) pe_non (nomark _)) (pw_or1 (pt_cmpR op_notNR (pe_callS (E := fun _ => XF0) G_look_at_orders (hr.mono (by decide)) (by rfl) gm_look_at_orders kp_look_at_orders bd_look_at_orders (fun σ => passF σ) (pa_cons (pv 2) (pa_cons (pv 7) pa_nil))) pe_non (nomark _))))) (pss_one (ps_ret pe_bl)) pss_nil) (pss_cons (ps_if (pt_cmpR (op_neD hr.units) (pe_meth0 (pe_make mk_Sweep G_Sweep (hr.mono (by decide)) (by rfl) gm_Sweep bd_Sweep .nil pass0 (pa_cons (pv 2) (pa_cons (pv 7) pa_nil))) cl_Sweep_next_tick me_Sweep_next_tick G_Sweep_next_tick (hr.mono (by decide)) bd_Sweep_next_tick .nil pass0) (pe_tup (pa_cons pe_int (pa_cons pe_int (pa_cons (pe_lst pa_nil) (pa_cons (pe_lst pa_nil) pa_nil))))) (nomark _)) (pss_one (ps_ret pe_bl)) pss_nil) (pss_cons (ps_set (i := 8) sc_law.nd rfl (Or.inl rfl) (pe_meth0 (pe_make mk_Sweep G_Sweep (hr.mono (by decide)) (by rfl) gm_Sweep bd_Sweep .nil pass0 (pa_cons (pv 2) (pa_cons (pv 5) pa_nil))) cl_Sweep_next_tick me_Sweep_next_tick G_Sweep_next_tick (hr.mono (by decide)) bd_Sweep_next_tick .nil pass0)) (pss_cons (ps_if (PW.pt (pw_or (pt_not (pt_val (pe_callB call_isi (by rfl) m_isinstance (by decide +kernel) (pa_cons (pv 8) (pa_cons (pe_bltn (v := .ty "tuple") (by rfl) m_tuple (by decide +kernel) rfl) pa_nil))))) (pw_or (pt_cmpR (op_neD hr.units) (pe_slice sl_tupA (pv 8) po_none (po_some pe_int)) (pe_tup (pa_cons pe_int (pa_cons pe_int pa_nil))) (nomark _)) (pw_or1 (pt_cmpR (op_neD hr.units) (pe_ix ix_tup (pv 8) pe_int (fun _ _ => rfl)) (pe_lst pa_nil) (nomark _)))))) (pss_one (ps_ret pe_bl)) pss_nil) (pss_cons (ps_set (i := 9) sc_law.nd rfl (Or.inl rfl) (pe_lst (pa_cons pe_non (pa_cons (pe_callTy cr_list (by rfl) m_list (by decide +kernel) (pa_cons (pv 2) pa_nil)) (pa_cons (pe_tup (pa_cons (pe_ix ix_tup (pv 2) pe_int (fun _ _ => rfl)) pa_nil)) (pa_cons (pe_tup (pa_cons (pe_lst pa_nil) (pa_cons pe_int pa_nil))) (pa_cons (pe_tup (pa_cons (pe_op op_catS (pe_ix ix_tup (pv 2) pe_int (fun _ _ => rfl)) (pe_lst (pa_cons pe_int pa_nil))) (pa_cons pe_int pa_nil))) (pa_cons (pe_tup (pa_cons (pe_ix ix_tup (pv 2) pe_int (fun _ _ => rfl)) (pa_cons pe_int pa_nil))) pa_nil)))))))) (pss_cons (ps_for PassesOwn.never rfl (pi_range2 (by rfl) m_range (pa_cons pe_int (pa_cons (pe_callB (cr_max2 rfl) (by rfl) m_max (by decide +kernel) (pa_cons pe_int (pa_cons (pe_callB (cr_min2 rfl) (by rfl) m_min (by decide +kernel) (pa_cons (pe_callB cr_lenL (by rfl) m_len PySem.boot_len (pa_cons (pv 0) pa_nil)) (pa_cons pe_int pa_nil))) pa_nil))) pa_nil))) (pg_name (i := 10) sc_law.nd rfl (Or.inl rfl)) (pss_cons (ps_set (i := 1) sc_law.nd rfl (Or.inl rfl) (pe_call G_pool (hr.mono (by decide)) (by rfl) gm_pool kp_pool bd_pool .nil pass0 (pa_cons (pv 0) (pa_cons (pv 10) pa_nil)))) (pss_cons (ps_set (i := 11) sc_law.nd rfl (Or.inl rfl) (pe_call G_bad_orders (hr.mono (by decide)) (by rfl) gm_bad_orders kp_bad_orders bd_bad_orders .nil pass0 (pa_cons (pv 1) (pa_cons (pv 5) (pa_cons (pv 3) (pa_cons (pv 4) pa_nil)))))) (pss_cons (ps_set (i := 12) sc_law.nd rfl (Or.inl rfl) (pe_ix ix_list (pv 9) (pe_call G_take (hr.mono (by decide)) (by rfl) gm_take kp_take bd_take .nil pass0 (pa_cons (pv 1) (pa_cons pe_int pa_nil))) (fun _ _ => rfl))) (pss_cons (ps_for PassesOwn.never rfl (pi_range1 (by rfl) m_range (pa_cons pe_int pa_nil)) (pg_name (i := 13) sc_law.nd rfl (Or.inl rfl)) (pss_cons (ps_if (PW.pt (pw_or (pt_cmpR op_ne (pe_call G_told_D (hr.mono (by decide)) (by rfl) gm_told_D kp_told_D bd_told_D .nil pass0 (pa_cons (pv 13) (pa_cons (pv 2) (pa_cons (pv 11) pa_nil)))) pe_str (nomark _)) (pw_or1 (pt_cmpR op_ne (pe_call G_told_D_2 (hr.mono (by decide)) (by rfl) gm_told_D_2 kp_told_D_2 bd_told_D_2 .nil pass0 (pa_cons (pv 13) (pa_cons (pv 12) (pa_cons (pv 11) pa_nil)))) pe_str (nomark _))))) (pss_one (ps_ret pe_bl)) pss_nil) (pss_one (ps_if (pt_cmpR op_ne (pe_call G_told_D_3 (hr.mono (by decide)) (by rfl) gm_told_D_3 kp_told_D_3 bd_told_D_3 .nil pass0 (pa_cons (pv 13) (pa_cons (pv 12) (pa_cons (pv 5) pa_nil)))) pe_str (nomark _)) (pss_one (ps_ret pe_bl)) pss_nil)))) (pss_one (ps_if (pt_cmpR op_notNR (pe_callS (E := fun _ => XF0) G_look_at_orders (hr.mono (by decide)) (by rfl) gm_look_at_orders kp_look_at_orders bd_look_at_orders (fun σ => passF σ) (pa_cons (pv 2) (pa_cons (pv 5) pa_nil))) pe_non (nomark _)) (pss_one (ps_ret pe_bl)) pss_nil))))))) (pss_one (ps_ret (pe_cmpR (op_eqD hr.units) (pe_lst (pa_cons (pv 2) (pa_cons (pv 5) pa_nil))) (pv 6) (nomark _)))))))))))))))))
end Bw


namespace Bw
open PySem L2
theorem letM_eq {α β : Type} (x : α) (f : α → β) : letM x f = f x := Eq.trans rfl rfl
/-- step over a bind by the answer's equation (no unfolding left to the kernel) -/
theorem bo {α β : Type} {a : Option α} {x : α} (h : a = some x) (f : α → Option β) : a.bind f = f x := by subst h; rfl
/-! plain facts about what may fail -/
theorem atI_nn {α : Type} (xs : List α) (i : Nat) (h : i < xs.length) : atI xs (i : Int) = some xs[i] := by
  unfold atI ixN
  have h0 : (0 : Int) ≤ (i : Int) := by omega
  have h1 : (i : Int) < (xs.length : Int) := by omega
  rw [if_pos h0, if_pos h1]
  show xs[(i : Int).toNat]? = _
  rw [Int.toNat_natCast]
  exact List.getElem?_eq_getElem h
theorem atI_int {α : Type} (xs : List α) (i : Int) (h0 : 0 ≤ i) (h : i < xs.length) : ∃ x, atI xs i = some x ∧ xs[i.toNat]? = some x := by
  obtain ⟨n, rfl⟩ : ∃ n : Nat, i = n := ⟨i.toNat, by omega⟩
  have hn : n < xs.length := by omega
  refine ⟨xs[n], atI_nn xs n hn, ?_⟩
  rw [Int.toNat_natCast]
  exact List.getElem?_eq_getElem hn
theorem atI_mem {α : Type} {xs : List α} {i : Int} {x : α} (h : atI xs i = some x) : x ∈ xs := by
  unfold atI at h
  cases e : ixN xs.length i with
  | none => rw [e] at h; cases h
  | some j => rw [e] at h; exact List.mem_of_getElem? h
theorem appM_ok {α : Type} {xs : List α} {x : α} (h : xs.length < 100000) : appM xs x = some (xs ++ [x]) := by unfold appM; rw [if_pos h]
theorem catM_ok {α : Type} {xs ys : List α} (h : xs.length + ys.length ≤ 100000) : catM xs ys = some (xs ++ ys) := by unfold catM; rw [if_pos h]
theorem flat_one {α : Type} (x : α) : ∀ n : Nat, (List.replicate n [x]).flatten = List.replicate n x
  | 0 => rfl
  | n + 1 => by rw [List.replicate_succ, List.flatten_cons, flat_one x n]; rfl
theorem repM_one {α : Type} {x : α} {k : Int} (h0 : -(2 ^ 63) ≤ k) (h : k ≤ 100000) : repM [x] k = some (List.replicate k.toNat x) := by
  unfold repM
  rw [if_pos ⟨h0, by omega, by simp only [List.length_singleton]; omega⟩, flat_one]
theorem mulM_ok {a b : Int} (h1 : -(2 ^ 64) < a) (h2 : a < 2 ^ 64) : mulM a b = some (a * b) := by unfold mulM; rw [if_pos (.inl ⟨h1, h2⟩)]
theorem modM_ok {a b : Int} (h : 0 < b) : modM a b = some (a % b) := by unfold modM; rw [if_pos h]
theorem fdivM_ok {a b : Int} (h : 0 < b) (h2 : b < 1073741824) : fdivM a b = some (a / b) := by unfold fdivM; rw [if_pos ⟨h, h2⟩]
theorem rngM_ok {a b : Int} (h1 : -100000 ≤ a) (h2 : a ≤ 100000) (h3 : -100000 ≤ b) (h4 : b ≤ 100000) : rngM a b = some (rngL a b) := by unfold rngM; rw [if_pos ⟨by omega, by omega, by omega, by omega⟩]
theorem mapC_ok {α β : Type} {f : α → β} {xs : List α} (h : xs.length ≤ 100000) : mapC f xs = some (xs.map f) := by unfold mapC; rw [if_pos h]
theorem filC_ok {α β : Type} {p : α → Bool} {f : α → β} {xs : List α} (h : xs.length ≤ 100000) : filC p f xs = some ((xs.filter p).map f) := by unfold filC; rw [if_pos h]
theorem lcC_ok {α β : Type} {f : α → Option (Option β)} {xs : List α} (h : xs.length ≤ 100000) : lcC f xs = lcM f xs := by unfold lcC; rw [if_pos h]
theorem lcM_all {α β : Type} {f : α → Option (Option β)} {g : α → β} : ∀ {xs : List α}, (∀ x ∈ xs, f x = some (some (g x))) → lcM f xs = some (xs.map g)
  | [], _ => rfl
  | x :: xs, h => by
    show (f x).bind _ = _
    rw [h x List.mem_cons_self, lcM_all fun y hy => h y (List.mem_cons_of_mem _ hy)]
    rfl
theorem lcM_fil {α β : Type} {f : α → Option (Option β)} {p : α → Bool} {g : α → β} : ∀ {xs : List α}, (∀ x ∈ xs, f x = some (if p x = true then some (g x) else none)) → lcM f xs = some ((xs.filter p).map g)
  | [], _ => rfl
  | x :: xs, h => by
    show (f x).bind _ = _
    rw [h x List.mem_cons_self, lcM_fil fun y hy => h y (List.mem_cons_of_mem _ hy), List.filter_cons]
    cases p x <;> rfl
/-- a loop whose every turn goes on keeps what it keeps -/
theorem foldlM_inv {α S : Type} {body : S → α → Option S} (J : Nat → S → Prop) : ∀ (xs : List α) (i : Nat) (s : S), J i s → (∀ (k : Nat) (x : α) (s : S), xs[k]? = some x → J (i + k) s → ∃ t, body s x = some t ∧ J (i + k + 1) t) → ∃ r, xs.foldlM body s = some r ∧ J (i + xs.length) r
  | [], i, s, h, _ => ⟨s, rfl, h⟩
  | x :: xs, i, s, h, hb => by
    obtain ⟨t, h1, h2⟩ := hb 0 x s rfl h
    obtain ⟨r, h3, h4⟩ := foldlM_inv J xs (i + 1) t h2 fun k y u hy hu => by
      have e : i + 1 + k = i + (k + 1) := by omega
      rw [e] at hu ⊢
      exact hb (k + 1) y u (by simpa using hy) hu
    refine ⟨r, ?_, ?_⟩
    · rw [List.foldlM_cons, h1]; exact h3
    · have e : i + (x :: xs).length = i + 1 + xs.length := by rw [List.length_cons]; omega
      rw [e]; exact h4
theorem forF_nx {α S R : Type} {body : S → α → Option (Fl S R)} (J : S → Prop) : ∀ (xs : List α) (s : S), J s → (∀ x ∈ xs, ∀ s, J s → ∃ t, body s x = some (.nx t) ∧ J t) → ∃ r, forF body xs s = some (.nx r) ∧ J r
  | [], s, h, _ => ⟨s, rfl, h⟩
  | x :: xs, s, h, hb => by
    obtain ⟨t, h1, h2⟩ := hb x List.mem_cons_self s h
    obtain ⟨r, h3, h4⟩ := forF_nx J xs t h2 fun y hy => hb y (List.mem_cons_of_mem _ hy)
    refine ⟨r, ?_, h4⟩
    show (body s x).bind _ = _
    rw [h1]; exact h3
theorem enumM_get {α : Type} {xs : List α} {k : Nat} {p : Int × α} (h : (enumM xs)[k]? = some p) : ∃ x, xs[k]? = some x ∧ p = ((k : Int), x) := by
  unfold enumM at h
  rw [List.getElem?_mapIdx] at h
  cases e : xs[k]? with
  | none => rw [e] at h; cases h
  | some x => rw [e] at h; cases h; exact ⟨x, rfl, rfl⟩
theorem enumM_len {α : Type} (xs : List α) : (enumM xs).length = xs.length := by simp [enumM]
theorem rngL_len (a b : Int) : (rngL a b).length = (b - a).toNat := by simp [rngL]
theorem rngL_get {a b : Int} {k : Nat} {x : Int} (h : (rngL a b)[k]? = some x) : x = a + (k : Int) ∧ k < (b - a).toNat := by
  unfold rngL at h
  rw [List.getElem?_map] at h
  cases e : (List.range (b - a).toNat)[k]? with
  | none => rw [e] at h; cases h
  | some j =>
    rw [e] at h
    obtain ⟨h1, h2⟩ := List.getElem?_eq_some_iff.mp e
    rw [List.getElem_range] at h2
    cases h
    subst h2
    exact ⟨rfl, by simpa using h1⟩
/-- each thing below its size -/
inductive Bel : List Int → List Int → Prop
  | nil : Bel [] []
  | cons {x s : Int} {xs ss : List Int} : 0 ≤ x → x < s → Bel xs ss → Bel (x :: xs) (s :: ss)
theorem Bel.len : ∀ {xs ss : List Int}, Bel xs ss → xs.length = ss.length
  | _, _, .nil => rfl
  | _, _, .cons _ _ h => by rw [List.length_cons, List.length_cons, h.len]
theorem Bel.snoc : ∀ {xs ss : List Int} {x s : Int}, Bel xs ss → 0 ≤ x → x < s → Bel (xs ++ [x]) (ss ++ [s])
  | _, _, _, _, .nil, h1, h2 => .cons h1 h2 .nil
  | _, _, _, _, .cons a b h, h1, h2 => .cons a b (h.snoc h1 h2)
theorem Bel.get : ∀ {xs ss : List Int} {k : Nat} {s : Int}, Bel xs ss → ss[k]? = some s → ∃ x, xs[k]? = some x ∧ 0 ≤ x ∧ x < s
  | _, _, _, _, .nil, e => by simp at e
  | _, _, 0, _, .cons a b h, e => by simp at e; subst e; exact ⟨_, rfl, a, b⟩
  | _, _, k + 1, s, .cons a b h, e => by
    obtain ⟨x, h1, h2⟩ := h.get (k := k) (s := s) (by simpa using e)
    exact ⟨x, by simpa using h1, h2⟩
theorem Bel.at {xs ss : List Int} {k : Nat} {s : Int} (h : Bel xs ss) (e : ss[k]? = some s) : ∃ x, atI xs (k : Int) = some x ∧ 0 ≤ x ∧ x < s := by
  obtain ⟨x, h1, h2, h3⟩ := h.get e
  obtain ⟨hk, h4⟩ := List.getElem?_eq_some_iff.mp h1
  exact ⟨x, by rw [atI_nn xs k hk, h4], h2, h3⟩
theorem Bel.rep : ∀ {xs : List Int} {n : Nat} {s : Int}, Bel xs (List.replicate n s) → xs.length = n ∧ ∀ x ∈ xs, 0 ≤ x ∧ x < s
  | _, 0, _, h => by cases h; exact ⟨rfl, fun x hx => by cases hx⟩
  | _, n + 1, s, h => by
    rw [List.replicate_succ] at h
    cases h with
    | cons a b h =>
      obtain ⟨h1, h2⟩ := h.rep
      refine ⟨by rw [List.length_cons, h1], fun x hx => ?_⟩
      rcases List.mem_cons.mp hx with rfl | hx
      · exact ⟨a, b⟩
      · exact h2 x hx
theorem absI_nn (c : Int) : 0 ≤ absI c := by unfold absI; split <;> omega
end Bw

namespace Bw
open PySem L2
/-! what is told, and what is true of it -/
def Rt {α : Type} (o : Option α) (P : α → Prop) : Prop := ∃ x, o = some x ∧ P x
theorem Rt.mono {α : Type} {o : Option α} {P Q : α → Prop} (h : Rt o P) (k : ∀ x, P x → Q x) : Rt o Q := let ⟨x, h1, h2⟩ := h; ⟨x, h1, k x h2⟩
theorem Rt.mo {α : Type} {o : Option α} {P Q : α → Prop} (h : Rt o P) (k : ∀ x, o = some x → P x → Q x) : Rt o Q := let ⟨x, h1, h2⟩ := h; ⟨x, h1, k x h1 h2⟩
theorem Rt.eq {α : Type} {o : Option α} {y : α} (h : Rt o fun x => x = y) : o = some y := let ⟨x, h1, h2⟩ := h; h2 ▸ h1
theorem rt_of {α : Type} {o : Option α} {x : α} {P : α → Prop} (h : o = some x) (p : P x) : Rt o P := ⟨x, h, p⟩
theorem rt_some {α : Type} {x : α} {P : α → Prop} : Rt (some x) P ↔ P x := ⟨fun ⟨y, h1, h2⟩ => (Option.some.inj h1) ▸ h2, fun h => ⟨x, rfl, h⟩⟩
theorem rt_bind {α β : Type} {a : Option α} {f : α → Option β} {P : β → Prop} : Rt (a.bind f) P ↔ Rt a fun x => Rt (f x) P := by
  constructor
  · rintro ⟨y, h1, h2⟩
    obtain ⟨x, h3, h4⟩ := bnd h1
    exact ⟨x, h3, y, h4, h2⟩
  · rintro ⟨x, h3, y, h4, h2⟩
    exact ⟨y, by rw [h3]; exact h4, h2⟩
theorem rt_let {α β : Type} {x : α} {f : α → Option β} {P : β → Prop} : Rt (letM x f) P ↔ Rt (f x) P := Iff.rfl
theorem rt_ite {α : Type} {c : Prop} [Decidable c] {a b : Option α} {P : α → Prop} : Rt (if c then a else b) P ↔ (c → Rt a P) ∧ (¬ c → Rt b P) := by
  by_cases h : c
  · rw [if_pos h]; exact ⟨fun k => ⟨fun _ => k, fun z => absurd h z⟩, fun k => k.1 h⟩
  · rw [if_neg h]; exact ⟨fun k => ⟨fun z => absurd z h, fun _ => k⟩, fun k => k.2 h⟩
theorem rt_pos {α : Type} {c : Prop} [Decidable c] {a b : Option α} {P : α → Prop} (h : c) (k : Rt a P) : Rt (if c then a else b) P := by rw [if_pos h]; exact k
theorem rt_neg {α : Type} {c : Prop} [Decidable c] {a b : Option α} {P : α → Prop} (h : ¬ c) (k : Rt b P) : Rt (if c then a else b) P := by rw [if_neg h]; exact k
theorem rt_if {α : Type} {c : Prop} [Decidable c] {x : α} {P : Prop} [Decidable P] {Q : α → Prop} {o : Prop} (h : o) : o := h
theorem rt_g {α : Type} {p : Prop} [Decidable p] {x : α} {P : α → Prop} : Rt (if p then some x else none) P ↔ p ∧ P x := by
  by_cases h : p
  · rw [if_pos h, rt_some]; exact ⟨fun k => ⟨h, k⟩, fun k => k.2⟩
  · rw [if_neg h]; exact ⟨fun ⟨_, z, _⟩ => (nomatch z), fun k => absurd k.1 h⟩
theorem rt_app {α : Type} {xs : List α} {x : α} {P : List α → Prop} : Rt (appM xs x) P ↔ xs.length < 100000 ∧ P (xs ++ [x]) := by unfold appM; exact rt_g
theorem rt_cat {α : Type} {xs ys : List α} {P : List α → Prop} : Rt (catM xs ys) P ↔ xs.length + ys.length ≤ 100000 ∧ P (xs ++ ys) := by unfold catM; exact rt_g
theorem rt_mul {a b : Int} {P : Int → Prop} : Rt (mulM a b) P ↔ ((-(2 ^ 64) < a ∧ a < 2 ^ 64) ∨ (-(2 ^ 64) < b ∧ b < 2 ^ 64)) ∧ P (a * b) := by unfold mulM; exact rt_g
theorem rt_mod {a b : Int} {P : Int → Prop} : Rt (modM a b) P ↔ 0 < b ∧ P (a % b) := by unfold modM; exact rt_g
theorem rt_fdiv {a b : Int} {P : Int → Prop} : Rt (fdivM a b) P ↔ (0 < b ∧ b < 1073741824) ∧ P (a / b) := by unfold fdivM; exact rt_g
theorem rt_rng {a b : Int} {P : List Int → Prop} : Rt (rngM a b) P ↔ (-(2 ^ 62) ≤ a ∧ a < 2 ^ 62 ∧ -(2 ^ 62) ≤ b ∧ b < 2 ^ 62) ∧ P (rngL a b) := by unfold rngM; exact rt_g
theorem rt_scat {x y : Str} {P : Str → Prop} : Rt (scatM x y) P ↔ x.length + y.length ≤ 100000 ∧ P (x ++ y) := by unfold scatM; exact rt_g
theorem rt_lenS {x : Str} {P : Int → Prop} : Rt (lenS x) P ↔ x.length ≤ 100000 ∧ P (x.length : Int) := by unfold lenS; exact rt_g
theorem rt_str {x : Int} {P : Str → Prop} : Rt (strM x) P ↔ x.natAbs.log2 < 1920 ∧ P (toString x) := by unfold strM; exact rt_g
theorem rt_join {x : Str} {xs : List Str} {P : Str → Prop} : Rt (joinM x xs) P ↔ ((xs.map (·.length)).sum + x.length * xs.length) ≤ 100000 ∧ P (Txt.join x xs) := by unfold joinM; exact rt_g
theorem rt_mapC {α β : Type} {f : α → β} {xs : List α} {P : List β → Prop} : Rt (mapC f xs) P ↔ xs.length ≤ 100000 ∧ P (xs.map f) := by unfold mapC; exact rt_g
theorem rt_filC {α β : Type} {p : α → Bool} {f : α → β} {xs : List α} {P : List β → Prop} : Rt (filC p f xs) P ↔ xs.length ≤ 100000 ∧ P ((xs.filter p).map f) := by unfold filC; exact rt_g
theorem rt_lcC {α β : Type} {f : α → Option (Option β)} {xs : List α} {P : List β → Prop} : Rt (lcC f xs) P ↔ xs.length ≤ 100000 ∧ Rt (lcM f xs) P := by
  unfold lcC
  by_cases h : xs.length ≤ 100000
  · rw [if_pos h]; exact ⟨fun k => ⟨h, k⟩, fun k => k.2⟩
  · rw [if_neg h]; exact ⟨fun ⟨_, z, _⟩ => (nomatch z), fun k => absurd k.1 h⟩
theorem rt_rep {α : Type} {xs : List α} {k : Int} {P : List α → Prop} : Rt (repM xs k) P ↔ (-(2 ^ 63) ≤ k ∧ k < 2 ^ 63 ∧ xs.length * k.toNat ≤ 100000) ∧ P (List.replicate k.toNat xs).flatten := by unfold repM; exact rt_g
theorem rt_at {α : Type} {xs : List α} {i : Int} {P : α → Prop} (h0 : 0 ≤ i) (h : i < xs.length) (k : ∀ x, xs[i.toNat]? = some x → P x) : Rt (atI xs i) P := by
  obtain ⟨x, h1, h2⟩ := atI_int xs i h0 h
  exact ⟨x, h1, k x h2⟩
theorem rt_lc {α β : Type} {f : α → Option (Option β)} {R : α → β → Prop} : ∀ {xs : List α} {P : List β → Prop}, (∀ x ∈ xs, Rt (f x) fun o => ∃ y, o = some y ∧ R x y) → (∀ ys : List β, ys.length = xs.length → (∀ (i : Nat) x y, xs[i]? = some x → ys[i]? = some y → R x y) → P ys) → Rt (lcM f xs) P
  | [], P, _, k => ⟨[], rfl, k [] rfl fun i x y h => by simp at h⟩
  | x :: xs, P, h, k => by
    obtain ⟨o, h1, y, rfl, h2⟩ := h x List.mem_cons_self
    obtain ⟨ys, h3, h4, h5⟩ := rt_lc (xs := xs) (P := fun ys => ys.length = xs.length ∧ ∀ (i : Nat) x y, xs[i]? = some x → ys[i]? = some y → R x y) (fun z hz => h z (List.mem_cons_of_mem _ hz)) fun ys a b => ⟨a, b⟩
    refine ⟨y :: ys, ?_, k _ (by simp [h4]) fun i x' y' hx hy => ?_⟩
    · show (f x).bind _ = _
      rw [h1]
      show (lcM f xs).bind _ = _
      rw [h3]; rfl
    · cases i with
      | zero => simp at hx hy; subst hx; subst hy; exact h2
      | succ i => exact h5 i x' y' (by simpa using hx) (by simpa using hy)
/-- a loop by what it keeps: the turns so far -/
theorem rt_fold {α S : Type} {body : S → α → Option S} {xs : List α} {s : S} {P : S → Prop} (J : Nat → S → Prop) (h0 : J 0 s) (hb : ∀ (k : Nat) x s, xs[k]? = some x → J k s → Rt (body s x) (J (k + 1))) (hd : ∀ s, J xs.length s → P s) : Rt (xs.foldlM body s) P := by
  obtain ⟨r, h1, h2⟩ := foldlM_inv (body := body) J xs 0 s h0 fun k x t hx ht => by
    rw [Nat.zero_add] at ht ⊢
    exact hb k x t hx ht
  exact ⟨r, h1, hd r (by rwa [Nat.zero_add] at h2)⟩
/-- a loop that goes through -/
theorem rt_for {α S R : Type} {body : S → α → Option (Fl S R)} {xs : List α} {s : S} {P : Fl S R → Prop} (J : S → Prop) (h0 : J s) (hb : ∀ x ∈ xs, ∀ s, J s → Rt (body s x) fun f => ∃ t, f = .nx t ∧ J t) (hd : ∀ s, J s → P (.nx s)) : Rt (forF body xs s) P := by
  obtain ⟨r, h1, h2⟩ := forF_nx (body := body) J xs s h0 fun x hx t ht => by
    obtain ⟨f, h1, u, rfl, h2⟩ := hb x hx t ht
    exact ⟨u, h1, h2⟩
  exact ⟨_, h1, hd r h2⟩
end Bw

namespace Bw
open PySem L2 TL
/-! good stores -/
abbrev Bx := Str × Int × Int
abbrev Sto := List Int × List Int × Int × List Bx
theorem popM_ok {α : Type} {xs : List α} (i : Nat) (h : i < xs.length) (hl : xs.length < 1000000) : popM xs (i : Int) = some (xs[i], xs.eraseIdx i) := by
  unfold popM
  rw [if_pos ⟨by omega, by omega⟩]
  have e : seqIndex? (i : Int) xs.length = some i := by
    unfold seqIndex?
    have h0 : ¬ ((i : Int) < 0) := by omega
    simp only [if_neg h0, Int.toNat_natCast]
    rw [if_pos]
    simp; omega
  rw [bo e, List.getElem?_eq_getElem h]
  rfl
theorem erase_perm {α : Type} : ∀ (xs : List α) (i : Nat) (h : i < xs.length), xs.Perm (xs[i] :: xs.eraseIdx i)
  | x :: xs, 0, _ => .refl _
  | x :: xs, i + 1, h => by
    have h' : i < xs.length := by simpa using h
    exact ((erase_perm xs i h').cons x).trans (.swap _ _ _)
theorem remM_ok {xs : List Int} {x : Int} (h : x ∈ xs) : remM xs x = some (xs.erase x) := by
  unfold remM inL
  rw [if_pos]
  exact List.any_eq_true.mpr ⟨x, h, by simp⟩
theorem fold_arr (c : Nat) : ∀ (n : Nat) (a : Array Nat), ((List.replicate n #[c]).foldl (· ++ ·) a).toList = a.toList ++ List.replicate n c
  | 0, a => by simp
  | n + 1, a => by
    rw [List.replicate_succ, List.foldl_cons, fold_arr c n, List.replicate_succ]
    simp
theorem tl_mul1 (x : Str) (c : Nat) (hx : tl x = [c]) (n : Int) : tl (Txt.mul x n) = List.replicate n.toNat c := by
  have e : x = ⟨#[c]⟩ := ext_tl hx
  subst e
  unfold Txt.mul
  split
  · rename_i h
    have : n.toNat = 0 := by omega
    rw [this]; rfl
  · split
    · rename_i h1 h2
      simp [Str.length] at h2
      subst h2
      rfl
    · show ((List.replicate n.toNat #[c]).foldl (· ++ ·) #[]).toList = _
      rw [fold_arr]; rfl
theorem srepM_ok (x : Str) (c : Nat) (hx : tl x = [c]) (n : Int) (h0 : 0 ≤ n) (h : n ≤ 100) : srepM x n = some ⟨(List.replicate n.toNat c).toArray⟩ := by
  unfold srepM
  have hl : x.length = 1 := by rw [len_tl, hx]; rfl
  rw [if_pos ⟨by omega, by omega, by rw [hl]; omega⟩]
  exact congrArg some (ext_tl (by rw [tl_mul1 x c hx]))
theorem scatM_ok (x y : Str) (h : (tl x).length + (tl y).length ≤ 100000) : scatM x y = some ⟨(tl x ++ tl y).toArray⟩ := by
  unfold scatM
  rw [len_tl, len_tl, if_pos h]
  exact congrArg some (ext_tl (by rw [tl_append]))
abbrev abc : Str := "abcdefghijklmnopqrstuvwxyz"
theorem abc_ix : ∀ i : Fin 26, ixS abc ((i.val : Nat) : Int) = some ⟨#[97 + i.val]⟩ := by decide +kernel
theorem abc_at (i : Int) (h0 : 0 ≤ i) (h : i < 26) : ixS abc i = some ⟨#[97 + i.toNat]⟩ := by
  have := abc_ix ⟨i.toNat, by omega⟩
  simp only at this
  rw [← this]
  congr 1
  omega
def NmOk (s : Str) : Prop := 1 ≤ (tl s).length ∧ (tl s).length ≤ 8 ∧ ∀ c ∈ tl s, 97 ≤ c ∧ c ≤ 122
structure BxOk (rooms : List Int) (bs : List Bx) : Prop where
  len : bs.length ≤ 60
  nm : ∀ x ∈ bs, NmOk x.1
  nd : (bs.map (·.1)).Nodup
  ba : ∀ x ∈ bs, 0 ≤ x.2.1 ∧ x.2.1 < rooms.length
  bt : ∀ x ∈ bs, 0 ≤ x.2.2 ∧ x.2.2 < rooms.length
  ra : ∀ (b : Nat) (r : Int), rooms[b]? = some r → (bs.countP fun x => decide (x.2.1 = (b : Int))) ≤ r.toNat
  rt : ∀ (b : Nat) (r : Int), rooms[b]? = some r → (bs.countP fun x => decide (x.2.2 = (b : Int))) ≤ r.toNat
structure SOk (s : Sto) : Prop where
  n2 : 2 ≤ s.1.length
  n16 : s.1.length ≤ 16
  rm : ∀ r ∈ s.1, 1 ≤ r ∧ r ≤ 40
  gl : s.2.1.length + 1 = s.1.length
  gm : ∀ g ∈ s.2.1, 1 ≤ g ∧ g ≤ 1000000000
  mo : 1 ≤ s.2.2.1 ∧ s.2.2.1 ≤ 20
  bx : BxOk s.1 s.2.2.2
/-! equal to its copy -/
def Shp (n : Nat) (d : PyData) : Prop := d.canLay0 = true ∧ d.depth ≤ n
theorem Shp.mono {n m : Nat} {d : PyData} (h : Shp n d) (hm : n ≤ m) : Shp m d := ⟨h.1, Nat.le_trans h.2 hm⟩
theorem shp_int (i : Int) : Shp 0 (.int i) := ⟨rfl, Nat.le_refl _⟩
theorem shp_all {n : Nat} : ∀ {xs : List PyData}, (∀ x ∈ xs, Shp n x) → PyData.canLayAll0 xs = true ∧ PyData.depthAll xs ≤ n
  | [], _ => ⟨rfl, Nat.zero_le _⟩
  | x :: xs, h => by
    obtain ⟨a, b⟩ := shp_all fun y hy => h y (List.mem_cons_of_mem _ hy)
    obtain ⟨c, d⟩ := h x List.mem_cons_self
    unfold PyData.canLayAll0 PyData.depthAll
    rw [a, c]
    exact ⟨rfl, Nat.max_le.mpr ⟨d, b⟩⟩
theorem shp_list {n : Nat} {xs : List PyData} (h : ∀ x ∈ xs, Shp n x) : Shp (n + 1) (.list xs) := by
  obtain ⟨a, b⟩ := shp_all h
  exact ⟨by unfold PyData.canLay0; exact a, by unfold PyData.depth; omega⟩
theorem shp_tup {n : Nat} {xs : List PyData} (h : ∀ x ∈ xs, Shp n x) : Shp (n + 1) (.tuple xs) := by
  obtain ⟨a, b⟩ := shp_all h
  exact ⟨by unfold PyData.canLay0; exact a, by unfold PyData.depth; omega⟩
theorem shp_str {s : Str} (h : ∀ c ∈ tl s, c < 0x110000) : Shp 0 (.str s) := by
  refine ⟨?_, Nat.le_refl _⟩
  unfold PyData.canLay0 PyData.strOk
  rw [Array.all_eq_true']
  intro c hc
  exact decide_eq_true (h c (Array.mem_def.mp hc))
theorem shp_ints (xs : List Int) : Shp 1 (eL eI xs) := shp_list fun x hx => by
  obtain ⟨i, _, rfl⟩ := List.mem_map.mp hx
  exact shp_int i
theorem shp_box {x : Bx} (h : NmOk x.1) : Shp 1 (eT3 eS eI eI x) := shp_tup fun y hy => by
  have hs : Shp 0 (eS x.1) := shp_str fun c hc => by have := h.2.2 c hc; omega
  simp only [List.mem_cons, List.not_mem_nil, or_false] at hy
  rcases hy with rfl | rfl | rfl
  · exact hs
  · exact shp_int _
  · exact shp_int _
theorem shp_boxes {bs : List Bx} (h : ∀ x ∈ bs, NmOk x.1) : Shp 2 (eL (eT3 eS eI eI) bs) := shp_list fun x hx => by
  obtain ⟨y, hy, rfl⟩ := List.mem_map.mp hx
  exact shp_box (h y hy)
theorem shp_store {s : Sto} (h : SOk s) : Shp 3 (eT4 (eL eI) (eL eI) eI (eL (eT3 eS eI eI)) s) := shp_tup fun y hy => by
  simp only [List.mem_cons, List.not_mem_nil, or_false] at hy
  rcases hy with rfl | rfl | rfl | rfl
  · exact (shp_ints _).mono (by decide)
  · exact (shp_ints _).mono (by decide)
  · exact (shp_int _).mono (by decide)
  · exact shp_boxes h.bx.nm
theorem Shp.ok {n : Nat} {d : PyData} (h : Shp n d) (hn : n ≤ 64) : SeqAt.shaped d = true := by
  unfold SeqAt.shaped
  rw [h.1, decide_eq_true (Nat.le_trans h.2 hn)]; rfl
theorem eqT_self {α : Type} [DecidableEq α] {e : α → PyData} {x : α} {n : Nat} (h : Shp n (e x)) (hn : n ≤ 64) : eqTM e x x = some true := by
  unfold eqTM
  rw [if_pos ⟨h.ok hn, h.ok hn⟩, decide_eq_true rfl]
theorem setM_ok {α : Type} {xs : List α} {i : Int} (x : α) (h0 : 0 ≤ i) (h : i < xs.length) : setM xs i x = some (xs.set i.toNat x) := by
  unfold setM ixN
  rw [if_pos h0, if_pos h]
  rfl
theorem cut_take {α : Type} (xs : List α) (i : Int) (h0 : 0 ≤ i) : cutL xs none (some i) = xs.take i.toNat := by
  obtain ⟨k, rfl⟩ : ∃ k : Nat, i = k := ⟨i.toNat, by omega⟩
  unfold cutL
  rw [HT.sIx_none, HT.sIx_nat, Int.toNat_natCast, List.drop_zero, Nat.sub_zero]
  by_cases h : k ≤ xs.length
  · rw [Nat.min_eq_left h]
  · rw [Nat.min_eq_right (by omega), List.take_of_length_le (Nat.le_refl _), List.take_of_length_le (by omega)]
theorem bx_take {rooms : List Int} {bs : List Bx} (h : BxOk rooms bs) (n : Nat) : BxOk rooms (bs.take n) := by
  have sub := List.take_sublist n bs
  refine ⟨Nat.le_trans sub.length_le h.len, fun x hx => h.nm x (sub.mem hx), h.nd.sublist (sub.map _), fun x hx => h.ba x (sub.mem hx), fun x hx => h.bt x (sub.mem hx), fun b r e => Nat.le_trans (sub.countP_le) (h.ra b r e), fun b r e => Nat.le_trans (sub.countP_le) (h.rt b r e)⟩
theorem bx_room {rooms rooms' : List Int} {bs : List Bx} (h : BxOk rooms bs) (hl : rooms'.length = rooms.length) (hg : ∀ (b : Nat) (r' : Int), rooms'[b]? = some r' → ∃ r, rooms[b]? = some r ∧ r ≤ r') : BxOk rooms' bs := by
  refine ⟨h.len, h.nm, h.nd, by rw [hl]; exact h.ba, by rw [hl]; exact h.bt, fun b r' e => ?_, fun b r' e => ?_⟩
  · obtain ⟨r, e1, e2⟩ := hg b r' e
    have := h.ra b r e1; omega
  · obtain ⟨r, e1, e2⟩ := hg b r' e
    have := h.rt b r e1; omega
end Bw

namespace Bw
open PySem L2 TL
/-! good names are names -/
theorem whole_ok (x : Int) : f_is_whole x = some true := rfl
theorem between_eq (x a b : Int) : f_is_between (x, a, b) = some (decide (a ≤ x) && decide (x ≤ b)) := by
  unfold f_is_between
  dsimp only
  rw [bo (whole_ok x), Bool.true_and]
theorem between_ok {x a b : Int} (h1 : a ≤ x) (h2 : x ≤ b) : f_is_between (x, a, b) = some true := by rw [between_eq, decide_eq_true h1, decide_eq_true h2]; rfl
theorem all_id : ∀ {α : Type} (xs : List α), (xs.map fun _ => true).all id = true
  | _, [] => rfl
  | _, _ :: xs => by rw [List.map_cons, List.all_cons, all_id xs]; rfl
theorem inS_abc {c : Nat} (h1 : 97 ≤ c) (h2 : c ≤ 122) : inS ⟨#[c]⟩ "abcdefghijklmnopqrstuvwxyz" = true := by
  have h : ∀ i : Fin 26, 97 + i.val ∈ tl ("abcdefghijklmnopqrstuvwxyz" : Str) := by decide +kernel
  unfold inS
  rw [PySem.StrLaws.found_one, decide_eq_true_eq]
  have := h ⟨c - 97, by omega⟩
  have e : 97 + (c - 97) = c := by omega
  simpa [e] using this
theorem is_name_ok {s : Str} (h : NmOk s) : f_is_name s = some true := by
  obtain ⟨h1, h2, h3⟩ := h
  unfold f_is_name
  have hl : lenS s = some ((tl s).length : Int) := by unfold lenS; rw [len_tl, if_pos (by omega)]
  have e : mapC (fun sign_20 => inS sign_20 ("abcdefghijklmnopqrstuvwxyz" : Str)) (signs s) = some ((signs s).map fun _ => true) := by
    rw [mapC_ok (by simp [signs]; have := len_tl s; simp [tl, Str.length] at *; omega)]
    refine congrArg some (List.map_congr_left fun x hx => ?_)
    obtain ⟨c, hc, rfl⟩ := List.mem_map.mp hx
    exact inS_abc (h3 c hc).1 (h3 c hc).2
  rw [if_neg (by decide), bo hl]
  have g : (!(decide ((1 : Int) ≤ ((tl s).length : Int)) && decide (((tl s).length : Int) ≤ 8))) = false := by
    rw [decide_eq_true (by omega), decide_eq_true (by omega)]; rfl
  rw [g, bo rfl, if_neg (by decide), bo e, all_id]
end Bw

namespace Bw
open PySem L2 TL
/-- lists by their places -/
def lst (N : Nat) (g : Nat → Int) : List Int := (List.range N).map g
theorem lst_len (N : Nat) (g : Nat → Int) : (lst N g).length = N := by simp [lst]
theorem lst_get {N : Nat} {g : Nat → Int} {i : Nat} (h : i < N) : (lst N g)[i]? = some (g i) := by simp [lst, List.getElem?_map, List.getElem?_range h]
theorem lst_ext {N : Nat} {g : Nat → Int} {xs : List Int} (hl : xs.length = N) (h : ∀ i, i < N → xs[i]? = some (g i)) : xs = lst N g := by
  apply List.ext_getElem?
  intro i
  by_cases hi : i < N
  · rw [h i hi, lst_get hi]
  · rw [List.getElem?_eq_none (by omega), List.getElem?_eq_none (by rw [lst_len]; omega)]
theorem lst_at {N : Nat} {g : Nat → Int} {k : Int} (h0 : 0 ≤ k) (h : k < N) : atI (lst N g) k = some (g k.toNat) := by
  obtain ⟨x, h1, h2⟩ := atI_int (lst N g) k h0 (by rw [lst_len]; exact h)
  rw [lst_get (by omega)] at h2
  rw [h1, ← h2]
theorem lst_set {N : Nat} {g : Nat → Int} {k v : Int} (h0 : 0 ≤ k) (h : k < N) : setM (lst N g) k v = some (lst N fun i => if i = k.toNat then v else g i) := by
  rw [setM_ok v h0 (by rw [lst_len]; exact h)]
  refine congrArg some (lst_ext (by rw [List.length_set, lst_len]) fun i hi => ?_)
  rw [List.getElem?_set]
  by_cases e : i = k.toNat
  · rw [if_pos e.symm, if_pos (by rw [lst_len]; omega), if_pos e]
  · rw [if_neg (fun z => e z.symm), lst_get hi, if_neg e]
theorem eqD_self {d : PyData} {n : Nat} (h : Shp n d) (hn : n ≤ 64) : eqDM d d = some true := by
  unfold eqDM
  rw [if_pos ⟨h.ok hn, h.ok hn⟩, SeqAt.eqv_refl _ h.1]
end Bw

namespace Bw
open PySem L2 TL
/-! pools of digits -/
def Pl (s : List Int) : Prop := ∃ a b : Int, s = [a, b] ∧ 0 ≤ b ∧ b < 2147483647
theorem take_ok {s : List Int} (h : Pl s) (m : Int) (hm : 0 < m) (hm2 : m < 1073741824) : ∃ x s', f_take (s, m) = some (x, s') ∧ 0 ≤ x ∧ x < m ∧ Pl s' := by
  obtain ⟨a, b, rfl, hb1, hb2⟩ := h
  have e0 : atI [a, b] 0 = some a := rfl
  have e1 : atI [a, b] 1 = some b := rfl
  unfold f_take
  dsimp only
  rw [bo e0]
  by_cases q : 0 < a
  · rw [if_pos (decide_eq_true q), bo e0, bo (modM_ok hm), bo e0, bo (fdivM_ok hm hm2), bo (show setM [a, b] 0 (a / m) = some [a / m, b] from rfl)]
    exact ⟨_, _, rfl, Int.emod_nonneg _ (by omega), Int.emod_lt_of_pos _ hm, _, _, rfl, hb1, hb2⟩
  · rw [if_neg (by simpa using q), bo e1, bo (show setM [a, b] 1 ((b * 48271 + 11) % 2147483647) = some [a, (b * 48271 + 11) % 2147483647] from rfl)]
    have k1 := Int.emod_nonneg (b * 48271 + 11) (show (2147483647 : Int) ≠ 0 by decide)
    have k2 := Int.emod_lt_of_pos (b * 48271 + 11) (show (0 : Int) < 2147483647 by decide)
    generalize (b * 48271 + 11) % 2147483647 = z at k1 k2
    have e2 : atI [a, z] 1 = some z := rfl
    rw [bo e2, bo e2, bo (mulM_ok (by omega) (by omega)), bo (modM_ok hm)]
    exact ⟨_, _, rfl, Int.emod_nonneg _ (by omega), Int.emod_lt_of_pos _ hm, _, _, rfl, k1, k2⟩
end Bw

namespace Bw
open PySem L2 TL
theorem cut_drop {α : Type} (xs : List α) (i : Int) (h0 : 0 ≤ i) : cutL xs (some i) none = xs.drop i.toNat := by
  have e : i = ((i.toNat : Nat) : Int) := by omega
  rw [e]
  unfold cutL
  rw [HT.sIx_nat, HT.sIx_none, Int.toNat_natCast, List.take_of_length_le (by rw [List.length_drop]; omega)]
  by_cases q : i.toNat ≤ xs.length
  · rw [Nat.min_eq_left q]
  · rw [Nat.min_eq_right (by omega), List.drop_eq_nil_of_le (Nat.le_refl _), List.drop_eq_nil_of_le (by omega)]
theorem pick {α : Type} {xs : List α} {P : α → Prop} {i : Int} (h0 : 0 ≤ i) (h : i < xs.length) (hP : ∀ x ∈ xs, P x) : ∃ x, atI xs i = some x ∧ P x := by
  obtain ⟨x, e, _⟩ := atI_int xs i h0 h
  exact ⟨x, e, hP x (atI_mem e)⟩
end Bw

namespace Bw
open PySem L2 TL
/-! aisles and orders -/
abbrev Ai := List Int × Int
abbrev Od := Str × Int × Int × Int
structure AOk (a : Ai) : Prop where
  n1 : 1 ≤ a.1.length
  n15 : a.1.length ≤ 15
  gm : ∀ g ∈ a.1, 1 ≤ g ∧ g ≤ 1000
  mo : 1 ≤ a.2 ∧ a.2 ≤ 20
structure OOk (n : Nat) (os : List Od) : Prop where
  l60 : os.length ≤ 60
  nm : ∀ x ∈ os, NmOk x.1
  nd : (os.map (·.1)).Nodup
  tk : ∀ x ∈ os, 0 ≤ x.2.1 ∧ x.2.1 ≤ 1000000000
  by_ : ∀ x ∈ os, 0 ≤ x.2.2.1 ∧ x.2.2.1 ≤ n ∧ 0 ≤ x.2.2.2 ∧ x.2.2.2 ≤ n ∧ x.2.2.1 ≠ x.2.2.2
  so : os.Pairwise fun x y => x.2.1 ≤ y.2.1
theorem pool_ok (s : List Int) (k : Int) (h : 0 ≤ k) (hk : k ≤ 100) : Rt (f_pool (s, k)) Pl := by
  unfold f_pool
  dsimp only
  have hc : ∃ c, (if (decide (k < (s.length : Int))) = true then (atI s k).bind fun x => some x else some (0 : Int)) = some c := by
    by_cases q : k < (s.length : Int)
    · rw [if_pos (decide_eq_true q)]
      obtain ⟨x, h1, _⟩ := atI_int s k h q
      exact ⟨x, by rw [bo h1]⟩
    · exact ⟨0, by rw [if_neg (by simpa using q)]⟩
  obtain ⟨c, hc⟩ := hc
  rw [bo hc, bo (mulM_ok (by omega) (by omega)), letM_eq, rt_bind, rt_ite]
  exact ⟨fun _ => rt_some.mpr (rt_some.mpr ⟨_, _, rfl, Int.emod_nonneg _ (by decide), Int.emod_lt_of_pos _ (by decide)⟩), fun _ => rt_some.mpr (rt_some.mpr ⟨_, _, rfl, Int.emod_nonneg _ (by decide), Int.emod_lt_of_pos _ (by decide)⟩)⟩
theorem takes_lc (m : Int) (hm : 0 < m) (hm2 : m < 1073741824) : ∀ (xs : List Int) (s : List Int), Pl s → ∃ s' ys, lcS (fun (z : List Int) (_ : Int) => (f_take (z, m)).bind fun (x, z') => some (z', some (1 + x))) s xs = some (s', ys) ∧ Pl s' ∧ ys.length = xs.length ∧ ∀ y ∈ ys, 1 ≤ y ∧ y ≤ m
  | [], s, h => ⟨s, [], rfl, h, rfl, fun y hy => by cases hy⟩
  | x :: xs, s, h => by
    obtain ⟨u, s1, a1, u0, u1, h1⟩ := take_ok h m hm hm2
    obtain ⟨s2, ys, a2, h2, hl, hy⟩ := takes_lc m hm hm2 xs s1 h1
    refine ⟨s2, (1 + u) :: ys, ?_, h2, by simp [hl], fun y hy' => ?_⟩
    · unfold lcS
      rw [a1]
      show ((lcS _ s1 xs).bind _) = _
      rw [a2]; rfl
    · rcases List.mem_cons.mp hy' with rfl | hy'
      · omega
      · exact hy y hy'
theorem takes_lcC (m : Int) (hm : 0 < m) (hm2 : m < 1073741824) (xs s : List Int) (h : Pl s) (hl : xs.length ≤ 1000) : ∃ s' ys, lcSC (fun (z : List Int) (_ : Int) => (f_take (z, m)).bind fun (x, z') => some (z', some (1 + x))) s xs = some (s', ys) ∧ Pl s' ∧ ys.length = xs.length ∧ ∀ y ∈ ys, 1 ≤ y ∧ y ≤ m := by
  obtain ⟨s', ys, e, r⟩ := takes_lc m hm hm2 xs s h
  exact ⟨s', ys, by unfold lcSC; rw [if_pos (by omega)]; exact e, r⟩
theorem aisle_ok2 {p : List Int} (hp : Pl p) (mg lo : Int) (h1 : 1 ≤ mg) (h2 : mg ≤ 15) (h3 : 1 ≤ lo) (h4 : lo ≤ 1000) : Rt (f_aisle (p, mg, lo)) fun r => (AOk r.1 ∧ Pl r.2) ∧ (r.1.1.length : Int) ≤ mg ∧ ∀ g ∈ r.1.1, g ≤ lo := by
  unfold f_aisle
  dsimp only
  obtain ⟨x, p1, e1, x0, x1, hp1⟩ := take_ok hp mg (by omega) (by omega)
  rw [bo e1]
  dsimp only
  rw [bo (rngM_ok (by omega) (by omega) (by omega) (by omega))]
  obtain ⟨p2, gs, e2, hp2, gl, gm⟩ := takes_lcC lo (by omega) (by omega) (rngL 0 (1 + x)) p1 hp1 (by rw [rngL_len]; omega)
  rw [rngL_len] at gl
  rw [bo e2]
  dsimp only
  obtain ⟨y, p3, e3, y0, y1, hp3⟩ := take_ok hp2 3 (by decide) (by decide)
  rw [bo e3]
  dsimp only
  have pick : ∃ z, atI ([1, 3, 20] : List Int) y = some z ∧ 1 ≤ z ∧ z ≤ 20 := by
    have : y = 0 ∨ y = 1 ∨ y = 2 := by omega
    rcases this with rfl | rfl | rfl
    · exact ⟨_, rfl, by decide, by decide⟩
    · exact ⟨_, rfl, by decide, by decide⟩
    · exact ⟨_, rfl, by decide, by decide⟩
  obtain ⟨z, z1, z2, z3⟩ := pick
  obtain ⟨w, p4, e4, w0, w1, hp4⟩ := take_ok hp3 z (by omega) (by omega)
  rw [bo z1, bo e4]
  dsimp only
  try rw [letM_eq]
  refine rt_some.mpr ⟨⟨⟨by dsimp only; omega, by dsimp only; omega, fun g hg => ?_, by dsimp only; omega, by dsimp only; omega⟩, hp4⟩, by dsimp only; omega, fun g hg => (gm g hg).2⟩
  have := gm g hg
  omega
theorem aisle_ok {p : List Int} (hp : Pl p) (mg lo : Int) (h1 : 1 ≤ mg) (h2 : mg ≤ 15) (h3 : 1 ≤ lo) (h4 : lo ≤ 1000) : Rt (f_aisle (p, mg, lo)) fun r => AOk r.1 ∧ Pl r.2 := (aisle_ok2 hp mg lo h1 h2 h3 h4).mono fun _ h => h.1
/-! names -/
end Bw

namespace Bw
open PySem L2 TL
def suf : Int → List Nat
  | 0 => []
  | 1 => [97]
  | _ => [122, 122]
theorem suf_ok (q : Int) (h : q = 0 ∨ q = 1 ∨ q = 2) : (suf q).length ≤ 2 ∧ ∀ c ∈ suf q, 97 ≤ c ∧ c ≤ 122 := by
  rcases h with rfl | rfl | rfl <;> decide
def nmt (k s : Int) : List Nat :=
  let a := (97 + ((37 * k + s) % 61 % 26).toNat) :: suf ((37 * k + s) % 61 / 26)
  let b := List.replicate (s / 26 % 6).toNat (97 + (s % 26).toNat)
  if s % 2 = 0 then b ++ a else a ++ b
theorem name_ok (k s : Int) : ∃ x, f_name (k, s) = some x ∧ tl x = nmt k s := by
  unfold f_name nmt
  dsimp only
  simp only [letM_eq]
  have a0 := Int.emod_nonneg (37 * k + s) (show (61 : Int) ≠ 0 by decide)
  have a1 := Int.emod_lt_of_pos (37 * k + s) (show (0 : Int) < 61 by decide)
  generalize (37 * k + s) % 61 = t at a0 a1
  have e : ∃ z : Str, atI (["", "a", "zz"] : List Str) (t / 26) = some z ∧ tl z = suf (t / 26) := by
    have : t / 26 = 0 ∨ t / 26 = 1 ∨ t / 26 = 2 := by omega
    rcases this with q | q | q <;> rw [q]
    · exact ⟨"", rfl, by decide +kernel⟩
    · exact ⟨"a", rfl, by decide +kernel⟩
    · exact ⟨"zz", rfl, by decide +kernel⟩
  obtain ⟨z, z1, z2⟩ := e
  have hs := (suf_ok (t / 26) (by omega)).1
  have l1 : (tl z).length ≤ 2 := by rw [z2]; exact hs
  rw [bo (abc_at (t % 26) (by omega) (by omega)), bo z1, bo (scatM_ok _ _ (by show 1 + _ ≤ _; omega)), bo (abc_at (s % 26) (by omega) (by omega)), bo (srepM_ok _ _ rfl _ (by omega) (by omega))]
  have tx : ∀ xs : List Nat, tl (⟨xs.toArray⟩ : Str) = xs := fun xs => rfl
  have o1 : tl (⟨#[97 + (t % 26).toNat]⟩ : Str) = [97 + (t % 26).toNat] := rfl
  by_cases q : s % 2 = 0
  · rw [if_pos (decide_eq_true q), if_pos q, bo (scatM_ok _ _ (by rw [tx, tx, List.length_replicate, List.length_append, o1, List.length_singleton]; omega))]
    refine ⟨_, rfl, ?_⟩
    rw [tx, tx, tx, o1, z2]; rfl
  · rw [if_neg (by simpa using q), if_neg q, bo (scatM_ok _ _ (by simp only [tx, o1, List.length_replicate, List.length_append, List.length_singleton]; omega))]
    refine ⟨_, rfl, ?_⟩
    simp only [tx, o1, z2]; rfl
theorem name_nm {k s : Int} {x : Str} (h : tl x = nmt k s) : NmOk x := by
  have a0 := Int.emod_nonneg (37 * k + s) (show (61 : Int) ≠ 0 by decide)
  have a1 := Int.emod_lt_of_pos (37 * k + s) (show (0 : Int) < 61 by decide)
  unfold nmt at h
  unfold NmOk
  rw [h]
  generalize (37 * k + s) % 61 = t at a0 a1
  have hs := suf_ok (t / 26) (by omega)
  have ha : ∀ c ∈ (97 + (t % 26).toNat) :: suf (t / 26), 97 ≤ c ∧ c ≤ 122 := fun c hc => by
    rcases List.mem_cons.mp hc with rfl | hc
    · omega
    · exact hs.2 c hc
  have hb : ∀ c ∈ List.replicate (s / 26 % 6).toNat (97 + (s % 26).toNat), 97 ≤ c ∧ c ≤ 122 := fun c hc => by
    rw [List.eq_of_mem_replicate hc]; omega
  dsimp only
  split
  · refine ⟨by rw [List.length_append, List.length_cons]; omega, by rw [List.length_append, List.length_cons, List.length_replicate]; omega, fun c hc => ?_⟩
    rcases List.mem_append.mp hc with hc | hc
    · exact hb c hc
    · exact ha c hc
  · refine ⟨by rw [List.length_append, List.length_cons]; omega, by rw [List.length_append, List.length_cons, List.length_replicate]; omega, fun c hc => ?_⟩
    rcases List.mem_append.mp hc with hc | hc
    · exact ha c hc
    · exact hb c hc
theorem name_ne {k j s : Int} {x y : Str} (hk : 0 ≤ k) (hj : 0 ≤ j) (hk2 : k < 61) (hj2 : j < 61) (hkj : k ≠ j) (h : tl x = nmt k s) (h' : tl y = nmt j s) : x ≠ y := by
  rintro rfl
  rw [h] at h'
  unfold nmt at h'
  have key : (97 + ((37 * k + s) % 61 % 26).toNat) :: suf ((37 * k + s) % 61 / 26) = (97 + ((37 * j + s) % 61 % 26).toNat) :: suf ((37 * j + s) % 61 / 26) := by
    dsimp only at h'
    split at h'
    · exact List.append_cancel_left h'
    · exact List.append_cancel_right h'
  injection key with e1 e2
  have hq : ∀ a b : Int, (a = 0 ∨ a = 1 ∨ a = 2) → (b = 0 ∨ b = 1 ∨ b = 2) → suf a = suf b → a = b := by
    intro a b ha hb e
    rcases ha with rfl | rfl | rfl <;> rcases hb with rfl | rfl | rfl <;> first | rfl | (exact absurd e (by decide))
  have := hq _ _ (by omega) (by omega) e2
  omega
/-! orders -/
end Bw

namespace Bw
open PySem L2 TL
theorem look_aisle_ok {a : Ai} (h : AOk a) : f_look_at_aisle a = some (.ok ()) := by
  have n1 := h.n1
  have n15 := h.n15
  unfold f_look_at_aisle
  rw [if_neg (by decide), letM_eq, letM_eq, if_neg (by rw [decide_eq_true (by omega), decide_eq_true (by omega)]; decide), bo ((lcC_ok (by omega)).trans (lcM_all (g := fun _ => true) fun x hx => by
    rw [bo (between_ok (h.gm x hx).1 (h.gm x hx).2)])), all_id, if_neg (by decide), bo (between_ok h.mo.1 h.mo.2), if_neg (by decide)]
theorem is_order_ok {n : Nat} {os : List Od} (h : OOk n os) {x : Od} (hx : x ∈ os) : f_is_order (x, (n : Int)) = some true := by
  have b := h.by_ x hx
  have t := h.tk x hx
  unfold f_is_order
  dsimp only
  rw [if_neg (by decide), letM_eq, letM_eq, bo (is_name_ok (h.nm x hx)), if_neg (by decide), bo (between_ok t.1 t.2), bo rfl, if_neg (by decide), bo (between_ok b.1 b.2.1), if_pos rfl, bo (between_ok b.2.2.1 b.2.2.2.1), decide_eq_false b.2.2.2.2, bo rfl]
  rfl
theorem rt_forK {α S R : Type} {body : S → α → Option (Fl S R)} {P : Fl S R → Prop} (J : Nat → S → Prop) {xs : List α} {s : S} (h0 : J 0 s) (hb : ∀ (k : Nat) x s, xs[k]? = some x → J k s → Rt (body s x) fun f => ∃ t, f = .nx t ∧ J (k + 1) t) (hd : ∀ s, J xs.length s → P (.nx s)) : Rt (forF body xs s) P := by
  induction xs generalizing s J with
  | nil => exact ⟨_, rfl, hd s h0⟩
  | cons x xs ih =>
    obtain ⟨f, e, t, rfl, ht⟩ := hb 0 x s rfl h0
    obtain ⟨r, e2, h2⟩ := ih (fun k => J (k + 1)) ht (fun k y u hy hu => hb (k + 1) y u hy hu) hd
    exact ⟨r, by unfold forF; rw [bo e]; exact e2, h2⟩
theorem look_orders_ok {a : Ai} (ha : AOk a) {os : List Od} (h : OOk a.1.length os) : f_look_at_orders (a, os) = some (.ok ()) := by
  have l60 := h.l60
  unfold f_look_at_orders
  dsimp only
  rw [bo (look_aisle_ok ha)]
  dsimp only
  rw [if_neg (by rw [decide_eq_false (by omega)]; decide)]
  refine Rt.eq (rt_bind.mpr (rt_forK (fun k (t : Int × List (Str × Bool)) => t.2.map (·.1) = (os.take k).map (·.1) ∧ t.1 ≤ 1000000000 ∧ ∀ x, os[k]? = some x → t.1 ≤ x.2.1) ⟨rfl, by decide, fun x hx => (h.tk x (List.mem_of_getElem? hx)).1⟩ (fun k x t hk ht => ?_) fun t ht => rt_some.mpr rfl))
  obtain ⟨late, names⟩ := t
  obtain ⟨h1, h2, h3⟩ := ht
  dsimp only at h1 h2 h3
  have hm := List.mem_of_getElem? hk
  have hlt : k < os.length := (List.getElem?_eq_some_iff.mp hk).1
  have hnew : ∀ p ∈ names, p.1 ≠ x.1 := fun p hp e => by
    have : p.1 ∈ (os.take k).map (·.1) := by rw [← h1]; exact List.mem_map_of_mem hp
    obtain ⟨y, hy, e2⟩ := List.mem_map.mp this
    obtain ⟨i, hi⟩ := List.getElem?_of_mem hy
    rw [List.getElem?_take] at hi
    split at hi
    · rename_i hik
      have nd := h.nd
      rw [List.nodup_iff_pairwise_ne, List.pairwise_map, List.pairwise_iff_getElem] at nd
      have hi' : i < os.length := by omega
      have q1 : os[i] = y := by rw [List.getElem?_eq_getElem hi'] at hi; exact Option.some.inj hi
      have q2 : os[k] = x := by rw [List.getElem?_eq_getElem hlt] at hk; exact Option.some.inj hk
      have := nd i k hi' hlt hik
      rw [q1, q2] at this
      exact this (e2.trans e)
    · cases hi
  have hl : names.length ≤ 60 := by
    have := congrArg List.length h1
    rw [List.length_map, List.length_map, List.length_take] at this
    omega
  have hno : (names.find? fun p => decide (p.1 = x.1)) = none := by
    rw [List.find?_eq_none]; intro p hp; rw [decide_eq_true_eq]; exact hnew p hp
  have hk1 : hasK names x.1 = false := by unfold hasK lookK; rw [hno]; rfl
  have hp1 : putM names x.1 true = some (names ++ [(x.1, true)]) := by
    unfold putM putKV
    rw [if_pos (by omega), if_neg]
    rw [List.any_eq_true]
    rintro ⟨p, hp, e⟩
    exact hnew p hp (of_decide_eq_true e)
  have h4 := h3 x hk
  unfold f_look_at_orders_b34
  dsimp only
  rw [bo (is_order_ok h hm), if_neg (by decide), hk1, if_neg (by decide), if_neg (by rw [decide_eq_true_eq]; omega), bo hp1, letM_eq]
  refine rt_some.mpr ⟨_, rfl, ?_, by have := h.tk x hm; dsimp only; omega, fun y hy => ?_⟩
  · dsimp only
    rw [List.map_append, h1, List.take_add_one, hk, List.map_append]; rfl
  · have so := h.so
    rw [List.pairwise_iff_getElem] at so
    have hlt2 : k + 1 < os.length := (List.getElem?_eq_some_iff.mp hy).1
    have := so k (k + 1) hlt hlt2 (by omega)
    have q2 : os[k] = x := by rw [List.getElem?_eq_getElem hlt] at hk; exact Option.some.inj hk
    have q3 : os[k + 1] = y := by rw [List.getElem?_eq_getElem hlt2] at hy; exact Option.some.inj hy
    rw [q2, q3] at this
    exact this
theorem shp_order {x : Od} (h : NmOk x.1) : Shp 1 (eT4 eS eI eI eI x) := shp_tup fun y hy => by
  simp only [List.mem_cons, List.not_mem_nil, or_false] at hy
  rcases hy with rfl | rfl | rfl | rfl
  · exact (shp_str fun c hc => by have := h.2.2 c hc; omega).mono (by decide)
  · exact shp_int _
  · exact shp_int _
  · exact shp_int _
theorem shp_orders {n : Nat} {os : List Od} (h : OOk n os) : Shp 2 (eL (eT4 eS eI eI eI) os) := shp_list fun x hx => by
  obtain ⟨y, hy, rfl⟩ := List.mem_map.mp hx
  exact shp_order (h.nm y hy)
theorem shp_aisle (a : Ai) : Shp 2 (eT2 (eL eI) eI a) := shp_tup fun y hy => by
  simp only [List.mem_cons, List.not_mem_nil, or_false] at hy
  rcases hy with rfl | rfl
  · exact shp_ints _
  · exact (shp_int _).mono (by decide)
end Bw

namespace Bw
open PySem L2 TL
/-! things of any kind -/
def wi (a b : Int) : PyData → Bool
  | .int i => decide (a ≤ i) && decide (i ≤ b)
  | _ => false
theorem betweenD_ok (d : PyData) (a b : Int) : f_is_between_D (d, a, b) = some (wi a b d) := by
  unfold f_is_between_D f_is_whole_D
  cases d <;> rfl
theorem nf : (!false) = true := rfl
abbrev NA : Option (Rs Unit) := some (.ex ("NoAisle", .none))
def BadA (d : PyData) : Prop := f_look_at_aisle_D d = NA
theorem bad_no {d : PyData} (h : ∀ a b, d ≠ .tuple [a, b]) : BadA d := by
  unfold BadA f_look_at_aisle_D
  by_cases k : isiD "tuple" d = true
  · obtain ⟨ds, rfl⟩ : ∃ ds, d = .tuple ds := by cases d <;> first | exact ⟨_, rfl⟩ | (exact absurd k (by simp [isiD, kindD]))
    have e : lenD (.tuple ds) = some (ds.length : Int) := rfl
    have n2 : ds.length ≠ 2 := fun z => by
      match ds, z with
      | [a, b], _ => exact h a b rfl
    rw [k, if_neg (by decide), bo e, bo rfl, if_pos (by rw [decide_eq_false (by omega)]; rfl)]
  · rw [Bool.eq_false_iff.mpr k, if_pos nf, bo rfl, if_pos rfl]
theorem all_map {α : Type} (p : α → Bool) : ∀ xs : List α, (xs.map p).all id = xs.all p
  | [] => rfl
  | x :: xs => by rw [List.map_cons, List.all_cons, List.all_cons, all_map p xs]; rfl
theorem isl {d : PyData} (h : isiD "list" d = true) : ∃ es, d = .list es := by
  cases d <;> first | exact ⟨_, rfl⟩ | (exact absurd h (by simp [isiD, kindD]))
theorem look_D (g m : PyData) : (∃ es, g = .list es ∧ 1 ≤ es.length ∧ es.length ≤ 15 ∧ es.all (wi 1 1000) = true ∧ wi 1 20 m = true) ∨ BadA (.tuple [g, m]) := by
  have e0 : isiD "tuple" (.tuple [g, m]) = true := rfl
  have l2 : lenD (.tuple [g, m]) = some 2 := rfl
  have t2 : tupD2 (.tuple [g, m]) = some (g, m) := rfl
  by_cases kg : isiD "list" g = true
  · obtain ⟨es, rfl⟩ := isl kg
    have l1 : lenD (.list es) = some (es.length : Int) := rfl
    have c1 : asLD (.list es) = some es := rfl
    by_cases q : 1 ≤ es.length ∧ es.length ≤ 15
    · have e : lcC (fun gap_46 => (((f_is_between_D (gap_46, (1 : Int), (1000 : Int)))).bind fun x57 => some (some x57))) es = some (es.map (wi 1 1000)) := by
        rw [lcC_ok (by omega)]
        exact lcM_all fun x hx => by rw [bo (betweenD_ok x 1 1000)]
      by_cases q2 : es.all (wi 1 1000) = true
      · by_cases q3 : wi 1 20 m = true
        · exact .inl ⟨es, rfl, q.1, q.2, q2, q3⟩
        · right
          unfold BadA f_look_at_aisle_D
          rw [e0, if_neg (by decide), bo l2, bo rfl, if_neg (by decide), bo t2]
          simp only [letM_eq]
          rw [kg, if_neg (by decide), bo l1, bo rfl, if_neg (by rw [decide_eq_true (by omega), decide_eq_true (by omega)]; decide), bo c1, bo e, all_map, q2, if_neg (by decide), bo (betweenD_ok _ _ _), Bool.eq_false_iff.mpr q3, if_pos nf]
      · right
        unfold BadA f_look_at_aisle_D
        rw [e0, if_neg (by decide), bo l2, bo rfl, if_neg (by decide), bo t2]
        simp only [letM_eq]
        rw [kg, if_neg (by decide), bo l1, bo rfl, if_neg (by rw [decide_eq_true (by omega), decide_eq_true (by omega)]; decide), bo c1, bo e, all_map, Bool.eq_false_iff.mpr q2, if_pos nf]
    · right
      unfold BadA f_look_at_aisle_D
      rw [e0, if_neg (by decide), bo l2, bo rfl, if_neg (by decide), bo t2]
      simp only [letM_eq]
      rw [kg, if_neg (by decide), bo l1, bo rfl, if_pos]
      by_cases z : 1 ≤ es.length
      · rw [decide_eq_true (show (1 : Int) ≤ (es.length : Int) by omega), decide_eq_false (show ¬ (es.length : Int) ≤ 15 by omega)]; rfl
      · rw [decide_eq_false (show ¬ (1 : Int) ≤ (es.length : Int) by omega)]; rfl
  · right
    unfold BadA f_look_at_aisle_D
    rw [e0, if_neg (by decide), bo l2, bo rfl, if_neg (by decide), bo t2]
    simp only [letM_eq]
    rw [Bool.eq_false_iff.mpr kg, if_pos nf, bo rfl, if_pos rfl]
theorem bad_list {es : List PyData} {m : PyData} (h : es.length = 0 ∨ 15 < es.length ∨ es.all (wi 1 1000) = false) : BadA (.tuple [.list es, m]) := by
  rcases look_D (.list es) m with ⟨es', e, h1, h2, h3, _⟩ | h'
  · cases e
    rcases h with h | h | h
    · omega
    · omega
    · rw [h] at h3; cases h3
  · exact h'
theorem bad_nolist {g m : PyData} (h : isiD "list" g = false) : BadA (.tuple [g, m]) := by
  rcases look_D g m with ⟨es', e, _⟩ | h'
  · subst e; cases h
  · exact h'
theorem bad_most {g m : PyData} (h : wi 1 20 m = false) : BadA (.tuple [g, m]) := by
  rcases look_D g m with ⟨es', e, _, _, _, h5⟩ | h'
  · rw [h] at h5; cases h5
  · exact h'
end Bw

namespace Bw
open PySem L2 TL
/-- orders out of one pool -/
theorem orders_ok {p : List Int} (hp : Pl p) (n : Nat) (salt many : Int) (n1 : 1 ≤ n) (n15 : n ≤ 15) (m0 : 0 ≤ many) (m1 : many ≤ 60) : Rt (f_orders (p, (n : Int), salt, many)) fun r => OOk n r.1 ∧ Pl r.2 ∧ (r.1.length : Int) = many := by
  unfold f_orders
  dsimp only
  obtain ⟨u, q1, a1, u0, u1, Q1⟩ := take_ok hp 2 (by decide) (by decide)
  obtain ⟨z, ez, z0, z1⟩ : ∃ z, atI ([(1 : Int), ((1000000000 : Int) + (1 : Int))] : (List Int)) u = some z ∧ 1 ≤ z ∧ z ≤ 1000000001 := by
    have : u = 0 ∨ u = 1 := by omega
    rcases this with rfl | rfl
    · exact ⟨_, rfl, by decide, by decide⟩
    · exact ⟨_, rfl, by decide, by decide⟩
  obtain ⟨t0, q2, a2, t00, t01, Q2⟩ := take_ok Q1 z (by omega) (by omega)
  rw [letM_eq, bo a1]
  dsimp only
  rw [bo ez, bo a2]
  dsimp only
  rw [bo (rngM_ok (by omega) (by omega) (by omega) (by omega)), rt_bind]
  refine rt_fold (fun k (t : Int × List Int × List Od) => t.2.2.length = k ∧ Pl t.2.1 ∧ (0 ≤ t.1 ∧ t.1 ≤ 1000000000) ∧ (∀ (i : Nat) x, t.2.2[i]? = some x → tl x.1 = nmt (i : Int) salt ∧ (0 ≤ x.2.1 ∧ x.2.1 ≤ t.1) ∧ 0 ≤ x.2.2.1 ∧ x.2.2.1 ≤ n ∧ 0 ≤ x.2.2.2 ∧ x.2.2.2 ≤ n ∧ x.2.2.1 ≠ x.2.2.2) ∧ t.2.2.Pairwise fun x y => x.2.1 ≤ y.2.1) ⟨rfl, Q2, ⟨by dsimp only; omega, by dsimp only; omega⟩, fun i x hx => by simp at hx, List.Pairwise.nil⟩ (fun k pl t hk ht => ?_) fun t ht => ?_
  · obtain ⟨tick, pl0, os⟩ := t
    obtain ⟨hl, P0, htk, hx, hso⟩ := ht
    dsimp only at hl htk hx hso P0
    obtain ⟨rfl, hk2⟩ := rngL_get hk
    obtain ⟨u, p1, a1, u0, u1, P1⟩ := take_ok P0 3 (by decide) (by decide)
    obtain ⟨hp, a2, hp0, hp1⟩ : ∃ z, atI ([(1 : Int), (30 : Int), (10000000 : Int)] : (List Int)) u = some z ∧ 1 ≤ z ∧ z ≤ 10000000 := by
      have : u = 0 ∨ u = 1 ∨ u = 2 := by omega
      rcases this with rfl | rfl | rfl
      · exact ⟨_, rfl, by decide, by decide⟩
      · exact ⟨_, rfl, by decide, by decide⟩
      · exact ⟨_, rfl, by decide, by decide⟩
    obtain ⟨v, p2, a3, v0, v1, P2⟩ := take_ok P1 hp (by omega) (by omega)
    obtain ⟨w, p3, a4, w0, w1, P3⟩ := take_ok P2 ((n : Int) + 1) (by omega) (by omega)
    obtain ⟨nm, a5, nm1⟩ := name_ok (0 + (k : Int)) salt
    obtain ⟨d, p4, a6, d0, d1, P4⟩ := take_ok P3 (n : Int) (by omega) (by omega)
    have mt : tick ≤ minI 1000000000 (tick + v) ∧ minI 1000000000 (tick + v) ≤ 1000000000 := by unfold minI; split <;> omega
    unfold f_orders_b28
    dsimp only
    rw [bo a1]
    dsimp only
    rw [bo a2, bo a3]
    dsimp only
    rw [letM_eq, bo a4]
    dsimp only
    rw [bo a5, bo a6]
    dsimp only
    rw [bo (modM_ok (by omega)), bo (appM_ok (by omega))]
    have to0 := Int.emod_nonneg (w + 1 + d) (show (n : Int) + 1 ≠ 0 by omega)
    have to1 := Int.emod_lt_of_pos (w + 1 + d) (show (0 : Int) < (n : Int) + 1 by omega)
    have hne : w ≠ (w + 1 + d) % ((n : Int) + 1) := by
      by_cases q : w + 1 + d < (n : Int) + 1
      · rw [Int.emod_eq_of_lt (by omega) q]; omega
      · have : (w + 1 + d) % ((n : Int) + 1) = (w + 1 + d - ((n : Int) + 1)) % ((n : Int) + 1) := by rw [Int.sub_emod_right]
        rw [this, Int.emod_eq_of_lt (by omega) (by omega)]; omega
    refine rt_some.mpr ⟨by simp [hl], P4, ⟨by dsimp only; omega, by dsimp only; omega⟩, fun i x hx' => ?_, ?_⟩
    · dsimp only at hx' ⊢
      rw [List.getElem?_append] at hx'
      split at hx'
      · have := hx i x hx'
        exact ⟨this.1, ⟨this.2.1.1, by omega⟩, this.2.2⟩
      · have h3 := (List.getElem?_eq_some_iff.mp hx').1
        rw [List.length_singleton] at h3
        have h4 : i - os.length = 0 := by omega
        rw [h4] at hx'
        have h5 : (nm, minI 1000000000 (tick + v), w, (w + 1 + d) % ((n : Int) + 1)) = x := by simpa using hx'
        subst h5
        have h6 : (i : Int) = 0 + (k : Int) := by omega
        rw [h6]
        exact ⟨nm1, ⟨by dsimp only; omega, by dsimp only; omega⟩, w0, by dsimp only; omega, to0, by dsimp only; omega, hne⟩
    · dsimp only
      rw [List.pairwise_append]
      refine ⟨hso, List.pairwise_singleton _ _, fun a ha b hb => ?_⟩
      rw [List.mem_singleton.mp hb]
      obtain ⟨i, hi⟩ := List.getElem?_of_mem ha
      have := (hx i a hi).2.1
      dsimp only
      omega
  · obtain ⟨tick, pl0, os⟩ := t
    obtain ⟨hl, P0, htk, hx, hso⟩ := ht
    rw [rngL_len] at hl
    dsimp only at hl htk hx hso P0 ⊢
    refine rt_some.mpr ⟨⟨by dsimp only; omega, fun x hm => ?_, ?_, fun x hm => ?_, fun x hm => ?_, hso⟩, P0, by dsimp only; omega⟩
    · obtain ⟨i, hi⟩ := List.getElem?_of_mem hm
      exact name_nm (hx i x hi).1
    · rw [List.nodup_iff_pairwise_ne, List.pairwise_map, List.pairwise_iff_getElem]
      intro i j hi hj hij
      have a := (hx i _ (List.getElem?_eq_getElem hi)).1
      have b := (hx j _ (List.getElem?_eq_getElem hj)).1
      dsimp only at hi hj
      exact name_ne (by omega) (by omega) (by omega) (by omega) (by omega) a b
    · obtain ⟨i, hi⟩ := List.getElem?_of_mem hm
      have := (hx i x hi).2.1
      omega
    · obtain ⟨i, hi⟩ := List.getElem?_of_mem hm
      exact (hx i x hi).2.2
end Bw

namespace Bw
open PySem L2 TL
/-! things of any kind, looked at as orders -/
abbrev eOd : Od → PyData := eT4 eS eI eI eI
def VO (n : Int) (o : Od) : Prop := NmOk o.1 ∧ (0 ≤ o.2.1 ∧ o.2.1 ≤ 1000000000) ∧ (0 ≤ o.2.2.1 ∧ o.2.2.1 ≤ n) ∧ (0 ≤ o.2.2.2 ∧ o.2.2.2 ≤ n) ∧ o.2.2.1 ≠ o.2.2.2
theorem eOd_inj {o p : Od} (h : eOd o = eOd p) : o = p := by
  obtain ⟨a, b, c, d⟩ := o; obtain ⟨a', b', c', d'⟩ := p
  have h : PyData.tuple [.str a, .int b, .int c, .int d] = .tuple [.str a', .int b', .int c', .int d'] := h
  injection h with h
  injection h with h1 h
  injection h with h2 h
  injection h with h3 h
  injection h with h4 h
  cases h1; cases h2; cases h3; cases h4; rfl
theorem map_inj : ∀ {os ps : List Od}, os.map eOd = ps.map eOd → os = ps
  | [], [], _ => rfl
  | [], _ :: _, h => by cases h
  | _ :: _, [], h => by cases h
  | o :: os, p :: ps, h => by
    rw [List.map_cons, List.map_cons] at h
    injection h with h1 h2
    rw [eOd_inj h1, map_inj h2]
def Tame (d : PyData) : Prop := ∀ s x y z, d = .tuple [.str s, x, y, z] → (tl s).length ≤ 1000
theorem tame_od {o : Od} (h : NmOk o.1) : Tame (eOd o) := fun s x y z e => by
  have e : PyData.tuple [.str o.1, .int o.2.1, .int o.2.2.1, .int o.2.2.2] = .tuple [.str s, x, y, z] := e
  injection e with e
  injection e with e1 e
  injection e1 with e1
  subst e1
  have := h.2.1
  omega
theorem is_name_eq {s : Str} (h : (tl s).length ≤ 1000) : ∃ b, f_is_name s = some b ∧ (b = true → NmOk s) := by
  have hl : lenS s = some ((tl s).length : Int) := by unfold lenS; rw [len_tl, if_pos (by omega)]
  unfold f_is_name
  rw [if_neg (by decide), bo hl, bo rfl]
  by_cases q : 1 ≤ (tl s).length ∧ (tl s).length ≤ 8
  · rw [if_neg (by rw [decide_eq_true (by omega), decide_eq_true (by omega)]; decide), bo (mapC_ok (by simp [signs]; have := len_tl s; simp [tl, Str.length] at *; omega))]
    refine ⟨_, rfl, fun hb => ⟨q.1, q.2, fun c hc => ?_⟩⟩
    have hm : (⟨#[c]⟩ : Str) ∈ signs s := List.mem_map.mpr ⟨c, hc, rfl⟩
    have := List.all_eq_true.mp hb _ (List.mem_map.mpr ⟨_, hm, rfl⟩)
    have this : inS ⟨#[c]⟩ "abcdefghijklmnopqrstuvwxyz" = true := this
    unfold inS at this
    rw [PySem.StrLaws.found_one, decide_eq_true_eq] at this
    have al : ∀ c ∈ ("abcdefghijklmnopqrstuvwxyz" : Str).cps.toList, 97 ≤ c ∧ c ≤ 122 := by decide +kernel
    exact al c (by simpa using this)
  · refine ⟨false, ?_, fun z => by cases z⟩
    rw [if_pos]
    by_cases z : 1 ≤ (tl s).length
    · rw [decide_eq_true (by omega), decide_eq_false (by omega)]; rfl
    · rw [decide_eq_false (by omega)]; rfl
theorem is_name_D {d : PyData} (h : ∀ s, d = .str s → (tl s).length ≤ 1000) : (∃ s, d = .str s ∧ NmOk s ∧ f_is_name_D d = some true) ∨ f_is_name_D d = some false := by
  by_cases k : isiD "str" d = true
  · obtain ⟨s, rfl⟩ : ∃ s, d = .str s := by cases d <;> first | exact ⟨_, rfl⟩ | (exact absurd k (by simp [isiD, kindD]))
    obtain ⟨b, e, hb⟩ := is_name_eq (h s rfl)
    have e2 : f_is_name_D (.str s) = some b := e
    cases b with
    | true => exact .inl ⟨s, rfl, hb rfl, e2⟩
    | false => exact .inr e2
  · right
    unfold f_is_name_D
    rw [Bool.eq_false_iff.mpr k, if_pos nf, bo rfl, if_pos rfl]
theorem eqv_ii (x y : Int) : PyData.eqv (.int x) (.int y) = decide (x = y) := by
  by_cases h : x = y
  · subst h; simp [PyData.eqv]
  · simp [PyData.eqv, h]
theorem wi_int {a b : Int} {d : PyData} (h : wi a b d = true) : ∃ i, d = .int i ∧ a ≤ i ∧ i ≤ b := by
  match d, h with
  | .int i, h =>
    have h : (decide (a ≤ i) && decide (i ≤ b)) = true := h
    rw [Bool.and_eq_true, decide_eq_true_eq, decide_eq_true_eq] at h
    exact ⟨i, rfl, h.1, h.2⟩
theorem is_order_D {d : PyData} {n : Int} (h : Tame d) : (∃ o, d = eOd o ∧ VO n o ∧ f_is_order_D (d, n) = some true) ∨ f_is_order_D (d, n) = some false := by
  by_cases k : ∃ a b c e, d = .tuple [a, b, c, e]
  · obtain ⟨a, b, c, e, rfl⟩ := k
    have e0 : isiD "tuple" (.tuple [a, b, c, e]) = true := rfl
    have l4 : lenD (.tuple [a, b, c, e]) = some 4 := rfl
    have t4 : tupD4 (.tuple [a, b, c, e]) = some (a, b, c, e) := rfl
    unfold f_is_order_D
    dsimp only
    rw [e0, if_neg (by decide), bo l4, bo rfl, if_neg (by decide), bo t4]
    simp only [letM_eq]
    rcases is_name_D (d := a) (fun s hs => by subst hs; exact h s b c e rfl) with ⟨s, rfl, hn, en⟩ | en
    · rw [bo en, if_neg (by decide), bo (betweenD_ok b 0 1000000000), bo rfl]
      by_cases q1 : wi 0 1000000000 b = true
      · obtain ⟨t, rfl, t0, t1⟩ := wi_int q1
        rw [q1, if_neg (by decide), bo (betweenD_ok c 0 n)]
        by_cases q2 : wi 0 n c = true
        · obtain ⟨x, rfl, x0, x1⟩ := wi_int q2
          rw [q2, if_pos rfl, bo (betweenD_ok e 0 n)]
          by_cases q3 : wi 0 n e = true
          · obtain ⟨y, rfl, y0, y1⟩ := wi_int q3
            have eq : eqDM (.int x) (.int y) = some (decide (x = y)) := by
              unfold eqDM; rw [if_pos ⟨rfl, rfl⟩]; exact congrArg some (eqv_ii x y)
            rw [q3, if_pos rfl, bo eq, bo rfl, bo rfl]
            by_cases q4 : x = y
            · right; rw [decide_eq_true q4]; rfl
            · left
              refine ⟨(s, t, x, y), rfl, ⟨hn, ⟨t0, t1⟩, ⟨x0, x1⟩, ⟨y0, y1⟩, q4⟩, ?_⟩
              rw [decide_eq_false q4]; rfl
          · right; rw [Bool.eq_false_iff.mpr q3, if_neg (by decide), bo rfl, bo rfl]
        · right; rw [Bool.eq_false_iff.mpr q2, if_neg (by decide), bo rfl]
      · right; rw [Bool.eq_false_iff.mpr q1, if_pos nf]
    · right; rw [bo en, if_pos nf, bo rfl, if_pos rfl]
  · right
    unfold f_is_order_D
    dsimp only
    by_cases k2 : isiD "tuple" d = true
    · obtain ⟨ds, rfl⟩ : ∃ ds, d = .tuple ds := by cases d <;> first | exact ⟨_, rfl⟩ | (exact absurd k2 (by simp [isiD, kindD]))
      have e : lenD (.tuple ds) = some (ds.length : Int) := rfl
      have n4 : ds.length ≠ 4 := fun z => by
        match ds, z with
        | [a, b, c, e], _ => exact k ⟨a, b, c, e, rfl⟩
      rw [k2, if_neg (by decide), bo e, bo rfl, if_pos (by rw [decide_eq_false (by omega)]; rfl)]
    · rw [Bool.eq_false_iff.mpr k2, if_pos nf, bo rfl, if_pos rfl]
end Bw

namespace Bw
open PySem L2 TL
abbrev NO : Option (Rs Unit) := some (.ex ("NoOrders", .none))
theorem hasK_app {d : List (Str × Bool)} {k x : Str} (h : hasK (d ++ [(x, true)]) k = false) : hasK d k = false ∧ k ≠ x := by
  unfold hasK lookK at *
  rw [List.find?_append] at h
  cases q : d.find? fun p => decide (p.1 = k) with
  | some y => rw [q] at h; cases h
  | none =>
    refine ⟨rfl, fun e => ?_⟩
    rw [q] at h
    subst e
    simp at h
theorem put_new {d : List (Str × Bool)} {k : Str} (h : hasK d k = false) (hl : d.length ≤ 1000) : putM d k true = some (d ++ [(k, true)]) := by
  unfold putM putKV
  rw [if_pos (by omega), if_neg]
  intro z
  rw [List.any_eq_true] at z
  obtain ⟨p, hp, e⟩ := z
  unfold hasK lookK at h
  cases q : d.find? fun p => decide (p.1 = k) with
  | some y => rw [q] at h; cases h
  | none => exact absurd e (by have := List.find?_eq_none.mp q p hp; exact this)
theorem loopD (a : Ai) : ∀ (xs : List PyData) (late : Int) (names : List (Str × Bool)), (∀ d ∈ xs, Tame d) → names.length + xs.length ≤ 1000 →
    (∃ os : List Od, xs = os.map eOd ∧ (∀ o ∈ os, VO a.1.length o) ∧ (os.map (·.1)).Nodup ∧ (∀ o ∈ os, hasK names o.1 = false) ∧ (os.Pairwise fun x y => x.2.1 ≤ y.2.1) ∧ ∀ o ∈ os, late ≤ o.2.1) ∨
    forF (f_look_at_orders_D_b44 a) xs (eI late, names) = some (.rt (.ex ("NoOrders", .none)))
  | [], late, names, _, _ => .inl ⟨[], rfl, (fun o ho => by cases ho), List.nodup_nil, (fun o ho => by cases ho), List.Pairwise.nil, fun o ho => by cases ho⟩
  | d :: xs, late, names, hT, hl => by
    rw [List.length_cons] at hl
    rcases is_order_D (n := (a.1.length : Int)) (hT d List.mem_cons_self) with ⟨o, rfl, vo, e⟩ | e
    · have i0 : ixD (eOd o) 0 = some (.str o.1) := rfl
      have i1 : ixD (eOd o) 1 = some (.int o.2.1) := rfl
      have c0 : asS (.str o.1) = some o.1 := rfl
      have c1 : asI (.int o.2.1) = some o.2.1 := rfl
      have c2 : asI (eI late) = some late := rfl
      by_cases q1 : hasK names o.1 = true
      · right
        unfold forF f_look_at_orders_D_b44
        dsimp only
        rw [bo e, if_neg (by decide), bo i0, bo c0, if_pos q1, bo rfl]
      · have q1 := Bool.eq_false_iff.mpr q1
        by_cases q2 : o.2.1 < late
        · right
          unfold forF f_look_at_orders_D_b44
          dsimp only
          rw [bo e, if_neg (by decide), bo i0, bo c0, q1, if_neg (by decide), bo i1, bo c1, bo c2, if_pos (decide_eq_true q2), bo rfl]
        · have body : f_look_at_orders_D_b44 a (eI late, names) (eOd o) = some (.nx (eI o.2.1, names ++ [(o.1, true)])) := by
            unfold f_look_at_orders_D_b44
            dsimp only
            rw [bo e, if_neg (by decide), bo i0, bo c0, q1, if_neg (by decide), bo i1, bo c1, bo c2, if_neg (by simpa using q2), bo i0, bo c0, bo (put_new q1 (by omega)), bo i1]
          rcases loopD a xs o.2.1 (names ++ [(o.1, true)]) (fun d hd => hT d (List.mem_cons_of_mem _ hd)) (by rw [List.length_append, List.length_singleton]; omega) with ⟨os, rfl, h1, h2, h3, h4, h5⟩ | h
          · left
            refine ⟨o :: os, rfl, fun p hp => ?_, ?_, fun p hp => ?_, ?_, fun p hp => ?_⟩
            · rcases List.mem_cons.mp hp with rfl | hp
              · exact vo
              · exact h1 p hp
            · rw [List.map_cons, List.nodup_cons]
              refine ⟨fun z => ?_, h2⟩
              obtain ⟨p, hp, e⟩ := List.mem_map.mp z
              exact (hasK_app (h3 p hp)).2 e
            · rcases List.mem_cons.mp hp with rfl | hp
              · exact q1
              · exact (hasK_app (h3 p hp)).1
            · rw [List.pairwise_cons]; exact ⟨h5, h4⟩
            · rcases List.mem_cons.mp hp with rfl | hp
              · omega
              · have := h5 p hp; omega
          · right
            unfold forF
            rw [bo body]
            exact h
    · right
      unfold forF f_look_at_orders_D_b44
      dsimp only
      rw [bo e, if_pos nf, bo rfl]
def BadO (a : Ai) (d : PyData) : Prop := f_look_at_orders_D (a, d) = NO
theorem bad_olist {a : Ai} (ha : AOk a) {d : PyData} (h : isiD "list" d = false) : BadO a d := by
  unfold BadO f_look_at_orders_D
  dsimp only
  rw [bo (look_aisle_ok ha)]
  dsimp only
  rw [h, if_pos nf, bo rfl, if_pos rfl]
theorem look_oD {a : Ai} (ha : AOk a) {xs : List PyData} (hT : ∀ d ∈ xs, Tame d) : (∃ os : List Od, xs = os.map eOd ∧ os.length ≤ 60 ∧ (∀ o ∈ os, VO a.1.length o) ∧ (os.map (·.1)).Nodup ∧ os.Pairwise fun x y => x.2.1 ≤ y.2.1) ∨ BadO a (.list xs) := by
  have e0 : isiD "list" (.list xs) = true := rfl
  have l0 : lenD (.list xs) = some (xs.length : Int) := rfl
  have c0 : asLD (.list xs) = some xs := rfl
  by_cases q : xs.length ≤ 60
  · rcases loopD a xs 0 [] hT (by rw [List.length_nil]; omega) with ⟨os, rfl, h1, h2, _, h4, _⟩ | h
    · exact .inl ⟨os, rfl, by rw [List.length_map] at q; exact q, h1, h2, h4⟩
    · right
      unfold BadO f_look_at_orders_D
      dsimp only
      rw [bo (look_aisle_ok ha)]
      dsimp only
      rw [e0, if_neg (by decide), bo l0, bo rfl, if_neg (by rw [decide_eq_false (by omega)]; decide), letM_eq, bo c0, bo h]
  · right
    unfold BadO f_look_at_orders_D
    dsimp only
    rw [bo (look_aisle_ok ha)]
    dsimp only
    rw [e0, if_neg (by decide), bo l0, bo rfl, if_pos (by rw [decide_eq_true (by omega)])]
theorem bad_mem {a : Ai} (ha : AOk a) {xs : List PyData} (hT : ∀ d ∈ xs, Tame d) {d : PyData} (hd : d ∈ xs) (h : ∀ o, VO a.1.length o → d ≠ eOd o) : BadO a (.list xs) := by
  rcases look_oD ha hT with ⟨os, rfl, _, h1, _⟩ | h'
  · obtain ⟨o, ho, rfl⟩ := List.mem_map.mp hd
    exact absurd rfl (h o (h1 o ho))
  · exact h'
theorem bad_typed {a : Ai} (ha : AOk a) {os : List Od} (hn : ∀ o ∈ os, NmOk o.1) (h : 60 < os.length ∨ ¬ (os.map (·.1)).Nodup ∨ ¬ os.Pairwise fun x y => x.2.1 ≤ y.2.1) : BadO a (eL eOd os) := by
  rcases look_oD ha (xs := os.map eOd) (fun d hd => by obtain ⟨o, ho, rfl⟩ := List.mem_map.mp hd; exact tame_od (hn o ho)) with ⟨ps, e, h0, h1, h2, h3⟩ | h'
  · obtain rfl := map_inj e
    rcases h with h | h | h
    · omega
    · exact absurd h2 h
    · exact absurd h3 h
  · exact h'
theorem ne_tup {n : Int} {d : PyData} (h : ∀ a b c e, d ≠ .tuple [a, b, c, e]) : ∀ o, VO n o → d ≠ eOd o := fun o _ e => h _ _ _ _ e
theorem ne_nm {n : Int} {x a b c : PyData} (h : ∀ s, NmOk s → x ≠ .str s) : ∀ o, VO n o → PyData.tuple [x, a, b, c] ≠ eOd o := fun o vo e => by
  have e : PyData.tuple [x, a, b, c] = .tuple [.str o.1, .int o.2.1, .int o.2.2.1, .int o.2.2.2] := e
  injection e with e; injection e with e1 _
  exact h _ vo.1 e1
theorem ne_tk {n : Int} {x a b c : PyData} (h : wi 0 1000000000 x = false) : ∀ o, VO n o → PyData.tuple [a, x, b, c] ≠ eOd o := fun o vo e => by
  have e : PyData.tuple [a, x, b, c] = .tuple [.str o.1, .int o.2.1, .int o.2.2.1, .int o.2.2.2] := e
  injection e with e; injection e with _ e; injection e with e1 _
  subst e1
  simp [wi] at h
  have := h vo.2.1.1; have := vo.2.1.2; omega
theorem ne_at {n : Int} {x a b c : PyData} (h : wi 0 n x = false) : ∀ o, VO n o → PyData.tuple [a, b, x, c] ≠ eOd o := fun o vo e => by
  have e : PyData.tuple [a, b, x, c] = .tuple [.str o.1, .int o.2.1, .int o.2.2.1, .int o.2.2.2] := e
  injection e with e; injection e with _ e; injection e with _ e; injection e with e1 _
  subst e1
  simp [wi] at h
  have := h vo.2.2.1.1; have := vo.2.2.1.2; omega
theorem ne_to {n : Int} {x a b c : PyData} (h : wi 0 n x = false) : ∀ o, VO n o → PyData.tuple [a, b, c, x] ≠ eOd o := fun o vo e => by
  have e : PyData.tuple [a, b, c, x] = .tuple [.str o.1, .int o.2.1, .int o.2.2.1, .int o.2.2.2] := e
  injection e with e; injection e with _ e; injection e with _ e; injection e with _ e; injection e with e1 _
  subst e1
  simp [wi] at h
  have := h vo.2.2.2.1.1; have := vo.2.2.2.1.2; omega
theorem ne_same {n : Int} {a b : PyData} {i : Int} : ∀ o, VO n o → PyData.tuple [a, b, .int i, .int i] ≠ eOd o := fun o vo e => by
  have e : PyData.tuple [a, b, .int i, .int i] = .tuple [.str o.1, .int o.2.1, .int o.2.2.1, .int o.2.2.2] := e
  injection e with e; injection e with _ e; injection e with _ e; injection e with e1 e; injection e with e2 _
  injection e1 with e1; injection e2 with e2
  exact vo.2.2.2.2 (e1.symm.trans e2)
end Bw

namespace Bw
open PySem L2 TL
def Bdo (n : Int) (d : PyData) : Prop := (∀ o, VO n o → d ≠ eOd o) ∧ Tame d
theorem tame_no {d : PyData} (h : ∀ a b c e, d ≠ .tuple [a, b, c, e]) : Tame d := fun s x y z e => absurd e (h _ _ _ _)
theorem tame_4 {x a b c : PyData} (h : ∀ s, x = .str s → (tl s).length ≤ 1000) : Tame (.tuple [x, a, b, c]) := fun s x' y' z' e => by
  injection e with e; injection e with e1 _
  exact h s e1
theorem bdo_no {n : Int} {d : PyData} (h : ∀ a b c e, d ≠ .tuple [a, b, c, e]) : Bdo n d := ⟨ne_tup h, tame_no h⟩
def Nmx (d : PyData) : Prop := (∀ s, NmOk s → d ≠ .str s) ∧ ∀ s, d = .str s → (tl s).length ≤ 1000
theorem nmx_s {t : Str} (h : ¬ NmOk t) (hl : (tl t).length ≤ 1000) : Nmx (.str t) := ⟨fun s hs e => by injection e with e; subst e; exact h hs, fun s e => by injection e with e; subst e; exact hl⟩
theorem nmx_no {d : PyData} (h : isiD "str" d = false) : Nmx d := ⟨(fun s hs e => by rw [e] at h; have h : true = false := h; cases h), (fun s e => by rw [e] at h; have h : true = false := h; cases h)⟩
theorem bad_part_ok {p : List Int} (hp : Pl p) {n : Nat} (n15 : n ≤ 15) {o : Od} (ho : NmOk o.1) : Rt (f_bad_part (p, o, (n : Int))) fun r => Bdo n r.1 ∧ Pl r.2 := by
  obtain ⟨nm, tk, at_, to⟩ := o
  dsimp only at ho
  have hlen : ∀ s, PyData.str nm = .str s → (tl s).length ≤ 1000 := fun s e => by injection e with e; subst e; have := ho.2.1; omega
  obtain ⟨way, p1, e1, w0, w1, P1⟩ := take_ok hp 4 (by decide) (by decide)
  obtain ⟨wh, p2, e2, h0, h1, P2⟩ := take_ok P1 12 (by decide) (by decide)
  unfold f_bad_part
  dsimp only
  simp only [letM_eq]
  rw [bo e1]
  dsimp only
  rw [bo e2]
  dsimp only
  by_cases q0 : way = 0
  · rw [if_pos (decide_eq_true q0)]
    obtain ⟨z, ez, hz⟩ := pick (P := Nmx) (i := wh) (xs := [(eS ("" : Str)), (eS ("A" : Str)), (eS ("abcdefghi" : Str)), (eS ("a1" : Str)), (eS ("a b" : Str)), (eS ("a." : Str)), (eN ()), (eI (5 : Int)), (eB true), ((eL eS) ([nm] : (List Str))), ((eT1 eS) (nm)), (eS ("a\n" : Str))]) h0 (by simpa using h1) (by
      intro d hd
      simp only [List.mem_cons, List.not_mem_nil, or_false] at hd
      rcases hd with rfl | rfl | rfl | rfl | rfl | rfl | rfl | rfl | rfl | rfl | rfl | rfl
      · exact nmx_s (by unfold NmOk; decide) (by decide)
      · exact nmx_s (by unfold NmOk; decide) (by decide)
      · exact nmx_s (by unfold NmOk; decide) (by decide)
      · exact nmx_s (by unfold NmOk; decide) (by decide)
      · exact nmx_s (by unfold NmOk; decide) (by decide)
      · exact nmx_s (by unfold NmOk; decide) (by decide)
      · exact nmx_no rfl
      · exact nmx_no rfl
      · exact nmx_no rfl
      · exact nmx_no rfl
      · exact nmx_no rfl
      · exact nmx_s (by unfold NmOk; decide) (by decide))
    rw [bo ez]
    exact rt_some.mpr ⟨⟨ne_nm hz.1, tame_4 hz.2⟩, P2⟩
  · rw [if_neg (by simpa using q0)]
    by_cases q1 : way = 1
    · rw [if_pos (decide_eq_true q1)]
      obtain ⟨z, ez, hz⟩ := pick (P := fun d => wi 0 1000000000 d = false) (i := wh) (xs := [(eI (-(1 : Int))), (eI ((1000000000 : Int) + (1 : Int))), (eB true), (eN ()), (eS ("1" : Str)), ((eL eI) ([tk] : (List Int))), ((eT1 eI) (tk)), (eI (1000000000000000000000000000000 : Int)), (eB false), (eI (-(1000000000000000000 : Int))), (eI ((1000000000 : Int) + (2 : Int))), (eS ("" : Str))]) h0 (by simpa using h1) (by
        intro d hd
        simp only [List.mem_cons, List.not_mem_nil, or_false] at hd
        rcases hd with rfl | rfl | rfl | rfl | rfl | rfl | rfl | rfl | rfl | rfl | rfl | rfl <;> rfl)
      rw [bo ez]
      exact rt_some.mpr ⟨⟨ne_tk hz, tame_4 hlen⟩, P2⟩
    · rw [if_neg (by simpa using q1)]
      by_cases q2 : way = 2
      · rw [if_pos (decide_eq_true q2)]
        obtain ⟨sx, es⟩ : ∃ sx, strM (n : Int) = some sx := by
          unfold strM
          have : ((n : Int)).natAbs ≤ 15 := by omega
          have h2 : ((n : Int)).natAbs.log2 ≤ 15 := Nat.le_trans (Nat.log2_le_self _) this
          rw [if_pos (show ((n : Int)).natAbs.log2 < 1920 by omega)]
          exact ⟨_, rfl⟩
        have wn : ∀ i : Int, (i < 0 ∨ (n : Int) < i) → wi 0 (n : Int) (eI i) = false := fun i hi => by
          show (decide ((0 : Int) ≤ i) && decide (i ≤ (n : Int))) = false
          rcases hi with hi | hi
          · rw [decide_eq_false (by omega)]; rfl
          · rw [decide_eq_false (show ¬ i ≤ (n : Int) by omega), Bool.and_false]
        obtain ⟨z, ez, hz⟩ := pick (P := fun d => wi 0 (n : Int) d = false) (i := wh) (xs := [(eI (-(1 : Int))), (eI ((n : Int) + (1 : Int))), (eB true), (eN ()), (eS ("0" : Str)), ((eL eI) ([(0 : Int)] : (List Int))), ((eT1 eI) ((0 : Int))), (eI (1000000000000000000000000000000 : Int)), (eB false), (eI (-(1000000000000000000 : Int))), (eI ((n : Int) + (2 : Int))), (eS sx)]) h0 (by simpa using h1) (by
          intro d hd
          simp only [List.mem_cons, List.not_mem_nil, or_false] at hd
          rcases hd with rfl | rfl | rfl | rfl | rfl | rfl | rfl | rfl | rfl | rfl | rfl | rfl
          · exact wn _ (by omega)
          · exact wn _ (by omega)
          · rfl
          · rfl
          · rfl
          · rfl
          · rfl
          · exact wn _ (by omega)
          · rfl
          · exact wn _ (by omega)
          · exact wn _ (by omega)
          · rfl)
        obtain ⟨v, p3, e3, v0, v1, P3⟩ := take_ok P2 2 (by decide) (by decide)
        rw [bo es, bo ez, bo e3]
        dsimp only
        have : v = 0 ∨ v = 1 := by omega
        rcases this with rfl | rfl
        · exact rt_some.mpr ⟨⟨ne_at hz, tame_4 hlen⟩, P3⟩
        · exact rt_some.mpr ⟨⟨ne_to hz, tame_4 hlen⟩, P3⟩
      · rw [if_neg (by simpa using q2), bo (catM_ok (Nat.le_of_ble_eq_true rfl))]
        obtain ⟨z, ez, hz⟩ := pick (P := Bdo (n : Int)) (i := wh) (xs := [((eT3 eS eI eI) (nm, tk, at_)), ((eL eD) ([(eS nm), (eI tk), (eI at_), (eI to)] : (List PyData))), ((eT5 eS eI eI eI eI) (nm, tk, at_, to, (0 : Int))), ((eT4 eS eI eI eI) (nm, tk, at_, at_)), (eN ()), (eS nm)] ++ [((eT4 eS eI eI eI) (nm, tk, to, to)), (PyData.dict []), (eT0 ()), ((eT4 eI eS eI eI) (tk, nm, at_, to)), ((eT2 eS eI) (nm, at_)), ((eT1 (eT4 eS eI eI eI)) ((nm, tk, at_, to)))]) h0 (by simpa using h1) (by
          intro d hd
          simp only [List.cons_append, List.nil_append, List.mem_cons, List.not_mem_nil, or_false] at hd
          rcases hd with rfl | rfl | rfl | rfl | rfl | rfl | rfl | rfl | rfl | rfl | rfl | rfl
          · exact bdo_no fun a b c e z => by injection z with z; cases z
          · exact bdo_no fun a b c e z => by cases z
          · exact bdo_no fun a b c e z => by injection z with z; cases z
          · exact ⟨ne_same, tame_4 hlen⟩
          · exact bdo_no fun a b c e z => by cases z
          · exact bdo_no fun a b c e z => by cases z
          · exact ⟨ne_same, tame_4 hlen⟩
          · exact bdo_no fun a b c e z => by cases z
          · exact bdo_no fun a b c e z => by injection z with z; cases z
          · exact ⟨ne_nm (fun s hs e => by cases e), tame_4 (fun s e => by cases e)⟩
          · exact bdo_no fun a b c e z => by injection z with z; cases z
          · exact bdo_no fun a b c e z => by injection z with z; cases z)
        rw [bo ez]
        exact rt_some.mpr ⟨hz, P2⟩
end Bw

namespace Bw
open PySem L2 TL
/-! one tick -/
def wh (t : Int) : List Od → List Od → List Od × List Od
  | w, [] => (w, [])
  | w, o :: c => if o.2.1 ≤ t then wh t (w ++ [o]) c else (w, o :: c)
theorem wh_len (t : Int) : ∀ (c w : List Od), (wh t w c).1.length + (wh t w c).2.length = w.length + c.length
  | [], w => by simp [wh]
  | o :: c, w => by
    unfold wh
    split
    · rw [wh_len t c]; simp; omega
    · rfl
def SOd (os : List Od) : Prop := ∀ o ∈ os, NmOk o.1
theorem SOd.shp {os : List Od} (h : SOd os) : Shp 2 (eL (eT4 eS eI eI eI) os) := shp_list fun d hd => by
  obtain ⟨x, hx, rfl⟩ := List.mem_map.mp hd
  exact shp_order (h x hx)
theorem eqT_nil {α : Type} [DecidableEq α] {e : α → PyData} {xs : List α} {n : Nat} (h : Shp n (eL e xs)) (hn : n ≤ 64) : eqTM (eL e) xs [] = some (decide (xs = [])) := by
  unfold eqTM
  rw [if_pos ⟨h.ok hn, (shp_list (n := 0) (xs := []) (fun x hx => by cases hx)).ok (by decide)⟩]
theorem while_wh (s : T_Sweep) : ∀ (n : Nat) (w c : List Od), c.length < n → w.length + c.length ≤ 1000 → SOd c →
    whileF (f_Sweep_next_tick_t16 s) (f_Sweep_next_tick_w16 s) n (w, c) = some (.nx (wh s.2.2.2.2.2.2.1 w c))
  | 0, _, _, h, _, _ => absurd h (Nat.not_lt_zero _)
  | n + 1, w, [], _, _, _ => by
    unfold whileF
    have e : f_Sweep_next_tick_t16 s (w, []) = some false := by
      unfold f_Sweep_next_tick_t16
      dsimp only
      rw [bo (eqT_nil (SOd.shp (os := []) (fun o ho => by cases ho)) (by decide)), decide_eq_true rfl, if_neg (by decide), bo rfl]
    rw [bo e, if_neg (by decide)]
    rfl
  | n + 1, w, o :: c, h, hl, hs => by
    unfold whileF
    rw [List.length_cons] at h hl
    have e : f_Sweep_next_tick_t16 s (w, o :: c) = some (decide (o.2.1 ≤ s.2.2.2.2.2.2.1)) := by
      unfold f_Sweep_next_tick_t16
      dsimp only
      rw [bo (eqT_nil hs.shp (by decide)), decide_eq_false (by simp), if_pos (by decide), bo (show atI (o :: c) 0 = some o from atI_nn (o :: c) 0 (by simp)), bo rfl]
    rw [bo e]
    unfold wh
    by_cases q : o.2.1 ≤ s.2.2.2.2.2.2.1
    · rw [decide_eq_true q, if_pos rfl, if_pos q]
      have e2 : f_Sweep_next_tick_w16 s (w, o :: c) = some (.nx (w ++ [o], c)) := by
        unfold f_Sweep_next_tick_w16
        dsimp only
        rw [bo (show popM (o :: c) 0 = some (o, c) from popM_ok (xs := o :: c) 0 (by simp) (by simp; omega))]
        dsimp only
        rw [bo (appM_ok (by omega))]
      rw [bo e2]
      dsimp only
      exact while_wh s n (w ++ [o]) c (by omega) (by simp; omega) (fun x hx => hs x (List.mem_cons_of_mem _ hx))
    · rw [decide_eq_false q, if_neg (by decide), if_neg q]
def tkf (most bay : Int) (up : Bool) (z : List Od × List Od) (o : Od) : List Od × List Od :=
  if o.2.2.1 = bay ∧ decide (o.2.2.1 < o.2.2.2) = up ∧ (z.1.length : Int) < most then (z.1 ++ [o], z.2) else (z.1, z.2 ++ [o])
theorem tkf_len (most bay : Int) (up : Bool) : ∀ (ws : List Od) (z : List Od × List Od), (ws.foldl (tkf most bay up) z).1.length + (ws.foldl (tkf most bay up) z).2.length = z.1.length + z.2.length + ws.length
  | [], z => by simp
  | o :: ws, z => by
    rw [List.foldl_cons, tkf_len most bay up ws]
    unfold tkf
    split <;> simp <;> omega
theorem take_fold (s : T_Sweep) : ∀ (ws : List Od) (r st : List Od), r.length + st.length + ws.length ≤ 1000 →
    ws.foldlM (f_Sweep_take_b26 s) (r, st) = some (ws.foldl (tkf s.2.1 s.2.2.2.2.2.2.2.1 (decide (s.2.2.2.2.2.2.2.2.1 = 1))) (r, st))
  | [], r, st, _ => rfl
  | o :: ws, r, st, hl => by
    rw [List.length_cons] at hl
    rw [List.foldlM_cons, List.foldl_cons]
    have e : f_Sweep_take_b26 s (r, st) o = some (tkf s.2.1 s.2.2.2.2.2.2.2.1 (decide (s.2.2.2.2.2.2.2.2.1 = 1)) (r, st) o) := by
      unfold f_Sweep_take_b26 tkf
      dsimp only
      have e1 : (if (decide (o.2.2.1 = s.2.2.2.2.2.2.2.1)) = true then (((f_is_upward o)).bind fun x55 => some (decide (x55 = (decide (s.2.2.2.2.2.2.2.2.1 = (1 : Int)))))) else some false) = some (decide (o.2.2.1 = s.2.2.2.2.2.2.2.1 ∧ decide (o.2.2.1 < o.2.2.2) = decide (s.2.2.2.2.2.2.2.2.1 = 1))) := by
        by_cases q : o.2.2.1 = s.2.2.2.2.2.2.2.1
        · rw [if_pos (decide_eq_true q), bo (show f_is_upward o = some (decide (o.2.2.1 < o.2.2.2)) from rfl)]
          simp [q]
        · rw [if_neg (by simpa using q)]
          simp [q]
      rw [bo e1]
      by_cases q : o.2.2.1 = s.2.2.2.2.2.2.2.1 ∧ decide (o.2.2.1 < o.2.2.2) = decide (s.2.2.2.2.2.2.2.2.1 = 1)
      · by_cases q2 : (r.length : Int) < s.2.1
        · rw [decide_eq_true q, decide_eq_true q2, if_pos (by decide), bo (appM_ok (by omega)), if_pos ⟨q.1, q.2, q2⟩]
        · rw [decide_eq_true q, decide_eq_false q2, if_neg (by decide), bo (appM_ok (by omega)), if_neg (fun z => q2 z.2.2)]
      · rw [decide_eq_false q, if_neg (by simp), bo (appM_ok (by omega)), if_neg (fun z => q ⟨z.1, z.2.1⟩)]
    show (f_Sweep_take_b26 s (r, st) o).bind _ = _
    rw [bo e]
    have hl2 : (tkf s.2.1 s.2.2.2.2.2.2.2.1 (decide (s.2.2.2.2.2.2.2.2.1 = 1)) (r, st) o).1.length + (tkf s.2.1 s.2.2.2.2.2.2.2.1 (decide (s.2.2.2.2.2.2.2.2.1 = 1)) (r, st) o).2.length + ws.length ≤ 1000 := by
      unfold tkf
      split <;> simp <;> omega
    exact take_fold s ws _ _ hl2
theorem names_ok {os : List Od} (hl : os.length ≤ 60) : f_names_of os = some (srtS (os.map fun o => o.1)) := by
  unfold f_names_of
  refine Eq.trans (bo (mapC_ok (by omega)) _) ?_
  refine Eq.trans (bo (show srtM _ = some _ from by unfold srtM; rw [if_pos (by rw [List.length_map]; omega)]) _) rfl
end Bw

namespace Bw
open PySem L2 TL
theorem at_last {α : Type} (xs : List α) (h : xs ≠ []) : ∃ x, atI xs (-1) = some x := by
  have e : ∀ (xs : List α) (x : α), atI (xs ++ [x]) (-1) = some x := fun xs x => by
    unfold atI
    have : ixN (xs ++ [x]).length (-1) = some xs.length := by
      unfold ixN
      rw [List.length_append, List.length_singleton]
      simp
      omega
    rw [this]; simp
  refine ⟨xs.getLast h, ?_⟩
  have := e xs.dropLast (xs.getLast h)
  rw [List.dropLast_concat_getLast] at this
  exact this
theorem bad_app {a : Ai} (ha : AOk a) {pre post : List Od} (h1 : ∀ o ∈ pre, NmOk o.1) (h2 : ∀ o ∈ post, NmOk o.1) {d : PyData} (hd : Bdo a.1.length d) : BadO a (.list (pre.map eOd ++ [d] ++ post.map eOd)) := by
  refine bad_mem ha (fun x hx => ?_) (d := d) (by simp) hd.1
  rcases List.mem_append.mp hx with hx | hx
  · rcases List.mem_append.mp hx with hx | hx
    · obtain ⟨o, ho, rfl⟩ := List.mem_map.mp hx; exact tame_od (h1 o ho)
    · rw [List.mem_singleton] at hx; subst hx; exact hd.2
  · obtain ⟨o, ho, rfl⟩ := List.mem_map.mp hx; exact tame_od (h2 o ho)
theorem bad_end {a : Ai} (ha : AOk a) {pre : List Od} (h1 : ∀ o ∈ pre, NmOk o.1) {d : PyData} (hd : Bdo a.1.length d) : BadO a (.list (pre.map eOd ++ [d])) := by
  have := bad_app ha h1 (post := []) (fun o ho => by cases ho) hd
  rwa [List.map_nil, List.append_nil] at this
theorem idl (xs : List PyData) : eL eD xs = .list xs := congrArg PyData.list (List.map_id' xs)
theorem bad_orders_ok {p : List Int} (hp : Pl p) {a : Ai} (ha : AOk a) {os : List Od} (ho : OOk a.1.length os) (salt : Int) : Rt (f_bad_orders (p, os, (a.1.length : Int), salt)) fun r => BadO a r.1 ∧ Pl r.2 := by
  have n1 := ha.n1; have n15 := ha.n15; have l60 := ho.l60
  obtain ⟨way, p1, e1, w0, w1, P1⟩ := take_ok hp 4 (by decide) (by decide)
  obtain ⟨wh', p2, e2, h0, h1, P2⟩ := take_ok P1 12 (by decide) (by decide)
  unfold f_bad_orders
  dsimp only
  rw [bo e1]
  dsimp only
  rw [bo e2]
  dsimp only
  rw [bo (eqT_nil (shp_orders ho) (by decide))]
  by_cases q : os = [] ∨ way = 0
  · rw [if_pos (by rw [Bool.or_eq_true, decide_eq_true_eq, decide_eq_true_eq]; exact q)]
    obtain ⟨ys, ey, yl, yn⟩ : Rt (lcC (fun k_40 => (((f_name (k_40, salt))).bind fun x51 => some (some (x51, (5 : Int), (0 : Int), (1 : Int))))) (rngL 0 61)) fun ys => ys.length = 61 ∧ ∀ y ∈ ys, NmOk y.1 := by
      refine rt_lcC.mpr ⟨by rw [rngL_len]; decide, rt_lc (R := fun _ (y : Od) => NmOk y.1) (fun x hx => ?_) fun ys hl hR => ⟨by rw [hl, rngL_len]; rfl, fun y hy => ?_⟩⟩
      · obtain ⟨nm, en, hn⟩ := name_ok x salt
        rw [bo en]
        exact rt_some.mpr ⟨_, rfl, name_nm hn⟩
      · obtain ⟨i, hi⟩ := List.getElem?_of_mem hy
        have li := (List.getElem?_eq_some_iff.mp hi).1
        exact hR i _ y (List.getElem?_eq_getElem (by omega)) hi
    rw [bo (catM_ok (by rw [List.length_map, List.length_singleton]; omega)), bo (catM_ok (by rw [List.length_map, List.length_singleton]; omega)), letM_eq, bo (rngM_ok (by decide) (by decide) (by decide) (by decide)), bo ey, bo (appM_ok (Nat.le_of_ble_eq_true rfl)), bo (catM_ok (by rw [List.length_map, List.length_singleton]; omega)), bo (appM_ok (Nat.le_of_ble_eq_true rfl))]
    obtain ⟨z, ez, hz⟩ := pick (P := BadO a) (i := wh') (xs := [(eN ()), (eT0 ()), (PyData.dict []), (eS ("orders" : Str)), (eI (5 : Int)), (PyData.tuple (os.map (eT4 eS eI eI eI))), ((eL (eO (eT4 eS eI eI eI))) (List.map (fun x => some x) os ++ [none])), ((eL eD) (List.map (eT4 eS eI eI eI) os ++ [((eT1 eS) (("b" : Str)))])), ((eL (eL (eT4 eS eI eI eI))) ([os] : (List (List Od)))), (eB true)] ++ [((eL (eT4 eS eI eI eI)) ys)] ++ [((eL eD) (List.map (eT4 eS eI eI eI) os ++ [eS ("order" : Str)]))]) h0 (by simpa using h1) (by
      intro d hd
      simp only [List.cons_append, List.nil_append, List.mem_cons, List.not_mem_nil, or_false] at hd
      rcases hd with rfl | rfl | rfl | rfl | rfl | rfl | rfl | rfl | rfl | rfl | rfl | rfl
      · exact bad_olist ha rfl
      · exact bad_olist ha rfl
      · exact bad_olist ha rfl
      · exact bad_olist ha rfl
      · exact bad_olist ha rfl
      · exact bad_olist ha rfl
      · have : eL (eO (eT4 eS eI eI eI)) (List.map (fun x => some x) os ++ [none]) = .list (os.map eOd ++ [.none]) := by
          show PyData.list (List.map (eO eOd) (List.map (fun x => some x) os ++ [none])) = _
          rw [List.map_append, List.map_map]; rfl
        rw [this]
        exact bad_end ha ho.nm (bdo_no fun a b c e z => by cases z)
      · rw [idl]; exact bad_end ha ho.nm (bdo_no fun a b c e z => by injection z with z; cases z)
      · exact bad_mem ha (xs := [eL eOd os]) (fun x hx => by rw [List.mem_singleton] at hx; subst hx; exact tame_no fun a b c e z => by cases z) List.mem_cons_self (ne_tup fun a b c e z => by cases z)
      · exact bad_olist ha rfl
      · exact bad_typed ha yn (.inl (by omega))
      · rw [idl]; exact bad_end ha ho.nm (bdo_no fun a b c e z => by cases z))
    rw [bo ez]
    exact rt_some.mpr ⟨hz, P2⟩
  · have qn : os ≠ [] := fun z => q (.inl z)
    have qw : way ≠ 0 := fun z => q (.inr z)
    rw [if_neg (by rw [Bool.or_eq_true, decide_eq_true_eq, decide_eq_true_eq]; exact q)]
    have lp := List.length_pos_iff.mpr qn
    obtain ⟨x, p3, e3, x0, x1, P3⟩ := take_ok P2 (os.length : Int) (by omega) (by omega)
    obtain ⟨k, rfl⟩ : ∃ k : Nat, x = k := ⟨x.toNat, by omega⟩
    have kl : k < os.length := by omega
    have ek : atI os (k : Int) = some os[k] := atI_nn os k kl
    have ct : cutL os none (some (k : Int)) = os.take k := by rw [cut_take _ _ (by omega), Int.toNat_natCast]
    have cd : cutL os (some (k : Int)) none = os.drop k := by rw [cut_drop _ _ (by omega), Int.toNat_natCast]
    have cd1 : cutL os (some ((k : Int) + 1)) none = os.drop (k + 1) := by rw [cut_drop _ _ (by omega)]; congr 1
    have lt : (os.take k).length ≤ 60 := by rw [List.length_take]; omega
    have ld : (os.drop k).length ≤ 60 := by rw [List.length_drop]; omega
    have ld1 : (os.drop (k + 1)).length ≤ 60 := by rw [List.length_drop]; omega
    have dk : os[k] ∈ os.drop k := by rw [List.drop_eq_getElem_cons kl]; exact List.mem_cons_self
    have nk := ho.nm os[k] (List.getElem_mem kl)
    have nmt_ : ∀ o ∈ os.take k, NmOk o.1 := fun o h => ho.nm o (List.mem_of_mem_take h)
    have nmd : ∀ o ∈ os.drop k, NmOk o.1 := fun o h => ho.nm o (List.mem_of_mem_drop h)
    have nmd1 : ∀ o ∈ os.drop (k + 1), NmOk o.1 := fun o h => ho.nm o (List.mem_of_mem_drop h)
    have mid : ∀ {nw : Od}, NmOk nw.1 → ∀ o ∈ os.take k ++ [nw] ++ os.drop k, NmOk o.1 := fun {nw} hw o h => by
      rcases List.mem_append.mp h with h | h
      · rcases List.mem_append.mp h with h | h
        · exact nmt_ o h
        · rw [List.mem_singleton] at h; subst h; exact hw
      · exact nmd o h
    rw [bo e3]
    dsimp only
    rw [bo ek, letM_eq, letM_eq]
    by_cases q1 : way = 1
    · by_cases q2 : wh' < 4
      · rw [if_pos (by rw [decide_eq_true q1, decide_eq_true q2]; rfl), ct, cd, bo (catM_ok (by rw [List.length_singleton]; omega)), bo (catM_ok (by rw [List.length_append, List.length_singleton]; omega))]
        refine rt_some.mpr ⟨bad_typed ha (mid nk) (.inr (.inl fun nd => ?_)), P3⟩
        rw [List.map_append, List.nodup_append] at nd
        exact nd.2.2 os[k].1 (List.mem_map.mpr ⟨(os[k].1, os[k].2.1, 0, 1), by simp, rfl⟩) os[k].1 (List.mem_map.mpr ⟨_, dk, rfl⟩) rfl
      · rw [if_neg (by rw [decide_eq_false q2, Bool.and_false]; decide)]
        by_cases q3 : wh' < 8
        · obtain ⟨la, el⟩ := at_last os qn
          rw [if_pos (by rw [decide_eq_true q1, decide_eq_true q3]; rfl), bo el, bo (catM_ok (by rw [List.length_singleton]; omega))]
          refine rt_some.mpr ⟨bad_typed ha (fun o h => ?_) (.inr (.inl fun nd => ?_)), P3⟩
          · rcases List.mem_append.mp h with h | h
            · exact ho.nm o h
            · rw [List.mem_singleton] at h; subst h; exact nk
          · rw [List.map_append, List.nodup_append] at nd
            exact nd.2.2 os[k].1 (List.mem_map.mpr ⟨_, List.getElem_mem kl, rfl⟩) os[k].1 (List.mem_map.mpr ⟨(os[k].1, la.2.1, 1, 0), by simp, rfl⟩) rfl
        · obtain ⟨nm, en, hn⟩ := name_ok 60 salt
          rw [if_neg (by rw [decide_eq_false q3, Bool.and_false]; decide), if_pos (decide_eq_true q1), bo en, ct, cd, bo (catM_ok (by rw [List.length_singleton]; omega)), bo (catM_ok (by rw [List.length_append, List.length_singleton]; omega))]
          refine rt_some.mpr ⟨bad_typed ha (mid (name_nm hn)) (.inr (.inr fun nd => ?_)), P3⟩
          rw [List.pairwise_append] at nd
          have := nd.2.2 (nm, os[k].2.1 + 1, 0, 1) (by simp) os[k] dk
          dsimp only at this
          omega
    · rw [if_neg (by rw [decide_eq_false q1, Bool.false_and]; decide), if_neg (by rw [decide_eq_false q1, Bool.false_and]; decide), if_neg (by simpa using q1), bo ek]
      obtain ⟨⟨d, p4⟩, ed, hd, P4⟩ := bad_part_ok P3 n15 nk
      dsimp only at hd P4
      rw [bo ed]
      dsimp only
      rw [ct, cd1, bo (catM_ok (by rw [List.length_map, List.length_singleton]; omega)), bo (catM_ok (by rw [List.length_append, List.length_map, List.length_map, List.length_singleton]; omega))]
      refine rt_some.mpr ⟨?_, P4⟩
      dsimp only
      rw [idl]
      exact bad_app ha nmt_ nmd1 hd
end Bw

namespace Bw
open PySem L2 TL
/-! the first tick -/
def ri0 (most : Int) (os : List Od) : List Od := ((wh 0 [] os).1.foldl (tkf most 0 true) ([], [])).1
theorem first_tick {a : Ai} (ha : AOk a) {os : List Od} (ho : OOk a.1.length os) : ∃ s, f_Sweep_next_tick (a.1, a.2, os, [], [], [], 0, 0, 1, 0) = some ((0, some 0, srtS ((ri0 a.2 os).map fun o => o.1), []), s) := by
  have n1 := ha.n1; have l60 := ho.l60
  have wl := wh_len 0 os []
  have e0 := while_wh (a.1, a.2, os, [], [], [], 0, 0, 1, 0) fuel [] os (by unfold fuel; omega) (by simp only [List.length_nil]; omega) ho.nm
  obtain ⟨g0, eg, _⟩ := atI_int a.1 0 (by decide) (by omega)
  have eta := take_fold (a.1, a.2, (wh 0 [] os).2, (wh 0 [] os).1, [], [], 0, 0, 1, 0) (wh 0 [] os).1 [] [] (by simp only [List.length_nil] at *; omega)
  have tl0 := tkf_len a.2 0 true (wh 0 [] os).1 ([], [])
  simp only [List.length_nil] at wl tl0
  have rl : (ri0 a.2 os).length ≤ 60 := by unfold ri0; omega
  have et : f_Sweep_turn (a.1, a.2, (wh 0 [] os).2, (wh 0 [] os).1, [], [], 0, 0, 1, 0) = some ((), (a.1, a.2, (wh 0 [] os).2, (wh 0 [] os).1, [], [], 0, 0, 1, 0)) := by
    unfold f_Sweep_turn
    dsimp only
    rw [if_pos (decide_eq_true rfl), bo rfl, if_neg (by simp; omega)]
  have epu : f_Sweep_put (a.1, a.2, (wh 0 [] os).2, (wh 0 [] os).1, [], [], 0, 0, 1, 0) = some ((), (a.1, a.2, (wh 0 [] os).2, (wh 0 [] os).1, [], [], 0, 0, 1, 0)) := by
    unfold f_Sweep_put
    dsimp only
    refine Eq.trans (bo (filC_ok (by simp)) _) ?_
    refine Eq.trans (bo (catM_ok (by simp)) _) ?_
    refine Eq.trans (bo (filC_ok (by simp)) _) ?_
    rfl
  have etk : ∃ st, f_Sweep_take (a.1, a.2, (wh 0 [] os).2, (wh 0 [] os).1, [], [], 0, 0, 1, 0) = some ((), (a.1, a.2, (wh 0 [] os).2, st, ri0 a.2 os, [], 0, 0, 1, 0)) := by
    unfold f_Sweep_take
    dsimp only at eta ⊢
    rw [letM_eq, bo eta]
    exact ⟨_, rfl⟩
  obtain ⟨st, etk⟩ := etk
  have el : f_Sweep_leave (a.1, a.2, (wh 0 [] os).2, st, ri0 a.2 os, [], 0, 0, 1, 0) = some ((), (a.1, a.2, (wh 0 [] os).2, st, ri0 a.2 os, [], 0, 0 + 1, 1, g0)) := by
    unfold f_Sweep_leave
    dsimp only
    rw [bo (show atI a.1 (minI 0 (0 + 1)) = some g0 from eg)]
    rfl
  refine ⟨(a.1, a.2, (wh 0 [] os).2, st, ri0 a.2 os, [], 0 + 1, 0 + 1, 1, g0 - 1), ?_⟩
  unfold f_Sweep_next_tick
  refine Eq.trans (bo e0 _) ?_
  dsimp only
  rw [letM_eq, if_pos (decide_eq_true rfl), letM_eq]
  rw [bo et]
  dsimp only
  rw [bo epu]
  dsimp only
  rw [bo etk]
  dsimp only
  rw [bo el]
  refine Eq.trans (bo rfl _) ?_
  dsimp only
  rw [bo (names_ok rl), bo (names_ok (os := []) (by decide))]
  rfl
theorem sweep_make {a : Ai} (h : AOk a) {os : List Od} (ho : OOk a.1.length os) : f_Sweep (a, os) = some (a.1, a.2, os, [], [], [], 0, 0, 1, 0) := by
  unfold f_Sweep
  dsimp only
  rw [bo (look_orders_ok h ho)]
  rfl
theorem inO : (("NoOrders", PyData.none) : Xe).1 ∈ xcl := by decide
theorem inA : (("NoAisle", PyData.none) : Xe).1 ∈ xcl := by decide
theorem told1 {a : Ai} {d : PyData} (h : BadO a d) {way : Int} (h0 : 0 ≤ way) (h1 : way < 2) : f_told_D (way, a, d) = some "orders" := by
  have e2 : f_Sweep_D (a, d) = some (.ex ("NoOrders", .none)) := by unfold f_Sweep_D; dsimp only; rw [bo h]
  have cs : way = 0 ∨ way = 1 := by omega
  unfold f_told_D
  dsimp only
  rcases cs with rfl | rfl
  · rw [if_pos (by decide), bo h]; dsimp only; rw [if_pos inO]; rfl
  · rw [if_neg (by decide), if_pos (by decide), bo e2]; dsimp only; rw [if_pos inO]; rfl
theorem told2 {b d : PyData} (h : BadA b) {way : Int} (h0 : 0 ≤ way) (h1 : way < 2) : f_told_D_2 (way, b, d) = some "aisle" := by
  have e1 : f_look_at_orders_D_2 (b, d) = some (.ex ("NoAisle", .none)) := by unfold f_look_at_orders_D_2; dsimp only; rw [bo h]
  have e2 : f_Sweep_D_2 (b, d) = some (.ex ("NoAisle", .none)) := by unfold f_Sweep_D_2; dsimp only; rw [bo e1]
  have cs : way = 0 ∨ way = 1 := by omega
  unfold f_told_D_2
  dsimp only
  rcases cs with rfl | rfl
  · rw [if_pos (by decide), bo e1]; dsimp only; rw [if_pos inA]; rfl
  · rw [if_neg (by decide), if_pos (by decide), bo e2]; dsimp only; rw [if_pos inA]; rfl
theorem told3 {b : PyData} {os : List Od} (h : BadA b) {way : Int} (h0 : 0 ≤ way) (h1 : way < 2) : f_told_D_3 (way, b, os) = some "aisle" := by
  have e1 : f_look_at_orders_D_3 (b, os) = some (.ex ("NoAisle", .none)) := by unfold f_look_at_orders_D_3; dsimp only; rw [bo h]
  have e2 : f_Sweep_D_3 (b, os) = some (.ex ("NoAisle", .none)) := by unfold f_Sweep_D_3; dsimp only; rw [bo e1]
  have cs : way = 0 ∨ way = 1 := by omega
  unfold f_told_D_3
  dsimp only
  rcases cs with rfl | rfl
  · rw [if_pos (by decide), bo e1]; dsimp only; rw [if_pos inA]; rfl
  · rw [if_neg (by decide), if_pos (by decide), bo e2]; dsimp only; rw [if_pos inA]; rfl
theorem okM_ok {β : Type} (y : β) : okM (Rs.ok y) = some y := rfl
theorem great_ok (n : Nat) (n1 : 1 ≤ n) (salt : Int) : Rt (lcC (fun k_55 => (((f_name (k_55, salt))).bind fun x66 => some (some (x66, (1000000000 : Int), (0 : Int), (n : Int))))) (rngL 0 60)) fun os => OOk n os ∧ ∀ o ∈ os, o.2.1 = 1000000000 := by
  refine rt_lcC.mpr ⟨by rw [rngL_len]; decide, rt_lc (R := fun k (y : Od) => tl y.1 = nmt k salt ∧ y.2 = (1000000000, 0, (n : Int))) (fun x hx => ?_) fun ys hl hR => ?_⟩
  · obtain ⟨nm, en, hn⟩ := name_ok x salt
    rw [bo en]
    exact rt_some.mpr ⟨_, rfl, hn, rfl⟩
  · rw [rngL_len] at hl
    have hx : ∀ (i : Nat) y, ys[i]? = some y → tl y.1 = nmt (i : Int) salt ∧ y.2 = (1000000000, 0, (n : Int)) := fun i y hi => by
      have li := (List.getElem?_eq_some_iff.mp hi).1
      have hi2 : i < (rngL 0 60).length := by rw [rngL_len]; omega
      obtain ⟨e, _⟩ := rngL_get (List.getElem?_eq_getElem hi2)
      have := hR i _ y (List.getElem?_eq_getElem hi2) hi
      rw [e] at this
      rw [show (i : Int) = 0 + (i : Int) by omega]
      exact this
    have hm : ∀ y ∈ ys, y.2 = (1000000000, 0, (n : Int)) ∧ NmOk y.1 := fun y hy => by
      obtain ⟨i, hi⟩ := List.getElem?_of_mem hy
      exact ⟨(hx i y hi).2, name_nm (hx i y hi).1⟩
    refine ⟨⟨by rw [hl]; decide, fun y hy => (hm y hy).2, ?_, fun y hy => by rw [(hm y hy).1]; dsimp only; omega, fun y hy => by rw [(hm y hy).1]; dsimp only; omega, ?_⟩, fun y hy => by rw [(hm y hy).1]⟩
    · rw [List.nodup_iff_pairwise_ne, List.pairwise_map, List.pairwise_iff_getElem]
      intro i j hi hj hij
      have a := (hx i _ (List.getElem?_eq_getElem hi)).1
      have b := (hx j _ (List.getElem?_eq_getElem hj)).1
      have e60 : (60 - 0 : Int).toNat = 60 := rfl
      exact name_ne (by omega) (by omega) (by omega) (by omega) (by omega) a b
    · rw [List.pairwise_iff_getElem]
      intro i j hi hj hij
      rw [(hm _ (List.getElem_mem hi)).1, (hm _ (List.getElem_mem hj)).1]
      exact Int.le_refl _
theorem ri0_great (most : Int) {os : List Od} (h : ∀ o ∈ os, o.2.1 = 1000000000) : ri0 most os = [] := by
  have : wh 0 [] os = ([], os) := by
    cases os with
    | nil => rfl
    | cons o os => unfold wh; rw [if_neg (by rw [h o List.mem_cons_self]; decide)]
  unfold ri0; rw [this]; rfl
theorem law_true (ns : List Int) (h : ns.length ≤ 63) : f_law ns = some true := by
  have mx : 2 ≤ maxI 2 (minI (ns.length : Int) 63) ∧ maxI 2 (minI (ns.length : Int) 63) ≤ 63 := by unfold maxI minI; (repeat' split) <;> omega
  obtain ⟨p0, ep0, P0⟩ := pool_ok ns 0 (by omega) (by omega)
  obtain ⟨⟨a, p1⟩, ea, A, P1⟩ := aisle_ok P0 15 1000 (by decide) (by decide) (by decide) (by decide)
  dsimp only at A P1
  have n1 := A.n1; have n15 := A.n15
  obtain ⟨salt, p2, e2, _, _, P2⟩ := take_ok P1 9516 (by decide) (by decide)
  obtain ⟨many, p3, e3, m0, m1, P3⟩ := take_ok P2 61 (by decide) (by decide)
  obtain ⟨⟨os, p4⟩, eo, O, P4, _⟩ := orders_ok P3 a.1.length salt many n1 n15 m0 (by omega)
  dsimp only at O P4
  obtain ⟨gr, eg, G, gt⟩ := great_ok a.1.length n1 salt
  obtain ⟨s1, t1⟩ := first_tick A G
  obtain ⟨s2, t2⟩ := first_tick A O
  rw [ri0_great a.2 gt] at t1
  have tA : ∀ i, 0 ≤ i → i < 6 → ∃ d, atI ([(eN ()), ((eL eD) ([(eL eI) a.1, eI a.2] : (List PyData))), ((eT1 (eL eI)) (a.1)), ((eT2 (eL eN) eI) ([], (1 : Int))), ((eT2 (eL eI) eI) (a.1 ++ [0], (1 : Int))), ((eT2 (eL eI) eI) (a.1, (21 : Int)))] : (List PyData)) i = some d ∧ BadA d := fun i i0 i1 => by
    refine pick i0 (by simpa using i1) ?_
    intro d hd
    simp only [List.mem_cons, List.not_mem_nil, or_false] at hd
    rcases hd with rfl | rfl | rfl | rfl | rfl | rfl
    · exact bad_no fun a b z => by cases z
    · exact bad_no fun a b z => by cases z
    · exact bad_no fun a b z => by injection z with z; cases z
    · exact bad_list (.inl rfl)
    · refine bad_list (.inr (.inr ?_))
      rw [List.map_append, List.all_append]
      exact Bool.and_false _
    · exact bad_most rfl
  unfold f_law
  rw [bo ep0, bo ea]
  dsimp only
  rw [letM_eq, bo e2]
  dsimp only
  rw [bo e3]
  dsimp only
  rw [bo eo]
  dsimp only
  rw [letM_eq, bo (rngM_ok (by decide) (by decide) (by decide) (by decide)), bo eg, bo (look_orders_ok A O), bo (okM_ok _), if_neg (by decide), bo (look_orders_ok A G), bo (okM_ok _), bo rfl, if_neg (by decide), bo (sweep_make A G), bo t1]
  have sn : Shp 2 (eT4 eI (eO eI) (eL eS) (eL eS) ((0 : Int), some (0 : Int), ([] : List Str), ([] : List Str))) := shp_tup fun d hd => by
    rcases List.mem_cons.mp hd with rfl | hd
    · exact (shp_int _).mono (by omega)
    · rcases List.mem_cons.mp hd with rfl | hd
      · exact (shp_int 0).mono (by omega)
      · have : d = eL eS [] := by
          rcases List.mem_cons.mp hd with rfl | hd
          · rfl
          · exact List.mem_singleton.mp hd
        subst this
        exact shp_list (n := 0) (xs := []) (fun x hx => by cases hx)
  refine Eq.trans (bo (eqT_self sn (by decide)) _) ?_
  rw [if_neg (by decide), bo (sweep_make A O), bo t2, if_neg (by decide)]
  refine Eq.trans (bo (x := false) ?_ _) ?_
  · dsimp only
    rw [decide_eq_true rfl, if_neg (by decide), bo (eqT_nil (xs := []) (shp_list (n := 0) (xs := []) (fun x hx => by cases hx)) (by decide))]
    rfl
  rw [if_neg (by decide), bo (catM_ok (by rw [List.length_singleton]; omega)), letM_eq, bo (rngM_ok (by omega) (by omega) (by omega) (by omega))]
  refine Rt.eq ?_
  rw [rt_bind]
  refine rt_for (fun _ => True) trivial (fun k hk u _ => ?_) fun u _ => ?_
  · obtain ⟨i, hi⟩ := List.mem_iff_getElem?.mp hk
    obtain ⟨rfl, hi2⟩ := rngL_get hi
    obtain ⟨q0, eq0, Q0⟩ := pool_ok ns (1 + (i : Int)) (by omega) (by omega)
    obtain ⟨⟨d, q1⟩, ed, BD, Q1⟩ := bad_orders_ok Q0 A O salt
    dsimp only at BD Q1
    obtain ⟨j, q2, ej, j0, j1, Q2⟩ := take_ok Q1 6 (by decide) (by decide)
    obtain ⟨b, eb, BB⟩ := tA j j0 j1
    unfold f_law_b307
    dsimp only
    rw [bo eq0, bo ed]
    dsimp only
    rw [bo ej]
    dsimp only
    rw [bo eb, bo (rngM_ok (by decide) (by decide) (by decide) (by decide)), rt_bind]
    refine rt_for (fun _ => True) trivial (fun way hw _ _ => ?_) fun _ _ => ?_
    · obtain ⟨v, hv⟩ := List.mem_iff_getElem?.mp hw
      obtain ⟨rfl, hv2⟩ := rngL_get hv
      have v2 : (2 - 0 : Int).toNat = 2 := rfl
      unfold f_law_b366
      rw [bo (told1 BD (by omega) (by omega)), if_neg (by decide), bo (told2 BB (by omega) (by omega)), bo rfl, if_neg (by decide), bo (told3 BB (by omega) (by omega)), if_neg (by decide)]
      exact rt_some.mpr ⟨(), rfl, trivial⟩
    · dsimp only
      rw [bo (look_orders_ok A O), bo (okM_ok _), if_neg (by decide)]
      exact rt_some.mpr ⟨_, rfl, trivial⟩
  · dsimp only
    have sk : Shp 3 (eL eD [eT2 (eL eI) eI a, eL (eT4 eS eI eI eI) os]) := by
      rw [idl]
      refine shp_list fun d hd => ?_
      rcases List.mem_cons.mp hd with rfl | hd
      · exact shp_aisle a
      · rw [List.mem_singleton] at hd; subst hd; exact shp_orders O
    rw [bo (eqD_self sk (by decide))]
    exact rt_some.mpr rfl
end Bw

set_option maxHeartbeats 0
namespace Bw
open PySem L2
def de0 : He.DefD := ⟨("is_whole", none), "is_whole", "is_whole", defArgs s_is_whole, defBody s_is_whole, defScope s_is_whole, [], []⟩
def de1 : He.DefD := ⟨("is_name", none), "is_name", "is_name", defArgs s_is_name, defBody s_is_name, defScope s_is_name, [], []⟩
def de2 : He.DefD := ⟨("is_between", none), "is_between", "is_between", defArgs s_is_between, defBody s_is_between, defScope s_is_between, [], []⟩
def de3 : He.DefD := ⟨("look_at_aisle", none), "look_at_aisle", "look_at_aisle", defArgs s_look_at_aisle, defBody s_look_at_aisle, defScope s_look_at_aisle, [], []⟩
def de4 : He.DefD := ⟨("is_order", none), "is_order", "is_order", defArgs s_is_order, defBody s_is_order, defScope s_is_order, [], []⟩
def de5 : He.DefD := ⟨("look_at_orders", none), "look_at_orders", "look_at_orders", defArgs s_look_at_orders, defBody s_look_at_orders, defScope s_look_at_orders, [], []⟩
def de6 : He.DefD := ⟨("is_upward", none), "is_upward", "is_upward", defArgs s_is_upward, defBody s_is_upward, defScope s_is_upward, [], []⟩
def de7 : He.DefD := ⟨("names_of", none), "names_of", "names_of", defArgs s_names_of, defBody s_names_of, defScope s_names_of, [], []⟩
def de8 : He.DefD := ⟨("_law_pool", none), "_law_pool", "_law_pool", defArgs s_pool, defBody s_pool, defScope s_pool, [], []⟩
def de9 : He.DefD := ⟨("_law_take", none), "_law_take", "_law_take", defArgs s_take, defBody s_take, defScope s_take, [], []⟩
def de10 : He.DefD := ⟨("_law_aisle", none), "_law_aisle", "_law_aisle", defArgs s_aisle, defBody s_aisle, defScope s_aisle, [], []⟩
def de11 : He.DefD := ⟨("_law_name", none), "_law_name", "_law_name", defArgs s_name, defBody s_name, defScope s_name, [], []⟩
def de12 : He.DefD := ⟨("_law_orders", none), "_law_orders", "_law_orders", defArgs s_orders, defBody s_orders, defScope s_orders, [], []⟩
def de13 : He.DefD := ⟨("_law_bad_part", none), "_law_bad_part", "_law_bad_part", defArgs s_bad_part, defBody s_bad_part, defScope s_bad_part, [], []⟩
def de14 : He.DefD := ⟨("_law_bad_orders", none), "_law_bad_orders", "_law_bad_orders", defArgs s_bad_orders, defBody s_bad_orders, defScope s_bad_orders, [], []⟩
def de15 : He.DefD := ⟨("_law_told", none), "_law_told", "_law_told", defArgs s_told_D, defBody s_told_D, defScope s_told_D, [], []⟩
def de16 : He.DefD := ⟨("law", none), "law", "law", defArgs s_law, defBody s_law, defScope s_law, [], []⟩
def de17 : He.DefD := ⟨("Sweep", some "__init__"), "__init__", "Sweep.__init__", defArgs s_Sweep, defBody s_Sweep, defScope s_Sweep, [], []⟩
def de18 : He.DefD := ⟨("Sweep", some "leave"), "leave", "Sweep.leave", defArgs s_Sweep_leave, defBody s_Sweep_leave, defScope s_Sweep_leave, [], []⟩
def de19 : He.DefD := ⟨("Sweep", some "next_tick"), "next_tick", "Sweep.next_tick", defArgs s_Sweep_next_tick, defBody s_Sweep_next_tick, defScope s_Sweep_next_tick, [], []⟩
def de20 : He.DefD := ⟨("Sweep", some "put"), "put", "Sweep.put", defArgs s_Sweep_put, defBody s_Sweep_put, defScope s_Sweep_put, [], []⟩
def de21 : He.DefD := ⟨("Sweep", some "take"), "take", "Sweep.take", defArgs s_Sweep_take, defBody s_Sweep_take, defScope s_Sweep_take, [], []⟩
def de22 : He.DefD := ⟨("Sweep", some "turn"), "turn", "Sweep.turn", defArgs s_Sweep_turn, defBody s_Sweep_turn, defScope s_Sweep_turn, [], []⟩
def fnL : List He.DefD := [de0, de1, de2, de3, de4, de5, de6, de7, de8, de9, de10, de11, de12, de13, de14, de15, de16, de17, de18, de19, de20, de21, de22]
def faL : List He.Fa := [.glo "is_whole", .glo "is_name", .glo "is_between", .glo "look_at_aisle", .glo "is_order", .glo "look_at_orders", .glo "is_upward", .glo "names_of", .glo "_law_pool", .glo "_law_take", .glo "_law_aisle", .glo "_law_name", .glo "_law_orders", .glo "_law_bad_part", .glo "_law_bad_orders", .glo "_law_told", .glo "law", .free "ValueError", .free "all", .free "bool", .free "int", .free "isinstance", .free "len", .free "list", .free "max", .free "min", .free "range", .free "sorted", .free "str", .free "tuple", .int "LATEST" 1000000000, .str "LETTERS" "abcdefghijklmnopqrstuvwxyz", .int "LONGEST" 8, .int "LONGEST_GAP" 1000, .int "MOST_GAPS" 15, .int "MOST_LOAD" 20, .int "MOST_ORDERS" 60, .glo "CartError", .glo "NoAisle", .glo "NoBay", .glo "NoBox", .glo "NoFork", .glo "NoOrders", .glo "NoPaper", .glo "NoPlan", .glo "NoRoom", .glo "NoRow", .glo "NoStore", .glo "NoText", .glo "NoWants", .glo "TooMany", .glo "Unknown", .glo "Sweep", .mkr "Sweep", .cls "Sweep", .noat "Sweep" "ahead", .noat "Sweep" "arrived", .noat "Sweep" "bay", .noat "Sweep" "coming", .noat "Sweep" "gaps", .noat "Sweep" "most", .noat "Sweep" "riding", .noat "Sweep" "step", .noat "Sweep" "tick", .noat "Sweep" "waiting", .meth "Sweep" "leave", .meth "Sweep" "next_tick", .meth "Sweep" "put", .meth "Sweep" "take", .meth "Sweep" "turn"]
def lo0 : List Str := ["CartError", "NoText", "NoBay", "NoBox", "NoRoom", "NoFork", "NoWants", "NoAisle", "NoOrders", "NoRow", "Unknown", "TooMany", "NoStore", "NoPlan", "NoPaper", "LETTERS", "LONGEST", "is_whole", "is_name", "MOST_GAPS", "LONGEST_GAP", "MOST_LOAD", "MOST_ORDERS", "LATEST", "is_between", "look_at_aisle", "is_order", "look_at_orders", "is_upward", "names_of"]
def lo1 : List Str := ["Sweep", "_law_pool", "_law_take", "_law_aisle", "_law_name", "_law_orders", "_law_bad_part", "_law_bad_orders", "_law_told"]
def looseL : List Str := lo0 ++ lo1
abbrev RowL : PySem.W.OpenRow := PySem.W.OpenLaw.row PySem.Challenge.rw_baycart_k50_orders_and_none
abbrev hkL : PySem.W.Hook := hookB 4 faL fnL (xfcB xcl xts)
def obL (s : PySem.W.SharedT) : He.AlD × Bool := obsB 4 faL fnL (xfcB xcl xts) (HandSHeadRun.getT s)
theorem obL_eq (s : PySem.W.SharedT) : obL s = hkL.obs s.abs := obsB_eq (HandSHeadRun.getT_eq s)
theorem runL (w : World) : HandSHeadRun.RunEq RowL (PySem.W.view RowL.prog [45]) hkL obL 20000 looseL w := by
  intro os
  kernel_rfl
theorem all_ok {P : Program} {w : World} {K : PySem.W.Frag} {h : Heap} {mg : Str → Option Value} {base : Heap} (X : K.In h) (G : h.Ns mainGlobals mg) (c : He.SaysD faL fnL K) (cx : xfcB xcl xts K = true) : Ok P w K mg base 8 "law" ["_law_script"] (sp_law K) := by
  have m_ValueError : mg "ValueError" = none := He.free_ok X G (c.fact 17 (f := .free "ValueError") rfl)
  have m_all : mg "all" = none := He.free_ok X G (c.fact 18 (f := .free "all") rfl)
  have m_bool : mg "bool" = none := He.free_ok X G (c.fact 19 (f := .free "bool") rfl)
  have m_int : mg "int" = none := He.free_ok X G (c.fact 20 (f := .free "int") rfl)
  have m_isinstance : mg "isinstance" = none := He.free_ok X G (c.fact 21 (f := .free "isinstance") rfl)
  have m_len : mg "len" = none := He.free_ok X G (c.fact 22 (f := .free "len") rfl)
  have m_list : mg "list" = none := He.free_ok X G (c.fact 23 (f := .free "list") rfl)
  have m_max : mg "max" = none := He.free_ok X G (c.fact 24 (f := .free "max") rfl)
  have m_min : mg "min" = none := He.free_ok X G (c.fact 25 (f := .free "min") rfl)
  have m_range : mg "range" = none := He.free_ok X G (c.fact 26 (f := .free "range") rfl)
  have m_sorted : mg "sorted" = none := He.free_ok X G (c.fact 27 (f := .free "sorted") rfl)
  have m_str : mg "str" = none := He.free_ok X G (c.fact 28 (f := .free "str") rfl)
  have m_tuple : mg "tuple" = none := He.free_ok X G (c.fact 29 (f := .free "tuple") rfl)
  have c_LATEST : ∃ t, mg "LATEST" = some (.int 1000000000 t) := He.int_ok X G (c.fact 30 (f := .int "LATEST" 1000000000) rfl)
  have c_LETTERS : ∃ t, mg "LETTERS" = some (.str "abcdefghijklmnopqrstuvwxyz" t) := He.str_ok X G (c.fact 31 (f := .str "LETTERS" "abcdefghijklmnopqrstuvwxyz") rfl)
  have c_LONGEST : ∃ t, mg "LONGEST" = some (.int 8 t) := He.int_ok X G (c.fact 32 (f := .int "LONGEST" 8) rfl)
  have c_LONGEST_GAP : ∃ t, mg "LONGEST_GAP" = some (.int 1000 t) := He.int_ok X G (c.fact 33 (f := .int "LONGEST_GAP" 1000) rfl)
  have c_MOST_GAPS : ∃ t, mg "MOST_GAPS" = some (.int 15 t) := He.int_ok X G (c.fact 34 (f := .int "MOST_GAPS" 15) rfl)
  have c_MOST_LOAD : ∃ t, mg "MOST_LOAD" = some (.int 20 t) := He.int_ok X G (c.fact 35 (f := .int "MOST_LOAD" 20) rfl)
  have c_MOST_ORDERS : ∃ t, mg "MOST_ORDERS" = some (.int 60 t) := He.int_ok X G (c.fact 36 (f := .int "MOST_ORDERS" 60) rfl)
  have g_CartError : mg "CartError" = some (.ref (He.ga K "CartError")) := He.glo_ok X G (c.fact 37 (f := .glo "CartError") rfl)
  have g_NoAisle : mg "NoAisle" = some (.ref (He.ga K "NoAisle")) := He.glo_ok X G (c.fact 38 (f := .glo "NoAisle") rfl)
  have g_NoBay : mg "NoBay" = some (.ref (He.ga K "NoBay")) := He.glo_ok X G (c.fact 39 (f := .glo "NoBay") rfl)
  have g_NoBox : mg "NoBox" = some (.ref (He.ga K "NoBox")) := He.glo_ok X G (c.fact 40 (f := .glo "NoBox") rfl)
  have g_NoFork : mg "NoFork" = some (.ref (He.ga K "NoFork")) := He.glo_ok X G (c.fact 41 (f := .glo "NoFork") rfl)
  have g_NoOrders : mg "NoOrders" = some (.ref (He.ga K "NoOrders")) := He.glo_ok X G (c.fact 42 (f := .glo "NoOrders") rfl)
  have g_NoPaper : mg "NoPaper" = some (.ref (He.ga K "NoPaper")) := He.glo_ok X G (c.fact 43 (f := .glo "NoPaper") rfl)
  have g_NoPlan : mg "NoPlan" = some (.ref (He.ga K "NoPlan")) := He.glo_ok X G (c.fact 44 (f := .glo "NoPlan") rfl)
  have g_NoRoom : mg "NoRoom" = some (.ref (He.ga K "NoRoom")) := He.glo_ok X G (c.fact 45 (f := .glo "NoRoom") rfl)
  have g_NoRow : mg "NoRow" = some (.ref (He.ga K "NoRow")) := He.glo_ok X G (c.fact 46 (f := .glo "NoRow") rfl)
  have g_NoStore : mg "NoStore" = some (.ref (He.ga K "NoStore")) := He.glo_ok X G (c.fact 47 (f := .glo "NoStore") rfl)
  have g_NoText : mg "NoText" = some (.ref (He.ga K "NoText")) := He.glo_ok X G (c.fact 48 (f := .glo "NoText") rfl)
  have g_NoWants : mg "NoWants" = some (.ref (He.ga K "NoWants")) := He.glo_ok X G (c.fact 49 (f := .glo "NoWants") rfl)
  have g_TooMany : mg "TooMany" = some (.ref (He.ga K "TooMany")) := He.glo_ok X G (c.fact 50 (f := .glo "TooMany") rfl)
  have g_Unknown : mg "Unknown" = some (.ref (He.ga K "Unknown")) := He.glo_ok X G (c.fact 51 (f := .glo "Unknown") rfl)
  have XC := xfc_of cx
  have x_NoAisle : ExD K mg "NoAisle" := exd_of cx (by decide) (by decide) g_NoAisle
  have x_NoOrders : ExD K mg "NoOrders" := exd_of cx (by decide) (by decide) g_NoOrders
  have d_is_whole : Df K mg "is_whole" s_is_whole := ⟨c.def_ 0 (d := de0) rfl, He.glo_ok X G (c.fact 0 (f := .glo "is_whole") rfl)⟩
  have d_is_name : Df K mg "is_name" s_is_name := ⟨c.def_ 1 (d := de1) rfl, He.glo_ok X G (c.fact 1 (f := .glo "is_name") rfl)⟩
  have d_is_between : Df K mg "is_between" s_is_between := ⟨c.def_ 2 (d := de2) rfl, He.glo_ok X G (c.fact 2 (f := .glo "is_between") rfl)⟩
  have d_look_at_aisle : Df K mg "look_at_aisle" s_look_at_aisle := ⟨c.def_ 3 (d := de3) rfl, He.glo_ok X G (c.fact 3 (f := .glo "look_at_aisle") rfl)⟩
  have d_is_order : Df K mg "is_order" s_is_order := ⟨c.def_ 4 (d := de4) rfl, He.glo_ok X G (c.fact 4 (f := .glo "is_order") rfl)⟩
  have d_look_at_orders : Df K mg "look_at_orders" s_look_at_orders := ⟨c.def_ 5 (d := de5) rfl, He.glo_ok X G (c.fact 5 (f := .glo "look_at_orders") rfl)⟩
  have d_is_upward : Df K mg "is_upward" s_is_upward := ⟨c.def_ 6 (d := de6) rfl, He.glo_ok X G (c.fact 6 (f := .glo "is_upward") rfl)⟩
  have d_names_of : Df K mg "names_of" s_names_of := ⟨c.def_ 7 (d := de7) rfl, He.glo_ok X G (c.fact 7 (f := .glo "names_of") rfl)⟩
  have d_pool : Df K mg "_law_pool" s_pool := ⟨c.def_ 8 (d := de8) rfl, He.glo_ok X G (c.fact 8 (f := .glo "_law_pool") rfl)⟩
  have d_take : Df K mg "_law_take" s_take := ⟨c.def_ 9 (d := de9) rfl, He.glo_ok X G (c.fact 9 (f := .glo "_law_take") rfl)⟩
  have d_aisle : Df K mg "_law_aisle" s_aisle := ⟨c.def_ 10 (d := de10) rfl, He.glo_ok X G (c.fact 10 (f := .glo "_law_aisle") rfl)⟩
  have d_name : Df K mg "_law_name" s_name := ⟨c.def_ 11 (d := de11) rfl, He.glo_ok X G (c.fact 11 (f := .glo "_law_name") rfl)⟩
  have d_orders : Df K mg "_law_orders" s_orders := ⟨c.def_ 12 (d := de12) rfl, He.glo_ok X G (c.fact 12 (f := .glo "_law_orders") rfl)⟩
  have d_bad_part : Df K mg "_law_bad_part" s_bad_part := ⟨c.def_ 13 (d := de13) rfl, He.glo_ok X G (c.fact 13 (f := .glo "_law_bad_part") rfl)⟩
  have d_bad_orders : Df K mg "_law_bad_orders" s_bad_orders := ⟨c.def_ 14 (d := de14) rfl, He.glo_ok X G (c.fact 14 (f := .glo "_law_bad_orders") rfl)⟩
  have d_told_D : Df K mg "_law_told" s_told_D := ⟨c.def_ 15 (d := de15) rfl, He.glo_ok X G (c.fact 15 (f := .glo "_law_told") rfl)⟩
  have d_law : Df K mg "law" s_law := ⟨c.def_ 16 (d := de16) rfl, He.glo_ok X G (c.fact 16 (f := .glo "law") rfl)⟩
  have d_Sweep : DfM K "Sweep" "__init__" "Sweep.__init__" s_Sweep := c.def_ 17 (d := de17) rfl
  have gc_Sweep : mg "Sweep" = some (.ref (He.ga K "Sweep")) := He.glo_ok X G (c.fact 52 (f := .glo "Sweep") rfl)
  have mkr_Sweep := He.mkr_ok (K := K) (c.fact 53 (f := .mkr "Sweep") rfl)
  have cl_Sweep := He.cls_ok (K := K) (c.fact 54 (f := .cls "Sweep") rfl)
  have na_Sweep_ahead := He.noat_ok (K := K) (c.fact 55 (f := .noat "Sweep" "ahead") rfl)
  have na_Sweep_arrived := He.noat_ok (K := K) (c.fact 56 (f := .noat "Sweep" "arrived") rfl)
  have na_Sweep_bay := He.noat_ok (K := K) (c.fact 57 (f := .noat "Sweep" "bay") rfl)
  have na_Sweep_coming := He.noat_ok (K := K) (c.fact 58 (f := .noat "Sweep" "coming") rfl)
  have na_Sweep_gaps := He.noat_ok (K := K) (c.fact 59 (f := .noat "Sweep" "gaps") rfl)
  have na_Sweep_most := He.noat_ok (K := K) (c.fact 60 (f := .noat "Sweep" "most") rfl)
  have na_Sweep_riding := He.noat_ok (K := K) (c.fact 61 (f := .noat "Sweep" "riding") rfl)
  have na_Sweep_step := He.noat_ok (K := K) (c.fact 62 (f := .noat "Sweep" "step") rfl)
  have na_Sweep_tick := He.noat_ok (K := K) (c.fact 63 (f := .noat "Sweep" "tick") rfl)
  have na_Sweep_waiting := He.noat_ok (K := K) (c.fact 64 (f := .noat "Sweep" "waiting") rfl)
  have d_Sweep_leave : DfM K "Sweep" "leave" "Sweep.leave" s_Sweep_leave := c.def_ 18 (d := de18) rfl
  have me_Sweep_leave := He.meth_ok (K := K) (c.fact 65 (f := .meth "Sweep" "leave") rfl)
  have d_Sweep_next_tick : DfM K "Sweep" "next_tick" "Sweep.next_tick" s_Sweep_next_tick := c.def_ 19 (d := de19) rfl
  have me_Sweep_next_tick := He.meth_ok (K := K) (c.fact 66 (f := .meth "Sweep" "next_tick") rfl)
  have d_Sweep_put : DfM K "Sweep" "put" "Sweep.put" s_Sweep_put := c.def_ 20 (d := de20) rfl
  have me_Sweep_put := He.meth_ok (K := K) (c.fact 67 (f := .meth "Sweep" "put") rfl)
  have d_Sweep_take : DfM K "Sweep" "take" "Sweep.take" s_Sweep_take := c.def_ 21 (d := de21) rfl
  have me_Sweep_take := He.meth_ok (K := K) (c.fact 68 (f := .meth "Sweep" "take") rfl)
  have d_Sweep_turn : DfM K "Sweep" "turn" "Sweep.turn" s_Sweep_turn := c.def_ 22 (d := de22) rfl
  have me_Sweep_turn := He.meth_ok (K := K) (c.fact 69 (f := .meth "Sweep" "turn") rfl)
  have o_pool := ok_pool (P := P) (w := w) (mg := mg) (base := base) d_pool m_len
  have o_take := ok_take (P := P) (w := w) (mg := mg) (base := base) d_take 
  have o_aisle := ok_aisle (P := P) (w := w) (mg := mg) (base := base) d_aisle m_range o_take
  have o_name := ok_name (P := P) (w := w) (mg := mg) (base := base) d_name 
  have o_orders := ok_orders (P := P) (w := w) (mg := mg) (base := base) d_orders m_min m_range o_take o_name
  have o_Sweep_turn := ok_Sweep_turn (P := P) (w := w) (mg := mg) (base := base) d_Sweep_turn cl_Sweep me_Sweep_turn m_len cl_Sweep na_Sweep_bay na_Sweep_gaps na_Sweep_step
  have o_Sweep_put := ok_Sweep_put (P := P) (w := w) (mg := mg) (base := base) d_Sweep_put cl_Sweep me_Sweep_put cl_Sweep na_Sweep_arrived na_Sweep_bay na_Sweep_riding
  have o_is_upward := ok_is_upward (P := P) (w := w) (mg := mg) (base := base) d_is_upward 
  have o_Sweep_take := ok_Sweep_take (P := P) (w := w) (mg := mg) (base := base) d_Sweep_take cl_Sweep me_Sweep_take m_len o_is_upward cl_Sweep na_Sweep_bay na_Sweep_most na_Sweep_riding na_Sweep_step na_Sweep_waiting
  have o_Sweep_leave := ok_Sweep_leave (P := P) (w := w) (mg := mg) (base := base) d_Sweep_leave cl_Sweep me_Sweep_leave m_min cl_Sweep na_Sweep_ahead na_Sweep_bay na_Sweep_gaps na_Sweep_step
  have o_names_of := ok_names_of (P := P) (w := w) (mg := mg) (base := base) d_names_of m_sorted
  have o_Sweep_next_tick := ok_Sweep_next_tick (P := P) (w := w) (mg := mg) (base := base) d_Sweep_next_tick cl_Sweep me_Sweep_next_tick o_names_of o_Sweep_leave o_Sweep_take o_Sweep_put o_Sweep_turn cl_Sweep na_Sweep_ahead na_Sweep_arrived na_Sweep_bay na_Sweep_coming na_Sweep_riding na_Sweep_tick na_Sweep_waiting
  have o_bad_part := ok_bad_part (P := P) (w := w) (mg := mg) (base := base) d_bad_part m_str o_take
  have o_bad_orders := ok_bad_orders (P := P) (w := w) (mg := mg) (base := base) d_bad_orders m_len m_range m_tuple o_bad_part o_name o_take
  have o_is_whole := ok_is_whole (P := P) (w := w) (mg := mg) (base := base) d_is_whole m_bool m_int m_isinstance
  have o_is_whole_D := ok_is_whole_D (P := P) (w := w) (mg := mg) (base := base) d_is_whole m_bool m_int m_isinstance
  have o_is_between := ok_is_between (P := P) (w := w) (mg := mg) (base := base) d_is_between o_is_whole
  have o_is_between_D := ok_is_between_D (P := P) (w := w) (mg := mg) (base := base) d_is_between o_is_whole_D
  have o_look_at_aisle := ok_look_at_aisle (P := P) (w := w) (mg := mg) (base := base) d_look_at_aisle m_all m_isinstance m_len m_list m_tuple c_LONGEST_GAP c_MOST_GAPS c_MOST_LOAD o_is_between x_NoAisle
  have o_look_at_aisle_D := ok_look_at_aisle_D (P := P) (w := w) (mg := mg) (base := base) d_look_at_aisle m_all m_isinstance m_len m_list m_tuple c_LONGEST_GAP c_MOST_GAPS c_MOST_LOAD o_is_between_D x_NoAisle
  have o_is_name := ok_is_name (P := P) (w := w) (mg := mg) (base := base) d_is_name m_all m_isinstance m_len m_str c_LETTERS c_LONGEST
  have o_is_name_D := ok_is_name_D (P := P) (w := w) (mg := mg) (base := base) d_is_name m_all m_isinstance m_len m_str c_LETTERS c_LONGEST
  have o_is_order := ok_is_order (P := P) (w := w) (mg := mg) (base := base) d_is_order m_isinstance m_len m_tuple c_LATEST o_is_between o_is_name
  have o_is_order_D := ok_is_order_D (P := P) (w := w) (mg := mg) (base := base) d_is_order m_isinstance m_len m_tuple c_LATEST o_is_between_D o_is_name_D
  have o_look_at_orders := ok_look_at_orders (P := P) (w := w) (mg := mg) (base := base) d_look_at_orders m_isinstance m_len m_list c_MOST_ORDERS o_is_order o_look_at_aisle x_NoOrders
  have o_look_at_orders_D := ok_look_at_orders_D (P := P) (w := w) (mg := mg) (base := base) d_look_at_orders m_isinstance m_len m_list c_MOST_ORDERS o_is_order_D o_look_at_aisle x_NoOrders
  have o_look_at_orders_D_2 := ok_look_at_orders_D_2 (P := P) (w := w) (mg := mg) (base := base) d_look_at_orders m_isinstance m_len m_list c_MOST_ORDERS o_is_order_D o_look_at_aisle_D x_NoOrders
  have o_look_at_orders_D_3 := ok_look_at_orders_D_3 (P := P) (w := w) (mg := mg) (base := base) d_look_at_orders m_isinstance m_len m_list c_MOST_ORDERS o_is_order o_look_at_aisle_D x_NoOrders
  have o_Sweep := ok_Sweep (P := P) (w := w) (mg := mg) (base := base) d_Sweep gc_Sweep mkr_Sweep m_list o_look_at_orders cl_Sweep na_Sweep_ahead na_Sweep_arrived na_Sweep_bay na_Sweep_coming na_Sweep_gaps na_Sweep_most na_Sweep_riding na_Sweep_step na_Sweep_tick na_Sweep_waiting
  have o_Sweep_D := ok_Sweep_D (P := P) (w := w) (mg := mg) (base := base) d_Sweep gc_Sweep mkr_Sweep o_look_at_orders_D
  have o_Sweep_D_2 := ok_Sweep_D_2 (P := P) (w := w) (mg := mg) (base := base) d_Sweep gc_Sweep mkr_Sweep o_look_at_orders_D_2
  have o_Sweep_D_3 := ok_Sweep_D_3 (P := P) (w := w) (mg := mg) (base := base) d_Sweep gc_Sweep mkr_Sweep o_look_at_orders_D_3
  have o_told_D := ok_told_D (P := P) (w := w) (mg := mg) (base := base) d_told_D m_ValueError m_int m_isinstance o_Sweep_D o_look_at_orders_D XC g_CartError g_NoAisle g_NoBay g_NoBox g_NoFork g_NoOrders g_NoPaper g_NoPlan g_NoRoom g_NoRow g_NoStore g_NoText g_NoWants g_TooMany g_Unknown
  have o_told_D_2 := ok_told_D_2 (P := P) (w := w) (mg := mg) (base := base) d_told_D m_ValueError m_int m_isinstance o_Sweep_D_2 o_look_at_orders_D_2 XC g_CartError g_NoAisle g_NoBay g_NoBox g_NoFork g_NoOrders g_NoPaper g_NoPlan g_NoRoom g_NoRow g_NoStore g_NoText g_NoWants g_TooMany g_Unknown
  have o_told_D_3 := ok_told_D_3 (P := P) (w := w) (mg := mg) (base := base) d_told_D m_ValueError m_int m_isinstance o_Sweep_D_3 o_look_at_orders_D_3 XC g_CartError g_NoAisle g_NoBay g_NoBox g_NoFork g_NoOrders g_NoPaper g_NoPlan g_NoRoom g_NoRow g_NoStore g_NoText g_NoWants g_TooMany g_Unknown
  have o_law := ok_law (P := P) (w := w) (mg := mg) (base := base) d_law m_isinstance m_len m_list m_max m_min m_range m_tuple o_look_at_orders o_told_D_3 o_told_D o_told_D_2 o_take o_bad_orders o_pool o_Sweep_next_tick o_Sweep o_name o_orders o_aisle
  exact o_law
end Bw
open PySem PySem.W PySem.Calls PyProof.Rows
abbrev Bw.qL : Program := view Bw.RowL.prog [45]
abbrev Bw.dL : DefRec := HandSHeadRun.topDef Bw.RowL.prog 45
theorem Bw.o_e : opening Bw.RowL.prog = plainProg Bw.RowL.prog.main.scope.names := by kernel_rfl
theorem Bw.o_f : ∀ s, fenceModules? Bw.RowL.prog s = some s := fun s => by kernel_rfl
theorem Bw.o_def : defOf Bw.qL Bw.RowL.name = some (Bw.dL, []) := by kernel_rfl
theorem Bw.o_the : Bw.RowL.prog.theDef Bw.RowL.name = some (Bw.dL.params, Bw.dL.body, Bw.dL.scope) := by kernel_rfl
theorem Bw.o_kw : kwWritten? Bw.dL.params.kwonlyargs Bw.dL.params.kw_defaults = some [] := by kernel_rfl
theorem Bw.o_1 : chainsOk Bw.qL = true := by decide +kernel
theorem Bw.o_2 : opensWell Bw.RowL.prog = true := by decide +kernel
theorem Bw.o_3 : frees Bw.RowL.toRowW = true := by decide +kernel
theorem Bw.o_4 : Bw.RowL.within.isEmpty = true := by decide +kernel
theorem Bw.o_ok : (chainsOk Bw.qL && opensWell Bw.RowL.prog && (frees Bw.RowL.toRowW && Bw.RowL.within.isEmpty)) = true := by rw [Bw.o_1, Bw.o_2, Bw.o_3, Bw.o_4]; rfl
theorem Bw.o_bare : Bw.RowL.prog.bare := ⟨rfl, rfl, rfl, rfl, rfl, by decide +kernel⟩
theorem Bw.o_hw : Bw.RowL.toRowW.promised := by w_witness2
theorem PySem.Challenge.cw_baycart_k50_orders_and_none_holds : PySem.Challenge.rw_baycart_k50_orders_and_none.Holds := by
  w_on; o_law
  refine HandSHeadRun.head_any (r := Bw.RowL) (q := Bw.qL) (H := Bw.hkL) (ob := Bw.obL) (M := 20000) (loose := Bw.looseL) (d := Bw.dL) (kwd := []) Bw.obL_eq
    Bw.o_e Bw.o_f Bw.runL Bw.o_def Bw.o_the Bw.o_kw (by rfl) (by first | assumption | decide +kernel) Bw.o_ok Bw.o_bare Bw.o_hw ?hc
  case hc =>
    refine L2.walk_ofE (l := PySem.Challenge.rw_baycart_k50_orders_and_none) (n := 63) (k := 8) (x := "_law_script") (CX := L2.CX0) rfl (by decide) (by kernel_rfl) ⟨rfl, by decide, by decide⟩ ?F (fun _ _ _ _ z => z)
    intro w mg fa h Y G hmg0
    obtain ⟨K, KX, c, cx⟩ := Y
    have hmg : mg ("law" : PySem.Str) = some (.ref fa) := by
      have e : (HandSHeadRun.topDef Bw.RowL.prog 45).name = ("law" : PySem.Str) := by kernel_rfl
      rw [← e]
      exact hmg0
    have ok0 : ∀ base : Heap, Bw.Ok (PySem.Challenge.rw_baycart_k50_orders_and_none).prog w K mg base 8 "law" ["_law_script"] (Bw.sp_law K) := fun base => Bw.all_ok KX G c cx
    have ef : fa = He.ga K "law" := Bw.ref_inj (hmg.symm.trans (ok0 h).gm)
    obtain ⟨fd, FF⟩ := c.def_ 16 (d := Bw.de16) rfl
    have bnd : ∀ (s : Shared) (u : Value), BindsTo s fd ⟨[u], []⟩ [("_law_script", u)] := fun s u => (L2.FunD.bindsA (ps := ["_law_script"]) FF fun _ _ _ _ _ _ us hl => match us, hl with | [_], _ => rfl) s [u] rfl
    refine ⟨K, fd, Bw.sp_law K, KX, bnd, fun H a ns hl _ hS => ⟨H, [], ns, true, .cons (.lst hS (Bw.Dts.of_ints ns)) .nil, Bw.sta0, Bw.law_true ns hl, fun v F2 H2 _ _ hv => hv.toBl⟩, fun base hb1 hb2 => ?_⟩
    obtain ⟨⟨fd2, F2, _, lk⟩, _, _⟩ := ok0 base
    rw [ef, (Bw.lk_of FF).one lk]
    exact F2
