import PyProof.Rows.All
import Wide.All
import OpenK.AllK
import Wide.FinOn
import HandS.ForMost
import HandS.IsInst
import HandS.Zip
import HandS.FStr
import HandS.Flow
import HandS.Style
import HandS.Defaults
import HandS.HeadHook2
import HandS.Strs
import HandS.SetFor
import KE.KStateDown
import HandS.Head0
import HandS.Head1
import HandS.Head2
import HandS.TupAny
import HandS.Sort
import HandS.SortInts
import HandS.TryOnly
import KE.KDictItemsList
import KE.KDictZip
import HandS.ExcValue
import HandS.ExcInit
import HandS.TryElse
import KE.KExcIs
import KE.KTryMore
import HandS.HeadEnd
import HandS.HeadHook1
import HandS.ExcField
import HandS.Walk
import HandS.Conv
import PySem.Challenge.RW_baycart_k04_rooms_and_bounds
set_option Elab.async false
set_option linter.all false
set_option maxRecDepth 100000
set_option maxHeartbeats 8000000
set_option synthInstance.maxHeartbeats 400000
set_option synthInstance.maxSize 2000

namespace Bw
open PySem L2

/-! the state: F what stands for good, cs the objects that may change -/
abbrev Cs := List (Addr × HO)
def Gr (F F' : Hp) : Prop := ∀ a o, F a = some o → F' a = some o
theorem Gr.rfl {F : Hp} : Gr F F := fun _ _ h => h
theorem Gr.tr {F F1 F2 : Hp} (a : Gr F F1) (b : Gr F1 F2) : Gr F F2 := fun x o h => b x o (a x o h)
theorem Gr.new {F : Hp} {p : Addr} {o : HO} (h : F p = none) : Gr F (upd F p o) := fun a u e => by
  rw [upd_ne (ne_of_none e h)]; exact e
structure Sta (F : Hp) (cs : Cs) (H : Hp) : Prop where
  fr : Gr F H
  sep : ∀ p ∈ cs, F p.1 = none
  has : ∀ p ∈ cs, H p.1 = some p.2
  nd : (cs.map (·.1)).Nodup
theorem Gr.back {F F' : Hp} {p : Addr} (e : Gr F F') (h : F' p = none) : F p = none := by
  cases h1 : F p with
  | none => rfl
  | some o => rw [e p o h1] at h; cases h
/-- a new thing that stays -/
theorem Sta.lay {F : Hp} {cs : Cs} {H : Hp} {p : Addr} {o : HO} (s : Sta F cs H) (h : H p = none) : Sta (upd F p o) cs (upd H p o) where
  fr := fun a u e => by
    by_cases q : a = p
    · subst q; rw [upd_same] at e ⊢; exact e
    · rw [upd_ne q] at e ⊢; exact s.fr a u e
  sep := fun c hc => by
    have q : c.1 ≠ p := fun z => by have := s.has c hc; rw [z, h] at this; cases this
    rw [upd_ne q]; exact s.sep c hc
  has := fun c hc => by
    have q : c.1 ≠ p := fun z => by have := s.has c hc; rw [z, h] at this; cases this
    rw [upd_ne q]; exact s.has c hc
  nd := s.nd
/-- a new thing that may change -/
theorem Sta.cell {F : Hp} {cs : Cs} {H : Hp} {p : Addr} {o : HO} (s : Sta F cs H) (h : H p = none) : Sta F ((p, o) :: cs) (upd H p o) where
  fr := fun a u e => by
    have q : a ≠ p := ne_of_none (s.fr a u e) h
    rw [upd_ne q]; exact s.fr a u e
  sep := fun c hc => by
    rcases List.mem_cons.mp hc with rfl | hc
    · exact s.fr.back h
    · exact s.sep c hc
  has := fun c hc => by
    rcases List.mem_cons.mp hc with rfl | hc
    · exact upd_same
    · have q : c.1 ≠ p := fun z => by have := s.has c hc; rw [z, h] at this; cases this
      rw [upd_ne q]; exact s.has c hc
  nd := by
    rw [List.map_cons, List.nodup_cons]
    refine ⟨fun hm => ?_, s.nd⟩
    obtain ⟨c, hc, e⟩ := List.mem_map.mp hm
    have := s.has c hc
    rw [e, h] at this; cases this
/-- the first changing thing is changed -/
theorem Sta.put {F : Hp} {cs : Cs} {H : Hp} {p : Addr} {o o' : HO} (s : Sta F ((p, o) :: cs) H) : Sta F ((p, o') :: cs) (upd H p o') where
  fr := fun a u e => by
    have q : a ≠ p := fun z => by have := s.sep (p, o) List.mem_cons_self; subst z; rw [e] at this; cases this
    rw [upd_ne q]; exact s.fr a u e
  sep := fun c hc => by
    rcases List.mem_cons.mp hc with rfl | hc
    · exact s.sep (p, o) List.mem_cons_self
    · exact s.sep c (List.mem_cons_of_mem _ hc)
  has := fun c hc => by
    rcases List.mem_cons.mp hc with rfl | hc
    · exact upd_same
    · have nd := s.nd
      rw [List.map_cons, List.nodup_cons] at nd
      have q : c.1 ≠ p := fun z => nd.1 (List.mem_map.mpr ⟨c, hc, z⟩)
      rw [upd_ne q]; exact s.has c (List.mem_cons_of_mem _ hc)
  nd := s.nd
/-- the order of the changing things is free -/
theorem Sta.perm {F : Hp} {cs cs' : Cs} {H : Hp} (s : Sta F cs H) (p : cs.Perm cs') : Sta F cs' H where
  fr := s.fr
  sep := fun c hc => s.sep c (p.mem_iff.mpr hc)
  has := fun c hc => s.has c (p.mem_iff.mpr hc)
  nd := (p.map (·.1)).nodup_iff.mp s.nd
theorem Sta.at {F : Hp} {cs : Cs} {H : Hp} {p : Addr} {o : HO} (s : Sta F cs H) (m : (p, o) ∈ cs) : H p = some o := s.has _ m
/-- the first changing thing changes no more -/
theorem Sta.froze {F : Hp} {cs : Cs} {H : Hp} {p : Addr} {o : HO} (s : Sta F ((p, o) :: cs) H) : Sta (upd F p o) cs H where
  fr := fun a u e => by
    by_cases q : a = p
    · subst q; rw [upd_same] at e; rw [← e]; exact s.has (a, o) List.mem_cons_self
    · rw [upd_ne q] at e; exact s.fr a u e
  sep := fun c hc => by
    have nd := s.nd
    rw [List.map_cons, List.nodup_cons] at nd
    have q : c.1 ≠ p := fun z => nd.1 (List.mem_map.mpr ⟨c, hc, z⟩)
    rw [upd_ne q]; exact s.sep c (List.mem_cons_of_mem _ hc)
  has := fun c hc => s.has c (List.mem_cons_of_mem _ hc)
  nd := by
    have nd := s.nd
    rw [List.map_cons, List.nodup_cons] at nd
    exact nd.2
theorem Sta.free {F : Hp} {cs : Cs} {H : Hp} {p : Addr} {o : HO} (s : Sta F ((p, o) :: cs) H) : F p = none := s.sep (p, o) List.mem_cons_self
theorem Sta.gfr {F : Hp} {cs : Cs} {H : Hp} {p : Addr} {o : HO} (s : Sta F ((p, o) :: cs) H) : Gr F (upd F p o) := Gr.new s.free


theorem mem_mid {α : Type} {l1 l2 : List α} {a : α} : a ∈ l1 ++ a :: l2 := by simp
/-- a changing thing is changed -/
theorem Sta.putAt {F : Hp} {l1 l2 : Cs} {H : Hp} {p : Addr} {o o' : HO} (s : Sta F (l1 ++ (p, o) :: l2) H) : Sta F (l1 ++ (p, o') :: l2) (upd H p o') :=
  ((s.perm List.perm_middle).put (o' := o')).perm List.perm_middle.symm
theorem Sta.frozeAt {F : Hp} {l1 l2 : Cs} {H : Hp} {p : Addr} {o : HO} (s : Sta F (l1 ++ (p, o) :: l2) H) : Sta (upd F p o) (l1 ++ l2) H := (s.perm List.perm_middle).froze
theorem Sta.freeAt {F : Hp} {l1 l2 : Cs} {H : Hp} {p : Addr} {o : HO} (s : Sta F (l1 ++ (p, o) :: l2) H) : F p = none := s.sep (p, o) mem_mid
theorem Sta.getAt {F : Hp} {l1 l2 : Cs} {H : Hp} {p : Addr} {o : HO} (s : Sta F (l1 ++ (p, o) :: l2) H) : H p = some o := s.has (p, o) mem_mid
theorem Gr.upd2 {F F' : Hp} {p : Addr} {o : HO} (g : Gr F F') : Gr (upd F p o) (upd F' p o) := fun a u e => by
  by_cases q : a = p
  · subst q; rw [upd_same] at e ⊢; exact e
  · rw [upd_ne q] at e ⊢; exact g a u e
def cut (F : Hp) (p : Addr) : Hp := fun a => if a = p then none else F a
theorem cut_same {F : Hp} {p : Addr} : cut F p p = none := by unfold cut; rw [if_pos rfl]
theorem cut_ne {F : Hp} {p a : Addr} (h : a ≠ p) : cut F p a = F a := by unfold cut; rw [if_neg h]
/-- what was lent comes back -/
theorem Sta.lent {F F2 : Hp} {l1 l2 : Cs} {H2 : Hp} {p : Addr} {o : HO} (g : Gr (upd F p o) F2) (s : Sta F2 (l1 ++ l2) H2) : Sta (cut F2 p) (l1 ++ (p, o) :: l2) H2 := by
  have hp : F2 p = some o := g p o upd_same
  have hn : ∀ c ∈ l1 ++ l2, c.1 ≠ p := fun c hc z => by
    have := s.sep c hc
    rw [z, hp] at this; cases this
  refine Sta.perm (cs := (p, o) :: (l1 ++ l2)) ⟨fun a u e => ?_, fun c hc => ?_, fun c hc => ?_, ?_⟩ List.perm_middle.symm
  · have q : a ≠ p := fun z => by rw [z, cut_same] at e; cases e
    rw [cut_ne q] at e; exact s.fr a u e
  · rcases List.mem_cons.mp hc with rfl | hc
    · exact cut_same
    · rw [cut_ne (hn c hc)]; exact s.sep c hc
  · rcases List.mem_cons.mp hc with rfl | hc
    · exact s.fr p o hp
    · exact s.has c hc
  · rw [List.map_cons, List.nodup_cons]
    refine ⟨fun hm => ?_, s.nd⟩
    obtain ⟨c, hc, e⟩ := List.mem_map.mp hm
    exact hn c hc e
theorem gr_cut {F F2 : Hp} {p : Addr} {o : HO} (h : F p = none) (g : Gr (upd F p o) F2) : Gr F (cut F2 p) := fun a u e => by
  have q : a ≠ p := ne_of_none e h
  rw [cut_ne q]
  exact g a u (by rw [upd_ne q]; exact e)

/-! data -/
mutual
inductive Dt (K : PySem.W.Frag) (F : Hp) : V → PyData → Prop
  | non : Dt K F .non .none
  | bl (b : Bool) : Dt K F (.bl b) (.bool b)
  | int (i : Int) : Dt K F (.int i) (.int i)
  | str (x : Str) : Dt K F (.str x) (.str x)
  | lst {a : Addr} {xs : List V} {ds : List PyData} : SqL K F a xs → Dts K F xs ds → Dt K F (.ref a) (.list ds)
  | tup {a : Addr} {xs : List V} {ds : List PyData} : SqT K F a xs → Dts K F xs ds → Dt K F (.ref a) (.tuple ds)
  | dct {a : Addr} {kvs : List (Key × V)} : F a = some (.dK kvs) → Dt K F (.ref a) (.dict [])
inductive Dts (K : PySem.W.Frag) (F : Hp) : List V → List PyData → Prop
  | nil : Dts K F [] []
  | cons {v : V} {vs : List V} {d : PyData} {ds : List PyData} : Dt K F v d → Dts K F vs ds → Dts K F (v :: vs) (d :: ds)
end
section
variable {K : PySem.W.Frag} {F F' H : Hp}
theorem gr_R {a : Addr} {u : HO} (e : Gr F F') (h : Rd F a u) : Rd F' a u := by
  rcases h with h | ⟨o, h⟩
  · exact .inl (e a _ h)
  · exact .inr ⟨o, e a _ h⟩
theorem gr_T {a : Addr} {xs : List V} (e : Gr F F') (h : SqT K F a xs) : SqT K F' a xs := by
  rcases h with h | h
  · exact .inl (gr_R e h)
  · exact .inr h
theorem gr_L {a : Addr} {xs : List V} (e : Gr F F') (h : SqL K F a xs) : SqL K F' a xs := by
  rcases h with h | h
  · exact .inl (gr_R e h)
  · exact .inr h
theorem rd_L {a : Addr} {xs : List V} (h : Rd F a (.lst xs)) : SqL K F a xs := .inl h
mutual
theorem Dt.gr (e : Gr F F') : ∀ {v : V} {d : PyData}, Dt K F v d → Dt K F' v d
  | _, _, .non => .non
  | _, _, .bl b => .bl b
  | _, _, .int i => .int i
  | _, _, .str x => .str x
  | _, _, .lst h a => .lst (gr_L e h) (Dts.gr e a)
  | _, _, .tup h a => .tup (gr_T e h) (Dts.gr e a)
  | _, _, .dct h => .dct (e _ _ h)
theorem Dts.gr (e : Gr F F') : ∀ {vs : List V} {ds : List PyData}, Dts K F vs ds → Dts K F' vs ds
  | _, _, .nil => .nil
  | _, _, .cons h t => .cons (Dt.gr e h) (Dts.gr e t)
end
theorem Dt.toInt {v : V} {i : Int} (h : Dt K F v (.int i)) : v = .int i := by cases h; rfl
theorem Dt.toStr {v : V} {x : Str} (h : Dt K F v (.str x)) : v = .str x := by cases h; rfl
theorem Dt.toBl {v : V} {b : Bool} (h : Dt K F v (.bool b)) : v = .bl b := by cases h; rfl
theorem Dt.toNon {v : V} (h : Dt K F v .none) : v = .non := by cases h; rfl
theorem Dt.toLst {v : V} {ds : List PyData} (h : Dt K F v (.list ds)) : ∃ a vs, v = .ref a ∧ SqL K F a vs ∧ Dts K F vs ds := by
  cases h with | lst h a => exact ⟨_, _, rfl, h, a⟩
theorem Dt.toTup {v : V} {ds : List PyData} (h : Dt K F v (.tuple ds)) : ∃ a vs, v = .ref a ∧ SqT K F a vs ∧ Dts K F vs ds := by
  cases h with | tup h a => exact ⟨_, _, rfl, h, a⟩
theorem Dts.len : ∀ {vs : List V} {ds : List PyData}, Dts K F vs ds → vs.length = ds.length
  | _, _, .nil => rfl
  | _, _, .cons _ t => by simp [Dts.len t]
theorem Dts.get : ∀ {vs : List V} {ds : List PyData} {i : Nat} {v : V}, Dts K F vs ds → vs[i]? = some v → ∃ d, ds[i]? = some d ∧ Dt K F v d
  | _, _, _, _, .nil, e => by simp at e
  | _, _, 0, _, .cons h _, e => by simp at e; subst e; exact ⟨_, rfl, h⟩
  | _, _, i + 1, v, .cons _ t, e => by
    obtain ⟨d, h1, h2⟩ := Dts.get (i := i) (v := v) t (by simpa using e)
    exact ⟨d, by simpa using h1, h2⟩
theorem Dts.get2 : ∀ {vs : List V} {ds : List PyData} {i : Nat} {d : PyData}, Dts K F vs ds → ds[i]? = some d → ∃ v, vs[i]? = some v ∧ Dt K F v d
  | _, _, _, _, .nil, e => by simp at e
  | _, _, 0, _, .cons h _, e => by simp at e; subst e; exact ⟨_, rfl, h⟩
  | _, _, i + 1, d, .cons _ t, e => by
    obtain ⟨v, h1, h2⟩ := Dts.get2 (i := i) (d := d) t (by simpa using e)
    exact ⟨v, by simpa using h1, h2⟩
theorem Dts.app : ∀ {vs ws : List V} {ds es : List PyData}, Dts K F vs ds → Dts K F ws es → Dts K F (vs ++ ws) (ds ++ es)
  | _, _, _, _, .nil, s => s
  | _, _, _, _, .cons h t, s => .cons h (Dts.app t s)
theorem Dts.drop : ∀ {vs : List V} {ds : List PyData} (n : Nat), Dts K F vs ds → Dts K F (vs.drop n) (ds.drop n)
  | _, _, 0, h => h
  | _, _, _ + 1, .nil => .nil
  | _, _, n + 1, .cons _ t => Dts.drop n t
theorem Dts.take : ∀ {vs : List V} {ds : List PyData} (n : Nat), Dts K F vs ds → Dts K F (vs.take n) (ds.take n)
  | _, _, 0, _ => .nil
  | _, _, _ + 1, .nil => .nil
  | _, _, n + 1, .cons h t => .cons h (Dts.take n t)
theorem Dts.setAt : ∀ {vs : List V} {ds : List PyData} {v : V} {d : PyData} (n : Nat), Dts K F vs ds → Dt K F v d → Dts K F (vs.set n v) (ds.set n d)
  | _, _, _, _, _, .nil, _ => .nil
  | _, _, _, _, 0, .cons _ t, k => .cons k t
  | _, _, _, _, n + 1, .cons h t, k => .cons h (Dts.setAt n t k)
theorem Dts.rep {vs : List V} {ds : List PyData} (h : Dts K F vs ds) : ∀ n : Nat, Dts K F (List.replicate n vs).flatten (List.replicate n ds).flatten
  | 0 => .nil
  | n + 1 => by rw [List.replicate_succ, List.replicate_succ, List.flatten_cons, List.flatten_cons]; exact h.app (Dts.rep h n)
theorem Dts.hd {vs : List V} {d : PyData} {ds : List PyData} (h : Dts K F vs (d :: ds)) : ∃ v ws, vs = v :: ws ∧ Dt K F v d ∧ Dts K F ws ds := by
  cases h with | cons h t => exact ⟨_, _, rfl, h, t⟩
theorem Dts.no {vs : List V} (h : Dts K F vs []) : vs = [] := by cases h; rfl
theorem Dts.one {vs : List V} {d : PyData} (h : Dts K F vs [d]) : ∃ v, vs = [v] ∧ Dt K F v d := by
  cases h with | cons h t => cases t; exact ⟨_, rfl, h⟩
theorem Dts.two {vs : List V} {d e : PyData} (h : Dts K F vs [d, e]) : ∃ v w, vs = [v, w] ∧ Dt K F v d ∧ Dt K F w e := by
  cases h with | cons h t => obtain ⟨w, rfl, k⟩ := t.one; exact ⟨_, _, rfl, h, k⟩
theorem Dts.three {vs : List V} {d e f : PyData} (h : Dts K F vs [d, e, f]) : ∃ v w z, vs = [v, w, z] ∧ Dt K F v d ∧ Dt K F w e ∧ Dt K F z f := by
  cases h with | cons h t => obtain ⟨w, z, rfl, k, l⟩ := t.two; exact ⟨_, _, _, rfl, h, k, l⟩
theorem Dts.four {vs : List V} {d e f g : PyData} (h : Dts K F vs [d, e, f, g]) : ∃ v w z y, vs = [v, w, z, y] ∧ Dt K F v d ∧ Dt K F w e ∧ Dt K F z f ∧ Dt K F y g := by
  cases h with | cons h t => obtain ⟨w, z, y, rfl, k, l, m⟩ := t.three; exact ⟨_, _, _, _, rfl, h, k, l, m⟩
theorem Dts.ints : ∀ {xs : List Int} {vs : List V}, Dts K F vs (xs.map .int) → vs = xs.map V.int
  | [], _, h => by cases h; rfl
  | x :: xs, _, h => by
    cases h with | cons h t => rw [h.toInt, Dts.ints t]; rfl
theorem Dts.bls : ∀ {xs : List Bool} {vs : List V}, Dts K F vs (xs.map .bool) → vs = xs.map V.bl
  | [], _, h => by cases h; rfl
  | x :: xs, _, h => by
    cases h with | cons h t => rw [h.toBl, Dts.bls t]; rfl
theorem Dts.strs : ∀ {xs : List Str} {vs : List V}, Dts K F vs (xs.map .str) → vs = xs.map V.str
  | [], _, h => by cases h; rfl
  | x :: xs, _, h => by
    cases h with | cons h t => rw [h.toStr, Dts.strs t]; rfl
theorem Dts.of_ints : ∀ xs : List Int, Dts K F (xs.map V.int) (xs.map .int)
  | [] => .nil
  | x :: xs => .cons (.int x) (Dts.of_ints xs)
theorem Dts.of_strs : ∀ xs : List Str, Dts K F (xs.map V.str) (xs.map .str)
  | [] => .nil
  | x :: xs => .cons (.str x) (Dts.of_strs xs)
theorem Dts.of_bls : ∀ xs : List Bool, Dts K F (xs.map V.bl) (xs.map .bool)
  | [] => .nil
  | x :: xs => .cons (.bl x) (Dts.of_bls xs)
mutual
theorem Dt.dp : ∀ {v : V} {d : PyData}, Dt K F v d → d.canLay0 = true → Dp K F v d
  | _, _, .non, _ => .non
  | _, _, .bl b, _ => .bl b
  | _, _, .int i, _ => .int i
  | _, _, .str x, _ => .str x
  | _, _, .lst h a, z => .lst h (Dts.dp a (by simpa [PyData.canLay0] using z))
  | _, _, .tup h a, z => .tup h (Dts.dp a (by simpa [PyData.canLay0] using z))
  | _, _, .dct h, z => by simp [PyData.canLay0] at z
theorem Dts.dp : ∀ {vs : List V} {ds : List PyData}, Dts K F vs ds → PyData.canLayAll0 ds = true → DpAll K F vs ds
  | _, _, .nil, _ => .nil
  | _, _, .cons h t, z => by
    rw [PyData.canLayAll0, Bool.and_eq_true] at z
    exact .cons (Dt.dp h z.1) (Dts.dp t z.2)
end
end
end Bw

namespace Bw
open PySem L2
/-! codes -/
abbrev eI : Int → PyData := PyData.int
abbrev eB : Bool → PyData := PyData.bool
abbrev eS : Str → PyData := PyData.str
abbrev eN : Unit → PyData := fun _ => PyData.none
abbrev eD : PyData → PyData := fun d => d
abbrev eL {α : Type} (e : α → PyData) (xs : List α) : PyData := .list (xs.map e)
abbrev eT1 {α : Type} (e : α → PyData) (x : α) : PyData := .tuple [e x]
abbrev eT2 {α β : Type} (e : α → PyData) (f : β → PyData) (x : α × β) : PyData := .tuple [e x.1, f x.2]
abbrev eT3 {α β γ : Type} (e : α → PyData) (f : β → PyData) (g : γ → PyData) (x : α × β × γ) : PyData := .tuple [e x.1, f x.2.1, g x.2.2]
abbrev eT4 {α β γ δ : Type} (e : α → PyData) (f : β → PyData) (g : γ → PyData) (h : δ → PyData) (x : α × β × γ × δ) : PyData := .tuple [e x.1, f x.2.1, g x.2.2.1, h x.2.2.2]
def eO {α : Type} (e : α → PyData) : Option α → PyData
  | none => .none
  | some x => e x
def oV {α : Type} (f : α → V) : Option α → V
  | none => .non
  | some x => f x
/-! what may fail -/
def mulM (a b : Int) : Option Int := if (-(2 ^ 64) < a ∧ a < 2 ^ 64) ∨ (-(2 ^ 64) < b ∧ b < 2 ^ 64) then some (a * b) else none
def modM (a b : Int) : Option Int := if 0 < b then some (a % b) else none
def fdivM (a b : Int) : Option Int := if 0 < b ∧ b < 1073741824 then some (a / b) else none
def powM (a b : Int) : Option Int := if 0 ≤ b ∧ b ≤ 1000000 ∧ a.natAbs < 2 ^ 64 then some (a ^ b.toNat) else none
def appM {α : Type} (xs : List α) (x : α) : Option (List α) := if xs.length < 100000 then some (xs ++ [x]) else none
def catM {α : Type} (xs ys : List α) : Option (List α) := if xs.length + ys.length ≤ 100000 then some (xs ++ ys) else none
def repM {α : Type} (xs : List α) (k : Int) : Option (List α) := if -(2 ^ 63) ≤ k ∧ k < 2 ^ 63 ∧ xs.length * k.toNat ≤ 100000 then some (List.replicate k.toNat xs).flatten else none
def scatM (x y : Str) : Option Str := if x.length + y.length ≤ 100000 then some (x ++ y) else none
def lenS (x : Str) : Option Int := if x.length ≤ 100000 then some (x.length : Int) else none
def ixS (x : Str) (i : Int) : Option Str := if x.length ≤ 100000 then (atI x.cps.toList i).map (fun c => ⟨#[c]⟩) else none
def cutL {α : Type} (xs : List α) (lo hi : Option Int) : List α := (xs.drop (HT.sIx xs.length 0 lo)).take (HT.sIx xs.length xs.length hi - HT.sIx xs.length 0 lo)
def rngL (a b : Int) : List Int := (List.range (b - a).toNat).map fun (i : Nat) => a + ((i : Nat) : Int)
def rngM (a b : Int) : Option (List Int) := if -(2 ^ 62) ≤ a ∧ a < 2 ^ 62 ∧ -(2 ^ 62) ≤ b ∧ b < 2 ^ 62 then some (rngL a b) else none
def setM {α : Type} (xs : List α) (i : Int) (x : α) : Option (List α) := (ixN xs.length i).map fun j => xs.set j x
def strM (n : Int) : Option Str := if n.natAbs.log2 < 1920 then some (toString n) else none
def b2I (b : Bool) : Int := if b then 1 else 0
def absI (i : Int) : Int := if i < 0 then -i else i
def maxI (i j : Int) : Int := if j > i then j else i
def minI (i j : Int) : Int := if j < i then j else i
def signs (x : Str) : List Str := x.cps.toList.map fun c => ⟨#[c]⟩
def enumM {α : Type} (xs : List α) : List (Int × α) := xs.mapIdx fun i x => ((i : Int), x)
def inS (x y : Str) : Bool := !(Builtin.Str.occurrences y x 0 y.length 1).isEmpty
def letM {α β : Type} (x : α) (f : α → β) : β := f x
theorem sz {n : Nat} (h : n ≤ 100000) : n ≤ sizeLine := Nat.le_trans h (by decide)
theorem szl {n : Nat} (h : n < 100000) : n < sizeLine := Nat.lt_of_lt_of_le h (by decide)
theorem mulM_some {a b c : Int} (h : mulM a b = some c) : CMul a b ∧ a * b = c := by
  unfold mulM at h; split at h
  · rename_i q; exact ⟨q, Option.some.inj h⟩
  · cases h
theorem modM_some {a b c : Int} (h : modM a b = some c) : 0 < b ∧ a % b = c := by
  unfold modM at h; split at h
  · rename_i q; exact ⟨q, Option.some.inj h⟩
  · cases h
theorem fdivM_some {a b c : Int} (h : fdivM a b = some c) : CDiv a b ∧ a / b = c := by
  unfold fdivM at h; split at h
  · rename_i q; exact ⟨q, Option.some.inj h⟩
  · cases h
theorem powM_some {a b c : Int} (h : powM a b = some c) : CPow a b ∧ a ^ b.toNat = c := by
  unfold powM at h; split at h
  · rename_i q; exact ⟨q, Option.some.inj h⟩
  · cases h
theorem appM_some {α : Type} {xs ys : List α} {x : α} (h : appM xs x = some ys) : xs.length < 100000 ∧ xs ++ [x] = ys := by
  unfold appM at h; split at h
  · rename_i q; exact ⟨q, Option.some.inj h⟩
  · cases h
theorem catM_some {α : Type} {xs ys zs : List α} (h : catM xs ys = some zs) : xs.length + ys.length ≤ 100000 ∧ xs ++ ys = zs := by
  unfold catM at h; split at h
  · rename_i q; exact ⟨q, Option.some.inj h⟩
  · cases h
theorem repM_some {α : Type} {xs zs : List α} {k : Int} (h : repM xs k = some zs) : (-(2 ^ 63) ≤ k ∧ k < 2 ^ 63 ∧ xs.length * k.toNat ≤ 100000) ∧ (List.replicate k.toNat xs).flatten = zs := by
  unfold repM at h; split at h
  · rename_i q; exact ⟨q, Option.some.inj h⟩
  · cases h
theorem scatM_some {x y z : Str} (h : scatM x y = some z) : x.length + y.length ≤ 100000 ∧ x ++ y = z := by
  unfold scatM at h; split at h
  · rename_i q; exact ⟨q, Option.some.inj h⟩
  · cases h
theorem lenS_some {x : Str} {n : Int} (h : lenS x = some n) : x.length ≤ 100000 ∧ (x.length : Int) = n := by
  unfold lenS at h; split at h
  · rename_i q; exact ⟨q, Option.some.inj h⟩
  · cases h
theorem strM_some {x : Int} {n : Str} (h : strM x = some n) : x.natAbs.log2 < 1920 ∧ toString x = n := by
  unfold strM at h; split at h
  · rename_i q; exact ⟨q, Option.some.inj h⟩
  · cases h
theorem ixS_some {x z : Str} {i : Int} (h : ixS x i = some z) : x.length ≤ 100000 ∧ ∃ c, atI x.cps.toList i = some c ∧ z = ⟨#[c]⟩ := by
  unfold ixS at h; split at h
  · rename_i q
    refine ⟨q, ?_⟩
    cases e : atI x.cps.toList i with
    | none => rw [e] at h; cases h
    | some c => rw [e] at h; exact ⟨c, rfl, (Option.some.inj h).symm⟩
  · cases h
theorem rngM_some {a b : Int} {xs : List Int} (h : rngM a b = some xs) : (-(2 ^ 62) ≤ a ∧ a < 2 ^ 62 ∧ -(2 ^ 62) ≤ b ∧ b < 2 ^ 62) ∧ rngL a b = xs := by
  unfold rngM at h; split at h
  · rename_i q; exact ⟨q, Option.some.inj h⟩
  · cases h
theorem setM_some {α : Type} {xs ys : List α} {i : Int} {x : α} (h : setM xs i x = some ys) : ∃ j, ixN xs.length i = some j ∧ ys = xs.set j x := by
  unfold setM at h
  cases e : ixN xs.length i with
  | none => rw [e] at h; cases h
  | some j => rw [e] at h; exact ⟨j, rfl, (Option.some.inj h).symm⟩
theorem atI_map {α β : Type} (f : α → β) (xs : List α) (i : Int) : atI (xs.map f) i = (atI xs i).map f := by
  unfold atI
  rw [List.length_map]
  cases ixN xs.length i with
  | none => rfl
  | some j => simp
theorem cutL_map {α β : Type} (f : α → β) (xs : List α) (lo hi : Option Int) : cutL (xs.map f) lo hi = (cutL xs lo hi).map f := by
  unfold cutL
  simp [List.map_take, List.map_drop]
theorem bnd {α β : Type} {a : Option α} {f : α → Option β} {r : β} (h : a.bind f = some r) : ∃ x, a = some x ∧ f x = some r := by
  cases a with
  | none => cases h
  | some x => exact ⟨x, rfl, h⟩
theorem lt {α β : Type} {a : α} {f : α → Option β} {r : β} (h : letM a f = some r) : ∃ x, a = x ∧ f x = some r := ⟨a, rfl, h⟩
theorem sm {α : Type} {x y : α} (h : some x = some y) : x = y := Option.some.inj h

/-! triples -/
def Ev (te : TE) (σ : St) (F : Hp) (cs : Cs) (Φ : V → Hp → Prop) (cs' : Cs) : Prop :=
  ∀ F1 H1, Gr F F1 → Sta F1 cs H1 → ∀ Q : VK, (∀ v F2 H2, Gr F1 F2 → Sta F2 cs' H2 → Φ v F2 → Q v H2) → te σ H1 Q
def EvT (tt : TT) (σ : St) (F : Hp) (cs : Cs) (b : Bool) (cs' : Cs) : Prop :=
  ∀ F1 H1, Gr F F1 → Sta F1 cs H1 → ∀ Q : Bool → Hp → Prop, (∀ F2 H2, Gr F1 F2 → Sta F2 cs' H2 → Q b H2) → tt σ H1 Q
def EvA (ta : TA) (σ : St) (F : Hp) (cs : Cs) (Φ : List V → Hp → Prop) (cs' : Cs) : Prop :=
  ∀ F1 H1, Gr F F1 → Sta F1 cs H1 → ∀ Q : List V → Hp → Prop, (∀ vs F2 H2, Gr F1 F2 → Sta F2 cs' H2 → Φ vs F2 → Q vs H2) → ta σ H1 Q
def EvO (to : TO) (σ : St) (F : Hp) (cs : Cs) (o : Option Int) (cs' : Cs) : Prop :=
  ∀ F1 H1, Gr F F1 → Sta F1 cs H1 → ∀ Q : Option Int → Hp → Prop, (∀ F2 H2, Gr F1 F2 → Sta F2 cs' H2 → Q o H2) → to σ H1 Q
abbrev EvD (K : PySem.W.Frag) (te : TE) (σ : St) (F : Hp) (cs : Cs) (d : PyData) (cs' : Cs) : Prop := Ev te σ F cs (fun v F' => Dt K F' v d) cs'
abbrev EvDs (K : PySem.W.Frag) (ta : TA) (σ : St) (F : Hp) (cs : Cs) (ds : List PyData) (cs' : Cs) : Prop := EvA ta σ F cs (fun vs F' => Dts K F' vs ds) cs'
def Src (K : PySem.W.Frag) (J : It) (F : Hp) (ds : List PyData) : Prop := ∀ F1 c1 H1, Gr F F1 → Sta F1 c1 H1 →
  (∀ i, i < ds.length → J.go i H1) ∧ J.stop ds.length H1 ∧ ∀ i v H2 d, ds[i]? = some d → J.yld i H1 v H2 → ∃ F2, Gr F1 F2 ∧ Sta F2 c1 H2 ∧ Dt K F2 v d
def EvI (K : PySem.W.Frag) (wi : TI) (σ : St) (F : Hp) (cs : Cs) (ds : List PyData) (cs' : Cs) : Prop :=
  ∀ F1 H1, Gr F F1 → Sta F1 cs H1 → ∀ R : It → Hp → Prop, (∀ J F2 H2, Gr F1 F2 → Sta F2 cs' H2 → Src K J F2 ds → R J H2) → wi σ H1 R
section
variable {K : PySem.W.Frag} {σ : St} {F F' : Hp} {cs cs1 cs2 cs3 : Cs} {ta tb tc te : TE} {d e : PyData} {as : TA}
theorem Ev.gr {Φ : V → Hp → Prop} (g : Gr F F') (h : Ev te σ F cs Φ cs1) : Ev te σ F' cs Φ cs1 := fun F1 H1 g1 s Q q => h F1 H1 (g.tr g1) s Q q
theorem d_is (h : EvD K te σ F cs d cs1) (q : d = e) : EvD K te σ F cs e cs1 := q ▸ h
theorem d_var {i : Nat} {v : V} (h : σ[i]? = some (some v)) (hd : Dt K F v d) : EvD K (tVar i) σ F cs d cs := fun F1 H1 g s Q q => ⟨v, h, q v F1 H1 .rfl s (Dt.gr g hd)⟩
theorem d_int {i : Int} : EvD K (tC (.int i)) σ F cs (.int i) cs := fun F1 H1 g s Q q => q _ F1 H1 .rfl s (.int i)
theorem d_bl {b : Bool} : EvD K (tC (.bl b)) σ F cs (.bool b) cs := fun F1 H1 g s Q q => q _ F1 H1 .rfl s (.bl b)
theorem d_str {x : Str} : EvD K (tC (.str x)) σ F cs (.str x) cs := fun F1 H1 g s Q q => q _ F1 H1 .rfl s (.str x)
theorem d_non : EvD K (tC .non) σ F cs .none cs := fun F1 H1 g s Q q => q _ F1 H1 .rfl s .non
/-- two operands -/
theorem d_op {r : R2} {z : PyData} (ha : EvD K ta σ F cs d cs1) (hb : EvD K tb σ F cs1 e cs2) (hr : ∀ x y F2 H2, Dt K F2 x d → Dt K F2 y e → Sta F2 cs2 H2 → Gr F F2 → ∀ Q : VK, (∀ v F3 H3, Gr F2 F3 → Sta F3 cs3 H3 → Dt K F3 v z → Q v H3) → r x y H2 Q) : EvD K (tOp r ta tb) σ F cs z cs3 := fun F1 H1 g1 s Q q =>
  ha F1 H1 g1 s _ fun v F2 H2 g2 s2 h2 => hb F2 H2 (g1.tr g2) s2 _ fun w F3 H3 g3 s3 h3 => hr v w F3 H3 (Dt.gr g3 h2) h3 s3 ((g1.tr g2).tr g3) Q fun v F4 H4 g4 s4 h4 => q v F4 H4 ((g2.tr g3).tr g4) s4 h4
theorem d_I0 {g : Int → Int → V} {a b : Int} {z : PyData} (ha : EvD K ta σ F cs (.int a) cs1) (hb : EvD K tb σ F cs1 (.int b) cs2) (hz : ∀ F, Dt K F (g a b) z) : EvD K (tOp (rI0 g) ta tb) σ F cs z cs2 :=
  d_op ha hb fun x y F2 H2 hx hy s _ Q q => by
    cases hx.toInt; cases hy.toInt
    exact ⟨a, b, rfl, rfl, q _ F2 H2 .rfl s (hz _)⟩
theorem d_I {C : Int → Int → Prop} {g : Int → Int → V} {a b : Int} {z : PyData} (ha : EvD K ta σ F cs (.int a) cs1) (hb : EvD K tb σ F cs1 (.int b) cs2) (hc : C a b) (hz : ∀ F, Dt K F (g a b) z) : EvD K (tOp (rI C g) ta tb) σ F cs z cs2 :=
  d_op ha hb fun x y F2 H2 hx hy s _ Q q => by
    cases hx.toInt; cases hy.toInt
    exact ⟨a, b, rfl, rfl, hc, q _ F2 H2 .rfl s (hz _)⟩
variable {a b c : Int}
theorem d_add (ha : EvD K ta σ F cs (.int a) cs1) (hb : EvD K tb σ F cs1 (.int b) cs2) : EvD K (tOp (rI0 fun i j => .int (i + j)) ta tb) σ F cs (.int (a + b)) cs2 := d_I0 ha hb fun _ => .int _
theorem d_sub (ha : EvD K ta σ F cs (.int a) cs1) (hb : EvD K tb σ F cs1 (.int b) cs2) : EvD K (tOp (rI0 fun i j => .int (i - j)) ta tb) σ F cs (.int (a - b)) cs2 := d_I0 ha hb fun _ => .int _
theorem d_lt (ha : EvD K ta σ F cs (.int a) cs1) (hb : EvD K tb σ F cs1 (.int b) cs2) : EvD K (tOp (rI0 fun i j => .bl (decide (i < j))) ta tb) σ F cs (.bool (decide (a < b))) cs2 := d_I0 ha hb fun _ => .bl _
theorem d_le (ha : EvD K ta σ F cs (.int a) cs1) (hb : EvD K tb σ F cs1 (.int b) cs2) : EvD K (tOp (rI0 fun i j => .bl (decide (i ≤ j))) ta tb) σ F cs (.bool (decide (a ≤ b))) cs2 := d_I0 ha hb fun _ => .bl _
theorem d_gt (ha : EvD K ta σ F cs (.int a) cs1) (hb : EvD K tb σ F cs1 (.int b) cs2) : EvD K (tOp (rI0 fun i j => .bl (decide (j < i))) ta tb) σ F cs (.bool (decide (b < a))) cs2 := d_I0 ha hb fun _ => .bl _
theorem d_ge (ha : EvD K ta σ F cs (.int a) cs1) (hb : EvD K tb σ F cs1 (.int b) cs2) : EvD K (tOp (rI0 fun i j => .bl (decide (j ≤ i))) ta tb) σ F cs (.bool (decide (b ≤ a))) cs2 := d_I0 ha hb fun _ => .bl _
theorem d_mul (ha : EvD K ta σ F cs (.int a) cs1) (hb : EvD K tb σ F cs1 (.int b) cs2) (hc : mulM a b = some c) : EvD K (tOp (rI CMul fun i j => .int (i * j)) ta tb) σ F cs (.int c) cs2 := (mulM_some hc).2 ▸ d_I ha hb (mulM_some hc).1 fun _ => .int _
theorem d_mod (ha : EvD K ta σ F cs (.int a) cs1) (hb : EvD K tb σ F cs1 (.int b) cs2) (hc : modM a b = some c) : EvD K (tOp (rI (fun _ j => 0 < j) fun i j => .int (i % j)) ta tb) σ F cs (.int c) cs2 := (modM_some hc).2 ▸ d_I (C := fun _ j => 0 < j) ha hb (modM_some hc).1 fun _ => .int _
theorem d_fdiv (ha : EvD K ta σ F cs (.int a) cs1) (hb : EvD K tb σ F cs1 (.int b) cs2) (hc : fdivM a b = some c) : EvD K (tOp (rI CDiv fun i j => .int (i / j)) ta tb) σ F cs (.int c) cs2 := (fdivM_some hc).2 ▸ d_I ha hb (fdivM_some hc).1 fun _ => .int _
theorem d_pow (ha : EvD K ta σ F cs (.int a) cs1) (hb : EvD K tb σ F cs1 (.int b) cs2) (hc : powM a b = some c) : EvD K (tOp (rI CPow fun i j => .int (i ^ j.toNat)) ta tb) σ F cs (.int c) cs2 := (powM_some hc).2 ▸ d_I ha hb (powM_some hc).1 fun _ => .int _
theorem d_neg (ha : EvD K ta σ F cs (.int a) cs1) : EvD K (tUn (rU fun i => .int (-i)) ta) σ F cs (.int (-a)) cs1 := fun F1 H1 g1 s Q q =>
  ha F1 H1 g1 s _ fun v F2 H2 g2 s2 h2 => ⟨a, h2.toInt, q _ F2 H2 g2 s2 (.int _)⟩
/-- arguments -/
theorem a_nil : EvDs K tNil σ F cs [] cs := fun F1 H1 g s Q q => q [] F1 H1 .rfl s .nil
theorem a_cons {tr : TA} {ds : List PyData} (h : EvD K ta σ F cs d cs1) (hr : EvDs K tr σ F cs1 ds cs2) : EvDs K (tCons ta tr) σ F cs (d :: ds) cs2 := fun F1 H1 g1 s Q q =>
  h F1 H1 g1 s _ fun v F2 H2 g2 s2 h2 => hr F2 H2 (g1.tr g2) s2 _ fun vs F3 H3 g3 s3 h3 => q (v :: vs) F3 H3 (g2.tr g3) s3 (.cons (Dt.gr g3 h2) h3)
/-- a built-in's call -/
theorem d_cb {r : List V → Hp → VK → Prop} {ds : List PyData} {z : PyData} (ha : EvDs K as σ F cs ds cs1) (hr : ∀ vs F2 H2, Dts K F2 vs ds → Sta F2 cs1 H2 → ∀ Q : VK, (∀ v F3 H3, Gr F2 F3 → Sta F3 cs1 H3 → Dt K F3 v z → Q v H3) → r vs H2 Q) : EvD K (tCB r as) σ F cs z cs1 := fun F1 H1 g1 s Q q =>
  ha F1 H1 g1 s _ fun vs F2 H2 g2 s2 h2 => hr vs F2 H2 h2 s2 Q fun v F3 H3 g3 s3 h3 => q v F3 H3 (g2.tr g3) s3 h3
theorem d_abs (ha : EvDs K as σ F cs [.int a] cs1) : EvD K (tCB (fun xs H Q => ∃ i, xs = [.int i] ∧ Q (.int (if i < 0 then -i else i)) H) as) σ F cs (.int (absI a)) cs1 := d_cb ha fun vs F2 H2 h s Q q => by
  obtain ⟨v, rfl, k1⟩ := h.one; cases k1.toInt
  exact ⟨a, rfl, q _ F2 H2 .rfl s (.int _)⟩
theorem d_max2 (ha : EvDs K as σ F cs [.int a, .int b] cs1) : EvD K (tCB (fun xs H Q => ∃ i j, xs = [.int i, .int j] ∧ Q (.int (if j > i then j else i)) H) as) σ F cs (.int (maxI a b)) cs1 := d_cb ha fun vs F2 H2 h s Q q => by
  obtain ⟨v, w, rfl, k1, k2⟩ := h.two; cases k1.toInt; cases k2.toInt
  exact ⟨a, b, rfl, q _ F2 H2 .rfl s (.int _)⟩
theorem d_min2 (ha : EvDs K as σ F cs [.int a, .int b] cs1) : EvD K (tCB (fun xs H Q => ∃ i j, xs = [.int i, .int j] ∧ Q (.int (if j < i then j else i)) H) as) σ F cs (.int (minI a b)) cs1 := d_cb ha fun vs F2 H2 h s Q q => by
  obtain ⟨v, w, rfl, k1, k2⟩ := h.two; cases k1.toInt; cases k2.toInt
  exact ⟨a, b, rfl, q _ F2 H2 .rfl s (.int _)⟩
theorem d_lenL {ds : List PyData} (ha : EvDs K as σ F cs [.list ds] cs1) : EvD K (tCB (fun xs H Q => ∃ p ys, xs = [.ref p] ∧ (SqL K H p ys ∨ SqT K H p ys) ∧ Q (.int ys.length) H) as) σ F cs (.int ds.length) cs1 := d_cb ha fun vs F2 H2 h s Q q => by
  obtain ⟨v, rfl, k1⟩ := h.one
  obtain ⟨p, ys, rfl, hl, hd⟩ := k1.toLst
  exact ⟨p, ys, rfl, .inl (gr_L s.fr hl), q _ F2 H2 .rfl s (by rw [hd.len]; exact .int _)⟩
theorem d_len {α : Type} {e : α → PyData} {xs : List α} (ha : EvDs K as σ F cs [eL e xs] cs1) : EvD K (tCB (fun xs H Q => ∃ p ys, xs = [.ref p] ∧ (SqL K H p ys ∨ SqT K H p ys) ∧ Q (.int ys.length) H) as) σ F cs (.int xs.length) cs1 := by
  have := d_lenL ha
  rw [List.length_map] at this
  exact this
theorem d_lenT {ds : List PyData} (ha : EvDs K as σ F cs [.tuple ds] cs1) : EvD K (tCB (fun xs H Q => ∃ p ys, xs = [.ref p] ∧ (SqL K H p ys ∨ SqT K H p ys) ∧ Q (.int ys.length) H) as) σ F cs (.int ds.length) cs1 := d_cb ha fun vs F2 H2 h s Q q => by
  obtain ⟨v, rfl, k1⟩ := h.one
  obtain ⟨p, ys, rfl, hl, hd⟩ := k1.toTup
  exact ⟨p, ys, rfl, .inr (gr_T s.fr hl), q _ F2 H2 .rfl s (by rw [hd.len]; exact .int _)⟩
theorem d_lenS {x : Str} {n : Int} (ha : EvDs K as σ F cs [.str x] cs1) (hn : lenS x = some n) : EvD K (tCB (fun xs H Q => ∃ z, xs = [.str z] ∧ z.length ≤ sizeLine ∧ Q (.int z.length) H) as) σ F cs (.int n) cs1 := d_cb ha fun vs F2 H2 h s Q q => by
  obtain ⟨v, rfl, k1⟩ := h.one; cases k1.toStr
  obtain ⟨h1, rfl⟩ := lenS_some hn
  exact ⟨x, rfl, sz h1, q _ F2 H2 .rfl s (.int _)⟩
theorem d_intB {b : Bool} (ha : EvDs K as σ F cs [.bool b] cs1) : EvD K (tCB (fun xs H Q => (∃ i, xs = [.int i] ∧ Q (.int i) H) ∨ ∃ k, xs = [.bl k] ∧ Q (.int (if k then 1 else 0)) H) as) σ F cs (.int (b2I b)) cs1 := d_cb ha fun vs F2 H2 h s Q q => by
  obtain ⟨v, rfl, k1⟩ := h.one; cases k1.toBl
  exact .inr ⟨b, rfl, q _ F2 H2 .rfl s (.int _)⟩
theorem d_strI {x : Str} (ha : EvDs K as σ F cs [.int a] cs1) (hn : strM a = some x) : EvD K (tCB (fun xs H Q => ∃ i, xs = [.int i] ∧ i.natAbs.log2 < 1920 ∧ Q (.str (toString i)) H) as) σ F cs (.str x) cs1 := d_cb ha fun vs F2 H2 h s Q q => by
  obtain ⟨v, rfl, k1⟩ := h.one; cases k1.toInt
  obtain ⟨h1, rfl⟩ := strM_some hn
  exact ⟨a, rfl, h1, q _ F2 H2 .rfl s (.str _)⟩
theorem d_sum {xs : List Int} (ha : EvDs K as σ F cs [eL eI xs] cs1) : EvD K (tCB (rSum K) as) σ F cs (.int xs.sum) cs1 := d_cb ha fun vs F2 H2 h s Q q => by
  obtain ⟨v, rfl, k1⟩ := h.one
  obtain ⟨p, ys, rfl, hl, hd⟩ := k1.toLst
  cases hd.ints
  exact ⟨p, xs, rfl, gr_L s.fr hl, q _ F2 H2 .rfl s (.int _)⟩
theorem d_all {xs : List Bool} (ha : EvDs K as σ F cs [eL eB xs] cs1) : EvD K (tCB (rAll K) as) σ F cs (.bool (xs.all id)) cs1 := d_cb ha fun vs F2 H2 h s Q q => by
  obtain ⟨v, rfl, k1⟩ := h.one
  obtain ⟨p, ys, rfl, hl, hd⟩ := k1.toLst
  cases hd.bls
  exact ⟨p, xs, rfl, gr_L s.fr hl, q _ F2 H2 .rfl s (.bl _)⟩
theorem d_any {xs : List Bool} (ha : EvDs K as σ F cs [eL eB xs] cs1) : EvD K (tCB (rAny K) as) σ F cs (.bool (xs.any id)) cs1 := d_cb ha fun vs F2 H2 h s Q q => by
  obtain ⟨v, rfl, k1⟩ := h.one
  obtain ⟨p, ys, rfl, hl, hd⟩ := k1.toLst
  cases hd.bls
  exact ⟨p, xs, rfl, gr_L s.fr hl, q _ F2 H2 .rfl s (.bl _)⟩
theorem d_listL {ds : List PyData} (ha : EvDs K as σ F cs [.list ds] cs1) : EvD K (tCB (fun xs H Q => ∃ p ys, xs = [.ref p] ∧ (SqL K H p ys ∨ SqT K H p ys) ∧ ∀ l, H l = none → Q (.ref l) (upd H l (.lst ys))) as) σ F cs (.list ds) cs1 := d_cb ha fun vs F2 H2 h s Q q => by
  obtain ⟨v, rfl, k1⟩ := h.one
  obtain ⟨p, ys, rfl, hl, hd⟩ := k1.toLst
  exact ⟨p, ys, rfl, .inl (gr_L s.fr hl), fun l nl => q _ _ _ (Gr.new (s.fr.back nl)) (s.lay nl) (.lst (.inl (.inl upd_same)) (hd.gr (Gr.new (s.fr.back nl))))⟩
/-- a new list, a new tuple -/
theorem d_lst {ds : List PyData} (h : EvDs K as σ F cs ds cs1) (hl : ds.length ≤ 100000) : EvD K (tLst as) σ F cs (.list ds) cs1 := fun F1 H1 g1 s Q q =>
  h F1 H1 g1 s _ fun vs F2 H2 g2 s2 h2 => ⟨h2.len.symm ▸ sz hl, fun p hp => q _ _ _ (g2.tr (Gr.new (s2.fr.back hp))) (s2.lay hp) (.lst (.inl (.inl upd_same)) (h2.gr (Gr.new (s2.fr.back hp))))⟩
theorem d_tup {ds : List PyData} (h : EvDs K as σ F cs ds cs1) (hl : ds.length ≤ 100000) : EvD K (tTup as) σ F cs (.tuple ds) cs1 := fun F1 H1 g1 s Q q =>
  h F1 H1 g1 s _ fun vs F2 H2 g2 s2 h2 => ⟨h2.len.symm ▸ sz hl, fun p hp => q _ _ _ (g2.tr (Gr.new (s2.fr.back hp))) (s2.lay hp) (.tup (.inl (.inl upd_same)) (h2.gr (Gr.new (s2.fr.back hp))))⟩
/-- items -/
theorem d_ixLs {ds : List PyData} {z : PyData} (ha : EvD K ta σ F cs (.list ds) cs1) (hb : EvD K tb σ F cs1 (.int b) cs2) (hz : atI ds b = some z) : EvD K (tOp (rIxL K) ta tb) σ F cs z cs2 :=
  d_op ha hb fun x y F2 H2 hx hy s _ Q q => by
    obtain ⟨p, vs, rfl, hl, hd⟩ := hx.toLst; cases hy.toInt
    unfold atI at hz
    rw [← hd.len] at hz
    cases e : ixN vs.length b with
    | none => rw [e] at hz; cases hz
    | some j =>
      rw [e] at hz
      obtain ⟨v, h1, h2⟩ := hd.get2 (show ds[j]? = some z from hz)
      exact ⟨p, vs, b, v, rfl, rfl, gr_L s.fr hl, by unfold atI; rw [e]; exact h1, q v F2 H2 .rfl s h2⟩
theorem d_ix {α : Type} {e : α → PyData} {xs : List α} {x : α} (ha : EvD K ta σ F cs (eL e xs) cs1) (hb : EvD K tb σ F cs1 (.int b) cs2) (hz : atI xs b = some x) : EvD K (tOp (rIxL K) ta tb) σ F cs (e x) cs2 :=
  d_ixLs ha hb (by rw [atI_map, hz]; rfl)
theorem d_ixT {ds : List PyData} {z : PyData} (ha : EvD K ta σ F cs (.tuple ds) cs1) (hb : EvD K tb σ F cs1 (.int b) cs2) (hz : atI ds b = some z) : EvD K (tOp (rIxT K) ta tb) σ F cs z cs2 :=
  d_op ha hb fun x y F2 H2 hx hy s _ Q q => by
    obtain ⟨p, vs, rfl, hl, hd⟩ := hx.toTup; cases hy.toInt
    unfold atI at hz
    rw [← hd.len] at hz
    cases e : ixN vs.length b with
    | none => rw [e] at hz; cases hz
    | some j =>
      rw [e] at hz
      obtain ⟨v, h1, h2⟩ := hd.get2 (show ds[j]? = some z from hz)
      exact ⟨p, vs, b, v, rfl, rfl, gr_T s.fr hl, by unfold atI; rw [e]; exact h1, q v F2 H2 .rfl s h2⟩
theorem d_ixS {x z : Str} (ha : EvD K ta σ F cs (.str x) cs1) (hb : EvD K tb σ F cs1 (.int b) cs2) (hz : ixS x b = some z) : EvD K (tOp rIxS ta tb) σ F cs (.str z) cs2 :=
  d_op ha hb fun v y F2 H2 hx hy s _ Q q => by
    cases hx.toStr; cases hy.toInt
    obtain ⟨h1, c, h2, rfl⟩ := ixS_some hz
    exact ⟨x, b, c, rfl, rfl, sz h1, h2, q _ F2 H2 .rfl s (.str _)⟩
/-- slices -/
theorem o_none : EvO tNoPart σ F cs none cs := fun F1 H1 g s Q q => q F1 H1 .rfl s
theorem o_some (h : EvD K te σ F cs (.int a) cs1) : EvO (tPart te) σ F cs (some a) cs1 := fun F1 H1 g1 s Q q => h F1 H1 g1 s _ fun v F2 H2 g2 s2 h2 => ⟨a, h2.toInt, q F2 H2 g2 s2⟩
theorem d_sl {α : Type} {e : α → PyData} {xs : List α} {tl th : TO} {lo hi : Option Int} (h : EvD K te σ F cs (eL e xs) cs1) (h1 : EvO tl σ F cs1 lo cs2) (h2 : EvO th σ F cs2 hi cs3) : EvD K (tSl (rSlL K) te tl th) σ F cs (eL e (cutL xs lo hi)) cs3 := fun F1 H1 g1 s Q q =>
  h F1 H1 g1 s _ fun v F2 H2 g2 s2 hv => h1 F2 H2 (g1.tr g2) s2 _ fun F3 H3 g3 s3 => h2 F3 H3 ((g1.tr g2).tr g3) s3 _ fun F4 H4 g4 s4 => by
    obtain ⟨p, vs, rfl, hl, hd⟩ := hv.toLst
    have hd' := hd.gr (g3.tr g4)
    refine ⟨p, vs, rfl, gr_L s4.fr (gr_L (g3.tr g4) hl), fun l nl => q _ _ _ ((g2.tr (g3.tr g4)).tr (Gr.new (s4.fr.back nl))) (s4.lay nl) (.lst (.inl (.inl upd_same)) ?_)⟩
    rw [← cutL_map]
    unfold cutV cutL
    rw [hd.len]
    exact ((hd'.gr (Gr.new (s4.fr.back nl))).drop _).take _
/-- == of flat things -/
theorem dec_V {α : Type} [DecidableEq α] {f : α → V} (hf : ∀ x y, f x = f y → x = y) (x y : α) : decide (f x = f y) = decide (x = y) := by
  by_cases h : x = y
  · subst h; simp
  · rw [decide_eq_false h, decide_eq_false (fun q => h (hf x y q))]
theorem d_eqI (ha : EvD K ta σ F cs (.int a) cs1) (hb : EvD K tb σ F cs1 (.int b) cs2) : EvD K (tOp rEq ta tb) σ F cs (.bool (decide (a = b))) cs2 :=
  d_op ha hb fun x y F2 H2 hx hy s _ Q q => by
    cases hx.toInt; cases hy.toInt
    exact ⟨rfl, q _ F2 H2 .rfl s (by rw [dec_V (f := V.int) (fun _ _ h => V.int.inj h)]; exact .bl _)⟩
theorem d_neI (ha : EvD K ta σ F cs (.int a) cs1) (hb : EvD K tb σ F cs1 (.int b) cs2) : EvD K (tOp rNe ta tb) σ F cs (.bool (!decide (a = b))) cs2 :=
  d_op ha hb fun x y F2 H2 hx hy s _ Q q => by
    cases hx.toInt; cases hy.toInt
    exact ⟨rfl, q _ F2 H2 .rfl s (by rw [dec_V (f := V.int) (fun _ _ h => V.int.inj h)]; exact .bl _)⟩
theorem d_eqS {x y : Str} (ha : EvD K ta σ F cs (.str x) cs1) (hb : EvD K tb σ F cs1 (.str y) cs2) : EvD K (tOp rEq ta tb) σ F cs (.bool (decide (x = y))) cs2 :=
  d_op ha hb fun _ _ F2 H2 hx hy s _ Q q => by
    cases hx.toStr; cases hy.toStr
    exact ⟨rfl, q _ F2 H2 .rfl s (by rw [dec_V (f := V.str) (fun _ _ h => V.str.inj h)]; exact .bl _)⟩
theorem d_neS {x y : Str} (ha : EvD K ta σ F cs (.str x) cs1) (hb : EvD K tb σ F cs1 (.str y) cs2) : EvD K (tOp rNe ta tb) σ F cs (.bool (!decide (x = y))) cs2 :=
  d_op ha hb fun _ _ F2 H2 hx hy s _ Q q => by
    cases hx.toStr; cases hy.toStr
    exact ⟨rfl, q _ F2 H2 .rfl s (by rw [dec_V (f := V.str) (fun _ _ h => V.str.inj h)]; exact .bl _)⟩
theorem d_eqB {x y : Bool} (ha : EvD K ta σ F cs (.bool x) cs1) (hb : EvD K tb σ F cs1 (.bool y) cs2) : EvD K (tOp rEq ta tb) σ F cs (.bool (decide (x = y))) cs2 :=
  d_op ha hb fun _ _ F2 H2 hx hy s _ Q q => by
    cases hx.toBl; cases hy.toBl
    exact ⟨rfl, q _ F2 H2 .rfl s (by rw [dec_V (f := V.bl) (fun _ _ h => V.bl.inj h)]; exact .bl _)⟩
theorem d_neB {x y : Bool} (ha : EvD K ta σ F cs (.bool x) cs1) (hb : EvD K tb σ F cs1 (.bool y) cs2) : EvD K (tOp rNe ta tb) σ F cs (.bool (!decide (x = y))) cs2 :=
  d_op ha hb fun _ _ F2 H2 hx hy s _ Q q => by
    cases hx.toBl; cases hy.toBl
    exact ⟨rfl, q _ F2 H2 .rfl s (by rw [dec_V (f := V.bl) (fun _ _ h => V.bl.inj h)]; exact .bl _)⟩
/-- == of data -/
theorem d_eqD (ha : EvD K ta σ F cs d cs1) (hb : EvD K tb σ F cs1 e cs2) (h1 : SeqAt.shaped d = true) (h2 : SeqAt.shaped e = true) : EvD K (tOp (rEqD K) ta tb) σ F cs (.bool (PyData.eqv d e)) cs2 :=
  d_op ha hb fun x y F2 H2 hx hy s _ Q q => ⟨d, e, (hx.gr s.fr).dp (SeqAt.canLay_of_shaped h1), (hy.gr s.fr).dp (SeqAt.canLay_of_shaped h2), h1, h2, q _ F2 H2 .rfl s (.bl _)⟩
theorem d_neD (ha : EvD K ta σ F cs d cs1) (hb : EvD K tb σ F cs1 e cs2) (h1 : SeqAt.shaped d = true) (h2 : SeqAt.shaped e = true) : EvD K (tOp (rNeD K) ta tb) σ F cs (.bool (!PyData.eqv d e)) cs2 :=
  d_op ha hb fun x y F2 H2 hx hy s _ Q q => ⟨d, e, (hx.gr s.fr).dp (SeqAt.canLay_of_shaped h1), (hy.gr s.fr).dp (SeqAt.canLay_of_shaped h2), h1, h2, q _ F2 H2 .rfl s (.bl _)⟩
/-- texts -/
theorem d_scat {x y z : Str} (ha : EvD K ta σ F cs (.str x) cs1) (hb : EvD K tb σ F cs1 (.str y) cs2) (hz : scatM x y = some z) : EvD K (tOp (fun x y H Q => ∃ i j, x = .str i ∧ y = .str j ∧ i.length + j.length ≤ sizeLine ∧ Q (.str (i ++ j)) H) ta tb) σ F cs (.str z) cs2 :=
  d_op ha hb fun _ _ F2 H2 hx hy s _ Q q => by
    cases hx.toStr; cases hy.toStr
    obtain ⟨h1, rfl⟩ := scatM_some hz
    exact ⟨x, y, rfl, rfl, sz h1, q _ F2 H2 .rfl s (.str _)⟩
theorem d_inS {x y : Str} (ha : EvD K ta σ F cs (.str x) cs1) (hb : EvD K tb σ F cs1 (.str y) cs2) : EvD K (tOp (fun x y H Q => ∃ i j, x = .str i ∧ y = .str j ∧ Q (.bl (!(Builtin.Str.occurrences j i 0 j.length 1).isEmpty)) H) ta tb) σ F cs (.bool (inS x y)) cs2 :=
  d_op ha hb fun _ _ F2 H2 hx hy s _ Q q => by
    cases hx.toStr; cases hy.toStr
    exact ⟨x, y, rfl, rfl, q _ F2 H2 .rfl s (.bl _)⟩
theorem d_notinS {x y : Str} (ha : EvD K ta σ F cs (.str x) cs1) (hb : EvD K tb σ F cs1 (.str y) cs2) : EvD K (tOp (fun x y H Q => ∃ i j, x = .str i ∧ y = .str j ∧ Q (.bl (!(!(Builtin.Str.occurrences j i 0 j.length 1).isEmpty))) H) ta tb) σ F cs (.bool (!inS x y)) cs2 :=
  d_op ha hb fun _ _ F2 H2 hx hy s _ Q q => by
    cases hx.toStr; cases hy.toStr
    exact ⟨x, y, rfl, rfl, q _ F2 H2 .rfl s (.bl _)⟩
/-- tests -/
theorem t_test {b : Bool} (h : EvD K te σ F cs (.bool b) cs1) : EvT (tTest te) σ F cs b cs1 := fun F1 H1 g1 s Q q =>
  h F1 H1 g1 s _ fun v F2 H2 g2 s2 h2 => ⟨b, h2.toBl, q F2 H2 g2 s2⟩
theorem t_B {b : Bool} (h : EvD K te σ F cs (.bool b) cs1) : EvT (tB te) σ F cs b cs1 := fun F1 H1 g1 s Q q =>
  h F1 H1 g1 s _ fun v F2 H2 g2 s2 h2 => ⟨b, h2.toBl, q F2 H2 g2 s2⟩
theorem t_not {t : TT} {b : Bool} (h : EvT t σ F cs b cs1) : EvT (tNot t) σ F cs (!b) cs1 := fun F1 H1 g1 s Q q => h F1 H1 g1 s _ fun F2 H2 g2 s2 => q F2 H2 g2 s2
theorem t_and {t u : TT} {a b r : Bool} (h1 : EvT t σ F cs a cs1) (h2 : a = true → EvT u σ F cs1 b cs1) (h3 : a = true → r = b) (h4 : a = false → r = false) : EvT (tAnd t u) σ F cs r cs1 := fun F1 H1 g1 s Q q => h1 F1 H1 g1 s _ fun F2 H2 g2 s2 => by
  cases a with
  | true => rw [h3 rfl] at q; exact h2 rfl F2 H2 (g1.tr g2) s2 Q fun F3 H3 g3 s3 => q F3 H3 (g2.tr g3) s3
  | false => rw [h4 rfl] at q; exact q F2 H2 g2 s2
theorem t_or {t u : TT} {a b r : Bool} (h1 : EvT t σ F cs a cs1) (h2 : a = false → EvT u σ F cs1 b cs1) (h3 : a = false → r = b) (h4 : a = true → r = true) : EvT (tOr t u) σ F cs r cs1 := fun F1 H1 g1 s Q q => h1 F1 H1 g1 s _ fun F2 H2 g2 s2 => by
  cases a with
  | false => rw [h3 rfl] at q; exact h2 rfl F2 H2 (g1.tr g2) s2 Q fun F3 H3 g3 s3 => q F3 H3 (g2.tr g3) s3
  | true => rw [h4 rfl] at q; exact q F2 H2 g2 s2
theorem d_andV {a b r : Bool} (h1 : EvD K ta σ F cs (.bool a) cs1) (h2 : a = true → EvD K tb σ F cs1 (.bool b) cs1) (h3 : a = true → r = b) (h4 : a = false → r = false) : EvD K (tAndV ta tb) σ F cs (.bool r) cs1 := fun F1 H1 g1 s Q q => h1 F1 H1 g1 s _ fun v F2 H2 g2 s2 hv => ⟨a, hv.toBl, by
  cases a with
  | true => rw [h3 rfl] at q; exact h2 rfl F2 H2 (g1.tr g2) s2 Q fun v F3 H3 g3 s3 k => q v F3 H3 (g2.tr g3) s3 k
  | false => rw [h4 rfl] at q; exact q _ F2 H2 g2 s2 (.bl _)⟩
theorem d_orV {a b r : Bool} (h1 : EvD K ta σ F cs (.bool a) cs1) (h2 : a = false → EvD K tb σ F cs1 (.bool b) cs1) (h3 : a = false → r = b) (h4 : a = true → r = true) : EvD K (tOrV ta tb) σ F cs (.bool r) cs1 := fun F1 H1 g1 s Q q => h1 F1 H1 g1 s _ fun v F2 H2 g2 s2 hv => ⟨a, hv.toBl, by
  cases a with
  | false => rw [h3 rfl] at q; exact h2 rfl F2 H2 (g1.tr g2) s2 Q fun v F3 H3 g3 s3 k => q v F3 H3 (g2.tr g3) s3 k
  | true => rw [h4 rfl] at q; exact q _ F2 H2 g2 s2 (.bl _)⟩
theorem d_notV {a : Bool} (h : EvD K ta σ F cs (.bool a) cs1) : EvD K (tNotV ta) σ F cs (.bool (!a)) cs1 := fun F1 H1 g1 s Q q => h F1 H1 g1 s _ fun v F2 H2 g2 s2 hv => ⟨a, hv.toBl, q _ F2 H2 g2 s2 (.bl _)⟩
theorem d_ifE {t : TT} {a : Bool} (h : EvT t σ F cs a cs1) (h1 : a = true → EvD K ta σ F cs1 d cs2) (h2 : a = false → EvD K tb σ F cs1 d cs2) : EvD K (tIf t ta tb) σ F cs d cs2 := fun F1 H1 g1 s Q q => h F1 H1 g1 s _ fun F2 H2 g2 s2 => by
  cases a with
  | true => exact h1 rfl F2 H2 (g1.tr g2) s2 Q fun v F3 H3 g3 s3 k => q v F3 H3 (g2.tr g3) s3 k
  | false => exact h2 rfl F2 H2 (g1.tr g2) s2 Q fun v F3 H3 g3 s3 k => q v F3 H3 (g2.tr g3) s3 k
end
end Bw

namespace Bw
open PySem L2
/-- a new list, which may change -/
def EvC (K : PySem.W.Frag) (te : TE) (σ : St) (F : Hp) (cs : Cs) (ds : List PyData) (cs' : Cs) : Prop :=
  ∀ F1 H1, Gr F F1 → Sta F1 cs H1 → ∀ Q : VK, (∀ p vs F2 H2, Gr F1 F2 → Sta F2 ((p, .lst vs) :: cs') H2 → Dts K F2 vs ds → Q (.ref p) H2) → te σ H1 Q
section
variable {K : PySem.W.Frag} {σ : St} {F F' : Hp} {cs cs1 cs2 cs3 : Cs} {ta tb tc te : TE} {d e : PyData} {as : TA} {a b c : Int}
theorem EvC.dd {ds : List PyData} (h : EvC K te σ F cs ds cs1) : EvD K te σ F cs (.list ds) cs1 := fun F1 H1 g1 s Q q => h F1 H1 g1 s Q fun p vs F2 H2 g2 s2 h2 => q _ _ H2 (g2.tr s2.gfr) s2.froze (.lst (.inl (.inl upd_same)) (h2.gr s2.gfr))
theorem c_is {ds es : List PyData} (h : EvC K te σ F cs ds cs1) (q : ds = es) : EvC K te σ F cs es cs1 := q ▸ h
theorem c_lst {ds : List PyData} (h : EvDs K as σ F cs ds cs1) (hl : ds.length ≤ 100000) : EvC K (tLst as) σ F cs ds cs1 := fun F1 H1 g1 s Q q =>
  h F1 H1 g1 s _ fun vs F2 H2 g2 s2 h2 => ⟨h2.len.symm ▸ sz hl, fun p hp => q p vs F2 _ g2 (s2.cell hp) h2⟩
theorem c_list {ds : List PyData} (ha : EvDs K as σ F cs [.list ds] cs1) : EvC K (tCB (fun xs H Q => ∃ p ys, xs = [.ref p] ∧ (SqL K H p ys ∨ SqT K H p ys) ∧ ∀ l, H l = none → Q (.ref l) (upd H l (.lst ys))) as) σ F cs ds cs1 := fun F1 H1 g1 s Q q => ha F1 H1 g1 s _ fun vs F2 H2 g2 s2 h2 => by
  obtain ⟨v, rfl, k⟩ := h2.one
  obtain ⟨p, ys, rfl, hl, hd⟩ := k.toLst
  exact ⟨p, ys, rfl, .inl (gr_L s2.fr hl), fun l nl => q _ _ _ _ g2 (s2.cell nl) hd⟩
theorem c_sl {α : Type} {e : α → PyData} {xs : List α} {tl th : TO} {lo hi : Option Int} (h : EvD K te σ F cs (eL e xs) cs1) (h1 : EvO tl σ F cs1 lo cs2) (h2 : EvO th σ F cs2 hi cs3) : EvC K (tSl (rSlL K) te tl th) σ F cs ((cutL xs lo hi).map e) cs3 := fun F1 H1 g1 s Q q =>
  h F1 H1 g1 s _ fun v F2 H2 g2 s2 hv => h1 F2 H2 (g1.tr g2) s2 _ fun F3 H3 g3 s3 => h2 F3 H3 ((g1.tr g2).tr g3) s3 _ fun F4 H4 g4 s4 => by
    obtain ⟨p, vs, rfl, hl, hd⟩ := hv.toLst
    have hd' := hd.gr (g3.tr g4)
    refine ⟨p, vs, rfl, gr_L s4.fr (gr_L (g3.tr g4) hl), fun l nl => q _ _ _ _ (g2.tr (g3.tr g4)) (s4.cell nl) ?_⟩
    rw [← cutL_map]
    unfold cutV cutL
    rw [hd.len]
    exact (hd'.drop _).take _
/-- list + list, list * int -/
def rCatS (K : PySem.W.Frag) : R2 := fun x y H Q => ∃ l b xs zs, x = .ref l ∧ y = .ref b ∧ SqL K H l xs ∧ SqL K H b zs ∧ xs.length + zs.length ≤ sizeLine ∧ ∀ p, H p = none → Q (.ref p) (upd H p (.lst (xs ++ zs)))
theorem op_catS {X : Cx} : OpR X (binaryOp .Add) (rCatS X.K) := by
  intro pins s σ H x y v u Q I rx ry h
  obtain ⟨l, b, xs, zs, rfl, rfl, hH, hB, hz, q⟩ := h
  cases rx
  cases ry
  obtain ⟨its, r, pl, _⟩ := I.list hH
  obtain ⟨its2, r2, pl2, _⟩ := I.list hB
  have e1 := r.length
  have e2 := r2.length
  obtain ⟨⟨cls, dd, data, sl⟩, ho, hc, n, hd⟩ := pl.isList
  obtain ⟨⟨cls2, dd2, data2, sl2⟩, ho2, hc2, n2, hd2⟩ := pl2.isList
  simp only at hc hd hc2 hd2
  subst hc hd hc2 hd2
  refine PySem.concat_meets ⟨_, ho, rfl⟩ ⟨_, ho2, rfl⟩ PySem.noFill_list_add PySem.seq_list_add PySem.F.slot_list_add PySem.F.entry_list_add (PySem.F.args_list_add_2 _ _)
    (PyProof.Rows.list_addW l b its.toArray its2.toArray n n2 dd dd2 sl sl2 (by simp only [List.size_toArray]; omega)) ⟨ho, ho2, ?_⟩
  rw [show its.toArray ++ its2.toArray = (its ++ its2).toArray by simp]
  exact ⟨.ref _, _, I.lnew (t' := s.toks) (r.append r2) (by rw [List.length_append]; omega), rfl, q _ I.fresh⟩
theorem c_cat {α : Type} {en : α → PyData} {xs ys zs : List α} (ha : EvD K ta σ F cs (eL en xs) cs1) (hb : EvD K tb σ F cs1 (eL en ys) cs2) (hz : catM xs ys = some zs) : EvC K (tOp (rCatS K) ta tb) σ F cs (zs.map en) cs2 := fun F1 H1 g1 s Q q =>
  ha F1 H1 g1 s _ fun v F2 H2 g2 s2 h2 => hb F2 H2 (g1.tr g2) s2 _ fun w F3 H3 g3 s3 h3 => by
    obtain ⟨p, vs, rfl, hl, hd⟩ := (h2.gr g3).toLst
    obtain ⟨p', ws, rfl, hl', hd'⟩ := h3.toLst
    obtain ⟨h4, rfl⟩ := catM_some hz
    refine ⟨p, p', vs, ws, rfl, rfl, gr_L s3.fr hl, gr_L s3.fr hl', ?_, fun l nl => q _ _ _ _ (g2.tr g3) (s3.cell nl) ?_⟩
    · rw [hd.len, hd'.len, List.length_map, List.length_map]; exact sz h4
    · rw [List.map_append]; exact hd.app hd'
theorem c_rep {α : Type} {en : α → PyData} {xs zs : List α} (ha : EvC K ta σ F cs (xs.map en) cs1) (hb : ∀ cs, EvD K tb σ F cs (.int b) cs) (hz : repM xs b = some zs) : EvC K (tOp rRep ta tb) σ F cs (zs.map en) cs1 := fun F1 H1 g1 s Q q =>
  ha F1 H1 g1 s _ fun p vs F2 H2 g2 s2 h2 => hb _ F2 H2 (g1.tr g2) s2 _ fun w F3 H3 g3 s3 h3 => by
    cases h3.toInt
    obtain ⟨⟨h4, h5, h6⟩, rfl⟩ := repM_some hz
    have s4 := s3.froze
    refine ⟨p, b, vs, rfl, rfl, s3.at List.mem_cons_self, h4, h5, ?_, fun l nl => q _ _ _ _ ((g2.tr g3).tr s3.gfr) (s4.cell nl) ?_⟩
    · rw [h2.len, List.length_map]; exact sz h6
    · have := ((h2.gr g3).gr s3.gfr).rep b.toNat
      rw [List.map_flatten, List.map_replicate]
      exact this
/-- x in a list of ints, of texts -/
theorem inV_int (x : Int) (xs : List Int) : inV (.int x) (xs.map V.int) = xs.any (fun y => y == x) := by
  unfold inV
  rw [List.any_map]
  congr 1
theorem inV_str (x : Str) (xs : List Str) : inV (.str x) (xs.map V.str) = xs.any (fun y => y == x) := by
  unfold inV
  rw [List.any_map]
  congr 1
def inL {α : Type} [BEq α] (x : α) (xs : List α) : Bool := xs.any fun y => y == x
theorem flatI (xs : List Int) : (xs.map V.int).all flatV = true := by rw [List.all_map]; exact List.all_eq_true.mpr fun _ _ => rfl
theorem flatS (xs : List Str) : (xs.map V.str).all flatV = true := by rw [List.all_map]; exact List.all_eq_true.mpr fun _ _ => rfl
theorem d_inI {xs : List Int} (ha : EvD K ta σ F cs (.int a) cs1) (hb : EvD K tb σ F cs1 (eL eI xs) cs2) : EvD K (tOp (rIn K false) ta tb) σ F cs (.bool (inL a xs)) cs2 :=
  d_op ha hb fun x y F2 H2 hx hy s _ Q q => by
    cases hx.toInt
    obtain ⟨p, vs, rfl, hl, hd⟩ := hy.toLst
    cases hd.ints
    refine ⟨p, _, rfl, .inl (gr_L s.fr hl), rfl, flatI xs, q _ F2 H2 .rfl s ?_⟩
    rw [inV_int]; exact .bl _
theorem d_ninI {xs : List Int} (ha : EvD K ta σ F cs (.int a) cs1) (hb : EvD K tb σ F cs1 (eL eI xs) cs2) : EvD K (tOp (rIn K true) ta tb) σ F cs (.bool (!inL a xs)) cs2 :=
  d_op ha hb fun x y F2 H2 hx hy s _ Q q => by
    cases hx.toInt
    obtain ⟨p, vs, rfl, hl, hd⟩ := hy.toLst
    cases hd.ints
    refine ⟨p, _, rfl, .inl (gr_L s.fr hl), rfl, flatI xs, q _ F2 H2 .rfl s ?_⟩
    rw [inV_int]; exact .bl _
theorem d_inSs {x : Str} {xs : List Str} (ha : EvD K ta σ F cs (.str x) cs1) (hb : EvD K tb σ F cs1 (eL eS xs) cs2) : EvD K (tOp (rIn K false) ta tb) σ F cs (.bool (inL x xs)) cs2 :=
  d_op ha hb fun _ y F2 H2 hx hy s _ Q q => by
    cases hx.toStr
    obtain ⟨p, vs, rfl, hl, hd⟩ := hy.toLst
    cases hd.strs
    refine ⟨p, _, rfl, .inl (gr_L s.fr hl), rfl, flatS xs, q _ F2 H2 .rfl s ?_⟩
    rw [inV_str]; exact .bl _
theorem d_ninSs {x : Str} {xs : List Str} (ha : EvD K ta σ F cs (.str x) cs1) (hb : EvD K tb σ F cs1 (eL eS xs) cs2) : EvD K (tOp (rIn K true) ta tb) σ F cs (.bool (!inL x xs)) cs2 :=
  d_op ha hb fun _ y F2 H2 hx hy s _ Q q => by
    cases hx.toStr
    obtain ⟨p, vs, rfl, hl, hd⟩ := hy.toLst
    cases hd.strs
    refine ⟨p, _, rfl, .inl (gr_L s.fr hl), rfl, flatS xs, q _ F2 H2 .rfl s ?_⟩
    rw [inV_str]; exact .bl _
/-- sep.join(xs) -/
def joinM (x : Str) (xs : List Str) : Option Str := if ((xs.map (·.length)).sum + x.length * xs.length) ≤ 100000 then some (Txt.join x xs) else none

/-! walks -/
theorem src_list {p : Addr} {vs : List V} {ds : List PyData} (h : SqL K F p vs) (hd : Dts K F vs ds) : Src K (Itl K p) F ds := fun F1 c1 H1 g s => by
  have q : SqL K H1 p vs := gr_L s.fr (gr_L g h)
  refine ⟨fun i hi => ?_, ⟨vs, q, by rw [hd.len]; exact Nat.le_refl _⟩, fun i v H2 d e y => ?_⟩
  · have hi' : i < vs.length := by rw [hd.len]; exact hi
    exact ⟨vs, vs[i], q, List.getElem?_eq_getElem hi'⟩
  · obtain ⟨rfl, y⟩ := y
    obtain ⟨d', e', h'⟩ := hd.get (y vs q)
    rw [e] at e'; cases e'
    exact ⟨F1, .rfl, s, h'.gr g⟩
theorem src_enum {p : Addr} {vs : List V} {ds : List PyData} (h : SqL K F p vs) (hd : Dts K F vs ds) : Src K (Ite K p) F (ds.mapIdx fun i d => .tuple [.int i, d]) := fun F1 c1 H1 g s => by
  have q : SqL K H1 p vs := gr_L s.fr (gr_L g h)
  refine ⟨fun i hi => ?_, ⟨vs, q, by rw [hd.len]; simp⟩, fun i v H2 d e y => ?_⟩
  · have hi' : i < vs.length := by rw [hd.len]; simpa using hi
    exact ⟨vs, vs[i], q, List.getElem?_eq_getElem hi'⟩
  · obtain ⟨T, x, rfl, nT, rfl, y⟩ := y
    obtain ⟨d', e', h'⟩ := hd.get (y vs q)
    rw [List.getElem?_mapIdx, e'] at e
    cases e
    exact ⟨_, Gr.new (s.fr.back nT), s.lay nT, .tup (.inl (.inl upd_same)) (.cons (.int _) (.cons (h'.gr (g.tr (Gr.new (s.fr.back nT)))) .nil))⟩
theorem src_zip {p p' : Addr} {vs ws : List V} {ds es : List PyData} (h : SqL K F p vs) (hd : Dts K F vs ds) (h' : SqL K F p' ws) (hd' : Dts K F ws es) : Src K (Itz K p p') F (List.zipWith (fun d e => .tuple [d, e]) ds es) := fun F1 c1 H1 g s => by
  have q : SqL K H1 p vs := gr_L s.fr (gr_L g h)
  have q' : SqL K H1 p' ws := gr_L s.fr (gr_L g h')
  refine ⟨fun i hi => ?_, ⟨vs, ws, q, q', by rw [hd.len, hd'.len, List.length_zipWith]; omega⟩, fun i v H2 d e y => ?_⟩
  · rw [List.length_zipWith] at hi
    have h1 : i < vs.length := by rw [hd.len]; omega
    have h2 : i < ws.length := by rw [hd'.len]; omega
    exact ⟨vs, ws, vs[i], ws[i], q, q', List.getElem?_eq_getElem h1, List.getElem?_eq_getElem h2⟩
  · obtain ⟨T, x, z, rfl, nT, rfl, y, y'⟩ := y
    obtain ⟨d1, e1, h1⟩ := hd.get (y vs q)
    obtain ⟨d2, e2, h2⟩ := hd'.get (y' ws q')
    rw [List.getElem?_zipWith, e1, e2] at e
    cases e
    have gg := g.tr (Gr.new (o := .tup [x, z]) (s.fr.back nT))
    exact ⟨_, Gr.new (s.fr.back nT), s.lay nT, .tup (.inl (.inl upd_same)) (.cons (h1.gr gg) (.cons (h2.gr gg) .nil))⟩
theorem i_list {α : Type} {en : α → PyData} {xs : List α} (h : EvD K te σ F cs (eL en xs) cs1) : EvI K (iList K te) σ F cs (xs.map en) cs1 := fun F1 H1 g1 s R q =>
  h F1 H1 g1 s _ fun v F2 H2 g2 s2 h2 => by
    obtain ⟨p, vs, rfl, hs, hd⟩ := h2.toLst
    exact ⟨p, rfl, ⟨vs, gr_L s2.fr hs⟩, q _ F2 H2 g2 s2 (src_list hs hd)⟩
theorem enum_map {α : Type} (en : α → PyData) (xs : List α) : (xs.map en).mapIdx (fun i d => PyData.tuple [.int i, d]) = (enumM xs).map (eT2 eI en) := by
  unfold enumM
  apply List.ext_getElem? 
  intro i
  simp only [List.getElem?_mapIdx, List.getElem?_map]
  cases xs[i]? <;> rfl
theorem i_enum {α : Type} {en : α → PyData} {xs : List α} (h : EvDs K as σ F cs [eL en xs] cs1) : EvI K (iEnum K as) σ F cs ((enumM xs).map (eT2 eI en)) cs1 := fun F1 H1 g1 s R q =>
  h F1 H1 g1 s _ fun v F2 H2 g2 s2 h2 => by
    obtain ⟨v, rfl, k⟩ := h2.one
    obtain ⟨p, vs, rfl, hs, hd⟩ := k.toLst
    refine ⟨p, vs, rfl, gr_L s2.fr hs, q _ F2 H2 g2 s2 ?_⟩
    rw [← enum_map]
    exact src_enum hs hd
theorem zip_map {α β : Type} (en : α → PyData) (em : β → PyData) : ∀ (xs : List α) (ys : List β), List.zipWith (fun d e => PyData.tuple [d, e]) (xs.map en) (ys.map em) = (xs.zip ys).map (eT2 en em)
  | [], _ => rfl
  | _ :: _, [] => rfl
  | x :: xs, y :: ys => by
    simp only [List.map_cons, List.zipWith_cons_cons, List.zip_cons_cons]
    rw [zip_map en em xs ys]
theorem i_zip {α β : Type} {en : α → PyData} {em : β → PyData} {xs : List α} {ys : List β} (h : EvDs K as σ F cs [eL en xs, eL em ys] cs1) : EvI K (iZip K as) σ F cs ((xs.zip ys).map (eT2 en em)) cs1 := fun F1 H1 g1 s R q =>
  h F1 H1 g1 s _ fun v F2 H2 g2 s2 h2 => by
    obtain ⟨v, w, rfl, k1, k2⟩ := h2.two
    obtain ⟨p, vs, rfl, hs, hd⟩ := k1.toLst
    obtain ⟨p', ws, rfl, hs', hd'⟩ := k2.toLst
    refine ⟨p, p', vs, ws, rfl, gr_L s2.fr hs, gr_L s2.fr hs', q _ F2 H2 g2 s2 ?_⟩
    rw [← zip_map]
    exact src_zip hs hd hs' hd'
theorem src_rng {lo : Int} {n : Nat} : Src K (Itr lo n) F ((List.range n).map fun (i : Nat) => PyData.int (lo + (i : Int))) := fun F1 c1 H1 g s => by
  refine ⟨fun i hi => (by simpa using hi : i < n), by show n ≤ _; simp, fun i v H2 d e y => ?_⟩
  obtain ⟨rfl, rfl⟩ := y
  rw [List.getElem?_map] at e
  cases q : (List.range n)[i]? with
  | none => rw [q] at e; cases e
  | some j =>
    rw [q] at e
    have : i = j := by
      obtain ⟨h1, h2⟩ := List.getElem?_eq_some_iff.mp q
      simpa using h2
    subst this
    cases e
    exact ⟨F1, .rfl, s, .int _⟩
theorem i_rng1 {xs : List Int} (h : EvDs K as σ F cs [.int b] cs1) (hx : rngM 0 b = some xs) : EvI K (iRng1 as) σ F cs (xs.map eI) cs1 := fun F1 H1 g1 s R q =>
  h F1 H1 g1 s _ fun v F2 H2 g2 s2 h2 => by
    obtain ⟨v, rfl, k⟩ := h2.one; cases k.toInt
    obtain ⟨⟨_, _, h3, h4⟩, rfl⟩ := rngM_some hx
    refine ⟨b, rfl, h3, h4, q _ F2 H2 g2 s2 ?_⟩
    have := src_rng (K := K) (F := F2) (lo := 0) (n := b.toNat)
    unfold rngL
    rw [List.map_map, Int.sub_zero]
    exact this
theorem i_rng2 {xs : List Int} (h : EvDs K as σ F cs [.int a, .int b] cs1) (hx : rngM a b = some xs) : EvI K (iRng2 as) σ F cs (xs.map eI) cs1 := fun F1 H1 g1 s R q =>
  h F1 H1 g1 s _ fun v F2 H2 g2 s2 h2 => by
    obtain ⟨v, w, rfl, k1, k2⟩ := h2.two; cases k1.toInt; cases k2.toInt
    obtain ⟨h3, rfl⟩ := rngM_some hx
    refine ⟨a, b, rfl, h3, q _ F2 H2 g2 s2 ?_⟩
    have := src_rng (K := K) (F := F2) (lo := a) (n := (b - a).toNat)
    unfold rngL
    rw [List.map_map]
    exact this
theorem i_str {x : Str} (h : EvD K te σ F cs (.str x) cs1) : EvI K (iStr te) σ F cs ((signs x).map eS) cs1 := fun F1 H1 g1 s R q =>
  h F1 H1 g1 s _ fun v F2 H2 g2 s2 h2 => by
    refine ⟨x, h2.toStr, q _ F2 H2 g2 s2 fun F3 c3 H3 g3 s3 => ⟨fun i hi => by simpa [signs, Its] using hi, by simp [signs, Its], fun i v H4 d e y => ?_⟩⟩
    obtain ⟨rfl, c, hc, rfl⟩ := y
    unfold signs at e
    rw [List.map_map, List.getElem?_map, Array.getElem?_toList, hc] at e
    cases e
    exact ⟨F3, .rfl, s3, .str _⟩
end
end Bw

namespace Bw
open PySem L2
/-! what a loop's turn leaves -/
inductive Fl (S R : Type) where
  | nx (s : S) | br (s : S) | rt (r : R)
def forF {α S R : Type} (body : S → α → Option (Fl S R)) : List α → S → Option (Fl S R)
  | [], s => some (.nx s)
  | x :: xs, s => (body s x).bind fun f => match f with
    | .nx s' => forF body xs s'
    | .br s' => some (.br s')
    | .rt r => some (.rt r)
def whileF {S R : Type} (c : S → Option Bool) (body : S → Option (Fl S R)) : Nat → S → Option (Fl S R)
  | 0, _ => none
  | n + 1, s => (c s).bind fun b => if b = true then (body s).bind fun f => match f with
      | .nx s' => whileF c body n s'
      | .br s' => some (.br s')
      | .rt r => some (.rt r)
    else some (.nx s)
def lcM {α β : Type} (f : α → Option (Option β)) : List α → Option (List β)
  | [] => some []
  | x :: xs => (f x).bind fun o => (lcM f xs).bind fun ys => some (match o with
    | some y => y :: ys
    | none => ys)
theorem lcM_len {α β : Type} {f : α → Option (Option β)} : ∀ {xs : List α} {ys : List β}, lcM f xs = some ys → ys.length ≤ xs.length
  | [], ys, h => by cases h; exact Nat.le_refl _
  | x :: xs, ys, h => by
    obtain ⟨o, h1, h⟩ := bnd h
    obtain ⟨zs, h2, h⟩ := bnd h
    have := lcM_len h2
    cases o with
    | none => cases h; exact Nat.le_succ_of_le this
    | some y => cases h; exact Nat.succ_le_succ this
theorem lcM_map {α β : Type} (f : α → β) : ∀ xs : List α, lcM (fun x => some (some (f x))) xs = some (xs.map f)
  | [] => rfl
  | x :: xs => by show (lcM _ xs).bind _ = _; rw [lcM_map f xs]; rfl
theorem lcM_filter {α β : Type} (p : α → Bool) (f : α → β) : ∀ xs : List α, lcM (fun x => some (if p x = true then some (f x) else none)) xs = some ((xs.filter p).map f)
  | [] => rfl
  | x :: xs => by
    show (lcM _ xs).bind _ = _
    rw [lcM_filter p f xs, List.filter_cons]
    by_cases h : p x = true
    · simp [h]
    · simp [h]
section
variable {K : PySem.W.Frag} {σ : St} {F F' : Hp} {cs cs1 cs2 cs3 : Cs} {ta tb tc te : TE} {d e : PyData} {as : TA} {a b c : Int} {nx bk ct : St → Hp → Prop} {rt : VK} {H : Hp} {t u : TS}
/-! statements -/
theorem go {D : Ends} {σ' : St} (e : σ = σ') (h : t D σ' H) : t D σ H := e ▸ h
theorem s_set {i : Nat} {σ' : V → St} (s : Sta F cs H) (h : EvD K te σ F cs d cs1) (hσ : ∀ v, σ.set i (some v) = σ' v) (q : ∀ v F2 H2, Gr F F2 → Sta F2 cs1 H2 → Dt K F2 v d → nx (σ' v) H2) : tAsg te (gName i) ⟨nx, rt, bk, ct⟩ σ H := h F H .rfl s _ fun v F2 H2 g2 s2 h2 => by
  show nx (σ.set i (some v)) H2
  rw [hσ v]; exact q v F2 H2 g2 s2 h2
/-- a flat value -/
theorem s_setV {i : Nat} {σ' : St} {w : V} (hw : ∀ F v, Dt K F v d → v = w) (s : Sta F cs H) (h : EvD K te σ F cs d cs1) (hσ : σ.set i (some w) = σ') (q : ∀ F2 H2, Gr F F2 → Sta F2 cs1 H2 → nx σ' H2) : tAsg te (gName i) ⟨nx, rt, bk, ct⟩ σ H := h F H .rfl s _ fun v F2 H2 g2 s2 h2 => by
  cases hw F2 v h2
  show nx (σ.set i (some w)) H2
  rw [hσ]; exact q F2 H2 g2 s2
theorem s_setC {ds : List PyData} {i : Nat} {σ' : Addr → St} (s : Sta F cs H) (h : EvC K te σ F cs ds cs1) (hσ : ∀ p, σ.set i (some (.ref p)) = σ' p) (q : ∀ p vs F2 H2, Gr F F2 → Sta F2 ((p, .lst vs) :: cs1) H2 → Dts K F2 vs ds → nx (σ' p) H2) : tAsg te (gName i) ⟨nx, rt, bk, ct⟩ σ H := h F H .rfl s _ fun p vs F2 H2 g2 s2 h2 => by
  show nx (σ.set i (some (.ref p))) H2
  rw [hσ p]; exact q p vs F2 H2 g2 s2 h2
theorem s_ret (s : Sta F cs H) (h : EvD K te σ F cs d cs1) (q : ∀ v F2 H2, Gr F F2 → Sta F2 cs1 H2 → Dt K F2 v d → rt v H2) : tRet te ⟨nx, rt, bk, ct⟩ σ H := h F H .rfl s _ q
theorem s_drop (s : Sta F cs H) (h : EvD K te σ F cs d cs1) (q : ∀ F2 H2, Gr F F2 → Sta F2 cs1 H2 → nx σ H2) : tDrop te ⟨nx, rt, bk, ct⟩ σ H := h F H .rfl s _ fun v F2 H2 g2 s2 _ => q F2 H2 g2 s2
theorem s_if {c : TT} {b : Bool} (s : Sta F cs H) (h : EvT c σ F cs b cs1) (qt : b = true → ∀ F2 H2, Gr F F2 → Sta F2 cs1 H2 → t ⟨nx, rt, bk, ct⟩ σ H2) (qf : b = false → ∀ F2 H2, Gr F F2 → Sta F2 cs1 H2 → u ⟨nx, rt, bk, ct⟩ σ H2) : tIfS c t u ⟨nx, rt, bk, ct⟩ σ H :=
  h F H .rfl s _ fun F2 H2 g2 s2 => by
    cases b with
    | true => exact qt rfl F2 H2 g2 s2
    | false => exact qf rfl F2 H2 g2 s2
/-- cells: append, item, pop -/
theorem s_app {l1 l2 : Cs} {i : Nat} {p : Addr} {vs : List V} (s : Sta F (l1 ++ (p, .lst vs) :: l2) H) (hi : σ[i]? = some (some (.ref p))) (h : EvD K te σ F (l1 ++ (p, .lst vs) :: l2) d (l1 ++ (p, .lst vs) :: l2)) (hl : vs.length < 100000)
    (q : ∀ v F2 H2, Gr F F2 → Sta F2 (l1 ++ (p, .lst (vs ++ [v])) :: l2) H2 → Dt K F2 v d → nx σ H2) : tDrop (tBM K "list" rAppend (tVar i) (tCons te tNil)) ⟨nx, rt, bk, ct⟩ σ H :=
  ⟨.ref p, hi, .inl ⟨rfl, _, .inl (.inl s.getAt)⟩, h F H .rfl s _ fun v F2 H2 g2 s2 h2 => ⟨p, vs, v, rfl, rfl, s2.getAt, szl hl, q v F2 _ g2 s2.putAt h2⟩⟩
theorem s_item {l1 l2 : Cs} {i : Nat} {p : Addr} {vs : List V} {ti : TE} {k : Int} {j : Nat} (s : Sta F (l1 ++ (p, .lst vs) :: l2) H) (hi : σ[i]? = some (some (.ref p))) (h : EvD K te σ F (l1 ++ (p, .lst vs) :: l2) d (l1 ++ (p, .lst vs) :: l2))
    (h2 : EvD K ti σ F (l1 ++ (p, .lst vs) :: l2) (.int k) (l1 ++ (p, .lst vs) :: l2)) (hj : ixN vs.length k = some j) (q : ∀ v F2 H2, Gr F F2 → Sta F2 (l1 ++ (p, .lst (vs.set j v)) :: l2) H2 → Dt K F2 v d → nx σ H2) : tAsg te (gSub (tVar i) ti rSetL) ⟨nx, rt, bk, ct⟩ σ H :=
  h F H .rfl s _ fun v F2 H2 g2 s2 hv => ⟨.ref p, hi, h2 F2 H2 g2 s2 _ fun w F3 H3 g3 s3 hw => ⟨p, vs, k, j, rfl, hw.toInt, s3.getAt, hj, q v F3 _ (g2.tr g3) s3.putAt (hv.gr g3)⟩⟩
/-- a cell lent for a flat answer -/
theorem d_lend {l1 l2 : Cs} {p : Addr} {o : HO} {w : V} (hw : ∀ F v, Dt K F v d → v = w) (hd : ∀ F, Dt K F w d) (h : ∀ F1, Gr F F1 → F1 p = none → EvD K te σ (upd F1 p o) (l1 ++ l2) d (l1 ++ l2)) : EvD K te σ F (l1 ++ (p, o) :: l2) d (l1 ++ (p, o) :: l2) := fun F1 H1 g1 s Q q => by
  refine h F1 g1 s.freeAt (upd F1 p o) H1 .rfl s.frozeAt Q fun v F2 H2 g2 s2 h2 => ?_
  cases hw F2 v h2
  exact q w (cut F2 p) H2 (gr_cut s.freeAt g2) (Sta.lent g2 s2) (hd _)
theorem t_lend {l1 l2 : Cs} {p : Addr} {o : HO} {t : TT} {b : Bool} (h : ∀ F1, Gr F F1 → F1 p = none → EvT t σ (upd F1 p o) (l1 ++ l2) b (l1 ++ l2)) : EvT t σ F (l1 ++ (p, o) :: l2) b (l1 ++ (p, o) :: l2) := fun F1 H1 g1 s Q q => by
  refine h F1 g1 s.freeAt (upd F1 p o) H1 .rfl s.frozeAt Q fun F2 H2 g2 s2 => ?_
  exact q (cut F2 p) H2 (gr_cut s.freeAt g2) (Sta.lent g2 s2)
theorem lent_l {p : Addr} {vs : List V} {ds : List PyData} (hn : F p = none) (h : Dts K F vs ds) : Dt K (upd F p (.lst vs)) (.ref p) (.list ds) := .lst (.inl (.inl upd_same)) (h.gr (Gr.new hn))
/-- unpacking -/
theorem u2 {v : V} {d1 d2 : PyData} (h : Dt K F v (.tuple [d1, d2])) : ∃ p v1 v2, v = .ref p ∧ SqT K F p [v1, v2] ∧ Dt K F v1 d1 ∧ Dt K F v2 d2 := by
  obtain ⟨p, vs, rfl, h1, h2⟩ := h.toTup
  obtain ⟨v1, v2, rfl, k1, k2⟩ := h2.two
  exact ⟨p, v1, v2, rfl, h1, k1, k2⟩
theorem u3 {v : V} {d1 d2 d3 : PyData} (h : Dt K F v (.tuple [d1, d2, d3])) : ∃ p v1 v2 v3, v = .ref p ∧ SqT K F p [v1, v2, v3] ∧ Dt K F v1 d1 ∧ Dt K F v2 d2 ∧ Dt K F v3 d3 := by
  obtain ⟨p, vs, rfl, h1, h2⟩ := h.toTup
  obtain ⟨v1, v2, v3, rfl, k1, k2, k3⟩ := h2.three
  exact ⟨p, v1, v2, v3, rfl, h1, k1, k2, k3⟩
theorem u4 {v : V} {d1 d2 d3 d4 : PyData} (h : Dt K F v (.tuple [d1, d2, d3, d4])) : ∃ p v1 v2 v3 v4, v = .ref p ∧ SqT K F p [v1, v2, v3, v4] ∧ Dt K F v1 d1 ∧ Dt K F v2 d2 ∧ Dt K F v3 d3 ∧ Dt K F v4 d4 := by
  obtain ⟨p, vs, rfl, h1, h2⟩ := h.toTup
  obtain ⟨v1, v2, v3, v4, rfl, k1, k2, k3, k4⟩ := h2.four
  exact ⟨p, v1, v2, v3, v4, rfl, h1, k1, k2, k3, k4⟩
/-! loops -/
theorem s_for {α S : Type} {wi : TI} {g : TG} {tb : TS} {xs : List α} {en : α → PyData} (st : S → Hp → St → Cs → Prop) {body : S → α → Option S} {s0 r : S}
    (s : Sta F cs H) (hi : EvI K wi σ F cs (xs.map en) cs1) (h0 : ∀ F', Gr F F' → st s0 F' σ cs1) (hm : xs.foldlM body s0 = some r)
    (turn : ∀ x a b F1 F3 σ1 c1 H3 v (N : St → Hp → Prop), Gr F F1 → st a F1 σ1 c1 → Gr F1 F3 → Sta F3 c1 H3 → Dt K F3 v (en x) → body a x = some b → (∀ F4 σ4 c4 H4, Gr F3 F4 → Sta F4 c4 H4 → st b F4 σ4 c4 → N σ4 H4) →
      g v σ1 H3 fun σ2 H2 => tb ⟨N, rt, nx, N⟩ σ2 H2)
    (done : ∀ F1 σ1 c1 H1, Gr F F1 → Sta F1 c1 H1 → st r F1 σ1 c1 → nx σ1 H1) : tFor wi g tb ⟨nx, rt, bk, ct⟩ σ H :=
  hi F H .rfl s _ fun J F2 H2 g2 s2 hs => by
    refine ⟨fun i m σ1 H1 => m = xs.length - i ∧ i ≤ xs.length ∧ ∃ a F1 c1, Gr F2 F1 ∧ Sta F1 c1 H1 ∧ st a F1 σ1 c1 ∧ (xs.drop i).foldlM body a = some r, ⟨xs.length, by simp, Nat.zero_le _, s0, F2, cs1, .rfl, s2, h0 F2 g2, by simpa using hm⟩, ?_⟩
    rintro i m σ1 H1 ⟨rfl, hi, a, F1, c1, g1, s1, ha, hr⟩
    obtain ⟨hgo, hstop, hy⟩ := hs F1 c1 H1 g1 s1
    by_cases hlt : i < xs.length
    · rw [List.drop_eq_getElem_cons hlt, List.foldlM_cons] at hr
      cases hb : body a xs[i] with
      | none => rw [hb] at hr; cases hr
      | some b =>
        rw [hb] at hr
        refine .inr ⟨hgo i (by simpa using hlt), fun σ2 H2 => ∃ F3 c3, Gr F2 F3 ∧ Sta F3 c3 H2 ∧ st b F3 σ2 c3, fun σ' H' ⟨F3, c3, g3, s3, h3⟩ => ⟨xs.length - (i + 1), by omega, rfl, hlt, b, F3, c3, g3, s3, h3, hr⟩, fun x H' y => ?_⟩
        obtain ⟨F3, g3, s3, d3⟩ := hy i x H' (en xs[i]) (by rw [List.getElem?_map, List.getElem?_eq_getElem hlt]; rfl) y
        exact turn xs[i] a b F1 F3 σ1 c1 H' x _ (g2.tr g1) ha g3 s3 d3 hb fun F4 σ4 c4 H4 g4 s4 h4 => ⟨F4, c4, (g1.tr g3).tr g4, s4, h4⟩
    · have e : i = xs.length := by omega
      subst e
      rw [List.drop_length] at hr
      cases hr
      exact .inl ⟨by simpa using hstop, done F1 σ1 c1 H1 (g2.tr g1) s1 ha⟩
/-- .. that may be left -/
theorem s_forF {α S R : Type} {wi : TI} {g : TG} {tb : TS} {xs : List α} {en : α → PyData} (st : S → Hp → St → Cs → Prop) {body : S → α → Option (Fl S R)} {s0 : S} {r : Fl S R}
    (s : Sta F cs H) (hi : EvI K wi σ F cs (xs.map en) cs1) (h0 : ∀ F', Gr F F' → st s0 F' σ cs1) (hm : forF body xs s0 = some r)
    (done : ∀ z F1 σ1 c1 H1, r = .nx z ∨ r = .br z → Gr F F1 → Sta F1 c1 H1 → st z F1 σ1 c1 → nx σ1 H1)
    (turn : ∀ x a b F1 F3 σ1 c1 H3 v (N B : St → Hp → Prop), Gr F F1 → st a F1 σ1 c1 → Gr F1 F3 → Sta F3 c1 H3 → Dt K F3 v (en x) → body a x = some b → (∀ z F4 σ4 c4 H4, b = .nx z → Gr F3 F4 → Sta F4 c4 H4 → st z F4 σ4 c4 → N σ4 H4) →
      (∀ z F4 σ4 c4 H4, b = .br z → Gr F3 F4 → Sta F4 c4 H4 → st z F4 σ4 c4 → B σ4 H4) → (∀ z, b = .rt z → r = .rt z) →
      g v σ1 H3 fun σ2 H2 => tb ⟨N, rt, B, N⟩ σ2 H2) : tFor wi g tb ⟨nx, rt, bk, ct⟩ σ H :=
  hi F H .rfl s _ fun J F2 H2 g2 s2 hs => by
    refine ⟨fun i m σ1 H1 => m = xs.length - i ∧ i ≤ xs.length ∧ ∃ a F1 c1, Gr F2 F1 ∧ Sta F1 c1 H1 ∧ st a F1 σ1 c1 ∧ forF body (xs.drop i) a = some r, ⟨xs.length, by simp, Nat.zero_le _, s0, F2, cs1, .rfl, s2, h0 F2 g2, by simpa using hm⟩, ?_⟩
    rintro i m σ1 H1 ⟨rfl, hi, a, F1, c1, g1, s1, ha, hr⟩
    obtain ⟨hgo, hstop, hy⟩ := hs F1 c1 H1 g1 s1
    by_cases hlt : i < xs.length
    · rw [List.drop_eq_getElem_cons hlt] at hr
      obtain ⟨b, hb, hr⟩ := bnd (show (body a xs[i]).bind _ = some r from hr)
      refine .inr ⟨hgo i (by simpa using hlt), fun σ2 H2 => ∃ z F3 c3, b = .nx z ∧ Gr F2 F3 ∧ Sta F3 c3 H2 ∧ st z F3 σ2 c3, fun σ' H' ⟨z, F3, c3, e3, g3, s3, h3⟩ => ⟨xs.length - (i + 1), by omega, rfl, hlt, z, F3, c3, g3, s3, h3, by subst e3; exact hr⟩, fun x H' y => ?_⟩
      obtain ⟨F3, g3, s3, d3⟩ := hy i x H' (en xs[i]) (by rw [List.getElem?_map, List.getElem?_eq_getElem hlt]; rfl) y
      refine turn xs[i] a b F1 F3 σ1 c1 H' x _ _ (g2.tr g1) ha g3 s3 d3 hb (fun z F4 σ4 c4 H4 e4 g4 s4 h4 => ⟨z, F4, c4, e4, (g1.tr g3).tr g4, s4, h4⟩) (fun z F4 σ4 c4 H4 e4 g4 s4 h4 => ?_) (fun z e => ?_)
      · subst e4
        exact done z F4 σ4 c4 H4 (.inr (Option.some.inj hr).symm) (((g2.tr g1).tr g3).tr g4) s4 h4
      · subst e
        exact (Option.some.inj hr).symm
    · have e : i = xs.length := by omega
      subst e
      rw [List.drop_length] at hr
      cases hr
      exact .inl ⟨by simpa using hstop, done a F1 σ1 c1 H1 (.inl rfl) (g2.tr g1) s1 ha⟩
/-- a while -/
theorem s_while {S R : Type} {tc : TT} {tb : TS} (st : S → Hp → St → Cs → Prop) {c : S → Option Bool} {body : S → Option (Fl S R)} {s0 : S} {r : Fl S R} {n : Nat}
    (s : Sta F cs H) (h0 : st s0 F σ cs) (hm : whileF c body n s0 = some r)
    (done : ∀ z F1 σ1 c1 H1, r = .nx z ∨ r = .br z → Gr F F1 → Sta F1 c1 H1 → st z F1 σ1 c1 → nx σ1 H1)
    (test : ∀ z k F1 σ1 c1, Gr F F1 → st z F1 σ1 c1 → c z = some k → EvT tc σ1 F1 c1 k c1) (mono : ∀ z F1 F2 σ1 c1, st z F1 σ1 c1 → Gr F1 F2 → st z F2 σ1 c1)
    (turn : ∀ a b F1 σ1 c1 H1 (N B : St → Hp → Prop), Gr F F1 → st a F1 σ1 c1 → Sta F1 c1 H1 → body a = some b → (∀ z F4 σ4 c4 H4, b = .nx z → Gr F1 F4 → Sta F4 c4 H4 → st z F4 σ4 c4 → N σ4 H4) →
      (∀ z F4 σ4 c4 H4, b = .br z → Gr F1 F4 → Sta F4 c4 H4 → st z F4 σ4 c4 → B σ4 H4) → (∀ z, b = .rt z → r = .rt z) →
      tb ⟨N, rt, B, N⟩ σ1 H1) : tWhile tc tb ⟨nx, rt, bk, ct⟩ σ H := by
  refine ⟨fun m σ1 H1 => ∃ a F1 c1, Gr F F1 ∧ Sta F1 c1 H1 ∧ st a F1 σ1 c1 ∧ whileF c body m a = some r, ⟨n, s0, F, cs, .rfl, s, h0, hm⟩, ?_⟩
  rintro m σ1 H1 ⟨a, F1, c1, g1, s1, ha, hr⟩
  cases m with
  | zero => cases hr
  | succ m =>
    obtain ⟨k, hk, hr⟩ := bnd (show (c a).bind _ = some r from hr)
    refine test a k F1 σ1 c1 g1 ha hk F1 H1 .rfl s1 _ fun F2 H2 g2 s2 => ?_
    cases k with
    | false =>
      cases hr
      exact done a F2 σ1 c1 H2 (.inl rfl) (g1.tr g2) s2 (mono a F1 F2 σ1 c1 ha g2)
    | true =>
      obtain ⟨b, hb, hr⟩ := bnd (show (body a).bind _ = some r from hr)
      refine ⟨fun σ2 H2 => ∃ z F3 c3, b = .nx z ∧ Gr F F3 ∧ Sta F3 c3 H2 ∧ st z F3 σ2 c3, fun σ' H' ⟨z, F3, c3, e3, g3, s3, h3⟩ => ⟨m, Nat.lt_succ_self m, z, F3, c3, g3, s3, h3, by subst e3; exact hr⟩, ?_⟩
      refine turn a b F2 σ1 c1 H2 _ _ (g1.tr g2) (mono a F1 F2 σ1 c1 ha g2) s2 hb (fun z F4 σ4 c4 H4 e4 g4 s4 h4 => ⟨z, F4, c4, e4, (g1.tr g2).tr g4, s4, h4⟩) (fun z F4 σ4 c4 H4 e4 g4 s4 h4 => ?_) (fun z e => ?_)
      · subst e4
        exact done z F4 σ4 c4 H4 (.inr (Option.some.inj hr).symm) ((g1.tr g2).tr g4) s4 h4
      · subst e
        exact (Option.some.inj hr).symm
/-! list comprehensions, whose elements change nothing -/
theorem c_lc {α β : Type} {wi : TI} {g : TG} {tt : TT} {vs : List Nat} {xs : List α} {en : α → PyData} {em : β → PyData} {f : α → Option (Option β)} {ys : List β}
    (hi : EvI K wi σ F cs (xs.map en) cs1) (hm : lcM f xs = some ys) (hl : xs.length ≤ 100000)
    (turn : ∀ x o v F1 p us, Gr F F1 → Dt K F1 v (en x) → f x = some o → ∃ σ2 : St, (∀ H (Q : St → Hp → Prop), Sta F1 ((p, .lst us) :: cs1) H → Q σ2 H → g v (wipe σ vs) H Q) ∧ wipe σ2 vs = wipe σ vs ∧
      EvT tt σ2 F1 ((p, .lst us) :: cs1) o.isSome ((p, .lst us) :: cs1) ∧ ∀ y, o = some y → EvD K te σ2 F1 ((p, .lst us) :: cs1) (em y) ((p, .lst us) :: cs1)) :
    EvC K (tLc wi g tt te vs) σ F cs (ys.map em) cs1 := fun F1 H1 g1 s Q q =>
  hi F1 H1 g1 s _ fun J F2 H2 g2 s2 hs => by
    intro p hp
    have s3 : Sta F2 ((p, .lst []) :: cs1) (upd H2 p (.lst [])) := s2.cell hp
    refine ⟨fun i m H4 => m = xs.length - i ∧ i ≤ xs.length ∧ ∃ us done rest F4, us.length ≤ i ∧ Gr F2 F4 ∧ Sta F4 ((p, .lst us) :: cs1) H4 ∧ Dts K F4 us (done.map em) ∧ lcM f (xs.drop i) = some rest ∧ done ++ rest = ys,
      ⟨xs.length, by simp, Nat.zero_le _, [], [], ys, F2, Nat.le_refl _, .rfl, s3, .nil, by simpa using hm, rfl⟩, ?_⟩
    rintro i m H4 ⟨rfl, hi, us, done, rest, F4, hu, g4, s4, hd, hr, he⟩
    obtain ⟨hgo, hstop, hy⟩ := hs F4 _ H4 g4 s4
    by_cases hlt : i < xs.length
    · rw [List.drop_eq_getElem_cons hlt] at hr
      obtain ⟨o, ho, hr⟩ := bnd (show (f xs[i]).bind _ = some rest from hr)
      obtain ⟨zs, hz, hr⟩ := bnd hr
      refine .inr ⟨hgo i (by simpa using hlt), fun H' => i + 1 ≤ xs.length ∧ ∃ us done rest F4, us.length ≤ i + 1 ∧ Gr F2 F4 ∧ Sta F4 ((p, .lst us) :: cs1) H' ∧ Dts K F4 us (done.map em) ∧ lcM f (xs.drop (i + 1)) = some rest ∧ done ++ rest = ys, fun H' h' => ⟨xs.length - (i + 1), by omega, rfl, h'⟩, fun x H' y => ?_⟩
      obtain ⟨F5, g5, s5, d5⟩ := hy i x H' (en xs[i]) (by rw [List.getElem?_map, List.getElem?_eq_getElem hlt]; rfl) y
      obtain ⟨σ2, h1, h2, h3, h4⟩ := turn xs[i] o x F5 p us (g1.tr (g2.tr (g4.tr g5))) d5 ho
      refine h1 H' _ s5 ⟨h2, h3 F5 H' .rfl s5 _ fun F6 H6 g6 s6 => ?_⟩
      cases o with
      | none =>
        cases hr
        exact ⟨hlt, us, done, zs, F6, Nat.le_succ_of_le hu, g4.tr (g5.tr g6), s6, hd.gr (g5.tr g6), hz, he⟩
      | some z =>
        cases hr
        refine (h4 z rfl) F6 H6 g6 s6 _ fun v F7 H7 g7 s7 hv => ⟨us, s7.at List.mem_cons_self, szl (by omega), hlt, us ++ [v], done ++ [z], zs, F7, by rw [List.length_append]; exact Nat.succ_le_succ hu, g4.tr (g5.tr (g6.tr g7)), s7.put, ?_, hz, ?_⟩
        · rw [List.map_append]
          exact (hd.gr (g5.tr (g6.tr g7))).app (.cons hv .nil)
        · rw [List.append_assoc]; exact he
    · have e : i = xs.length := by omega
      subst e
      rw [List.drop_length] at hr
      cases hr
      rw [List.append_nil] at he
      subst he
      exact .inl ⟨by simpa using hstop, q p us F4 H4 (g2.tr g4) s4 hd⟩
theorem t_yes : EvT tYes σ F cs true cs := fun F1 H1 g s Q q => q F1 H1 .rfl s
/-! functions -/
def spP (K : PySem.W.Frag) {α β : Type} (A : α → List PyData) (B : β → PyData) (f : α → Option β) : Sp := fun vs H Q _ => ∃ F cs x y, Dts K F vs (A x) ∧ Sta F cs H ∧ f x = some y ∧ ∀ v F2 H2, Gr F F2 → Sta F2 cs H2 → Dt K F2 v (B y) → Q v H2
theorem d_call {α β : Type} {A : α → List PyData} {B : β → PyData} {f : α → Option β} {x : α} {y : β} {E : XK} (h : EvDs K as σ F cs (A x) cs1) (hf : f x = some y) : EvD K (tCall (spP K A B f) [] E as) σ F cs (B y) cs1 := fun F1 H1 g1 s Q q =>
  h F1 H1 g1 s _ fun vs F2 H2 g2 s2 h2 => ⟨F2, cs1, x, y, by rw [List.append_nil]; exact h2, s2, hf, fun v F3 H3 g3 s3 h3 => q v F3 H3 (g2.tr g3) s3 h3⟩
end
/-! == of typed data -/
def EqE {α : Type} [DecidableEq α] (e : α → PyData) : Prop := ∀ x y, PyData.eqv (e x) (e y) = decide (x = y)
def ShE {α : Type} (n : Nat) (e : α → PyData) : Prop := ∀ x, (e x).canLay0 = true ∧ (e x).depth ≤ n
theorem shp {α : Type} {n : Nat} {e : α → PyData} (h : ShE n e) (hn : n ≤ 64) (x : α) : SeqAt.shaped (e x) = true := by
  unfold SeqAt.shaped
  rw [(h x).1, decide_eq_true (Nat.le_trans (h x).2 hn)]
  rfl
theorem beq_dec {α : Type} [BEq α] [LawfulBEq α] [DecidableEq α] (x y : α) : (x == y) = decide (x = y) := by
  rw [Bool.eq_iff_iff]; simp
theorem eqE_I : EqE eI := fun x y => by simp only [PyData.eqv]; exact beq_dec x y
theorem eqE_B : EqE eB := fun x y => by simp only [PyData.eqv]; exact beq_dec x y
theorem eqE_S : EqE eS := fun x y => by simp only [PyData.eqv]; exact beq_dec x y
theorem eqE_N : EqE eN := fun x y => by simp [PyData.eqv]
theorem eqAll_map {α : Type} [DecidableEq α] {e : α → PyData} (h : EqE e) : ∀ xs ys : List α, PyData.eqvAll (xs.map e) (ys.map e) = decide (xs = ys)
  | [], [] => by simp [PyData.eqvAll]
  | [], _ :: _ => by simp [PyData.eqvAll]
  | _ :: _, [] => by simp [PyData.eqvAll]
  | x :: xs, y :: ys => by
    simp only [List.map_cons, PyData.eqvAll]
    rw [h x y, eqAll_map h xs ys, Bool.eq_iff_iff]
    simp
theorem EqE.l {α : Type} [DecidableEq α] {e : α → PyData} (h : EqE e) : EqE (eL e) := fun xs ys => by
  show PyData.eqv (.list _) (.list _) = _
  simp only [PyData.eqv]
  exact eqAll_map h xs ys
theorem EqE.t2 {α β : Type} [DecidableEq α] [DecidableEq β] {e : α → PyData} {f : β → PyData} (h : EqE e) (k : EqE f) : EqE (eT2 e f) := fun x y => by
  show PyData.eqv (.tuple _) (.tuple _) = _
  simp only [PyData.eqv, PyData.eqvAll]
  rw [h, k, Bool.eq_iff_iff]
  obtain ⟨x1, x2⟩ := x; obtain ⟨y1, y2⟩ := y
  simp
theorem EqE.t3 {α β γ : Type} [DecidableEq α] [DecidableEq β] [DecidableEq γ] {e : α → PyData} {f : β → PyData} {g : γ → PyData} (h : EqE e) (k : EqE f) (l : EqE g) : EqE (eT3 e f g) := fun x y => by
  show PyData.eqv (.tuple _) (.tuple _) = _
  simp only [PyData.eqv, PyData.eqvAll]
  rw [h, k, l, Bool.eq_iff_iff]
  obtain ⟨x1, x2, x3⟩ := x; obtain ⟨y1, y2, y3⟩ := y
  simp
theorem EqE.t4 {α β γ δ : Type} [DecidableEq α] [DecidableEq β] [DecidableEq γ] [DecidableEq δ] {e : α → PyData} {f : β → PyData} {g : γ → PyData} {m : δ → PyData} (h : EqE e) (k : EqE f) (l : EqE g) (n : EqE m) : EqE (eT4 e f g m) := fun x y => by
  show PyData.eqv (.tuple _) (.tuple _) = _
  simp only [PyData.eqv, PyData.eqvAll]
  rw [h, k, l, n, Bool.eq_iff_iff]
  obtain ⟨x1, x2, x3, x4⟩ := x; obtain ⟨y1, y2, y3, y4⟩ := y
  simp
theorem sh_I : ShE 0 eI := fun x => ⟨by simp [PyData.canLay0], by simp [PyData.depth]⟩
theorem sh_B : ShE 0 eB := fun x => ⟨by simp [PyData.canLay0], by simp [PyData.depth]⟩
theorem sh_N : ShE 0 eN := fun x => ⟨by simp [PyData.canLay0], by simp [PyData.depth]⟩
theorem sh_all {α : Type} {n : Nat} {e : α → PyData} (h : ShE n e) : ∀ xs : List α, PyData.canLayAll0 (xs.map e) = true ∧ PyData.depthAll (xs.map e) ≤ n
  | [] => ⟨by simp [PyData.canLayAll0], by simp [PyData.depthAll]⟩
  | x :: xs => by
    obtain ⟨h1, h2⟩ := sh_all h xs
    simp only [List.map_cons, PyData.canLayAll0, PyData.depthAll]
    exact ⟨by rw [(h x).1, h1]; rfl, Nat.max_le.mpr ⟨(h x).2, h2⟩⟩
theorem ShE.l {α : Type} {n : Nat} {e : α → PyData} (h : ShE n e) : ShE (n + 1) (eL e) := fun xs => by
  show (PyData.list _).canLay0 = true ∧ (PyData.list _).depth ≤ _
  simp only [PyData.canLay0, PyData.depth]
  exact ⟨(sh_all h xs).1, Nat.succ_le_succ (sh_all h xs).2⟩
theorem ShE.t2 {α β : Type} {n m : Nat} {e : α → PyData} {f : β → PyData} (h : ShE n e) (k : ShE m f) : ShE (max n m + 1) (eT2 e f) := fun x => by
  show (PyData.tuple _).canLay0 = true ∧ (PyData.tuple _).depth ≤ _
  simp only [PyData.canLay0, PyData.depth, PyData.canLayAll0, PyData.depthAll]
  have := (h x.1).2; have := (k x.2).2
  exact ⟨by rw [(h _).1, (k _).1]; rfl, by omega⟩
theorem ShE.t3 {α β γ : Type} {n m l : Nat} {e : α → PyData} {f : β → PyData} {g : γ → PyData} (h : ShE n e) (k : ShE m f) (j : ShE l g) : ShE (max n (max m l) + 1) (eT3 e f g) := fun x => by
  show (PyData.tuple _).canLay0 = true ∧ (PyData.tuple _).depth ≤ _
  simp only [PyData.canLay0, PyData.depth, PyData.canLayAll0, PyData.depthAll]
  have := (h x.1).2; have := (k x.2.1).2; have := (j x.2.2).2
  exact ⟨by rw [(h _).1, (k _).1, (j _).1]; rfl, by omega⟩
theorem ShE.t4 {α β γ δ : Type} {n m l i : Nat} {e : α → PyData} {f : β → PyData} {g : γ → PyData} {z : δ → PyData} (h : ShE n e) (k : ShE m f) (j : ShE l g) (p : ShE i z) : ShE (max n (max m (max l i)) + 1) (eT4 e f g z) := fun x => by
  show (PyData.tuple _).canLay0 = true ∧ (PyData.tuple _).depth ≤ _
  simp only [PyData.canLay0, PyData.depth, PyData.canLayAll0, PyData.depthAll]
  have := (h x.1).2; have := (k x.2.1).2; have := (j x.2.2.1).2; have := (p x.2.2.2).2
  exact ⟨by rw [(h _).1, (k _).1, (j _).1, (p _).1]; rfl, by omega⟩
section
variable {K : PySem.W.Frag} {σ : St} {F F' : Hp} {cs cs1 cs2 cs3 : Cs} {ta tb tc te : TE}
theorem d_eqT {α : Type} [DecidableEq α] {n : Nat} {e : α → PyData} {x y : α} (he : EqE e) (hs : ShE n e) (hn : n ≤ 64) (ha : EvD K ta σ F cs (e x) cs1) (hb : EvD K tb σ F cs1 (e y) cs2) : EvD K (tOp (rEqD K) ta tb) σ F cs (.bool (decide (x = y))) cs2 :=
  he x y ▸ d_eqD ha hb (shp hs hn x) (shp hs hn y)
theorem d_neT {α : Type} [DecidableEq α] {n : Nat} {e : α → PyData} {x y : α} (he : EqE e) (hs : ShE n e) (hn : n ≤ 64) (ha : EvD K ta σ F cs (e x) cs1) (hb : EvD K tb σ F cs1 (e y) cs2) : EvD K (tOp (rNeD K) ta tb) σ F cs (.bool (!decide (x = y))) cs2 :=
  he x y ▸ d_neD ha hb (shp hs hn x) (shp hs hn y)
def eqTM {α : Type} [DecidableEq α] (e : α → PyData) (x y : α) : Option Bool := if SeqAt.shaped (e x) = true ∧ SeqAt.shaped (e y) = true then some (decide (x = y)) else none
def eqDM (x y : PyData) : Option Bool := if SeqAt.shaped x = true ∧ SeqAt.shaped y = true then some (PyData.eqv x y) else none
theorem d_eqTM {α : Type} [DecidableEq α] {e : α → PyData} {x y : α} {b : Bool} (he : EqE e) (ha : EvD K ta σ F cs (e x) cs1) (hb : EvD K tb σ F cs1 (e y) cs2) (hm : eqTM e x y = some b) : EvD K (tOp (rEqD K) ta tb) σ F cs (.bool b) cs2 := by
  unfold eqTM at hm; split at hm
  · rename_i h; cases hm; exact he x y ▸ d_eqD ha hb h.1 h.2
  · cases hm
theorem d_neTM {α : Type} [DecidableEq α] {e : α → PyData} {x y : α} {b : Bool} (he : EqE e) (ha : EvD K ta σ F cs (e x) cs1) (hb : EvD K tb σ F cs1 (e y) cs2) (hm : eqTM e x y = some b) : EvD K (tOp (rNeD K) ta tb) σ F cs (.bool (!b)) cs2 := by
  unfold eqTM at hm; split at hm
  · rename_i h; cases hm; exact he x y ▸ d_neD ha hb h.1 h.2
  · cases hm
theorem d_eqDM {x y : PyData} {b : Bool} (ha : EvD K ta σ F cs x cs1) (hb : EvD K tb σ F cs1 y cs2) (hm : eqDM x y = some b) : EvD K (tOp (rEqD K) ta tb) σ F cs (.bool b) cs2 := by
  unfold eqDM at hm; split at hm
  · rename_i h; cases hm; exact d_eqD ha hb h.1 h.2
  · cases hm
theorem d_neDM {x y : PyData} {b : Bool} (ha : EvD K ta σ F cs x cs1) (hb : EvD K tb σ F cs1 y cs2) (hm : eqDM x y = some b) : EvD K (tOp (rNeD K) ta tb) σ F cs (.bool (!b)) cs2 := by
  unfold eqDM at hm; split at hm
  · rename_i h; cases hm; exact d_neD ha hb h.1 h.2
  · cases hm
end
end Bw

namespace Bw
open PySem L2
/-! names for readings -/
abbrev rAbs : List V → Hp → VK → Prop := fun xs H Q => ∃ i, xs = [.int i] ∧ Q (.int (if i < 0 then -i else i)) H
abbrev rMax2 : List V → Hp → VK → Prop := fun xs H Q => ∃ i j, xs = [.int i, .int j] ∧ Q (.int (if j > i then j else i)) H
abbrev rMin2 : List V → Hp → VK → Prop := fun xs H Q => ∃ i j, xs = [.int i, .int j] ∧ Q (.int (if j < i then j else i)) H
abbrev rLenL (K : PySem.W.Frag) : List V → Hp → VK → Prop := fun xs H Q => ∃ p ys, xs = [.ref p] ∧ (SqL K H p ys ∨ SqT K H p ys) ∧ Q (.int ys.length) H
abbrev rLenS : List V → Hp → VK → Prop := fun xs H Q => ∃ z, xs = [.str z] ∧ z.length ≤ sizeLine ∧ Q (.int z.length) H
abbrev rInt : List V → Hp → VK → Prop := fun xs H Q => (∃ i, xs = [.int i] ∧ Q (.int i) H) ∨ ∃ k, xs = [.bl k] ∧ Q (.int (if k then 1 else 0)) H
abbrev rStrI : List V → Hp → VK → Prop := fun xs H Q => ∃ i, xs = [.int i] ∧ i.natAbs.log2 < 1920 ∧ Q (.str (toString i)) H
abbrev rListS (K : PySem.W.Frag) : List V → Hp → VK → Prop := fun xs H Q => ∃ p ys, xs = [.ref p] ∧ (SqL K H p ys ∨ SqT K H p ys) ∧ ∀ l, H l = none → Q (.ref l) (upd H l (.lst ys))
abbrev rScat : R2 := fun x y H Q => ∃ i j, x = .str i ∧ y = .str j ∧ i.length + j.length ≤ sizeLine ∧ Q (.str (i ++ j)) H
abbrev rInS : R2 := fun x y H Q => ∃ i j, x = .str i ∧ y = .str j ∧ Q (.bl (!(Builtin.Str.occurrences j i 0 j.length 1).isEmpty)) H
abbrev rNinS : R2 := fun x y H Q => ∃ i j, x = .str i ∧ y = .str j ∧ Q (.bl (!(!(Builtin.Str.occurrences j i 0 j.length 1).isEmpty))) H
abbrev rIsN : R2 := fun x y H Q => y = .non ∧ Q (.bl (decide (x = .non))) H
abbrev rNotN : R2 := fun x y H Q => y = .non ∧ Q (.bl (!decide (x = .non))) H
abbrev rJoin (K : PySem.W.Frag) : V → List V → Hp → VK → Prop := fun x xs H Q => ∃ a p, ∃ ys : List Str, x = .str a ∧ xs = [.ref p] ∧ (SqL K H p (ys.map V.str) ∨ SqT K H p (ys.map V.str)) ∧ (ys.map (·.length)).sum + ys.length * a.length ≤ 16777216 ∧ Q (.str (Txt.join a ys)) H
section
variable {X : Cx}
theorem cr_abs : CallR X (.builtin "abs") rAbs := call_abs
theorem cr_max2 (hc : X.calm = true) : CallR X (.builtin "max") rMax2 := call_max2 hc
theorem cr_min2 (hc : X.calm = true) : CallR X (.builtin "min") rMin2 := call_min2 hc
theorem cr_lenL : CallR X (.builtin "len") (rLenL X.K) := call_len_seq
theorem cr_lenS : CallR X (.builtin "len") rLenS := call_len_str
theorem cr_int : CallR X (.type "int") rInt := call_int1
theorem cr_str : CallR X (.type "str") rStrI := call_str_int
theorem cr_list : CallR X (.type "list") (rListS X.K) := call_list_of
theorem op_scatR : OpR X (binaryOp .Add) rScat := op_add_str
theorem op_inR : OpR X (compareOp .In) rInS := op_in_str
theorem op_ninR : OpR X (compareOp .NotIn) rNinS := op_notin_str
theorem op_isNR : OpR X (compareOp .Is) rIsN := op_isN
theorem op_notNR : OpR X (compareOp .IsNot) rNotN := op_notN
end
theorem bf {b : Bool} (h : b = false) : ¬ b = true := by rw [h]; decide
theorem bt {b : Bool} (h : ¬ b = true) : b = false := by cases b <;> simp_all
theorem isS {α : Type} {c : Bool} {a : α} : (if c = true then some a else none : Option α).isSome = c := by cases c <;> rfl
theorem isSm {α : Type} {c : Bool} {a y : α} (h : (if c = true then some a else none : Option α) = some y) : a = y := by
  cases c with
  | true => exact Option.some.inj h
  | false => cases h
theorem pr2 {α β : Type} {a a' : α} {b b' : β} (h : (a, b) = (a', b')) : a = a' ∧ b = b' := by cases h; exact ⟨rfl, rfl⟩
theorem pr3 {α β γ : Type} {a a' : α} {b b' : β} {c c' : γ} (h : (a, b, c) = (a', b', c')) : a = a' ∧ b = b' ∧ c = c' := by cases h; exact ⟨rfl, rfl, rfl⟩
theorem pr4 {α β γ δ : Type} {a a' : α} {b b' : β} {c c' : γ} {d d' : δ} (h : (a, b, c, d) = (a', b', c', d')) : a = a' ∧ b = b' ∧ c = c' ∧ d = d' := by cases h; exact ⟨rfl, rfl, rfl, rfl⟩
theorem pr5 {α β γ δ ε : Type} {a a' : α} {b b' : β} {c c' : γ} {d d' : δ} {e e' : ε} (h : (a, b, c, d, e) = (a', b', c', d', e')) : a = a' ∧ b = b' ∧ c = c' ∧ d = d' ∧ e = e' := by cases h; exact ⟨rfl, rfl, rfl, rfl, rfl⟩
theorem dt_oI {K : PySem.W.Frag} {F : Hp} (o : Option Int) : Dt K F (oV V.int o) (eO eI o) := by cases o with
  | none => exact .non
  | some x => exact .int x
theorem dt_oS {K : PySem.W.Frag} {F : Hp} (o : Option Str) : Dt K F (oV V.str o) (eO eS o) := by cases o with
  | none => exact .non
  | some x => exact .str x
theorem dt_toI {K : PySem.W.Frag} {F : Hp} {v : V} {o : Option Int} (h : Dt K F v (eO eI o)) : v = oV V.int o := by cases o with
  | none => exact h.toNon
  | some x => exact h.toInt
theorem dt_toS {K : PySem.W.Frag} {F : Hp} {v : V} {o : Option Str} (h : Dt K F v (eO eS o)) : v = oV V.str o := by cases o with
  | none => exact h.toNon
  | some x => exact h.toStr
def mapC {α β : Type} (f : α → β) (xs : List α) : Option (List β) := if xs.length ≤ 100000 then some (xs.map f) else none
def filC {α β : Type} (p : α → Bool) (f : α → β) (xs : List α) : Option (List β) := if xs.length ≤ 100000 then some ((xs.filter p).map f) else none
def lcC {α β : Type} (f : α → Option (Option β)) (xs : List α) : Option (List β) := if xs.length ≤ 100000 then lcM f xs else none
section
variable {K : PySem.W.Frag} {σ : St} {F F' : Hp} {cs cs1 cs2 cs3 : Cs} {ta tb tc te : TE} {d e : PyData} {as : TA} {a b c : Int} {nx bk ct : St → Hp → Prop} {rt : VK} {H : Hp} {t u : TS}
theorem d_mulC (ha : EvD K ta σ F cs (.int a) cs1) (hb : EvD K tb σ F cs1 (.int b) cs2) (hc : CMul a b) : EvD K (tOp (rI CMul fun i j => .int (i * j)) ta tb) σ F cs (.int (a * b)) cs2 := d_I ha hb hc fun _ => .int _
theorem d_modC (ha : EvD K ta σ F cs (.int a) cs1) (hb : EvD K tb σ F cs1 (.int b) cs2) (hc : 0 < b) : EvD K (tOp (rI (fun _ j => 0 < j) fun i j => .int (i % j)) ta tb) σ F cs (.int (a % b)) cs2 := d_I (C := fun _ j => 0 < j) ha hb hc fun _ => .int _
theorem d_fdivC (ha : EvD K ta σ F cs (.int a) cs1) (hb : EvD K tb σ F cs1 (.int b) cs2) (hc : CDiv a b) : EvD K (tOp (rI CDiv fun i j => .int (i / j)) ta tb) σ F cs (.int (a / b)) cs2 := d_I ha hb hc fun _ => .int _
theorem d_powC (ha : EvD K ta σ F cs (.int a) cs1) (hb : EvD K tb σ F cs1 (.int b) cs2) (hc : CPow a b) : EvD K (tOp (rI CPow fun i j => .int (i ^ j.toNat)) ta tb) σ F cs (.int (a ^ b.toNat)) cs2 := d_I ha hb hc fun _ => .int _
theorem d_chain {g g' : Int → Int → Bool} (ha : EvD K ta σ F cs (.int a) cs1) (hb : EvD K tb σ F cs1 (.int b) cs2) (hc : EvD K tc σ F cs2 (.int c) cs2) : EvD K (tChain (rI0 fun i j => .bl (g i j)) (rI0 fun i j => .bl (g' i j)) ta tb tc) σ F cs (.bool (g a b && g' b c)) cs2 := fun F1 H1 g1 s Q q =>
  ha F1 H1 g1 s _ fun v F2 H2 g2 s2 h2 => hb F2 H2 (g1.tr g2) s2 _ fun w F3 H3 g3 s3 h3 => by
    cases h2.toInt; cases h3.toInt
    refine ⟨a, b, rfl, rfl, g a b, rfl, ?_⟩
    cases e : g a b with
    | true => exact hc F3 H3 ((g1.tr g2).tr g3) s3 _ fun z F4 H4 g4 s4 h4 => ⟨b, c, rfl, h4.toInt, q _ F4 H4 ((g2.tr g3).tr g4) s4 (by rw [e, Bool.true_and]; exact .bl _)⟩
    | false => exact q _ F3 H3 (g2.tr g3) s3 (by rw [e, Bool.false_and]; exact .bl _)
theorem t_andP {t u : TT} {a b : Bool} (h1 : EvT t σ F cs a cs1) (h2 : a = true → EvT u σ F cs1 b cs1) : EvT (tAnd t u) σ F cs (a && b) cs1 := t_and h1 h2 (fun h => by rw [h, Bool.true_and]) (fun h => by rw [h, Bool.false_and])
theorem t_orP {t u : TT} {a b : Bool} (h1 : EvT t σ F cs a cs1) (h2 : a = false → EvT u σ F cs1 b cs1) : EvT (tOr t u) σ F cs (a || b) cs1 := t_or h1 h2 (fun h => by rw [h, Bool.false_or]) (fun h => by rw [h, Bool.true_or])
theorem t_andM {t u : TT} {a r : Bool} (h1 : EvT t σ F cs a cs1) (h2 : a = true → EvT u σ F cs1 r cs1) (h4 : a = false → r = false) : EvT (tAnd t u) σ F cs r cs1 := t_and h1 h2 (fun _ => rfl) h4
theorem t_orM {t u : TT} {a r : Bool} (h1 : EvT t σ F cs a cs1) (h2 : a = false → EvT u σ F cs1 r cs1) (h4 : a = true → r = true) : EvT (tOr t u) σ F cs r cs1 := t_or h1 h2 (fun _ => rfl) h4
theorem d_andP {a b : Bool} (h1 : EvD K ta σ F cs (.bool a) cs1) (h2 : a = true → EvD K tb σ F cs1 (.bool b) cs1) : EvD K (tAndV ta tb) σ F cs (.bool (a && b)) cs1 := d_andV h1 h2 (fun h => by rw [h, Bool.true_and]) (fun h => by rw [h, Bool.false_and])
theorem d_orP {a b : Bool} (h1 : EvD K ta σ F cs (.bool a) cs1) (h2 : a = false → EvD K tb σ F cs1 (.bool b) cs1) : EvD K (tOrV ta tb) σ F cs (.bool (a || b)) cs1 := d_orV h1 h2 (fun h => by rw [h, Bool.false_or]) (fun h => by rw [h, Bool.true_or])
theorem d_andM {a r : Bool} (h1 : EvD K ta σ F cs (.bool a) cs1) (h2 : a = true → EvD K tb σ F cs1 (.bool r) cs1) (h4 : a = false → r = false) : EvD K (tAndV ta tb) σ F cs (.bool r) cs1 := d_andV h1 h2 (fun _ => rfl) h4
theorem d_orM {a r : Bool} (h1 : EvD K ta σ F cs (.bool a) cs1) (h2 : a = false → EvD K tb σ F cs1 (.bool r) cs1) (h4 : a = true → r = true) : EvD K (tOrV ta tb) σ F cs (.bool r) cs1 := d_orV h1 h2 (fun _ => rfl) h4
theorem d_join {x z : Str} {xs : List Str} (ha : EvD K ta σ F cs (.str x) cs1) (hb : EvD K tb σ F cs1 (eL eS xs) cs2) (hz : joinM x xs = some z) : EvD K (tM1 (rJoin K) ta tb) σ F cs (.str z) cs2 := fun F1 H1 g1 s Q q =>
  ha F1 H1 g1 s _ fun v F2 H2 g2 s2 h2 => ⟨⟨x, h2.toStr⟩, hb F2 H2 (g1.tr g2) s2 _ fun w F3 H3 g3 s3 h3 => by
    obtain ⟨p, vs, rfl, hl, hd⟩ := h3.toLst
    cases hd.strs
    unfold joinM at hz; split at hz
    · rename_i h; cases hz
      refine ⟨x, p, xs, h2.toStr, rfl, .inl (gr_L s3.fr hl), ?_, q _ F3 H3 (g2.tr g3) s3 (.str _)⟩
      rw [Nat.mul_comm xs.length]
      exact Nat.le_trans h (by decide)
    · cases hz⟩
theorem c_lcC {α β : Type} {wi : TI} {g : TG} {tt : TT} {vs : List Nat} {xs : List α} {en : α → PyData} {em : β → PyData} {f : α → Option (Option β)} {ys : List β}
    (hi : EvI K wi σ F cs (xs.map en) cs1) (hm : lcC f xs = some ys)
    (turn : ∀ x o v F1 p us, Gr F F1 → Dt K F1 v (en x) → f x = some o → ∃ σ2 : St, (∀ H (Q : St → Hp → Prop), Sta F1 ((p, .lst us) :: cs1) H → Q σ2 H → g v (wipe σ vs) H Q) ∧ wipe σ2 vs = wipe σ vs ∧
      EvT tt σ2 F1 ((p, .lst us) :: cs1) o.isSome ((p, .lst us) :: cs1) ∧ ∀ y, o = some y → EvD K te σ2 F1 ((p, .lst us) :: cs1) (em y) ((p, .lst us) :: cs1)) :
    EvC K (tLc wi g tt te vs) σ F cs (ys.map em) cs1 := by
  unfold lcC at hm; split at hm
  · rename_i h; exact c_lc hi hm h turn
  · cases hm
theorem c_mapC {α β : Type} {wi : TI} {g : TG} {tt : TT} {vs : List Nat} {xs : List α} {en : α → PyData} {em : β → PyData} {f : α → β} {ys : List β}
    (hi : EvI K wi σ F cs (xs.map en) cs1) (hm : mapC f xs = some ys)
    (turn : ∀ x o v F1 p us, Gr F F1 → Dt K F1 v (en x) → some (some (f x)) = some o → ∃ σ2 : St, (∀ H (Q : St → Hp → Prop), Sta F1 ((p, .lst us) :: cs1) H → Q σ2 H → g v (wipe σ vs) H Q) ∧ wipe σ2 vs = wipe σ vs ∧
      EvT tt σ2 F1 ((p, .lst us) :: cs1) o.isSome ((p, .lst us) :: cs1) ∧ ∀ y, o = some y → EvD K te σ2 F1 ((p, .lst us) :: cs1) (em y) ((p, .lst us) :: cs1)) :
    EvC K (tLc wi g tt te vs) σ F cs (ys.map em) cs1 := by
  unfold mapC at hm; split at hm
  · rename_i h; cases hm; exact c_lc (f := fun x => some (some (f x))) hi (lcM_map f xs) h turn
  · cases hm
theorem c_filC {α β : Type} {wi : TI} {g : TG} {tt : TT} {vs : List Nat} {xs : List α} {en : α → PyData} {em : β → PyData} {p : α → Bool} {f : α → β} {ys : List β}
    (hi : EvI K wi σ F cs (xs.map en) cs1) (hm : filC p f xs = some ys)
    (turn : ∀ x o v F1 p' us, Gr F F1 → Dt K F1 v (en x) → some (if p x = true then some (f x) else none) = some o → ∃ σ2 : St, (∀ H (Q : St → Hp → Prop), Sta F1 ((p', .lst us) :: cs1) H → Q σ2 H → g v (wipe σ vs) H Q) ∧ wipe σ2 vs = wipe σ vs ∧
      EvT tt σ2 F1 ((p', .lst us) :: cs1) o.isSome ((p', .lst us) :: cs1) ∧ ∀ y, o = some y → EvD K te σ2 F1 ((p', .lst us) :: cs1) (em y) ((p', .lst us) :: cs1)) :
    EvC K (tLc wi g tt te vs) σ F cs (ys.map em) cs1 := by
  unfold filC at hm; split at hm
  · rename_i h; cases hm; exact c_lc (f := fun x => some (if p x = true then some (f x) else none)) hi (lcM_filter p f xs) h turn
  · cases hm
theorem nxt (h : nx σ H) : tNext ⟨nx, rt, bk, ct⟩ σ H := h
theorem tg {g : TG} {v : V} {σ' : St} {Q : St → Hp → Prop} (h1 : ∀ Q : St → Hp → Prop, Q σ' H → g v σ H Q) (h2 : Q σ' H) : g v σ H Q := h1 Q h2
theorem s_asg {g : TG} (s : Sta F cs H) (h : EvD K te σ F cs d cs1) (q : ∀ v F2 H2, Gr F F2 → Sta F2 cs1 H2 → Dt K F2 v d → g v σ H2 nx) : tAsg te g ⟨nx, rt, bk, ct⟩ σ H := h F H .rfl s _ q
theorem s_ifJ {c : TT} {b : Bool} (J : St → Hp → Prop) (s : Sta F cs H) (h : EvT c σ F cs b cs1) (rest : ∀ σ' H', J σ' H' → nx σ' H') (qt : (∀ σ' H', J σ' H' → nx σ' H') → b = true → ∀ F2 H2, Gr F F2 → Sta F2 cs1 H2 → t ⟨nx, rt, bk, ct⟩ σ H2)
    (qf : (∀ σ' H', J σ' H' → nx σ' H') → b = false → ∀ F2 H2, Gr F F2 → Sta F2 cs1 H2 → u ⟨nx, rt, bk, ct⟩ σ H2) : tIfS c t u ⟨nx, rt, bk, ct⟩ σ H := s_if s h (qt rest) (qf rest)
theorem s_appF {α : Type} {vf : α → V} {en : α → PyData} {l1 l2 : Cs} {i : Nat} {p : Addr} {xs ys : List α} {x : α} (hw : ∀ F v x, Dt K F v (en x) → v = vf x) (s : Sta F (l1 ++ (p, .lst (xs.map vf)) :: l2) H) (hi : σ[i]? = some (some (.ref p))) (h : EvD K te σ F (l1 ++ (p, .lst (xs.map vf)) :: l2) (en x) (l1 ++ (p, .lst (xs.map vf)) :: l2)) (hm : appM xs x = some ys)
    (q : ∀ F2 H2, Gr F F2 → Sta F2 (l1 ++ (p, .lst (ys.map vf)) :: l2) H2 → nx σ H2) : tDrop (tBM K "list" rAppend (tVar i) (tCons te tNil)) ⟨nx, rt, bk, ct⟩ σ H := by
  obtain ⟨hl, rfl⟩ := appM_some hm
  refine s_app s hi h (by rw [List.length_map]; exact hl) fun v F2 H2 g2 s2 h2 => q F2 H2 g2 ?_
  cases hw F2 v x h2
  rw [List.map_append]; exact s2
theorem s_appG {α : Type} {en : α → PyData} {l1 l2 : Cs} {i : Nat} {p : Addr} {vs : List V} {xs ys : List α} {x : α} (s : Sta F (l1 ++ (p, .lst vs) :: l2) H) (hf : Dts K F vs (xs.map en)) (hi : σ[i]? = some (some (.ref p))) (h : EvD K te σ F (l1 ++ (p, .lst vs) :: l2) (en x) (l1 ++ (p, .lst vs) :: l2)) (hm : appM xs x = some ys)
    (q : ∀ us F2 H2, Gr F F2 → Sta F2 (l1 ++ (p, .lst us) :: l2) H2 → Dts K F2 us (ys.map en) → nx σ H2) : tDrop (tBM K "list" rAppend (tVar i) (tCons te tNil)) ⟨nx, rt, bk, ct⟩ σ H := by
  obtain ⟨hl, rfl⟩ := appM_some hm
  refine s_app s hi h (by rw [hf.len, List.length_map]; exact hl) fun v F2 H2 g2 s2 h2 => q _ F2 H2 g2 s2 ?_
  rw [List.map_append]; exact (hf.gr g2).app (.cons h2 .nil)
theorem s_itemF {α : Type} {vf : α → V} {en : α → PyData} {l1 l2 : Cs} {i : Nat} {p : Addr} {xs ys : List α} {x : α} {ti : TE} {k : Int} (hw : ∀ F v x, Dt K F v (en x) → v = vf x) (s : Sta F (l1 ++ (p, .lst (xs.map vf)) :: l2) H) (hi : σ[i]? = some (some (.ref p))) (h : EvD K te σ F (l1 ++ (p, .lst (xs.map vf)) :: l2) (en x) (l1 ++ (p, .lst (xs.map vf)) :: l2))
    (h2 : EvD K ti σ F (l1 ++ (p, .lst (xs.map vf)) :: l2) (.int k) (l1 ++ (p, .lst (xs.map vf)) :: l2)) (hm : setM xs k x = some ys) (q : ∀ F2 H2, Gr F F2 → Sta F2 (l1 ++ (p, .lst (ys.map vf)) :: l2) H2 → nx σ H2) : tAsg te (gSub (tVar i) ti rSetL) ⟨nx, rt, bk, ct⟩ σ H := by
  obtain ⟨j, hj, rfl⟩ := setM_some hm
  refine s_item (j := j) s hi h h2 (by rw [List.length_map]; exact hj) fun v F2 H2 g2 s2 hv => q F2 H2 g2 ?_
  cases hw F2 v x hv
  rw [List.map_set]; exact s2
theorem s_itemG {α : Type} {en : α → PyData} {l1 l2 : Cs} {i : Nat} {p : Addr} {vs : List V} {xs ys : List α} {x : α} {ti : TE} {k : Int} (s : Sta F (l1 ++ (p, .lst vs) :: l2) H) (hf : Dts K F vs (xs.map en)) (hi : σ[i]? = some (some (.ref p))) (h : EvD K te σ F (l1 ++ (p, .lst vs) :: l2) (en x) (l1 ++ (p, .lst vs) :: l2))
    (h2 : EvD K ti σ F (l1 ++ (p, .lst vs) :: l2) (.int k) (l1 ++ (p, .lst vs) :: l2)) (hm : setM xs k x = some ys) (q : ∀ us F2 H2, Gr F F2 → Sta F2 (l1 ++ (p, .lst us) :: l2) H2 → Dts K F2 us (ys.map en) → nx σ H2) : tAsg te (gSub (tVar i) ti rSetL) ⟨nx, rt, bk, ct⟩ σ H := by
  obtain ⟨j, hj, rfl⟩ := setM_some hm
  refine s_item (j := j) s hi h h2 (by rw [hf.len, List.length_map]; exact hj) fun v F2 H2 g2 s2 hv => q _ F2 H2 g2 s2 ?_
  rw [List.map_set]; exact (hf.gr g2).setAt j hv
end
/-! isinstance -/
def kindD : PyData → String
  | .none => "NoneType"
  | .bool _ => "bool"
  | .int _ => "int"
  | .str _ => "str"
  | .list _ => "list"
  | .tuple _ => "tuple"
  | .dict _ => "dict"
def isiD (c : String) (d : PyData) : Bool := kindD d == c || (kindD d == "bool" && c == "int")
def isiK : List String := ["int", "str", "bool", "list", "tuple", "dict"]
theorem kit_isi {K : PySem.W.Frag} {c : String} (hc : c ∈ isiK) (d : PyData) : PySem.W.kitOne K (.type (kindD d)) (.type c) = some (isiD c d) := by
  have h : ∀ k ∈ ["NoneType", "bool", "int", "str", "list", "tuple", "dict"], ∀ c ∈ isiK, kitB k c = some (k == c || (k == "bool" && c == "int")) := by decide +kernel
  exact kit_ty (h (kindD d) (by cases d <;> simp [kindD]) c hc)
theorem ty_of {K : PySem.W.Frag} {F H : Hp} {v : V} {d : PyData} (g : Gr F H) (h : Dt K F v d) : TyX K H v (.type (kindD d)) := by
  cases h with
  | non => exact .base .non
  | bl b => exact .base (.bl b)
  | int i => exact .base (.int i)
  | str x => exact .base (.str x)
  | lst hl _ =>
    rcases hl with (h | ⟨o, h⟩) | ⟨o, its, n, h1, h2, h3⟩
    · exact .base (.lst (g _ _ h))
    · exact .base (.frz (g _ _ h))
    · exact .kList h1 h2
  | tup ht _ =>
    rcases ht with (h | ⟨o, h⟩) | ⟨o, its, n, h1, h2, h3⟩
    · exact .base (.tup (g _ _ h))
    · exact .fTuple (g _ _ h)
    · exact .kTuple h1 h2
  | dct h => exact .base (.dK (g _ _ h))
theorem d_isiD {K : PySem.W.Frag} {σ : St} {F : Hp} {cs cs1 : Cs} {ta : TE} {d : PyData} {c : String} (hc : c ∈ isiK) (ha : EvD K ta σ F cs d cs1) : EvD K (tCB (rIsi K) (tCons ta (tCons (tC (.ty c)) tNil))) σ F cs (.bool (isiD c d)) cs1 := fun F1 H1 g1 s Q q =>
  ha F1 H1 g1 s _ fun v F2 H2 g2 s2 h2 => ⟨v, .ty c, .type (kindD d), .type c, isiD c d, rfl, .ty c, ty_of s2.fr h2, kit_isi hc d, q _ F2 H2 g2 s2 (.bl _)⟩
/-! a def that keeps its promise -/
def Lk (K : PySem.W.Frag) (f : Addr) (fd : FuncData) : Prop := ∃ oc od sl, K.lookup f = some ⟨oc, od, .func fd, sl⟩
theorem lk_of {K : PySem.W.Frag} {x qual : Str} {params : Arguments} {body : List Stmt} {scope : Scope} {dvs : List V} {kws : List (Str × V)} {f : Addr} {fd : FuncData} (F : FunD K x qual params body scope dvs kws f fd) : Lk K f fd := by
  obtain ⟨oc, od, dV, kV, doc, pm, an, cdv, ct, osl, _, lk, _⟩ := F.ex
  exact ⟨oc, od, osl, lk⟩
theorem Lk.one {K : PySem.W.Frag} {f : Addr} {fd fd2 : FuncData} (a : Lk K f fd) (b : Lk K f fd2) : fd = fd2 := by
  obtain ⟨_, _, _, e1⟩ := a
  obtain ⟨_, _, _, e2⟩ := b
  rw [e1] at e2
  cases e2
  rfl
structure Ok (P : Program) (w : World) (K : PySem.W.Frag) (mg : Str → Option Value) (base : Heap) (k : Nat) (x : Str) (ps : List Str) (sp : Sp) : Prop where
  ex : ∃ fd, FnOk P w K mg base CX0 k (He.ga K x) fd ps sp ∧ Binds K fd ps [] ∧ Lk K (He.ga K x) fd
  kp : PySem.W.keepIn K (.ref (He.ga K x)) = true
  gm : mg x = some (.ref (He.ga K x))
structure Df (K : PySem.W.Frag) (mg : Str → Option Value) (x : Str) (st : Stmt) : Prop where
  ex : ∃ fd, FunD K x x (defArgs st) (defBody st) (defScope st) [] [] (He.ga K x) fd
  gm : mg x = some (.ref (He.ga K x))
end Bw

/-! set(list) for any kind of key: as many members as unlike keys -/
namespace Bw
open PySem PyProof.Rows
def dups {κ : Type} [BEq κ] : List κ → List κ → List κ
  | acc, [] => acc
  | acc, x :: xs => dups (if acc.any (· == x) then acc else acc ++ [x]) xs
section
variable {κ : Type} [DecidableEq κ] [BEq κ] [LawfulBEq κ]
def met (ks : List κ) (i : Nat) : List κ := dups [] (ks.take i)
theorem dups_app (l : List κ) (x : κ) : ∀ acc, dups acc (l ++ [x]) = (if (dups acc l).any (· == x) then dups acc l else dups acc l ++ [x]) := by
  induction l with
  | nil => intro acc; rfl
  | cons y l ih => intro acc; exact ih _
theorem met_succ (ks : List κ) (i : Nat) (x : κ) (h : ks[i]? = some x) : met ks (i + 1) = (if (met ks i).any (· == x) then met ks i else met ks i ++ [x]) := by
  unfold met
  rw [List.take_add_one, h]
  exact dups_app _ _ _
theorem dups_len (l : List κ) : ∀ acc : List κ, (dups acc l).length ≤ acc.length + l.length := by
  induction l with
  | nil => intro acc; exact Nat.le_refl _
  | cons y l ih =>
    intro acc
    have := ih (if acc.any (· == y) then acc else acc ++ [y])
    have h2 : (if acc.any (· == y) then acc else acc ++ [y]).length ≤ acc.length + 1 := by
      split
      · exact Nat.le_succ _
      · rw [List.length_append]; exact Nat.le_refl _
    show (dups (if acc.any (· == y) then acc else acc ++ [y]) l).length ≤ acc.length + (l.length + 1)
    omega
theorem met_len (ks : List κ) (i : Nat) : (met ks i).length ≤ i := by
  have h := dups_len (ks.take i) ([] : List κ)
  have h2 : (ks.take i).length ≤ i := by rw [List.length_take]; exact Nat.min_le_left _ _
  unfold met
  simp only [List.length_nil, Nat.zero_add] at h
  omega
end
section
variable {prog : Program} {w : World} {A : Around} {R : Result → Shared → Prop} {I : Addr} {fp wr : List Addr} {G : Array GenState → Array GenState → Prop} {n : Nat} {P : Nat → Value → Prop} {St : Nat → Shared → Prop}
variable {κ : Type} [DecidableEq κ] [BEq κ] [LawfulBEq κ] (knd : KeyKind prog w κ)
theorem loopK (W : WalksS prog w A.in1 I fp wr G n P St) (S : Addr) (hSf : S ∉ fp) (ks : List κ) (hval : ∀ i v, P i v → ∃ k, ks[i]? = some k ∧ knd.is k v = true ∧ v.scannable = true) (hb : n + 1 < scanBound) :
    ∀ (k i : Nat) (s : Shared), n - i = k → i ≤ n → St i s → s.heap.SetOf knd S (fun z => (met ks i).any (· == z)) (met ks i).length →
      (∀ s', Moved (S :: wr) G s s' → s'.heap.SetOf knd S (fun z => (met ks n).any (· == z)) (met ks n).length → R (.ok (.ret .none)) s') →
      codeAny (model prog w) A (.builtin "set.update.loop" ⟨[.ref S, .ref I], []⟩) R s := by
  have nw : S ∉ wr := fun h => hSf (W.sub _ h)
  have sb : ∀ b ∈ wr, b ∈ S :: wr := fun b hb => List.mem_cons_of_mem _ hb
  intro k
  induction k with
  | zero =>
    intro i s hk hi hst hS hR
    obtain rfl : i = n := by omega
    refine codeAny_builtin F.entry_set_update_loop ?_
    rw [Around.under_plainId F.plain_set_update_loop _]
    show wpAny _ A.in1 (pyNext (.ref I) >>= _) _ _ s
    refine wpAny_bind (W.done s _ _ hst fun s' hm => ?_)
    show wpAny _ A.in1 (ret Value.none) _ _ s'
    refine wpAny_pure (hR s' (hm.mono sb) ?_)
    obtain ⟨o, es, ep, t, ho, rest⟩ := hS
    exact ⟨o, es, ep, t, hm.heap S _ nw ho, rest⟩
  | succ k ih =>
    intro i s hk hi hst hS hR
    have hlt : i < n := by omega
    refine codeAny_builtin F.entry_set_update_loop ?_
    rw [Around.under_plainId F.plain_set_update_loop _]
    show wpAny _ A.in1 (pyNext (.ref I) >>= _) _ _ s
    refine wpAny_bind (W.item i s _ _ hlt hst fun v s' hP hst' hm => ?_)
    obtain ⟨x, hx, his, hsc⟩ := hval i v hP
    have hS' : s'.heap.SetOf knd S (fun z => (met ks i).any (· == z)) (met ks i).length := by
      obtain ⟨o, es, ep, tb, ho, rest⟩ := hS
      exact ⟨o, es, ep, tb, hm.heap S _ nw ho, rest⟩
    show wpAny _ A.in1 (holding [v] (setAdd S v) >>= _) _ _ s'
    refine wpAny_bind (wpAny_holding ?_)
    unfold setAdd
    refine wpAny_holding ?_
    refine wpAny_bind (knd.pyHash (k := x) his ?_)
    refine wpAny_setAddHashed_of (knd := knd) (s := { s' with toks := s'.toks + 1 }) his hsc hS' (by have := met_len ks i; omega) fun h' hsb hS2 => ?_
    have hSi : h'.SetOf knd S (fun z => (met ks (i + 1)).any (· == z)) (met ks (i + 1)).length := by
      refine SetOf_congr hS2 (fun z => ?_) ?_
      · rw [met_succ ks i x hx]
        by_cases q : (met ks i).any (· == x) = true
        · rw [if_pos q]
          by_cases e : z = x
          · subst e; rw [q]; rfl
          · rw [decide_eq_false e, Bool.or_false]
        · rw [if_neg q, List.any_append]
          by_cases e : z = x
          · subst e; simp
          · have hb2 : (x == z) = false := beq_eq_false_iff_ne.mpr fun h' => e h'.symm
            simp [hb2, e]
      · rw [met_succ ks i x hx]
        by_cases q : (met ks i).any (· == x) = true
        · rw [if_pos q, if_pos q]
        · rw [if_neg q, if_neg q, List.length_append]; rfl
    refine wpAny_pure ⟨plainId_quiet F.plain_set_update_loop _, ih (i + 1) _ (by omega) hlt (W.frame _ s' _ _ hst' (Nat.le_succ _) fun b hb o e => ?_) hSi fun s'' hm'' hS'' => ?_⟩
    · rw [hsb.2 b (fun h : b = S => hSf (by rw [← h]; exact hb))]; exact e
    · refine hR s'' (Moved.trans W.gtrans ((hm.mono sb).then_heap (Nat.le_succ _) fun b o hb e => ?_) hm'') hS''
      rw [hsb.2 b (fun h : b = S => hb (by rw [h]; exact List.mem_cons_self))]; exact e
end
end Bw
namespace Bw
open PySem
section
variable {prog : Program} {w : World} {A : Around} {E : Value → Shared → Prop} {s : Shared}
variable {κ : Type} [DecidableEq κ] [BEq κ] [LawfulBEq κ] (knd : KeyKind prog w κ)
abbrev sO (led : Bool) : Obj := { cls := .type "set", dict := none, data := .set #[] 0 (.fresh 0 0 led) }
theorem call_setK {l : Addr} {items : Array Value} {ks : List κ} {Q : Value → Shared → Prop} (hh : A.handled = none) (hl : s.heap.IsList l items)
    (hi : ∀ (i : Nat) (v : Value), items[i]? = some v → ∃ k, ks[i]? = some k ∧ knd.is k v = true ∧ v.scannable = true) (hb : items.size + 1 < scanBound)
    (h : ∀ (h' : Heap) (tk : Nat), h'.SetOf knd s.heap.objs.size (fun z => (met ks items.size).any (· == z)) (met ks items.size).length → (∀ b o, b < s.heap.objs.size → s.heap.get? b = some o → h'.get? b = some o) → Q (.ref s.heap.objs.size) { s with heap := h', toks := tk }) :
    wpAny (model prog w) A (call (.type "set") [.ref l]) Q E s := by
  obtain ⟨c, tl, hmro⟩ := F.called_set.mro
  have hmade := F.called_set.made
  have hsub := F.called_set.sub
  refine wpAny_call (codeAny_of_tree ?_)
  show wpAny _ _ (callAny (.type "set") _) _ _ _
  refine wpAny_pure ⟨Code.quiet_builtin _ (by decide +kernel), codeAny_builtin F.entry_type_call ?_⟩
  rw [Around.under_plain (weight_type_call_type "set" [.ref l] []) rfl]
  have h1 := F.called_set.notType
  have h2 := F.called_set.canCreate
  have hct := F.typeCall_set_1 (.ref l)
  repeat (any_goals (first | assumption | wp_step))
  refine codeAny_mono (code_set_new_1 (.ref l) (E := E) (Q₁ := fun obj s₁ => ∃ led : Bool, obj = .ref s.heap.objs.size ∧ s₁ = { s with heap := s.heap.push (sO led) }) fun led => ⟨led, rfl, rfl⟩) fun r s₁ hr => ?_
  cases r with
  | error e => exact hr
  | ok fl =>
    cases fl with
    | ret obj =>
      obtain ⟨led, rfl, rfl⟩ := hr
      have hS : (s.heap.push (sO led)).get? s.heap.objs.size = some (sO led) := Heap.get?_push_size _ rfl
      have hT : Shared.TypeIs { s with heap := s.heap.push (sO led) } (.ref s.heap.objs.size) "set" := ⟨_, hS, rfl⟩
      have hli := F.called_set.init.lookup
      have hbi := F.called_set.init.bind (.ref s.heap.objs.size)
      repeat (any_goals (first | assumption | wp_step))
      refine codeAny_mono (codeAny_call_builtin (R := wants (fun r s₂ => r = .none ∧ ∃ h' tk, s₂ = { s with heap := h', toks := tk } ∧ h'.SetOf knd s.heap.objs.size (fun z => (met ks items.size).any (· == z)) (met ks items.size).length ∧
          (∀ b o, b < s.heap.objs.size → s.heap.get? b = some o → h'.get? b = some o)) E) F.called_set.init.plain F.entry_set_init (check_set_init_1 hT ?_)) fun r₂ s₂ hr₂ => ?_
      · obtain ⟨ol, hol, hcl, nl, hdl⟩ := hl
        obtain ⟨ocls, odict, odata, oslots⟩ := ol
        simp only at hcl hdl
        subst hcl; subst hdl
        have hol' : (s.heap.push (sO led)).get? l = some { cls := .type "list", dict := odict, data := .seq items nl, slots := oslots } := Heap.get?_push_of_some _ hol
        have hsls := F.sub_list_set
        have hslf := F.sub_list_frozenset
        have hne : (Value.type "list" == Value.type "dict") = false := by decide
        have hl1 : (s.heap.push (sO led)).IsList l items := ⟨_, hol', rfl, nl, rfl⟩
        unfold Builtin.«set.__init__» noKeywords Builtin.Frozenset.updateFrom
        generalize hPI : pyIter = PI
        wp_walk
        subst hPI
        refine wpAny_pyIter_list hl1 ?_
        refine wpAny_bind (wpAny_runValue ?_)
        have hlS : l < s.heap.objs.size := Heap.lt_size hol
        have hneI : l ≠ (s.heap.push (sO led)).objs.size := by
          rw [Heap.size_push]; exact Nat.ne_of_lt (Nat.lt_succ_of_lt hlS)
        have hSf : s.heap.objs.size ∉ [(s.heap.push (sO led)).objs.size, l] := by
          rw [Heap.size_push]; simp only [List.mem_cons, List.not_mem_nil, or_false, not_or]
          exact ⟨Nat.ne_of_lt (Nat.lt_succ_self _), Nat.ne_of_gt hlS⟩
        refine loopK knd ((Walks.list (by simp [hh]) _ l hneI items).toS) s.heap.objs.size hSf ks hi hb (items.size - 0) 0 _ (by omega) (Nat.zero_le _) ⟨⟨_, Heap.get?_push_size _ rfl, rfl, rfl⟩, (hl1.push _)⟩ ?hS0 ?hR
        case hS0 =>
          exact PyProof.Rows.SetOf_congr ((PyProof.Rows.setObjOf_fresh (knd := knd) led).setOf (Heap.get?_push_of_some _ hS) (by unfold scanBound; omega)) (fun _ => rfl) rfl
        case hR =>
          intro s' hm hS'
          obtain ⟨h', g', d', tk', os'⟩ := s'
          have eg : g' = s.gens := hm.gens
          have ed : d' = s.drawn := hm.drawn
          have eo : os' = s.os := hm.os
          subst eg; subst ed; subst eo
          show wpAny _ _ _ _ _ _
          refine wpAny_pure ?_
          show wpAny _ _ (ret Value.none) _ _ _
          refine wpAny_pure ⟨rfl, h', tk', rfl, hS', fun b o hb e => ?_⟩
          refine hm.heap b o ?_ (Heap.get?_push_of_some _ (Heap.get?_push_of_some _ e))
          simp only [List.mem_cons, List.not_mem_nil, or_false, not_or]
          exact ⟨Nat.ne_of_lt hb, by rw [Heap.size_push]; exact Nat.ne_of_lt (Nat.lt_succ_of_lt hb)⟩
      · cases r₂ with
        | error e => exact hr₂
        | ok fl₂ =>
          cases fl₂ with
          | ret r =>
            obtain ⟨rfl, h', tk, rfl, hS', hk'⟩ := hr₂
            repeat (any_goals (first | assumption | wp_step))
            exact h _ _ hS' hk'
          | _ => exact hr₂.elim
    | _ => exact hr.elim
end
end Bw


namespace Bw
open PySem L2
def tLenSetS (K : PySem.W.Frag) (ta : TE) : TE := fun σ H Q => ta σ H fun x H1 => ∃ (l : Addr) (xs : List Str), x = .ref l ∧ SqL K H1 l (xs.map V.str) ∧ xs.length ≤ 4000 ∧ Q (.int (dups [] xs).length) H1
theorem strs_get : ∀ {xs : List Str} {us : List Value} {i : Nat} {v : Value}, Vals (xs.map V.str) us → us[i]? = some v → ∃ k, xs[i]? = some k ∧ ∃ t, v = .str k t
  | [], _, _, _, .nil, e => by simp at e
  | x :: xs, _, 0, v, .cons r t, e => by
    simp at e; subst e
    exact ⟨x, rfl, r⟩
  | x :: xs, _, i + 1, v, .cons r t, e => by
    obtain ⟨k, h1, h2⟩ := strs_get (i := i) (v := v) t (by simpa using e)
    exact ⟨k, by simpa using h1, h2⟩
theorem met_all {κ : Type} [DecidableEq κ] [BEq κ] (ks : List κ) : met ks ks.length = dups [] ks := by unfold met; rw [List.take_length]
theorem pe_lenSetS {X : Cx} {a : Expr} {ta : TE} {p p2 q pos : Pos} (hc : X.calm = true) (hg : Gl X "len") (hm : X.mg "len" = none) (hg2 : Gl X "set") (hm2 : X.mg "set" = none) (ha : PE X a ta)
    (na : starEach [a] X.env = (false, eval a X.env) :: starEach [] X.env := by rfl) : PE X (.Call (.Name "len" p) [.Call (.Name "set" p2) [a] [] q] [] pos) (tLenSetS X.K ta) := by
  refine ⟨fun pins s σ H Q I h => ?_⟩
  refine PyProof.Rows.Call_ (ld_blt I hg hm boot_len ?_)
  refine PyProof.Rows.callWith_builtin1 (PyProof.Rows.args_cons ?_ rfl) rfl rfl
  refine PyProof.Rows.Call_ (ld_blt I hg2 hm2 PyProof.Rows.boot_set ?_)
  refine PyProof.Rows.callWith_type1 (PyProof.Rows.args_cons (thn (ha.run pins s σ H _ I h) fun v s1 ⟨x, H1, I1, r1, q1⟩ => PyProof.Rows.args_nil ?_) na) na rfl
  obtain ⟨l, xs, rfl, hq, h1, q1⟩ := q1
  cases r1
  obtain ⟨its, r, pl, hz⟩ := I1.list hq
  have hl : its.toArray.size = xs.length := by rw [List.size_toArray, ← r.length, List.length_map]
  refine call_setK (PySem.strKind X.prog X.w) (ks := xs) (I1.ok.hd hc) pl.isList (fun i v hv => ?_) (by rw [hl]; unfold scanBound; omega) fun h' tk hS hk => ?_
  · obtain ⟨k, e1, t, e2⟩ := strs_get (i := i) (v := v) r (by simpa using hv)
    subst e2
    exact ⟨k, e1, strKind_is _ _ _ _, rfl⟩
  · refine PyProof.Rows.args_nil ?_
    rw [hl, met_all] at hS
    obtain ⟨o, es, ep, t, ho, hex, hd, _, _, _, hf, hn⟩ := hS
    have I2 : Inv X pins σ H1 { s1 with heap := h', toks := tk } := I1.kept fun b o e => hk b o (Heap.lt_size e) e
    have hlen := dups_len xs ([] : List Str)
    simp only [List.length_nil, Nat.zero_add] at hlen
    exact call_len_set ho hex hd hf (by rw [hn] <;> omega) ⟨.int (dups [] xs).length, H1, I2.tok _, ⟨_, by rw [hn]⟩, q1⟩
def setLenM (xs : List Str) : Option Int := if xs.length ≤ 4000 then some ((dups [] xs).length : Int) else none
abbrev rSrep : R2 := fun x y H Q => ∃ z n, x = .str z ∧ y = .int n ∧ MulOk z n ∧ Q (.str (Txt.mul z n)) H
theorem op_srep {X : Cx} : OpR X (binaryOp .Mult) rSrep := by
  intro pins s σ H x y v u Q I rx ry h
  obtain ⟨i, j, rfl, rfl, hz, q⟩ := h
  obtain ⟨t, rfl⟩ := rx
  obtain ⟨t', rfl⟩ := ry
  exact SB.mul hz fun t' tk => ⟨.str (Txt.mul i j), H, I.tok _, ⟨_, rfl⟩, q⟩
def srepM (x : Str) (n : Int) : Option Str := if -(2 ^ 63) ≤ n ∧ n < 2 ^ 63 ∧ x.length * n.toNat ≤ 100000 then some (Txt.mul x n) else none
theorem mulOk {x : Str} {n : Int} (h : -(2 ^ 63) ≤ n ∧ n < 2 ^ 63 ∧ x.length * n.toNat ≤ 100000) : MulOk x n := by
  obtain ⟨h1, h2, h3⟩ := h
  refine ⟨?_, fun hn hc => ?_, fun hn hc => ?_⟩
  · rw [Bool.or_eq_false_iff]
    exact ⟨decide_eq_false (by omega), decide_eq_false (by omega)⟩
  · intro hgt
    have hx : (x.length : Int) * n ≤ 100000 := by
      have e : ((x.length * n.toNat : Nat) : Int) = (x.length : Int) * n := by
        rw [Int.natCast_mul, Int.toNat_of_nonneg (by omega)]
      omega
    have h5 : (2 ^ 63 - 1 : Int) / n + 1 ≤ x.length := by omega
    have h6 : (2 ^ 63 - 1 : Int) < ((2 ^ 63 - 1 : Int) / n + 1) * n := Int.lt_ediv_add_one_mul_self _ (by omega)
    have h7 : ((2 ^ 63 - 1 : Int) / n + 1) * n ≤ (x.length : Int) * n := Int.mul_le_mul_of_nonneg_right h5 (by omega)
    omega
  · unfold Builtin.Str.tooLong
    simp only [decide_eq_false_iff_not]
    have : (100000 : Nat) ≤ sizeLine := by decide
    omega
section
variable {K : PySem.W.Frag} {σ : St} {F F' : Hp} {cs cs1 cs2 cs3 : Cs} {ta tb tc te : TE} {d e : PyData} {as : TA} {a b c : Int} {nx bk ct : St → Hp → Prop} {rt : VK} {H : Hp} {t u : TS}
theorem d_srep {x z : Str} (ha : EvD K ta σ F cs (.str x) cs1) (hb : EvD K tb σ F cs1 (.int b) cs2) (hz : srepM x b = some z) : EvD K (tOp rSrep ta tb) σ F cs (.str z) cs2 :=
  d_op ha hb fun _ _ F2 H2 hx hy s _ Q q => by
    cases hx.toStr; cases hy.toInt
    unfold srepM at hz; split at hz
    · rename_i h; cases hz; exact ⟨x, b, rfl, rfl, mulOk h, q _ F2 H2 .rfl s (.str _)⟩
    · cases hz
theorem d_setLen {xs : List Str} {n : Int} (ha : EvD K ta σ F cs (eL eS xs) cs1) (hn : setLenM xs = some n) : EvD K (tLenSetS K ta) σ F cs (.int n) cs1 := fun F1 H1 g1 s Q q =>
  ha F1 H1 g1 s _ fun v F2 H2 g2 s2 h2 => by
    obtain ⟨p, vs, rfl, hl, hd⟩ := h2.toLst
    cases hd.strs
    unfold setLenM at hn; split at hn
    · rename_i h; cases hn; exact ⟨p, xs, rfl, gr_L s2.fr hl, h, q _ F2 H2 g2 s2 (.int _)⟩
    · cases hn
/-- list(x), x a cell -/
theorem c_listC {l1 l2 : Cs} {i : Nat} {p : Addr} {us : List V} {ds : List PyData} (hi : σ[i]? = some (some (.ref p))) (hd : Dts K F us ds) : EvC K (tCB (rListS K) (tCons (tVar i) tNil)) σ F (l1 ++ (p, .lst us) :: l2) ds (l1 ++ (p, .lst us) :: l2) := fun F1 H1 g1 s Q q =>
  ⟨.ref p, hi, p, us, rfl, .inl (.inl (.inl s.getAt)), fun l nl => q _ _ _ _ .rfl (s.cell nl) (hd.gr g1)⟩
/-- x = y.pop(k), y a cell -/
def popM {α : Type} (xs : List α) (k : Int) : Option (α × List α) := if -(2 ^ 63) ≤ k ∧ k < 2 ^ 63 then (seqIndex? k xs.length).bind fun j => (xs[j]?).map fun x => (x, xs.eraseIdx j) else none
theorem popM_some {α : Type} {xs ys : List α} {k : Int} {x : α} (h : popM xs k = some (x, ys)) : (-(2 ^ 63) ≤ k ∧ k < 2 ^ 63) ∧ ∃ j, seqIndex? k xs.length = some j ∧ xs[j]? = some x ∧ ys = xs.eraseIdx j := by
  unfold popM at h; split at h
  · rename_i q
    refine ⟨q, ?_⟩
    obtain ⟨j, h1, h⟩ := bnd h
    cases e : xs[j]? with
    | none => rw [e] at h; cases h
    | some z => rw [e] at h; cases h; exact ⟨j, h1, e, rfl⟩
  · cases h
theorem er_map {α β : Type} (f : α → β) : ∀ (xs : List α) (j : Nat), (xs.eraseIdx j).map f = (xs.map f).eraseIdx j
  | [], _ => rfl
  | _ :: _, 0 => rfl
  | x :: xs, j + 1 => by simp only [List.eraseIdx_cons_succ, List.map_cons, er_map f xs j]
theorem s_popF {α : Type} {vf : α → V} {en : α → PyData} {l1 l2 : Cs} {i j : Nat} {p : Addr} {xs ys : List α} {x : α} {ti : TE} {k : Int} {σ' : St} (hd : ∀ F x, Dt K F (vf x) (en x)) (s : Sta F (l1 ++ (p, .lst (xs.map vf)) :: l2) H) (hi : σ[i]? = some (some (.ref p)))
    (h2 : EvD K ti σ F (l1 ++ (p, .lst (xs.map vf)) :: l2) (.int k) (l1 ++ (p, .lst (xs.map vf)) :: l2)) (hm : popM xs k = some (x, ys)) (hσ : σ.set j (some (vf x)) = σ') (q : ∀ F2 H2, Gr F F2 → Sta F2 (l1 ++ (p, .lst (ys.map vf)) :: l2) H2 → nx σ' H2) : tAsg (tBM K "list" rPopAt (tVar i) (tCons ti tNil)) (gName j) ⟨nx, rt, bk, ct⟩ σ H := by
  obtain ⟨⟨a1, a2⟩, m, b1, b2, rfl⟩ := popM_some hm
  refine ⟨.ref p, hi, .inl ⟨rfl, _, .inl (.inl s.getAt)⟩, h2 F H .rfl s _ fun w F3 H3 g3 s3 hw => ⟨p, xs.map vf, k, m, vf x, rfl, by cases hw.toInt; rfl, s3.getAt, a1, a2, by rw [List.length_map]; exact b1, by rw [List.getElem?_map, b2]; rfl, ?_⟩⟩
  show nx (σ.set j (some (vf x))) _
  rw [hσ]
  refine q F3 _ g3 ?_
  have s4 := s3.putAt (o' := .lst ((xs.map vf).eraseIdx m))
  rw [er_map]
  exact s4
/-- y.remove(k), y a cell of ints -/
def remM (xs : List Int) (k : Int) : Option (List Int) := if inL k xs = true then some (xs.erase k) else none
theorem rem_at {xs : List Int} {k : Int} (h : inL k xs = true) : ∃ j, xs[j]? = some k ∧ (∀ m : Nat, m < j → xs[m]? ≠ some k) ∧ xs.eraseIdx j = xs.erase k := by
  induction xs with
  | nil => cases h
  | cons y xs ih =>
    by_cases e : y = k
    · subst e
      exact ⟨0, rfl, fun m hm => absurd hm (Nat.not_lt_zero m), by simp⟩
    · have h' : inL k xs = true := by
        unfold inL at h ⊢
        rw [List.any_cons] at h
        have q : (y == k) = false := by simpa using e
        rw [q, Bool.false_or] at h
        exact h
      obtain ⟨j, h1, h2, h3⟩ := ih h'
      refine ⟨j + 1, by simpa using h1, fun m hm => ?_, ?_⟩
      · cases m with
        | zero => simpa using e
        | succ m => simpa using h2 m (by omega)
      · rw [List.eraseIdx_cons_succ, h3, List.erase_cons_tail]
        simpa using e
theorem s_remF {l1 l2 : Cs} {i : Nat} {p : Addr} {xs ys : List Int} {ti : TE} {k : Int} (s : Sta F (l1 ++ (p, .lst (xs.map V.int)) :: l2) H) (hi : σ[i]? = some (some (.ref p)))
    (h2 : EvD K ti σ F (l1 ++ (p, .lst (xs.map V.int)) :: l2) (.int k) (l1 ++ (p, .lst (xs.map V.int)) :: l2)) (hm : remM xs k = some ys) (q : ∀ F2 H2, Gr F F2 → Sta F2 (l1 ++ (p, .lst (ys.map V.int)) :: l2) H2 → nx σ H2) : tDrop (tBM K "list" rRemI (tVar i) (tCons ti tNil)) ⟨nx, rt, bk, ct⟩ σ H := by
  unfold remM at hm; split at hm
  · rename_i hin
    cases hm
    obtain ⟨j, e1, e2, e3⟩ := rem_at hin
    refine ⟨.ref p, hi, .inl ⟨rfl, _, .inl (.inl s.getAt)⟩, h2 F H .rfl s _ fun w F3 H3 g3 s3 hw => ⟨p, xs, k, j, rfl, by cases hw.toInt; rfl, s3.getAt, e1, e2, q F3 _ g3 ?_⟩⟩
    rw [e3]
    exact s3.putAt
  · cases hm
theorem d_isV {w : V} (hw : ∀ F v, Dt K F v d → v = w) (ha : EvD K ta σ F cs d cs1) : EvD K (tOp rIsN ta (tC .non)) σ F cs (.bool (decide (w = V.non))) cs1 := fun F1 H1 g1 s Q q =>
  ha F1 H1 g1 s _ fun v F2 H2 g2 s2 h2 => ⟨rfl, by cases hw F2 v h2; exact q _ F2 H2 g2 s2 (.bl _)⟩
theorem d_nisV {w : V} (hw : ∀ F v, Dt K F v d → v = w) (ha : EvD K ta σ F cs d cs1) : EvD K (tOp rNotN ta (tC .non)) σ F cs (.bool (!decide (w = V.non))) cs1 := fun F1 H1 g1 s Q q =>
  ha F1 H1 g1 s _ fun v F2 H2 g2 s2 h2 => ⟨rfl, by cases hw F2 v h2; exact q _ F2 H2 g2 s2 (.bl _)⟩
theorem d_isN (ha : EvD K ta σ F cs PyData.none cs1) : EvD K (tOp rIsN ta (tC .non)) σ F cs (.bool true) cs1 := d_isV (fun _ _ h => Dt.toNon h) ha
theorem d_nisN (ha : EvD K ta σ F cs PyData.none cs1) : EvD K (tOp rNotN ta (tC .non)) σ F cs (.bool false) cs1 := d_nisV (fun _ _ h => Dt.toNon h) ha
theorem d_isOI {o : Option Int} (ha : EvD K ta σ F cs (eO eI o) cs1) : EvD K (tOp rIsN ta (tC .non)) σ F cs (.bool o.isNone) cs1 := d_is (d_isV (fun _ _ h => dt_toI h) ha) (by cases o <;> rfl)
theorem d_nisOI {o : Option Int} (ha : EvD K ta σ F cs (eO eI o) cs1) : EvD K (tOp rNotN ta (tC .non)) σ F cs (.bool (!o.isNone)) cs1 := d_is (d_nisV (fun _ _ h => dt_toI h) ha) (by cases o <;> rfl)
end
end Bw
theorem Bw.sta0 {H : L2.Hp} : Bw.Sta H [] H := ⟨fun _ _ e => e, by simp, by simp, by simp⟩

namespace Bw
open PySem L2
/-! expressions that change cells -/
section
variable {K : PySem.W.Frag} {σ : St} {F F' : Hp} {cs cs1 cs2 cs3 : Cs} {ta tb tc te : TE} {d e : PyData} {as : TA} {a b c : Int} {nx bk ct : St → Hp → Prop} {rt : VK} {H : Hp} {t u : TS}
theorem d_lendX {l1 l2 m1 m2 : Cs} {p : Addr} {o : HO} {w : V} (hw : ∀ F v, Dt K F v d → v = w) (hd : ∀ F, Dt K F w d) (h : ∀ F1, Gr F F1 → F1 p = none → EvD K te σ (upd F1 p o) (l1 ++ l2) d (m1 ++ m2)) : EvD K te σ F (l1 ++ (p, o) :: l2) d (m1 ++ (p, o) :: m2) := fun F1 H1 g1 s Q q => by
  refine h F1 g1 s.freeAt (upd F1 p o) H1 .rfl s.frozeAt Q fun v F2 H2 g2 s2 h2 => ?_
  cases hw F2 v h2
  exact q w (cut F2 p) H2 (gr_cut s.freeAt g2) (Sta.lent g2 s2) (hd _)
theorem t_lendX {l1 l2 m1 m2 : Cs} {p : Addr} {o : HO} {t : TT} {b : Bool} (h : ∀ F1, Gr F F1 → F1 p = none → EvT t σ (upd F1 p o) (l1 ++ l2) b (m1 ++ m2)) : EvT t σ F (l1 ++ (p, o) :: l2) b (m1 ++ (p, o) :: m2) := fun F1 H1 g1 s Q q => by
  refine h F1 g1 s.freeAt (upd F1 p o) H1 .rfl s.frozeAt Q fun F2 H2 g2 s2 => ?_
  exact q (cut F2 p) H2 (gr_cut s.freeAt g2) (Sta.lent g2 s2)
/-! functions that change cells -/
inductive Ar where
  | d (x : PyData)
  | c (us : List V)
inductive ArgR (K : PySem.W.Frag) (F : Hp) : List V → List Ar → Cs → Prop
  | nil : ArgR K F [] [] []
  | d {v : V} {x : PyData} {vs : List V} {as : List Ar} {cs : Cs} : Dt K F v x → ArgR K F vs as cs → ArgR K F (v :: vs) (.d x :: as) cs
  | c {p : Addr} {us : List V} {vs : List V} {as : List Ar} {cs : Cs} : ArgR K F vs as cs → ArgR K F (.ref p :: vs) (.c us :: as) ((p, .lst us) :: cs)
theorem ArgR.no {vs : List V} {cs : Cs} (h : ArgR K F vs [] cs) : vs = [] ∧ cs = [] := by cases h; exact ⟨rfl, rfl⟩
theorem ArgR.hd {vs : List V} {x : PyData} {as : List Ar} {cs : Cs} (h : ArgR K F vs (.d x :: as) cs) : ∃ v ws, vs = v :: ws ∧ Dt K F v x ∧ ArgR K F ws as cs := by
  cases h with | d h t => exact ⟨_, _, rfl, h, t⟩
theorem ArgR.hc {vs : List V} {us : List V} {as : List Ar} {cs : Cs} (h : ArgR K F vs (.c us :: as) cs) : ∃ p ws cs', vs = .ref p :: ws ∧ cs = (p, .lst us) :: cs' ∧ ArgR K F ws as cs' := by
  cases h with | c t => exact ⟨_, _, _, rfl, rfl, t⟩
theorem ArgR.len : ∀ {vs : List V} {as : List Ar} {cs : Cs}, ArgR K F vs as cs → vs.length = as.length
  | _, _, _, .nil => rfl
  | _, _, _, .d _ t => by rw [List.length_cons, List.length_cons, t.len]
  | _, _, _, .c t => by rw [List.length_cons, List.length_cons, t.len]
def upC : Cs → List (List V) → Cs
  | c :: cs, us :: uss => (c.1, .lst us) :: upC cs uss
  | _, _ => []
def spC (K : PySem.W.Frag) {α β : Type} (A : α → List Ar) (B : β → PyData) (C : β → List (List V)) (f : α → Option β) : Sp := fun vs H Q _ => ∃ F cc cs x y, ArgR K F vs (A x) cc ∧ Sta F (cc ++ cs) H ∧ f x = some y ∧ ∀ v F2 H2, Gr F F2 → Sta F2 (upC cc (C y) ++ cs) H2 → Dt K F2 v (B y) → Q v H2
def EvR (K : PySem.W.Frag) (ta : TA) (σ : St) (F : Hp) (cs : Cs) (as : List Ar) (cc : Cs) (cs' : Cs) : Prop := EvA ta σ F cs (fun vs F' => ArgR K F' vs as cc) cs'
theorem ArgR.gr (g : Gr F F') : ∀ {vs : List V} {as : List Ar} {cs : Cs}, ArgR K F vs as cs → ArgR K F' vs as cs
  | _, _, _, .nil => .nil
  | _, _, _, .d h t => .d (h.gr g) (t.gr g)
  | _, _, _, .c t => .c (t.gr g)
theorem r_nil : EvR K tNil σ F cs [] [] cs := fun F1 H1 g s Q q => q _ F1 H1 .rfl s .nil
theorem r_d {xs : List Ar} {cc : Cs} (h : EvD K te σ F cs d cs1) (h2 : EvR K as σ F cs1 xs cc cs2) : EvR K (tCons te as) σ F cs (.d d :: xs) cc cs2 := fun F1 H1 g1 s Q q =>
  h F1 H1 g1 s _ fun v F2 H2 g2 s2 hv => h2 F2 H2 (g1.tr g2) s2 _ fun vs F3 H3 g3 s3 hvs => q _ F3 H3 (g2.tr g3) s3 (.d (hv.gr g3) hvs)
theorem r_c {xs : List Ar} {cc : Cs} {i : Nat} {p : Addr} {us : List V} (hi : σ[i]? = some (some (.ref p))) (h2 : EvR K as σ F cs xs cc cs2) : EvR K (tCons (tVar i) as) σ F cs (.c us :: xs) ((p, .lst us) :: cc) cs2 := fun F1 H1 g1 s Q q =>
  ⟨.ref p, hi, h2 F1 H1 g1 s _ fun vs F3 H3 g3 s3 hvs => q _ F3 H3 g3 s3 (.c hvs)⟩
theorem d_callC {α β : Type} {A : α → List Ar} {B : β → PyData} {C : β → List (List V)} {f : α → Option β} {x : α} {y : β} {E : XK} {cc cs' : Cs} (h : EvR K as σ F cs (A x) cc cs1) (hp : cs1.Perm (cc ++ cs')) (hf : f x = some y) (hq : (upC cc (C y) ++ cs').Perm cs2) : EvD K (tCall (spC K A B C f) [] E as) σ F cs (B y) cs2 := fun F1 H1 g1 s Q q =>
  h F1 H1 g1 s _ fun vs F2 H2 g2 s2 h2 => ⟨F2, cc, cs', x, y, by rw [List.append_nil]; exact h2, s2.perm hp, hf, fun v F3 H3 g3 s3 h3 => q v F3 H3 (g2.tr g3) (s3.perm hq) h3⟩
/-! comprehensions whose elements change cells -/
def lcS {S α β : Type} (f : S → α → Option (S × Option β)) : S → List α → Option (S × List β)
  | s, [] => some (s, [])
  | s, x :: xs => (f s x).bind fun p => (lcS f p.1 xs).bind fun q => some (q.1, match p.2 with
    | some y => y :: q.2
    | none => q.2)
def lcSC {S α β : Type} (f : S → α → Option (S × Option β)) (s : S) (xs : List α) : Option (S × List β) := if xs.length ≤ 100000 then lcS f s xs else none
theorem c_lcS {S α β : Type} {wi : TI} {g : TG} {tt : TT} {vs : List Nat} {xs : List α} {en : α → PyData} {em : β → PyData} {f : S → α → Option (S × Option β)} {ys : List β} {s0 s1 : S} (cc : S → Cs)
    (hi : EvI K wi σ F cs (xs.map en) (cc s0)) (hm : lcSC f s0 xs = some (s1, ys))
    (turn : ∀ x z z' o v F1 p us, Gr F F1 → Dt K F1 v (en x) → f z x = some (z', o) → ∃ σ2 : St, (∀ H (Q : St → Hp → Prop), Sta F1 ((p, .lst us) :: cc z) H → Q σ2 H → g v (wipe σ vs) H Q) ∧ wipe σ2 vs = wipe σ vs ∧
      EvT tt σ2 F1 ((p, .lst us) :: cc z) o.isSome ((p, .lst us) :: cc z) ∧ (o = none → z' = z) ∧ ∀ y, o = some y → EvD K te σ2 F1 ((p, .lst us) :: cc z) (em y) ((p, .lst us) :: cc z')) :
    EvC K (tLc wi g tt te vs) σ F cs (ys.map em) (cc s1) := fun F1 H1 g1 s Q q => by
  unfold lcSC at hm
  split at hm
  case isFalse => cases hm
  rename_i hl
  refine hi F1 H1 g1 s _ fun J F2 H2 g2 s2 hs => ?_
  intro p hp
  have s3 : Sta F2 ((p, .lst []) :: cc s0) (upd H2 p (.lst [])) := s2.cell hp
  refine ⟨fun i m H4 => m = xs.length - i ∧ i ≤ xs.length ∧ ∃ us done rest z F4, us.length ≤ i ∧ Gr F2 F4 ∧ Sta F4 ((p, .lst us) :: cc z) H4 ∧ Dts K F4 us (done.map em) ∧ lcS f z (xs.drop i) = some (s1, rest) ∧ done ++ rest = ys,
    ⟨xs.length, by simp, Nat.zero_le _, [], [], ys, s0, F2, Nat.le_refl _, .rfl, s3, .nil, by simpa using hm, rfl⟩, ?_⟩
  rintro i m H4 ⟨rfl, hi, us, done, rest, z, F4, hu, g4, s4, hd, hr, he⟩
  obtain ⟨hgo, hstop, hy⟩ := hs F4 _ H4 g4 s4
  by_cases hlt : i < xs.length
  · rw [List.drop_eq_getElem_cons hlt] at hr
    obtain ⟨⟨z', o⟩, ho, hr⟩ := bnd (show (f z xs[i]).bind _ = some (s1, rest) from hr)
    obtain ⟨⟨s1', zs⟩, hz, hr⟩ := bnd hr
    dsimp only at hz hr
    refine .inr ⟨hgo i (by simpa using hlt), fun H' => i + 1 ≤ xs.length ∧ ∃ us done rest z F4, us.length ≤ i + 1 ∧ Gr F2 F4 ∧ Sta F4 ((p, .lst us) :: cc z) H' ∧ Dts K F4 us (done.map em) ∧ lcS f z (xs.drop (i + 1)) = some (s1, rest) ∧ done ++ rest = ys, fun H' h' => ⟨xs.length - (i + 1), by omega, rfl, h'⟩, fun x H' y => ?_⟩
    obtain ⟨F5, g5, s5, d5⟩ := hy i x H' (en xs[i]) (by rw [List.getElem?_map, List.getElem?_eq_getElem hlt]; rfl) y
    obtain ⟨σ2, h1, h2, h3, hn, h4⟩ := turn xs[i] z z' o x F5 p us (g1.tr (g2.tr (g4.tr g5))) d5 ho
    refine h1 H' _ s5 ⟨h2, h3 F5 H' .rfl s5 _ fun F6 H6 g6 s6 => ?_⟩
    cases o with
    | none =>
      cases hr
      cases hn rfl
      exact ⟨hlt, us, done, zs, z, F6, Nat.le_succ_of_le hu, g4.tr (g5.tr g6), s6, hd.gr (g5.tr g6), hz, he⟩
    | some y1 =>
      cases hr
      refine (h4 y1 rfl) F6 H6 g6 s6 _ fun v F7 H7 g7 s7 hv => ⟨us, s7.at List.mem_cons_self, szl (by omega), hlt, us ++ [v], done ++ [y1], zs, z', F7, by rw [List.length_append]; exact Nat.succ_le_succ hu, g4.tr (g5.tr (g6.tr g7)), s7.put, ?_, hz, ?_⟩
      · rw [List.map_append]
        exact (hd.gr (g5.tr (g6.tr g7))).app (.cons hv .nil)
      · rw [List.append_assoc]; exact he
  · have e : i = xs.length := by omega
    subst e
    rw [List.drop_length] at hr
    cases hr
    rw [List.append_nil] at he
    subst he
    exact .inl ⟨by simpa using hstop, q p us F4 H4 (g2.tr g4) s4 hd⟩
/-! changes of a cell, where the values change other cells -/
theorem s_appX {k1 k2 l1 l2 : Cs} {i : Nat} {p : Addr} {vs : List V} (s : Sta F (k1 ++ (p, .lst vs) :: k2) H) (hi : σ[i]? = some (some (.ref p))) (h : EvD K te σ F (k1 ++ (p, .lst vs) :: k2) d (l1 ++ (p, .lst vs) :: l2)) (hl : vs.length < 100000)
    (q : ∀ v F2 H2, Gr F F2 → Sta F2 (l1 ++ (p, .lst (vs ++ [v])) :: l2) H2 → Dt K F2 v d → nx σ H2) : tDrop (tBM K "list" rAppend (tVar i) (tCons te tNil)) ⟨nx, rt, bk, ct⟩ σ H :=
  ⟨.ref p, hi, .inl ⟨rfl, _, .inl (.inl s.getAt)⟩, h F H .rfl s _ fun v F2 H2 g2 s2 h2 => ⟨p, vs, v, rfl, rfl, s2.getAt, szl hl, q v F2 _ g2 s2.putAt h2⟩⟩
theorem s_appFX {α : Type} {vf : α → V} {en : α → PyData} {k1 k2 l1 l2 : Cs} {i : Nat} {p : Addr} {xs ys : List α} {x : α} (hw : ∀ F v x, Dt K F v (en x) → v = vf x) (s : Sta F (k1 ++ (p, .lst (xs.map vf)) :: k2) H) (hi : σ[i]? = some (some (.ref p))) (h : EvD K te σ F (k1 ++ (p, .lst (xs.map vf)) :: k2) (en x) (l1 ++ (p, .lst (xs.map vf)) :: l2)) (hm : appM xs x = some ys)
    (q : ∀ F2 H2, Gr F F2 → Sta F2 (l1 ++ (p, .lst (ys.map vf)) :: l2) H2 → nx σ H2) : tDrop (tBM K "list" rAppend (tVar i) (tCons te tNil)) ⟨nx, rt, bk, ct⟩ σ H := by
  obtain ⟨hl, rfl⟩ := appM_some hm
  refine s_appX s hi h (by rw [List.length_map]; exact hl) fun v F2 H2 g2 s2 h2 => q F2 H2 g2 ?_
  cases hw F2 v x h2
  rw [List.map_append]; exact s2
theorem s_appGX {α : Type} {en : α → PyData} {k1 k2 l1 l2 : Cs} {i : Nat} {p : Addr} {vs : List V} {xs ys : List α} {x : α} (s : Sta F (k1 ++ (p, .lst vs) :: k2) H) (hf : Dts K F vs (xs.map en)) (hi : σ[i]? = some (some (.ref p))) (h : EvD K te σ F (k1 ++ (p, .lst vs) :: k2) (en x) (l1 ++ (p, .lst vs) :: l2)) (hm : appM xs x = some ys)
    (q : ∀ us F2 H2, Gr F F2 → Sta F2 (l1 ++ (p, .lst us) :: l2) H2 → Dts K F2 us (ys.map en) → nx σ H2) : tDrop (tBM K "list" rAppend (tVar i) (tCons te tNil)) ⟨nx, rt, bk, ct⟩ σ H := by
  obtain ⟨hl, rfl⟩ := appM_some hm
  refine s_appX s hi h (by rw [hf.len, List.length_map]; exact hl) fun v F2 H2 g2 s2 h2 => q _ F2 H2 g2 s2 ?_
  rw [List.map_append]; exact (hf.gr g2).app (.cons h2 .nil)
theorem s_itemX {k1 k2 m1 m2 l1 l2 : Cs} {i : Nat} {p : Addr} {vs : List V} {ti : TE} {k : Int} {j : Nat} (s : Sta F (k1 ++ (p, .lst vs) :: k2) H) (hi : σ[i]? = some (some (.ref p))) (h : EvD K te σ F (k1 ++ (p, .lst vs) :: k2) d (m1 ++ (p, .lst vs) :: m2))
    (h2 : EvD K ti σ F (m1 ++ (p, .lst vs) :: m2) (.int k) (l1 ++ (p, .lst vs) :: l2)) (hj : ixN vs.length k = some j) (q : ∀ v F2 H2, Gr F F2 → Sta F2 (l1 ++ (p, .lst (vs.set j v)) :: l2) H2 → Dt K F2 v d → nx σ H2) : tAsg te (gSub (tVar i) ti rSetL) ⟨nx, rt, bk, ct⟩ σ H :=
  h F H .rfl s _ fun v F2 H2 g2 s2 hv => ⟨.ref p, hi, h2 F2 H2 g2 s2 _ fun w F3 H3 g3 s3 hw => ⟨p, vs, k, j, rfl, hw.toInt, s3.getAt, hj, q v F3 _ (g2.tr g3) s3.putAt (hv.gr g3)⟩⟩
theorem s_itemFX {α : Type} {vf : α → V} {en : α → PyData} {k1 k2 m1 m2 l1 l2 : Cs} {i : Nat} {p : Addr} {xs ys : List α} {x : α} {ti : TE} {k : Int} (hw : ∀ F v x, Dt K F v (en x) → v = vf x) (s : Sta F (k1 ++ (p, .lst (xs.map vf)) :: k2) H) (hi : σ[i]? = some (some (.ref p))) (h : EvD K te σ F (k1 ++ (p, .lst (xs.map vf)) :: k2) (en x) (m1 ++ (p, .lst (xs.map vf)) :: m2))
    (h2 : EvD K ti σ F (m1 ++ (p, .lst (xs.map vf)) :: m2) (.int k) (l1 ++ (p, .lst (xs.map vf)) :: l2)) (hm : setM xs k x = some ys) (q : ∀ F2 H2, Gr F F2 → Sta F2 (l1 ++ (p, .lst (ys.map vf)) :: l2) H2 → nx σ H2) : tAsg te (gSub (tVar i) ti rSetL) ⟨nx, rt, bk, ct⟩ σ H := by
  obtain ⟨j, hj, rfl⟩ := setM_some hm
  refine s_itemX (j := j) s hi h h2 (by rw [List.length_map]; exact hj) fun v F2 H2 g2 s2 hv => q F2 H2 g2 ?_
  cases hw F2 v x hv
  rw [List.map_set]; exact s2
theorem s_itemGX {α : Type} {en : α → PyData} {k1 k2 m1 m2 l1 l2 : Cs} {i : Nat} {p : Addr} {vs : List V} {xs ys : List α} {x : α} {ti : TE} {k : Int} (s : Sta F (k1 ++ (p, .lst vs) :: k2) H) (hf : Dts K F vs (xs.map en)) (hi : σ[i]? = some (some (.ref p))) (h : EvD K te σ F (k1 ++ (p, .lst vs) :: k2) (en x) (m1 ++ (p, .lst vs) :: m2))
    (h2 : EvD K ti σ F (m1 ++ (p, .lst vs) :: m2) (.int k) (l1 ++ (p, .lst vs) :: l2)) (hm : setM xs k x = some ys) (q : ∀ us F2 H2, Gr F F2 → Sta F2 (l1 ++ (p, .lst us) :: l2) H2 → Dts K F2 us (ys.map en) → nx σ H2) : tAsg te (gSub (tVar i) ti rSetL) ⟨nx, rt, bk, ct⟩ σ H := by
  obtain ⟨j, hj, rfl⟩ := setM_some hm
  refine s_itemX (j := j) s hi h h2 (by rw [hf.len, List.length_map]; exact hj) fun v F2 H2 g2 s2 hv => q _ F2 H2 g2 s2 ?_
  rw [List.map_set]; exact (hf.gr g2).setAt j hv
end
end Bw
namespace Bw
open PySem L2
section
variable {K : PySem.W.Frag} {σ : St} {F F' : Hp} {cs cs1 cs2 cs3 : Cs} {ta tb tc te : TE} {d e : PyData} {as : TA} {a b c : Int} {nx bk ct : St → Hp → Prop} {rt : VK} {H : Hp} {t u : TS}
theorem s_augI {i : Nat} {σ' : St} {w b : Int} {f : Int → Int → Int} (hx : σ[i]? = some (some (.int w))) (s : Sta F cs H) (h : EvD K te σ F cs (.int b) cs1) (hσ : σ.set i (some (.int (f w b))) = σ') (q : ∀ F2 H2, Gr F F2 → Sta F2 cs1 H2 → nx σ' H2) : tAug i te (ipI f) ⟨nx, rt, bk, ct⟩ σ H :=
  ⟨.int w, hx, h F H .rfl s _ fun v F2 H2 g2 s2 h2 => ⟨w, b, rfl, h2.toInt, by show nx (σ.set i (some (.int (f w b)))) H2; rw [hσ]; exact q F2 H2 g2 s2⟩⟩
def rGetL (K : PySem.W.Frag) : V → V → Hp → VK → Prop := rIxL K
/-- o[i] op= e, o a cell of ints -/
theorem s_augS {k1 k2 m1 m2 l1 l2 : Cs} {i : Nat} {p : Addr} {xs ys : List Int} {ti : TE} {k w b : Int} {f : Int → Int → Int} (s : Sta F (k1 ++ (p, .lst (xs.map V.int)) :: k2) H) (hi : σ[i]? = some (some (.ref p))) (h1 : EvD K ti σ F (k1 ++ (p, .lst (xs.map V.int)) :: k2) (.int k) (m1 ++ (p, .lst (xs.map V.int)) :: m2)) (hg : atI xs k = some w)
    (h2 : EvD K te σ F (m1 ++ (p, .lst (xs.map V.int)) :: m2) (.int b) (l1 ++ (p, .lst (xs.map V.int)) :: l2)) (hm : setM xs k (f w b) = some ys) (q : ∀ F2 H2, Gr F F2 → Sta F2 (l1 ++ (p, .lst (ys.map V.int)) :: l2) H2 → nx σ H2) : tAugS (tVar i) ti te (rIxL K) (ipI f) rSetL ⟨nx, rt, bk, ct⟩ σ H := by
  obtain ⟨j, hj, rfl⟩ := setM_some hm
  refine ⟨.ref p, hi, h1 F H .rfl s _ fun v F2 H2 g2 s2 hv => ⟨p, xs.map V.int, k, .int w, rfl, hv.toInt, .inl (.inl s2.getAt), by rw [atI_map, hg]; rfl, h2 F2 H2 g2 s2 _ fun y F3 H3 g3 s3 hy => ⟨w, b, rfl, hy.toInt, p, xs.map V.int, k, j, rfl, hv.toInt, s3.getAt, by rw [List.length_map]; exact hj, q F3 _ (g2.tr g3) ?_⟩⟩⟩
  rw [List.map_set]; exact s3.putAt
theorem s_popFX {α : Type} {vf : α → V} {en : α → PyData} {k1 k2 l1 l2 : Cs} {i j : Nat} {p : Addr} {xs ys : List α} {x : α} {ti : TE} {k : Int} {σ' : St} (hd : ∀ F x, Dt K F (vf x) (en x)) (s : Sta F (k1 ++ (p, .lst (xs.map vf)) :: k2) H) (hi : σ[i]? = some (some (.ref p)))
    (h2 : EvD K ti σ F (k1 ++ (p, .lst (xs.map vf)) :: k2) (.int k) (l1 ++ (p, .lst (xs.map vf)) :: l2)) (hm : popM xs k = some (x, ys)) (hσ : σ.set j (some (vf x)) = σ') (q : ∀ F2 H2, Gr F F2 → Sta F2 (l1 ++ (p, .lst (ys.map vf)) :: l2) H2 → nx σ' H2) : tAsg (tBM K "list" rPopAt (tVar i) (tCons ti tNil)) (gName j) ⟨nx, rt, bk, ct⟩ σ H := by
  obtain ⟨⟨a1, a2⟩, m, b1, b2, rfl⟩ := popM_some hm
  refine ⟨.ref p, hi, .inl ⟨rfl, _, .inl (.inl s.getAt)⟩, h2 F H .rfl s _ fun w F3 H3 g3 s3 hw => ⟨p, xs.map vf, k, m, vf x, rfl, by cases hw.toInt; rfl, s3.getAt, a1, a2, by rw [List.length_map]; exact b1, by rw [List.getElem?_map, b2]; rfl, ?_⟩⟩
  show nx (σ.set j (some (vf x))) _
  rw [hσ]
  refine q F3 _ g3 ?_
  have s4 := s3.putAt (o' := .lst ((xs.map vf).eraseIdx m))
  rw [er_map]
  exact s4
theorem s_remFX {k1 k2 l1 l2 : Cs} {i : Nat} {p : Addr} {xs ys : List Int} {ti : TE} {k : Int} (s : Sta F (k1 ++ (p, .lst (xs.map V.int)) :: k2) H) (hi : σ[i]? = some (some (.ref p)))
    (h2 : EvD K ti σ F (k1 ++ (p, .lst (xs.map V.int)) :: k2) (.int k) (l1 ++ (p, .lst (xs.map V.int)) :: l2)) (hm : remM xs k = some ys) (q : ∀ F2 H2, Gr F F2 → Sta F2 (l1 ++ (p, .lst (ys.map V.int)) :: l2) H2 → nx σ H2) : tDrop (tBM K "list" rRemI (tVar i) (tCons ti tNil)) ⟨nx, rt, bk, ct⟩ σ H := by
  unfold remM at hm; split at hm
  · rename_i hin
    cases hm
    obtain ⟨j, e1, e2, e3⟩ := rem_at hin
    refine ⟨.ref p, hi, .inl ⟨rfl, _, .inl (.inl s.getAt)⟩, h2 F H .rfl s _ fun w F3 H3 g3 s3 hw => ⟨p, xs, k, j, rfl, by cases hw.toInt; rfl, s3.getAt, e1, e2, q F3 _ g3 ?_⟩⟩
    rw [e3]
    exact s3.putAt
  · cases hm
/-! f-strings -/
def EvJ (K : PySem.W.Frag) (ts : List TE) (σ : St) (F : Hp) (cs : Cs) (acc out : Str) (cs' : Cs) : Prop :=
  ∀ F1 H1, Gr F F1 → Sta F1 cs H1 → ∀ Q : Str → Hp → Prop, (∀ F2 H2, Gr F1 F2 → Sta F2 cs' H2 → Q out H2) → tJs ts acc σ H1 Q
theorem j_nil {acc : Str} : EvJ K [] σ F cs acc acc cs := fun F1 H1 g s Q q => q F1 H1 .rfl s
theorem j_cons {acc x y out : Str} {ts : List TE} (h : EvD K te σ F cs (.str x) cs1) (hy : scatM acc x = some y) (h2 : EvJ K ts σ F cs1 y out cs2) : EvJ K (te :: ts) σ F cs acc out cs2 := fun F1 H1 g1 s Q q =>
  h F1 H1 g1 s _ fun v F2 H2 g2 s2 hv => by
    obtain ⟨hl, rfl⟩ := scatM_some hy
    refine ⟨x, hv.toStr, ?_, h2 F2 H2 (g1.tr g2) s2 Q fun F3 H3 g3 s3 => q F3 H3 (g2.tr g3) s3⟩
    rw [TL.len_tl, TL.tl_append, List.length_append, ← TL.len_tl, ← TL.len_tl]
    exact sz hl
theorem d_fstr {ts : List TE} {out : Str} (h : EvJ K ts σ F cs Str.empty out cs1) : EvD K (fun σ H Q => tJs ts Str.empty σ H fun out H1 => Q (.str out) H1) σ F cs (.str out) cs1 := fun F1 H1 g1 s Q q =>
  h F1 H1 g1 s _ fun F2 H2 g2 s2 => q _ F2 H2 g2 s2 (.str _)
theorem d_fmtS {x : Str} (h : EvD K te σ F cs (.str x) cs1) (hl : lenS x = some a) : EvD K (tFmt te) σ F cs (.str x) cs1 := fun F1 H1 g1 s Q q =>
  h F1 H1 g1 s _ fun v F2 H2 g2 s2 hv => .inl ⟨x, hv.toStr, sz (lenS_some hl).1, q _ F2 H2 g2 s2 (.str _)⟩
theorem d_fmtI {x : Str} (h : EvD K te σ F cs (.int a) cs1) (hn : strM a = some x) : EvD K (tFmt te) σ F cs (.str x) cs1 := fun F1 H1 g1 s Q q =>
  h F1 H1 g1 s _ fun v F2 H2 g2 s2 hv => by
    obtain ⟨h1, rfl⟩ := strM_some hn
    exact .inr ⟨a, hv.toInt, h1, q _ F2 H2 g2 s2 (.str _)⟩
end
end Bw
namespace Bw
open PySem L2
theorem get_list {X : Cx} : PGet X (rIxL X.K) := by
  intro pins s σ H x y v u Q I rx ry h
  obtain ⟨p, xs, i, z, rfl, rfl, hq, he, q⟩ := h
  cases rx
  obtain ⟨t, rfl⟩ := ry
  obtain ⟨its, r, pl, hz⟩ := I.list hq
  obtain ⟨j, h1, h2, h3, h4, h5⟩ := atI_get he
  obtain ⟨w, ew, rw'⟩ := r.get h2
  have hl := r.length
  have hn := line63
  have fin : EP X pins σ Q w s := ⟨z, H, I, rw', q⟩
  by_cases h0 : 0 ≤ i
  · have hj : i.toNat = j := by
      rw [seqIndex_of h0 h5] at h1
      exact Option.some.inj h1
    exact wpAny_getItem_list pl.isList h0 (by omega) (by rw [hj]; simpa using ew) fin
  · have hj : (i + (its.toArray.size : Int)).toNat = j := by
      rw [seqIndex_neg (by omega) h4] at h1
      rw [List.size_toArray, ← hl]
      exact Option.some.inj h1
    exact wpAny_getItem_list_neg pl.isList (by omega) (by rw [List.size_toArray] <;> omega) (by omega) (by rw [hj]; simpa using ew) fin
end Bw
namespace Bw
open PySem L2
section
variable {K : PySem.W.Frag} {σ : St} {F F' : Hp} {cs cs1 cs2 cs3 : Cs} {ta tb tc te : TE} {d e : PyData} {as : TA} {a b c : Int} {nx bk ct : St → Hp → Prop} {rt : VK} {H : Hp} {t u : TS}
/-! what keeps the state true: another order, fewer cells -/
def Sb (c c' : Cs) : Prop := ∀ F H, Sta F c H → Sta F c' H
theorem sb_rfl : Sb cs cs := fun _ _ s => s
theorem sb_perm (p : cs.Perm cs1) : Sb cs cs1 := fun _ _ s => s.perm p
theorem sb_drop {c : Addr × HO} : Sb (c :: cs) cs := fun F H s => ⟨s.fr, fun p hp => s.sep p (List.mem_cons_of_mem _ hp), fun p hp => s.has p (List.mem_cons_of_mem _ hp), by have := s.nd; rw [List.map_cons, List.nodup_cons] at this; exact this.2⟩
theorem Sb.tr (h : Sb cs cs1) (k : Sb cs1 cs2) : Sb cs cs2 := fun F H s => k F H (h F H s)
/-- a function that changes cells, and tells data -/
theorem d_callX {α β : Type} {A : α → List Ar} {B : β → PyData} {C : β → List (List V)} {f : α → Option β} {x : α} {y : β} {E : XK} {cc cs' : Cs} (h : EvR K as σ F cs (A x) cc cs1) (hp : Sb cs1 (cc ++ cs')) (hf : f x = some y) (hq : Sb (upC cc (C y) ++ cs') cs2) : EvD K (tCall (spC K A B C f) [] E as) σ F cs (B y) cs2 := fun F1 H1 g1 s Q q =>
  h F1 H1 g1 s _ fun vs F2 H2 g2 s2 h2 => ⟨F2, cc, cs', x, y, by rw [List.append_nil]; exact h2, hp _ _ s2, hf, fun v F3 H3 g3 s3 h3 => q v F3 H3 (g2.tr g3) (hq _ _ s3) h3⟩
/-- .. that tells a new list -/
def spF (K : PySem.W.Frag) {α β : Type} (A : α → List Ar) (B : β → List PyData) (C : β → List (List V)) (f : α → Option β) : Sp := fun vs H Q _ => ∃ F cc cs x y, ArgR K F vs (A x) cc ∧ Sta F (cc ++ cs) H ∧ f x = some y ∧ ∀ p us F2 H2, Gr F F2 → Sta F2 ((p, .lst us) :: (upC cc (C y) ++ cs)) H2 → Dts K F2 us (B y) → Q (.ref p) H2
theorem c_callX {α β : Type} {A : α → List Ar} {B : β → List PyData} {C : β → List (List V)} {f : α → Option β} {x : α} {y : β} {E : XK} {cc cs' : Cs} (h : EvR K as σ F cs (A x) cc cs1) (hp : Sb cs1 (cc ++ cs')) (hf : f x = some y) (hq : ∀ z, Sb (z :: (upC cc (C y) ++ cs')) (z :: cs2)) : EvC K (tCall (spF K A B C f) [] E as) σ F cs (B y) cs2 := fun F1 H1 g1 s Q q =>
  h F1 H1 g1 s _ fun vs F2 H2 g2 s2 h2 => ⟨F2, cc, cs', x, y, by rw [List.append_nil]; exact h2, hp _ _ s2, hf, fun p us F3 H3 g3 s3 h3 => q p us F3 H3 (g2.tr g3) (hq _ _ _ s3) h3⟩
/-- an argument that is a new list of flat things -/
theorem r_n {xs : List Ar} {cc : Cs} {ds : List PyData} {us : List V} (h : EvC K te σ F cs ds cs1) (hu : ∀ F vs, Dts K F vs ds → vs = us) (h2 : ∀ p, EvR K as σ F ((p, .lst us) :: cs1) xs cc cs2) : True := trivial
theorem s_retC {ds : List PyData} (s : Sta F cs H) (h : EvC K te σ F cs ds cs1) (q : ∀ p us F2 H2, Gr F F2 → Sta F2 ((p, .lst us) :: cs1) H2 → Dts K F2 us ds → rt (.ref p) H2) : tRet te ⟨nx, rt, bk, ct⟩ σ H := h F H .rfl s _ q
theorem s_retV {i : Nat} {v : V} (hi : σ[i]? = some (some v)) (q : rt v H) : tRet (tVar i) ⟨nx, rt, bk, ct⟩ σ H := ⟨v, hi, q⟩
def fuel : Nat := 100000
end
end Bw
namespace Bw
open PySem L2
section
variable {K : PySem.W.Frag} {σ : St} {F F' : Hp} {cs cs1 cs2 cs3 : Cs} {ta tb tc te : TE} {d e : PyData} {as : TA}
/-- the first argument is a new list of flat things, which nobody keeps -/
theorem d_callN {α β : Type} {A : α → List Ar} {B : β → PyData} {C : β → List (List V)} {f : α → Option β} {x : α} {y : β} {E : XK} {cc cs' : Cs} {ds : List PyData} {us : List V} {xs : List Ar} (h : EvC K te σ F cs ds cs1) (hu : ∀ F vs, Dts K F vs ds → vs = us) (hA : A x = .c us :: xs) (h2 : ∀ p, EvR K as σ F ((p, .lst us) :: cs1) xs cc ((p, .lst us) :: cs2))
    (hp : ∀ p, Sb ((p, .lst us) :: cs2) ((p, .lst us) :: cc ++ cs')) (hf : f x = some y) (hq : ∀ p, Sb (upC ((p, .lst us) :: cc) (C y) ++ cs') cs3) : EvD K (tCall (spC K A B C f) [] E (tCons te as)) σ F cs (B y) cs3 := fun F1 H1 g1 s Q q =>
  h F1 H1 g1 s _ fun p vs F2 H2 g2 s2 hv => by
    cases hu F2 vs hv
    refine h2 p F2 H2 (g1.tr g2) s2 _ fun ws F3 H3 g3 s3 h3 => ⟨F3, (p, .lst us) :: cc, cs', x, y, by rw [List.append_nil, hA]; exact .c h3, hp p _ _ s3, hf, fun v F4 H4 g4 s4 h4 => q v F4 H4 ((g2.tr g3).tr g4) (hq p _ _ s4) h4⟩
theorem c_callN {α β : Type} {A : α → List Ar} {B : β → List PyData} {C : β → List (List V)} {f : α → Option β} {x : α} {y : β} {E : XK} {cc cs' : Cs} {ds : List PyData} {us : List V} {xs : List Ar} (h : EvC K te σ F cs ds cs1) (hu : ∀ F vs, Dts K F vs ds → vs = us) (hA : A x = .c us :: xs) (h2 : ∀ p, EvR K as σ F ((p, .lst us) :: cs1) xs cc ((p, .lst us) :: cs2))
    (hp : ∀ p, Sb ((p, .lst us) :: cs2) ((p, .lst us) :: cc ++ cs')) (hf : f x = some y) (hq : ∀ p z, Sb (z :: (upC ((p, .lst us) :: cc) (C y) ++ cs')) (z :: cs3)) : EvC K (tCall (spF K A B C f) [] E (tCons te as)) σ F cs (B y) cs3 := fun F1 H1 g1 s Q q =>
  h F1 H1 g1 s _ fun p vs F2 H2 g2 s2 hv => by
    cases hu F2 vs hv
    refine h2 p F2 H2 (g1.tr g2) s2 _ fun ws F3 H3 g3 s3 h3 => ⟨F3, (p, .lst us) :: cc, cs', x, y, by rw [List.append_nil, hA]; exact .c h3, hp p _ _ s3, hf, fun p' us' F4 H4 g4 s4 h4 => q p' us' F4 H4 ((g2.tr g3).tr g4) (hq p _ _ _ s4) h4⟩
end
end Bw

namespace Bw
open PySem L2
section
variable {K : PySem.W.Frag} {σ : St} {F F' : Hp} {cs cs1 cs2 cs3 : Cs} {ta tb tc te : TE} {d e : PyData} {as : TA} {a b c : Int} {nx bk ct : St → Hp → Prop} {rt : VK} {H : Hp} {t u : TS}
/-- a cell lent for a new list of flat things -/
theorem c_lendX {l1 l2 m1 m2 : Cs} {p : Addr} {o : HO} {ds : List PyData} {ws : List V} (hw : ∀ F vs, Dts K F vs ds → vs = ws) (hd : ∀ F, Dts K F ws ds) (h : ∀ F1, Gr F F1 → F1 p = none → EvC K te σ (upd F1 p o) (l1 ++ l2) ds (m1 ++ m2)) : EvC K te σ F (l1 ++ (p, o) :: l2) ds (m1 ++ (p, o) :: m2) := fun F1 H1 g1 s Q q => by
  refine h F1 g1 s.freeAt (upd F1 p o) H1 .rfl s.frozeAt Q fun p' vs F2 H2 g2 s2 h2 => ?_
  cases hw F2 vs h2
  exact q p' ws (cut F2 p) H2 (gr_cut s.freeAt g2) (Sta.lent (l1 := (p', .lst ws) :: m1) g2 s2) (hd _)
/-- xs.count(k) -/
theorem d_cntI {xs : List Int} (ha : EvD K ta σ F cs (eL eI xs) cs1) (hb : EvD K tb σ F cs1 (.int b) cs2) : EvD K (tBM K "list" (rCntI K) ta (tCons tb tNil)) σ F cs (.int ((xs.count b : Nat) : Int)) cs2 := fun F1 H1 g1 s Q q =>
  ha F1 H1 g1 s _ fun v F2 H2 g2 s2 h2 => by
    obtain ⟨p, vs, rfl, hl, hd⟩ := h2.toLst
    cases hd.ints
    exact ⟨.inl ⟨rfl, _, gr_L s2.fr hl⟩, hb F2 H2 (g1.tr g2) s2 _ fun w F3 H3 g3 s3 h3 => ⟨p, xs, b, rfl, by rw [h3.toInt], gr_L s3.fr (gr_L g3 hl), q _ F3 H3 (g2.tr g3) s3 (.int _)⟩⟩
/-- y.extend(new list) -/
theorem s_ext {k1 k2 l1 l2 : Cs} {i : Nat} {p : Addr} {vs : List V} {ds : List PyData} (s : Sta F (k1 ++ (p, .lst vs) :: k2) H) (hi : σ[i]? = some (some (.ref p))) (h : EvC K te σ F (k1 ++ (p, .lst vs) :: k2) ds (l1 ++ (p, .lst vs) :: l2)) (hl : vs.length + ds.length ≤ 100000)
    (q : ∀ us F2 H2, Gr F F2 → Sta F2 (l1 ++ (p, .lst (vs ++ us)) :: l2) H2 → Dts K F2 us ds → nx σ H2) : tDrop (tBM K "list" rExtend (tVar i) (tCons te tNil)) ⟨nx, rt, bk, ct⟩ σ H :=
  ⟨.ref p, hi, .inl ⟨rfl, _, .inl (.inl s.getAt)⟩, h F H .rfl s _ fun b us F2 H2 g2 s2 h2 => ⟨p, b, vs, us, rfl, rfl, Sta.getAt (l1 := (b, .lst us) :: l1) s2, s2.at List.mem_cons_self, by rw [h2.len]; exact sz hl, q us _ _ (g2.tr s2.gfr) s2.froze.putAt (h2.gr s2.gfr)⟩⟩
theorem s_extFX {α : Type} {vf : α → V} {en : α → PyData} {k1 k2 l1 l2 : Cs} {i : Nat} {p : Addr} {xs ys zs : List α} (hw : ∀ F vs (ys : List α), Dts K F vs (ys.map en) → vs = ys.map vf) (s : Sta F (k1 ++ (p, .lst (xs.map vf)) :: k2) H) (hi : σ[i]? = some (some (.ref p))) (h : EvC K te σ F (k1 ++ (p, .lst (xs.map vf)) :: k2) (ys.map en) (l1 ++ (p, .lst (xs.map vf)) :: l2)) (hm : catM xs ys = some zs)
    (q : ∀ F2 H2, Gr F F2 → Sta F2 (l1 ++ (p, .lst (zs.map vf)) :: l2) H2 → nx σ H2) : tDrop (tBM K "list" rExtend (tVar i) (tCons te tNil)) ⟨nx, rt, bk, ct⟩ σ H := by
  obtain ⟨hl, rfl⟩ := catM_some hm
  refine s_ext s hi h (by rw [List.length_map, List.length_map]; exact hl) fun us F2 H2 g2 s2 h2 => q F2 H2 g2 ?_
  cases hw F2 us ys h2
  rw [List.map_append]; exact s2
theorem s_extGX {α : Type} {en : α → PyData} {k1 k2 l1 l2 : Cs} {i : Nat} {p : Addr} {vs : List V} {xs ys zs : List α} (s : Sta F (k1 ++ (p, .lst vs) :: k2) H) (hf : Dts K F vs (xs.map en)) (hi : σ[i]? = some (some (.ref p))) (h : EvC K te σ F (k1 ++ (p, .lst vs) :: k2) (ys.map en) (l1 ++ (p, .lst vs) :: l2)) (hm : catM xs ys = some zs)
    (q : ∀ us F2 H2, Gr F F2 → Sta F2 (l1 ++ (p, .lst us) :: l2) H2 → Dts K F2 us (zs.map en) → nx σ H2) : tDrop (tBM K "list" rExtend (tVar i) (tCons te tNil)) ⟨nx, rt, bk, ct⟩ σ H := by
  obtain ⟨hl, rfl⟩ := catM_some hm
  refine s_ext s hi h (by rw [hf.len, List.length_map, List.length_map]; exact hl) fun us F2 H2 g2 s2 h2 => q _ F2 H2 g2 s2 ?_
  rw [List.map_append]; exact (hf.gr g2).app h2
/-- y.clear() -/
theorem s_clr {l1 l2 : Cs} {i : Nat} {p : Addr} {vs : List V} (s : Sta F (l1 ++ (p, .lst vs) :: l2) H) (hi : σ[i]? = some (some (.ref p))) (q : Sta F (l1 ++ (p, .lst []) :: l2) (upd H p (.lst [])) → nx σ (upd H p (.lst []))) : tDrop (tBM0 K "list" rClear (tVar i)) ⟨nx, rt, bk, ct⟩ σ H :=
  ⟨.ref p, hi, .inl ⟨rfl, _, .inl (.inl s.getAt)⟩, p, vs, rfl, rfl, s.getAt, q s.putAt⟩
end
end Bw

namespace Bw
open PySem L2
/-! things of any kind: casts -/
def Ck {α : Type} (e : α → PyData) (c : PyData → Option α) : Prop := ∀ d x, c d = some x → d = e x
def asI : PyData → Option Int
  | .int i => some i
  | _ => none
def asB : PyData → Option Bool
  | .bool b => some b
  | _ => none
def asS : PyData → Option Str
  | .str x => some x
  | _ => none
def asN : PyData → Option Unit
  | .none => some ()
  | _ => none
def asAll {α : Type} (c : PyData → Option α) : List PyData → Option (List α)
  | [] => some []
  | d :: ds => (c d).bind fun x => (asAll c ds).bind fun xs => some (x :: xs)
def asL {α : Type} (c : PyData → Option α) : PyData → Option (List α)
  | .list ds => asAll c ds
  | _ => none
def asD (d : PyData) : Option PyData := some d
def asLD : PyData → Option (List PyData)
  | .list ds => some ds
  | _ => none
def asTD : PyData → Option (List PyData)
  | .tuple ds => some ds
  | _ => none
def asT2 {α β : Type} (c : PyData → Option α) (c' : PyData → Option β) : PyData → Option (α × β)
  | .tuple [a, b] => (c a).bind fun x => (c' b).bind fun y => some (x, y)
  | _ => none
def asT3 {α β γ : Type} (c : PyData → Option α) (c' : PyData → Option β) (c'' : PyData → Option γ) : PyData → Option (α × β × γ)
  | .tuple [a, b, d] => (c a).bind fun x => (c' b).bind fun y => (c'' d).bind fun z => some (x, y, z)
  | _ => none
def asT4 {α β γ δ : Type} (c : PyData → Option α) (c' : PyData → Option β) (c'' : PyData → Option γ) (c3 : PyData → Option δ) : PyData → Option (α × β × γ × δ)
  | .tuple [a, b, d, e] => (c a).bind fun x => (c' b).bind fun y => (c'' d).bind fun z => (c3 e).bind fun w => some (x, y, z, w)
  | _ => none
def asO {α : Type} (c : PyData → Option α) : PyData → Option (Option α)
  | .none => some none
  | d => (c d).bind fun x => some (some x)
theorem ck_D : Ck eD asD := fun d x h => by cases h; rfl
theorem ck_I : Ck eI asI := fun d x h => by cases d <;> first | (cases h; rfl) | cases h
theorem ck_B : Ck eB asB := fun d x h => by cases d <;> first | (cases h; rfl) | cases h
theorem ck_S : Ck eS asS := fun d x h => by cases d <;> first | (cases h; rfl) | cases h
theorem ck_N : Ck eN asN := fun d x h => by cases d <;> first | (cases h; rfl) | cases h
theorem ck_all {α : Type} {e : α → PyData} {c : PyData → Option α} (k : Ck e c) : ∀ {ds : List PyData} {xs : List α}, asAll c ds = some xs → ds = xs.map e
  | [], xs, h => by cases h; rfl
  | d :: ds, xs, h => by
    obtain ⟨x, h1, h⟩ := bnd h
    obtain ⟨ys, h2, h⟩ := bnd h
    cases h
    rw [k d x h1, ck_all k h2]; rfl
theorem ck_L {α : Type} {e : α → PyData} {c : PyData → Option α} (k : Ck e c) : Ck (eL e) (asL c) := fun d x h => by
  cases d with
  | list ds => exact congrArg PyData.list (ck_all k (show asAll c ds = some x from h))
  | _ => cases h
theorem ck_LD : Ck (eL eD) asLD := fun d x h => by
  cases d with
  | list ds =>
    cases h
    exact congrArg PyData.list (List.map_id' x).symm
  | _ => cases h
theorem ck_TD {d : PyData} {x : List PyData} (h : asTD d = some x) : d = .tuple x := by
  cases d with
  | tuple ds => cases h; rfl
  | _ => cases h
theorem ck_T2 {α β : Type} {e : α → PyData} {c : PyData → Option α} {e' : β → PyData} {c' : PyData → Option β} (k : Ck e c) (k' : Ck e' c') : Ck (eT2 e e') (asT2 c c') := fun d x h => by
  unfold asT2 at h
  split at h
  · obtain ⟨y, h1, h⟩ := bnd h
    obtain ⟨z, h2, h⟩ := bnd h
    cases h
    rw [k _ _ h1, k' _ _ h2]
  · cases h
theorem ck_T3 {α β γ : Type} {e : α → PyData} {c : PyData → Option α} {e' : β → PyData} {c' : PyData → Option β} {e2 : γ → PyData} {c2 : PyData → Option γ} (k : Ck e c) (k' : Ck e' c') (k2 : Ck e2 c2) : Ck (eT3 e e' e2) (asT3 c c' c2) := fun d x h => by
  unfold asT3 at h
  split at h
  · obtain ⟨y, h1, h⟩ := bnd h
    obtain ⟨z, h2, h⟩ := bnd h
    obtain ⟨z', h3, h⟩ := bnd h
    cases h
    rw [k _ _ h1, k' _ _ h2, k2 _ _ h3]
  · cases h
theorem ck_T4 {α β γ δ : Type} {e : α → PyData} {c : PyData → Option α} {e' : β → PyData} {c' : PyData → Option β} {e2 : γ → PyData} {c2 : PyData → Option γ} {e3 : δ → PyData} {c3 : PyData → Option δ} (k : Ck e c) (k' : Ck e' c') (k2 : Ck e2 c2) (k3 : Ck e3 c3) : Ck (eT4 e e' e2 e3) (asT4 c c' c2 c3) := fun d x h => by
  unfold asT4 at h
  split at h
  · obtain ⟨y, h1, h⟩ := bnd h
    obtain ⟨z, h2, h⟩ := bnd h
    obtain ⟨z', h3, h⟩ := bnd h
    obtain ⟨z2, h4, h⟩ := bnd h
    cases h
    rw [k _ _ h1, k' _ _ h2, k2 _ _ h3, k3 _ _ h4]
  · cases h
theorem ck_O {α : Type} {e : α → PyData} {c : PyData → Option α} (k : Ck e c) : Ck (eO e) (asO c) := fun d x h => by
  unfold asO at h
  split at h
  · cases h; rfl
  · obtain ⟨y, h1, h⟩ := bnd h
    cases h
    exact k _ _ h1
/-! .. and the other way -/
def Cv {α β : Type} (e : α → PyData) (e' : β → PyData) (g : α → β) : Prop := ∀ x, e x = e' (g x)
theorem cv_id {α : Type} {e : α → PyData} : Cv e e (fun x => x) := fun _ => rfl
theorem cv_D {α : Type} {e : α → PyData} : Cv e eD e := fun _ => rfl
theorem cv_some {α β : Type} {e : α → PyData} {e' : β → PyData} {g : α → β} (h : Cv e e' g) : Cv e (eO e') (fun x => some (g x)) := fun x => h x
theorem cv_none {β : Type} {e' : β → PyData} : Cv eN (eO e') (fun _ => (none : Option β)) := fun _ => rfl
theorem cv_O {α β : Type} {e : α → PyData} {e' : β → PyData} {g : α → β} (h : Cv e e' g) : Cv (eO e) (eO e') (fun x => x.map g) := fun x => by cases x with
  | none => rfl
  | some y => exact h y
theorem cv_OD {α : Type} {e : α → PyData} : Cv (eO e) eD (eO e) := fun _ => rfl
theorem cv_L {α β : Type} {e : α → PyData} {e' : β → PyData} {g : α → β} (h : Cv e e' g) : Cv (eL e) (eL e') (fun xs => xs.map g) := fun xs => by
  show PyData.list _ = PyData.list _
  rw [List.map_map]
  exact congrArg PyData.list (List.map_congr_left fun x _ => h x)
theorem cv_T2 {α α' β β' : Type} {e : α → PyData} {e' : α' → PyData} {g : α → α'} {f : β → PyData} {f' : β' → PyData} {k : β → β'} (h : Cv e e' g) (h' : Cv f f' k) : Cv (eT2 e f) (eT2 e' f') (fun x => (g x.1, k x.2)) := fun x => by
  show PyData.tuple _ = PyData.tuple _
  rw [h, h']
theorem cv_T3 {α α' β β' γ γ' : Type} {e : α → PyData} {e' : α' → PyData} {g : α → α'} {f : β → PyData} {f' : β' → PyData} {k : β → β'} {i : γ → PyData} {i' : γ' → PyData} {m : γ → γ'} (h : Cv e e' g) (h' : Cv f f' k) (h2 : Cv i i' m) : Cv (eT3 e f i) (eT3 e' f' i') (fun x => (g x.1, k x.2.1, m x.2.2)) := fun x => by
  show PyData.tuple _ = PyData.tuple _
  rw [h, h', h2]
theorem cv_T4 {α α' β β' γ γ' δ δ' : Type} {e : α → PyData} {e' : α' → PyData} {g : α → α'} {f : β → PyData} {f' : β' → PyData} {k : β → β'} {i : γ → PyData} {i' : γ' → PyData} {m : γ → γ'} {u : δ → PyData} {u' : δ' → PyData} {w : δ → δ'} (h : Cv e e' g) (h' : Cv f f' k) (h2 : Cv i i' m) (h3 : Cv u u' w) : Cv (eT4 e f i u) (eT4 e' f' i' u') (fun x => (g x.1, k x.2.1, m x.2.2.1, w x.2.2.2)) := fun x => by
  show PyData.tuple _ = PyData.tuple _
  rw [h, h', h2, h3]
/-! what is asked of things of any kind -/
def ixD : PyData → Int → Option PyData
  | .list ds, i => atI ds i
  | .tuple ds, i => atI ds i
  | .str x, i => (ixS x i).map PyData.str
  | _, _ => none
def lenD : PyData → Option Int
  | .list ds => some ds.length
  | .tuple ds => some ds.length
  | .str x => lenS x
  | _ => none
abbrev rLenG (K : PySem.W.Frag) : List V → Hp → VK → Prop := fun xs H Q => ∃ x n, xs = [x] ∧ LenV K x H n ∧ Q (.int n) H
theorem cr_lenG {X : Cx} : CallR X (.builtin "len") (rLenG X.K) := call_len
section
variable {K : PySem.W.Frag} {σ : St} {F F' : Hp} {cs cs1 cs2 cs3 : Cs} {ta tb tc te : TE} {d e : PyData} {as : TA} {a b c : Int}
theorem d_ixD {z : PyData} (ha : EvD K ta σ F cs d cs1) (hb : EvD K tb σ F cs1 (.int b) cs2) (hz : ixD d b = some z) : EvD K (tOp (rIx K) ta tb) σ F cs z cs2 := by
  intro F1 H1 g1 s Q q
  refine ha F1 H1 g1 s _ fun v F2 H2 g2 s2 h2 => hb F2 H2 (g1.tr g2) s2 _ fun w F3 H3 g3 s3 h3 => ?_
  cases d with
  | list ds =>
    refine .inl ?_
    have k := d_ixLs (K := K) (σ := [some v, some w]) (F := F3) (cs := cs2) (ta := tVar 0) (tb := tVar 1) (d_var rfl (h2.gr g3)) (d_var rfl h3) hz F3 H3 .rfl s3 Q fun v F4 H4 g4 s4 h4 => q v F4 H4 (g2.tr (g3.tr g4)) s4 h4
    obtain ⟨v', e', w', e'', k⟩ := k
    cases e'; cases e''; exact k
  | tuple ds =>
    refine .inr (.inl ?_)
    have k := d_ixT (K := K) (σ := [some v, some w]) (F := F3) (cs := cs2) (ta := tVar 0) (tb := tVar 1) (d_var rfl (h2.gr g3)) (d_var rfl h3) hz F3 H3 .rfl s3 Q fun v F4 H4 g4 s4 h4 => q v F4 H4 (g2.tr (g3.tr g4)) s4 h4
    obtain ⟨v', e', w', e'', k⟩ := k
    cases e'; cases e''; exact k
  | str x =>
    have hz : (ixS x b).map PyData.str = some z := hz
    cases hx : ixS x b with
    | none => rw [hx] at hz; cases hz
    | some y =>
      rw [hx] at hz; cases hz
      refine .inr (.inr ?_)
      have k := d_ixS (K := K) (σ := [some v, some w]) (F := F3) (cs := cs2) (ta := tVar 0) (tb := tVar 1) (d_var rfl (h2.gr g3)) (d_var rfl h3) hx F3 H3 .rfl s3 Q fun v F4 H4 g4 s4 h4 => q v F4 H4 (g2.tr (g3.tr g4)) s4 h4
      obtain ⟨v', e', w', e'', k⟩ := k
      cases e'; cases e''; exact k
  | none => cases hz
  | bool _ => cases hz
  | int _ => cases hz
  | dict _ => cases hz
theorem d_lenD {n : Int} (ha : EvDs K as σ F cs [d] cs1) (hn : lenD d = some n) : EvD K (tCB (rLenG K) as) σ F cs (.int n) cs1 := d_cb ha fun vs F2 H2 h s Q q => by
  obtain ⟨v, rfl, k1⟩ := h.one
  cases d with
  | list ds =>
    obtain ⟨p, ys, rfl, hl, hd⟩ := k1.toLst
    cases hn
    exact ⟨_, ys.length, rfl, .inl ⟨ys, gr_L s.fr hl, rfl⟩, q _ F2 H2 .rfl s (by rw [hd.len]; exact .int _)⟩
  | tuple ds =>
    obtain ⟨p, ys, rfl, hl, hd⟩ := k1.toTup
    cases hn
    exact ⟨_, ys.length, rfl, .inr ⟨ys, gr_T s.fr hl, rfl⟩, q _ F2 H2 .rfl s (by rw [hd.len]; exact .int _)⟩
  | str x =>
    cases k1.toStr
    obtain ⟨h1, rfl⟩ := lenS_some hn
    exact ⟨_, x.length, rfl, ⟨sz h1, rfl⟩, q _ F2 H2 .rfl s (.int _)⟩
  | none => cases hn
  | bool _ => cases hn
  | int _ => cases hn
  | dict _ => cases hn
/-- is True, is False -/
def isBlD (b : Bool) : PyData → Bool
  | .bool c => decide (c = b)
  | _ => false
/-- a walk over a tuple -/
theorem src_tup {p : Addr} {vs : List V} {ds : List PyData} (h : SqT K F p vs) (hd : Dts K F vs ds) : Src K (Itt K p) F ds := fun F1 c1 H1 g s => by
  have q : SqT K H1 p vs := gr_T s.fr (gr_T g h)
  refine ⟨fun i hi => ?_, ⟨vs, q, by rw [hd.len]; exact Nat.le_refl _⟩, fun i v H2 d e y => ?_⟩
  · have hi' : i < vs.length := by rw [hd.len]; exact hi
    exact ⟨vs, vs[i], q, List.getElem?_eq_getElem hi'⟩
  · obtain ⟨rfl, y⟩ := y
    obtain ⟨d', e', h'⟩ := hd.get (y vs q)
    rw [e] at e'; cases e'
    exact ⟨F1, .rfl, s, h'.gr g⟩
theorem i_tup {ds : List PyData} (h : EvD K te σ F cs (.tuple ds) cs1) : EvI K (iTup K te) σ F cs ds cs1 := fun F1 H1 g1 s R q =>
  h F1 H1 g1 s _ fun v F2 H2 g2 s2 h2 => by
    obtain ⟨p, vs, rfl, hs, hd⟩ := h2.toTup
    exact ⟨p, rfl, ⟨vs, gr_T s2.fr hs⟩, q _ F2 H2 g2 s2 (src_tup hs hd)⟩
/-- xs[::-1] -/
theorem c_rev {α : Type} {en : α → PyData} {xs : List α} (h : EvD K te σ F cs (eL en xs) cs1) : EvC K (tRevL K te) σ F cs (xs.reverse.map en) cs1 := fun F1 H1 g1 s Q q =>
  h F1 H1 g1 s _ fun v F2 H2 g2 s2 hv => by
    obtain ⟨p, vs, rfl, hl, hd⟩ := hv.toLst
    refine ⟨p, vs, rfl, gr_L s2.fr hl, fun l nl => q _ _ _ _ g2 (s2.cell nl) ?_⟩
    have : ∀ {us : List V} {ds : List PyData}, Dts K F2 us ds → Dts K F2 us.reverse ds.reverse := by
      intro us ds h
      induction us generalizing ds with
      | nil => cases h; exact .nil
      | cons u us ih => cases h with | cons a b => rw [List.reverse_cons, List.reverse_cons]; exact (ih b).app (.cons a .nil)
    rw [List.map_reverse]
    exact this hd
/-- slices of a tuple -/
theorem d_slT {ds : List PyData} {tl th : TO} {lo hi : Option Int} (h : EvD K te σ F cs (.tuple ds) cs1) (h1 : EvO tl σ F cs1 lo cs2) (h2 : EvO th σ F cs2 hi cs3) : EvD K (tSl (rSlA K) te tl th) σ F cs (.tuple (cutL ds lo hi)) cs3 := fun F1 H1 g1 s Q q =>
  h F1 H1 g1 s _ fun v F2 H2 g2 s2 hv => h1 F2 H2 (g1.tr g2) s2 _ fun F3 H3 g3 s3 => h2 F3 H3 ((g1.tr g2).tr g3) s3 _ fun F4 H4 g4 s4 => by
    obtain ⟨p, vs, rfl, hl, hd⟩ := hv.toTup
    have hd' := hd.gr (g3.tr g4)
    refine ⟨p, vs, rfl, gr_T s4.fr (gr_T (g3.tr g4) hl), fun hw => q _ F4 H4 (g2.tr (g3.tr g4)) s4 ?_, fun _ l nl => q _ _ _ ((g2.tr (g3.tr g4)).tr (Gr.new (s4.fr.back nl))) (s4.lay nl) (.tup (.inl (.inl upd_same)) ?_)⟩
    · have e : cutL ds lo hi = ds := by
        unfold cutL
        rw [← hd.len, hw.1, hw.2, List.drop_zero, Nat.sub_zero, hd.len, List.take_length]
      rw [e]
      exact .tup (gr_T (g3.tr g4) hl) hd'
    · unfold cutV cutL
      rw [hd.len]
      exact ((hd'.gr (Gr.new (s4.fr.back nl))).drop _).take _
end
end Bw

namespace Bw
open PySem L2
abbrev eT0 : Unit → PyData := fun _ => .tuple []
/-! is True, is False, is None of anything -/
def rIsBl : R2 := fun x y H Q => ∃ b, y = .bl b ∧ Q (.bl (decide (x = .bl b))) H
def rNisBl : R2 := fun x y H Q => ∃ b, y = .bl b ∧ Q (.bl (!decide (x = .bl b))) H
theorem relV_bool {x : V} {v : Value} {b : Bool} (r : RelV x v) : plainIs v (.bool b) = true ∧ (v == Value.bool b) = decide (x = .bl b) := by
  cases x with
  | bl c =>
    cases (show v = Value.bool c from r)
    refine ⟨rfl, ?_⟩
    by_cases h : c = b
    · subst h; simp
    · rw [decide_eq_false (fun z => h (V.bl.inj z))]
      exact beq_eq_false_iff_ne.mpr fun z => h (Value.bool.inj z)
  | non => cases (show v = Value.none from r); exact ⟨rfl, rfl⟩
  | ref a => cases (show v = Value.ref a from r); exact ⟨rfl, rfl⟩
  | ty n => cases (show v = Value.type n from r); exact ⟨rfl, rfl⟩
  | int i => obtain ⟨t, rfl⟩ := r; exact ⟨rfl, rfl⟩
  | str i => obtain ⟨t, rfl⟩ := r; exact ⟨rfl, rfl⟩
  | byt i => obtain ⟨t, rfl⟩ := r; exact ⟨rfl, rfl⟩
  | flt i => obtain ⟨t, rfl⟩ := r; exact ⟨rfl, rfl⟩
theorem op_isB {X : Cx} : OpR X (compareOp .Is) rIsBl := by
  intro pins s σ H x y v u Q I rx ry h
  obtain ⟨b, rfl, q⟩ := h
  cases (show u = Value.bool b from ry)
  obtain ⟨h1, h2⟩ := relV_bool (b := b) rx
  exact wpAny_is_plain h1 ⟨.bl _, H, I, by rw [h2]; rfl, q⟩
theorem op_nisB {X : Cx} : OpR X (compareOp .IsNot) rNisBl := by
  intro pins s σ H x y v u Q I rx ry h
  obtain ⟨b, rfl, q⟩ := h
  cases (show u = Value.bool b from ry)
  obtain ⟨h1, h2⟩ := relV_bool (b := b) rx
  exact wpAny_isNot_plain h1 ⟨.bl _, H, I, by rw [h2]; rfl, q⟩
def isNoD : PyData → Bool
  | .none => true
  | _ => false
section
variable {K : PySem.W.Frag} {σ : St} {F F' : Hp} {cs cs1 cs2 cs3 : Cs} {ta tb tc te : TE} {d e : PyData} {as : TA} {a b c : Int}
theorem Dt.noD {v : V} (h : Dt K F v d) : decide (v = V.non) = isNoD d := by cases h <;> rfl
theorem Dt.blD {v : V} {b : Bool} (h : Dt K F v d) : decide (v = V.bl b) = isBlD b d := by
  cases h with
  | bl c =>
    show decide (V.bl c = V.bl b) = decide (c = b)
    by_cases q : c = b
    · subst q; simp
    · rw [decide_eq_false q, decide_eq_false (fun z => q (V.bl.inj z))]
  | _ => rfl
theorem d_isD (ha : EvD K ta σ F cs d cs1) : EvD K (tOp rIsN ta (tC .non)) σ F cs (.bool (isNoD d)) cs1 := fun F1 H1 g1 s Q q =>
  ha F1 H1 g1 s _ fun v F2 H2 g2 s2 h2 => ⟨rfl, q _ F2 H2 g2 s2 (by rw [h2.noD]; exact .bl _)⟩
theorem d_nisD (ha : EvD K ta σ F cs d cs1) : EvD K (tOp rNotN ta (tC .non)) σ F cs (.bool (!isNoD d)) cs1 := fun F1 H1 g1 s Q q =>
  ha F1 H1 g1 s _ fun v F2 H2 g2 s2 h2 => ⟨rfl, q _ F2 H2 g2 s2 (by rw [h2.noD]; exact .bl _)⟩
theorem d_isBl {b : Bool} (ha : EvD K ta σ F cs d cs1) : EvD K (tOp rIsBl ta (tC (.bl b))) σ F cs (.bool (isBlD b d)) cs1 := fun F1 H1 g1 s Q q =>
  ha F1 H1 g1 s _ fun v F2 H2 g2 s2 h2 => ⟨b, rfl, q _ F2 H2 g2 s2 (by rw [h2.blD]; exact .bl _)⟩
theorem d_nisBl {b : Bool} (ha : EvD K ta σ F cs d cs1) : EvD K (tOp rNisBl ta (tC (.bl b))) σ F cs (.bool (!isBlD b d)) cs1 := fun F1 H1 g1 s Q q =>
  ha F1 H1 g1 s _ fun v F2 H2 g2 s2 h2 => ⟨b, rfl, q _ F2 H2 g2 s2 (by rw [h2.blD]; exact .bl _)⟩
/-! a dict of which nothing is asked but its kind -/
theorem d_dict0 : EvD K tDNewK σ F cs (.dict []) cs := fun F1 H1 g1 s Q q => fun p hp => q _ _ _ (Gr.new (s.fr.back hp)) (s.lay hp) (.dct upd_same)
/-- {k: v}, both written, a text for a key -/
theorem d_dict1 {x : Str} {w : V} : EvD K (tDisp [(tC (.str x), tC w)]) σ F cs (.dict []) cs := fun F1 H1 g1 s Q q => fun p hp => by
  refine ⟨upd_same, [(Sum.inr x, w)], rfl, by show 1 ≤ 15; decide, ?_⟩
  rw [upd_upd]
  exact q _ _ _ (Gr.new (s.fr.back hp)) (s.lay hp) (.dct upd_same)
/-! formats -/
def fmtD : PyData → Option Str
  | .int i => strM i
  | .str x => (lenS x).bind fun _ => some x
  | _ => none
theorem d_fmtD {x : Str} (h : EvD K te σ F cs d cs1) (hn : fmtD d = some x) : EvD K (tFmt te) σ F cs (.str x) cs1 := by
  cases d with
  | int i => exact d_fmtI h hn
  | str y =>
    obtain ⟨n, h1, h2⟩ := bnd (show (lenS y).bind (fun _ => some y) = some x from hn)
    cases h2
    exact d_fmtS h h1
  | none => cases hn
  | bool _ => cases hn
  | list _ => cases hn
  | tuple _ => cases hn
  | dict _ => cases hn
end
end Bw

namespace Bw
open PySem L2
/-! i in range(lo, hi) -/
def rInRng : R2 := fun x y H Q => ∃ i a lo hi, x = V.int i ∧ y = V.ref a ∧ H a = some (.rng lo hi) ∧ Q (.bl (decide (lo ≤ i ∧ i < hi))) H
def rNinRng : R2 := fun x y H Q => ∃ i a lo hi, x = V.int i ∧ y = V.ref a ∧ H a = some (.rng lo hi) ∧ Q (.bl (!decide (lo ≤ i ∧ i < hi))) H
abbrev rRange2 : List V → Hp → VK → Prop := fun vs H Q => ∃ i j, vs = [V.int i, V.int j] ∧ ∀ p, H p = none → Q (.ref p) (upd H p (.rng i j))
theorem op_inRng {X : Cx} : OpR X (compareOp .In) rInRng := op_in_rng
theorem op_ninRng {X : Cx} : OpR X (compareOp .NotIn) rNinRng := by
  intro pins s σ H x y v u Q I rx ry h
  obtain ⟨i, a, lo, hi, rfl, rfl, ha, q⟩ := h
  obtain ⟨k, rfl⟩ := rx
  obtain rfl : u = Value.ref a := ry
  obtain ⟨t1, t2, t3, ho⟩ := I.hok a _ ha
  show wpAny _ _ (contains (Value.ref a) (Value.int i k) >>= fun b => pure (Value.bool (!b))) _ _ s
  refine wpAny_bind (wpAny_contains_slot (T := "range") ⟨_, ho, rfl⟩ F.slot_range_contains (call_meets F.slot_range_contains ⟨_, ho, rfl⟩ F.entry_range_contains (F.args_range_contains_2 _ _)
    (q_contains a lo hi i t1 t2 t3 k) ⟨ho, wpAny_truthy_bool (wpAny_pure ⟨.bl _, H, I, rfl, ?_⟩)⟩))
  rw [place1]
  exact q
theorem cr_range2' {X : Cx} : CallR X (.type "range") rRange2 := cr_range2
section
variable {K : PySem.W.Frag} {σ : St} {F F' : Hp} {cs cs1 cs2 cs3 : Cs} {ta tb tc te : TE} {d e : PyData} {as : TA} {a b c : Int}
theorem d_inRng (ha : EvD K ta σ F cs (.int a) cs1) (hb : EvDs K as σ F cs1 [.int b, .int c] cs2) : EvD K (tOp rInRng ta (tCB rRange2 as)) σ F cs (.bool (decide (b ≤ a ∧ a < c))) cs2 := fun F1 H1 g1 s Q q =>
  ha F1 H1 g1 s _ fun v F2 H2 g2 s2 h2 => hb F2 H2 (g1.tr g2) s2 _ fun vs F3 H3 g3 s3 h3 => by
    cases h2.toInt
    obtain ⟨w, z, rfl, k1, k2⟩ := h3.two; cases k1.toInt; cases k2.toInt
    exact ⟨b, c, rfl, fun p hp => ⟨a, p, b, c, rfl, rfl, upd_same, q _ _ _ ((g2.tr g3).tr (Gr.new (s3.fr.back hp))) (s3.lay hp) (.bl _)⟩⟩
theorem d_ninRng (ha : EvD K ta σ F cs (.int a) cs1) (hb : EvDs K as σ F cs1 [.int b, .int c] cs2) : EvD K (tOp rNinRng ta (tCB rRange2 as)) σ F cs (.bool (!decide (b ≤ a ∧ a < c))) cs2 := fun F1 H1 g1 s Q q =>
  ha F1 H1 g1 s _ fun v F2 H2 g2 s2 h2 => hb F2 H2 (g1.tr g2) s2 _ fun vs F3 H3 g3 s3 h3 => by
    cases h2.toInt
    obtain ⟨w, z, rfl, k1, k2⟩ := h3.two; cases k1.toInt; cases k2.toInt
    exact ⟨b, c, rfl, fun p hp => ⟨a, p, b, c, rfl, rfl, upd_same, q _ _ _ ((g2.tr g3).tr (Gr.new (s3.fr.back hp))) (s3.lay hp) (.bl _)⟩⟩
end
end Bw

namespace Bw
open PySem L2
/-- an expression that tells a known value and changes nothing -/
def VP (to : TE) (σ : St) (F : Hp) (cs : Cs) (v : V) : Prop := ∀ F1 H1, Gr F F1 → Sta F1 cs H1 → ∀ Q : VK, Q v H1 → to σ H1 Q
section
variable {K : PySem.W.Frag} {σ : St} {F F' : Hp} {cs cs1 cs2 cs3 : Cs} {ta tb tc te : TE} {d e : PyData} {as : TA} {a b c : Int} {nx bk ct : St → Hp → Prop} {rt : VK} {H : Hp} {t u : TS}
theorem vp_var {i : Nat} {v : V} (h : σ[i]? = some (some v)) : VP (tVar i) σ F cs v := fun F1 H1 g s Q q => ⟨v, h, q⟩
theorem vp_tup {to : TE} {t : Addr} {vs : List V} {k : Int} {v : V} (h : VP to σ F cs (.ref t)) (ht : SqT K F t vs) (hk : atI vs k = some v) : VP (tOp (rIxT K) to (tC (.int k))) σ F cs v := fun F1 H1 g s Q q =>
  h F1 H1 g s _ ⟨t, vs, k, v, rfl, rfl, gr_T s.fr (gr_T g ht), hk, q⟩
theorem VP.gr {to : TE} {v : V} (g : Gr F F') (h : VP to σ F cs v) : VP to σ F' cs v := fun F1 H1 g1 s Q q => h F1 H1 (g.tr g1) s Q q
theorem d_vp {v : V} (h : VP te σ F cs v) (hd : Dt K F v d) : EvD K te σ F cs d cs := fun F1 H1 g s Q q => h F1 H1 g s Q (q v F1 H1 .rfl s (hd.gr g))
/-! the readings, opened -/
theorem o_asg {g : TG} (h : te σ H fun v H' => g v σ H' nx) : tAsg te g ⟨nx, rt, bk, ct⟩ σ H := h
theorem o_ret (h : te σ H rt) : tRet te ⟨nx, rt, bk, ct⟩ σ H := h
theorem o_drop (h : te σ H fun _ H' => nx σ H') : tDrop te ⟨nx, rt, bk, ct⟩ σ H := h
theorem o_name {i : Nat} {v : V} {σ' : St} {Q : St → Hp → Prop} (e : σ.set i (some v) = σ') (h : Q σ' H) : gName i v σ H Q := by show Q (σ.set i (some v)) H; rw [e]; exact h
theorem o_tup {Q : VK} (h : as σ H fun vs H1 => vs.length ≤ sizeLine ∧ ∀ p, H1 p = none → Q (.ref p) (upd H1 p (.tup vs))) : tTup as σ H Q := h
theorem o_cons {Q : List V → Hp → Prop} (h : te σ H fun v H1 => as σ H1 fun vs H2 => Q (v :: vs) H2) : tCons te as σ H Q := h
theorem o_nil {Q : List V → Hp → Prop} (h : Q [] H) : tNil σ H Q := h
theorem o_d {Q : VK} (s : Sta F cs H) (h : EvD K te σ F cs d cs1) (q : ∀ v F2 H2, Gr F F2 → Sta F2 cs1 H2 → Dt K F2 v d → Q v H2) : te σ H Q := h F H .rfl s Q q
theorem o_c {Q : VK} {ds : List PyData} (s : Sta F cs H) (h : EvC K te σ F cs ds cs1) (q : ∀ p us F2 H2, Gr F F2 → Sta F2 ((p, .lst us) :: cs1) H2 → Dts K F2 us ds → Q (.ref p) H2) : te σ H Q := h F H .rfl s Q q
theorem o_v {Q : VK} {v : V} (s : Sta F cs H) (h : VP te σ F cs v) (q : Q v H) : te σ H Q := h F H .rfl s Q q
/-- the tuple itself stands for good -/
theorem o_tupN {n : Nat} {vs : List V} {Q : VK} (s : Sta F cs H) (hn : vs.length ≤ 1000) (q : ∀ p, Gr F (upd F p (.tup vs)) → Sta (upd F p (.tup vs)) cs (upd H p (.tup vs)) → Q (.ref p) (upd H p (.tup vs))) : vs.length ≤ sizeLine ∧ ∀ p, H p = none → Q (.ref p) (upd H p (.tup vs)) :=
  ⟨Nat.le_trans hn (by decide), fun p hp => q p (Gr.new (s.fr.back hp)) (s.lay hp)⟩
theorem sq_new {p : Addr} {vs : List V} : SqT K (upd F p (.tup vs)) p vs := .inl (.inl upd_same)
theorem dt_t {p : Addr} {vs : List V} {ds : List PyData} (h : SqT K F p vs) (hd : Dts K F vs ds) : Dt K F (.ref p) (.tuple ds) := .tup h hd
theorem s_appV {k1 k2 l1 l2 : Cs} {to : TE} {p : Addr} {vs : List V} (s : Sta F (k1 ++ (p, .lst vs) :: k2) H) (hi : VP to σ F (k1 ++ (p, .lst vs) :: k2) (.ref p)) (h : EvD K te σ F (k1 ++ (p, .lst vs) :: k2) d (l1 ++ (p, .lst vs) :: l2)) (hl : vs.length < 100000)
    (q : ∀ v F2 H2, Gr F F2 → Sta F2 (l1 ++ (p, .lst (vs ++ [v])) :: l2) H2 → Dt K F2 v d → nx σ H2) : tDrop (tBM K "list" rAppend to (tCons te tNil)) ⟨nx, rt, bk, ct⟩ σ H :=
  hi F H .rfl s _ ⟨.inl ⟨rfl, _, .inl (.inl s.getAt)⟩, h F H .rfl s _ fun v F2 H2 g2 s2 h2 => ⟨p, vs, v, rfl, rfl, s2.getAt, szl hl, q v F2 _ g2 s2.putAt h2⟩⟩
theorem s_appFV {α : Type} {vf : α → V} {en : α → PyData} {k1 k2 l1 l2 : Cs} {to : TE} {p : Addr} {xs ys : List α} {x : α} (hw : ∀ F v x, Dt K F v (en x) → v = vf x) (s : Sta F (k1 ++ (p, .lst (xs.map vf)) :: k2) H) (hi : VP to σ F (k1 ++ (p, .lst (xs.map vf)) :: k2) (.ref p)) (h : EvD K te σ F (k1 ++ (p, .lst (xs.map vf)) :: k2) (en x) (l1 ++ (p, .lst (xs.map vf)) :: l2)) (hm : appM xs x = some ys)
    (q : ∀ F2 H2, Gr F F2 → Sta F2 (l1 ++ (p, .lst (ys.map vf)) :: l2) H2 → nx σ H2) : tDrop (tBM K "list" rAppend to (tCons te tNil)) ⟨nx, rt, bk, ct⟩ σ H := by
  obtain ⟨hl, rfl⟩ := appM_some hm
  refine s_appV s hi h (by rw [List.length_map]; exact hl) fun v F2 H2 g2 s2 h2 => q F2 H2 g2 ?_
  cases hw F2 v x h2
  rw [List.map_append]; exact s2
theorem s_appGV {α : Type} {en : α → PyData} {k1 k2 l1 l2 : Cs} {to : TE} {p : Addr} {vs : List V} {xs ys : List α} {x : α} (s : Sta F (k1 ++ (p, .lst vs) :: k2) H) (hf : Dts K F vs (xs.map en)) (hi : VP to σ F (k1 ++ (p, .lst vs) :: k2) (.ref p)) (h : EvD K te σ F (k1 ++ (p, .lst vs) :: k2) (en x) (l1 ++ (p, .lst vs) :: l2)) (hm : appM xs x = some ys)
    (q : ∀ us F2 H2, Gr F F2 → Sta F2 (l1 ++ (p, .lst us) :: l2) H2 → Dts K F2 us (ys.map en) → nx σ H2) : tDrop (tBM K "list" rAppend to (tCons te tNil)) ⟨nx, rt, bk, ct⟩ σ H := by
  obtain ⟨hl, rfl⟩ := appM_some hm
  refine s_appV s hi h (by rw [hf.len, List.length_map]; exact hl) fun v F2 H2 g2 s2 h2 => q _ F2 H2 g2 s2 ?_
  rw [List.map_append]; exact (hf.gr g2).app (.cons h2 .nil)
theorem s_itemV {k1 k2 m1 m2 l1 l2 : Cs} {to : TE} {p : Addr} {vs : List V} {ti : TE} {k : Int} {j : Nat} (s : Sta F (k1 ++ (p, .lst vs) :: k2) H) (hi : VP to σ F (m1 ++ (p, .lst vs) :: m2) (.ref p)) (h : EvD K te σ F (k1 ++ (p, .lst vs) :: k2) d (m1 ++ (p, .lst vs) :: m2))
    (h2 : EvD K ti σ F (m1 ++ (p, .lst vs) :: m2) (.int k) (l1 ++ (p, .lst vs) :: l2)) (hj : ixN vs.length k = some j) (q : ∀ v F2 H2, Gr F F2 → Sta F2 (l1 ++ (p, .lst (vs.set j v)) :: l2) H2 → Dt K F2 v d → nx σ H2) : tAsg te (gSub to ti rSetL) ⟨nx, rt, bk, ct⟩ σ H :=
  h F H .rfl s _ fun v F2 H2 g2 s2 hv => hi F2 H2 g2 s2 _ (h2 F2 H2 g2 s2 _ fun w F3 H3 g3 s3 hw => ⟨p, vs, k, j, rfl, hw.toInt, s3.getAt, hj, q v F3 _ (g2.tr g3) s3.putAt (hv.gr g3)⟩)
theorem s_itemFV {α : Type} {vf : α → V} {en : α → PyData} {k1 k2 m1 m2 l1 l2 : Cs} {to : TE} {p : Addr} {xs ys : List α} {x : α} {ti : TE} {k : Int} (hw : ∀ F v x, Dt K F v (en x) → v = vf x) (s : Sta F (k1 ++ (p, .lst (xs.map vf)) :: k2) H) (hi : VP to σ F (m1 ++ (p, .lst (xs.map vf)) :: m2) (.ref p)) (h : EvD K te σ F (k1 ++ (p, .lst (xs.map vf)) :: k2) (en x) (m1 ++ (p, .lst (xs.map vf)) :: m2))
    (h2 : EvD K ti σ F (m1 ++ (p, .lst (xs.map vf)) :: m2) (.int k) (l1 ++ (p, .lst (xs.map vf)) :: l2)) (hm : setM xs k x = some ys) (q : ∀ F2 H2, Gr F F2 → Sta F2 (l1 ++ (p, .lst (ys.map vf)) :: l2) H2 → nx σ H2) : tAsg te (gSub to ti rSetL) ⟨nx, rt, bk, ct⟩ σ H := by
  obtain ⟨j, hj, rfl⟩ := setM_some hm
  refine s_itemV (j := j) s hi h h2 (by rw [List.length_map]; exact hj) fun v F2 H2 g2 s2 hv => q F2 H2 g2 ?_
  cases hw F2 v x hv
  rw [List.map_set]; exact s2
theorem s_itemGV {α : Type} {en : α → PyData} {k1 k2 m1 m2 l1 l2 : Cs} {to : TE} {p : Addr} {vs : List V} {xs ys : List α} {x : α} {ti : TE} {k : Int} (s : Sta F (k1 ++ (p, .lst vs) :: k2) H) (hf : Dts K F vs (xs.map en)) (hi : VP to σ F (m1 ++ (p, .lst vs) :: m2) (.ref p)) (h : EvD K te σ F (k1 ++ (p, .lst vs) :: k2) (en x) (m1 ++ (p, .lst vs) :: m2))
    (h2 : EvD K ti σ F (m1 ++ (p, .lst vs) :: m2) (.int k) (l1 ++ (p, .lst vs) :: l2)) (hm : setM xs k x = some ys) (q : ∀ us F2 H2, Gr F F2 → Sta F2 (l1 ++ (p, .lst us) :: l2) H2 → Dts K F2 us (ys.map en) → nx σ H2) : tAsg te (gSub to ti rSetL) ⟨nx, rt, bk, ct⟩ σ H := by
  obtain ⟨j, hj, rfl⟩ := setM_some hm
  refine s_itemV (j := j) s hi h h2 (by rw [hf.len, List.length_map]; exact hj) fun v F2 H2 g2 s2 hv => q _ F2 H2 g2 s2 ?_
  rw [List.map_set]; exact (hf.gr g2).setAt j hv
theorem s_augSV {k1 k2 m1 m2 l1 l2 : Cs} {to : TE} {p : Addr} {xs ys : List Int} {ti : TE} {k w b : Int} {f : Int → Int → Int} (s : Sta F (k1 ++ (p, .lst (xs.map V.int)) :: k2) H) (hi : VP to σ F (k1 ++ (p, .lst (xs.map V.int)) :: k2) (.ref p)) (h1 : EvD K ti σ F (k1 ++ (p, .lst (xs.map V.int)) :: k2) (.int k) (m1 ++ (p, .lst (xs.map V.int)) :: m2)) (hg : atI xs k = some w)
    (h2 : EvD K te σ F (m1 ++ (p, .lst (xs.map V.int)) :: m2) (.int b) (l1 ++ (p, .lst (xs.map V.int)) :: l2)) (hm : setM xs k (f w b) = some ys) (q : ∀ F2 H2, Gr F F2 → Sta F2 (l1 ++ (p, .lst (ys.map V.int)) :: l2) H2 → nx σ H2) : tAugS to ti te (rIxL K) (ipI f) rSetL ⟨nx, rt, bk, ct⟩ σ H := by
  obtain ⟨j, hj, rfl⟩ := setM_some hm
  refine hi F H .rfl s _ (h1 F H .rfl s _ fun v F2 H2 g2 s2 hv => ⟨p, xs.map V.int, k, .int w, rfl, hv.toInt, .inl (.inl s2.getAt), by rw [atI_map, hg]; rfl, h2 F2 H2 g2 s2 _ fun y F3 H3 g3 s3 hy => ⟨w, b, rfl, hy.toInt, p, xs.map V.int, k, j, rfl, hv.toInt, s3.getAt, by rw [List.length_map]; exact hj, q F3 _ (g2.tr g3) ?_⟩⟩)
  rw [List.map_set]; exact s3.putAt
theorem s_popFV {α : Type} {vf : α → V} {en : α → PyData} {k1 k2 l1 l2 : Cs} {to : TE} {j : Nat} {p : Addr} {xs ys : List α} {x : α} {ti : TE} {k : Int} {σ' : St} (hd : ∀ F x, Dt K F (vf x) (en x)) (s : Sta F (k1 ++ (p, .lst (xs.map vf)) :: k2) H) (hi : VP to σ F (k1 ++ (p, .lst (xs.map vf)) :: k2) (.ref p))
    (h2 : EvD K ti σ F (k1 ++ (p, .lst (xs.map vf)) :: k2) (.int k) (l1 ++ (p, .lst (xs.map vf)) :: l2)) (hm : popM xs k = some (x, ys)) (hσ : σ.set j (some (vf x)) = σ') (q : ∀ F2 H2, Gr F F2 → Sta F2 (l1 ++ (p, .lst (ys.map vf)) :: l2) H2 → nx σ' H2) : tAsg (tBM K "list" rPopAt to (tCons ti tNil)) (gName j) ⟨nx, rt, bk, ct⟩ σ H := by
  obtain ⟨⟨a1, a2⟩, m, b1, b2, rfl⟩ := popM_some hm
  refine hi F H .rfl s _ ⟨.inl ⟨rfl, _, .inl (.inl s.getAt)⟩, h2 F H .rfl s _ fun w F3 H3 g3 s3 hw => ⟨p, xs.map vf, k, m, vf x, rfl, by cases hw.toInt; rfl, s3.getAt, a1, a2, by rw [List.length_map]; exact b1, by rw [List.getElem?_map, b2]; rfl, ?_⟩⟩
  show nx (σ.set j (some (vf x))) _
  rw [hσ]
  refine q F3 _ g3 ?_
  have s4 := s3.putAt (o' := .lst ((xs.map vf).eraseIdx m))
  rw [er_map]
  exact s4
theorem s_remFV {k1 k2 l1 l2 : Cs} {to : TE} {p : Addr} {xs ys : List Int} {ti : TE} {k : Int} (s : Sta F (k1 ++ (p, .lst (xs.map V.int)) :: k2) H) (hi : VP to σ F (k1 ++ (p, .lst (xs.map V.int)) :: k2) (.ref p))
    (h2 : EvD K ti σ F (k1 ++ (p, .lst (xs.map V.int)) :: k2) (.int k) (l1 ++ (p, .lst (xs.map V.int)) :: l2)) (hm : remM xs k = some ys) (q : ∀ F2 H2, Gr F F2 → Sta F2 (l1 ++ (p, .lst (ys.map V.int)) :: l2) H2 → nx σ H2) : tDrop (tBM K "list" rRemI to (tCons ti tNil)) ⟨nx, rt, bk, ct⟩ σ H := by
  unfold remM at hm; split at hm
  · rename_i hin
    cases hm
    obtain ⟨j, e1, e2, e3⟩ := rem_at hin
    refine hi F H .rfl s _ ⟨.inl ⟨rfl, _, .inl (.inl s.getAt)⟩, h2 F H .rfl s _ fun w F3 H3 g3 s3 hw => ⟨p, xs, k, j, rfl, by cases hw.toInt; rfl, s3.getAt, e1, e2, q F3 _ g3 ?_⟩⟩
    rw [e3]
    exact s3.putAt
  · cases hm
theorem s_extV {k1 k2 l1 l2 : Cs} {to : TE} {p : Addr} {vs : List V} {ds : List PyData} (s : Sta F (k1 ++ (p, .lst vs) :: k2) H) (hi : VP to σ F (k1 ++ (p, .lst vs) :: k2) (.ref p)) (h : EvC K te σ F (k1 ++ (p, .lst vs) :: k2) ds (l1 ++ (p, .lst vs) :: l2)) (hl : vs.length + ds.length ≤ 100000)
    (q : ∀ us F2 H2, Gr F F2 → Sta F2 (l1 ++ (p, .lst (vs ++ us)) :: l2) H2 → Dts K F2 us ds → nx σ H2) : tDrop (tBM K "list" rExtend to (tCons te tNil)) ⟨nx, rt, bk, ct⟩ σ H :=
  hi F H .rfl s _ ⟨.inl ⟨rfl, _, .inl (.inl s.getAt)⟩, h F H .rfl s _ fun b us F2 H2 g2 s2 h2 => ⟨p, b, vs, us, rfl, rfl, Sta.getAt (l1 := (b, .lst us) :: l1) s2, s2.at List.mem_cons_self, by rw [h2.len]; exact sz hl, q us _ _ (g2.tr s2.gfr) s2.froze.putAt (h2.gr s2.gfr)⟩⟩
theorem s_extFV {α : Type} {vf : α → V} {en : α → PyData} {k1 k2 l1 l2 : Cs} {to : TE} {p : Addr} {xs ys zs : List α} (hw : ∀ F vs (ys : List α), Dts K F vs (ys.map en) → vs = ys.map vf) (s : Sta F (k1 ++ (p, .lst (xs.map vf)) :: k2) H) (hi : VP to σ F (k1 ++ (p, .lst (xs.map vf)) :: k2) (.ref p)) (h : EvC K te σ F (k1 ++ (p, .lst (xs.map vf)) :: k2) (ys.map en) (l1 ++ (p, .lst (xs.map vf)) :: l2)) (hm : catM xs ys = some zs)
    (q : ∀ F2 H2, Gr F F2 → Sta F2 (l1 ++ (p, .lst (zs.map vf)) :: l2) H2 → nx σ H2) : tDrop (tBM K "list" rExtend to (tCons te tNil)) ⟨nx, rt, bk, ct⟩ σ H := by
  obtain ⟨hl, rfl⟩ := catM_some hm
  refine s_extV s hi h (by rw [List.length_map, List.length_map]; exact hl) fun us F2 H2 g2 s2 h2 => q F2 H2 g2 ?_
  cases hw F2 us ys h2
  rw [List.map_append]; exact s2
theorem s_extGV {α : Type} {en : α → PyData} {k1 k2 l1 l2 : Cs} {to : TE} {p : Addr} {vs : List V} {xs ys zs : List α} (s : Sta F (k1 ++ (p, .lst vs) :: k2) H) (hf : Dts K F vs (xs.map en)) (hi : VP to σ F (k1 ++ (p, .lst vs) :: k2) (.ref p)) (h : EvC K te σ F (k1 ++ (p, .lst vs) :: k2) (ys.map en) (l1 ++ (p, .lst vs) :: l2)) (hm : catM xs ys = some zs)
    (q : ∀ us F2 H2, Gr F F2 → Sta F2 (l1 ++ (p, .lst us) :: l2) H2 → Dts K F2 us (zs.map en) → nx σ H2) : tDrop (tBM K "list" rExtend to (tCons te tNil)) ⟨nx, rt, bk, ct⟩ σ H := by
  obtain ⟨hl, rfl⟩ := catM_some hm
  refine s_extV s hi h (by rw [hf.len, List.length_map, List.length_map]; exact hl) fun us F2 H2 g2 s2 h2 => q _ F2 H2 g2 s2 ?_
  rw [List.map_append]; exact (hf.gr g2).app h2
theorem s_clrV {l1 l2 : Cs} {to : TE} {p : Addr} {vs : List V} (s : Sta F (l1 ++ (p, .lst vs) :: l2) H) (hi : VP to σ F (l1 ++ (p, .lst vs) :: l2) (.ref p)) (q : Sta F (l1 ++ (p, .lst []) :: l2) (upd H p (.lst [])) → nx σ (upd H p (.lst []))) : tDrop (tBM0 K "list" rClear to) ⟨nx, rt, bk, ct⟩ σ H :=
  hi F H .rfl s _ ⟨.inl ⟨rfl, _, .inl (.inl s.getAt)⟩, p, vs, rfl, rfl, s.getAt, q s.putAt⟩
end
def Su (c c' : Cs) : Prop := ∃ l, c.Perm (l ++ c')
theorem su_rfl {cs : Cs} : Su cs cs := ⟨[], .refl _⟩
theorem su_perm {cs cs1 : Cs} (p : cs.Perm cs1) : Su cs cs1 := ⟨[], p⟩
theorem su_drop {c : Addr × HO} {cs : Cs} : Su (c :: cs) cs := ⟨[c], .refl _⟩
theorem Su.tr {cs cs1 cs2 : Cs} (h : Su cs cs1) (k : Su cs1 cs2) : Su cs cs2 := by
  obtain ⟨l, h⟩ := h
  obtain ⟨m, k⟩ := k
  exact ⟨l ++ m, h.trans (by rw [List.append_assoc]; exact k.append_left l)⟩
theorem sta_tl : ∀ {l : Cs} {cs : Cs} {F H : Hp}, Sta F (l ++ cs) H → Sta F cs H
  | [], _, _, _, s => s
  | c :: l, cs, F, H, s => sta_tl (l := l) (sb_drop (c := c) (cs := l ++ cs) F H s)
theorem Su.sb {cs cs1 : Cs} (h : Su cs cs1) : Sb cs cs1 := fun F H s => by
  obtain ⟨l, h⟩ := h
  exact sta_tl (s.perm h)
theorem su_app {cs cs1 c : Cs} (h : Su cs cs1) : Su (c ++ cs) (c ++ cs1) := by
  obtain ⟨l, h⟩ := h
  refine ⟨l, (h.append_left c).trans ?_⟩
  rw [← List.append_assoc, ← List.append_assoc]
  exact List.perm_append_comm.append_right cs1
section
variable {K : PySem.W.Frag} {σ : St} {F F' : Hp} {cs cs1 cs2 cs3 : Cs} {ta tb tc te : TE} {d e : PyData} {as : TA} {a b c : Int} {nx bk ct : St → Hp → Prop} {rt : VK} {H : Hp} {t u : TS}
/-- list(path) -/
theorem c_listV {l1 l2 : Cs} {to : TE} {p : Addr} {us : List V} {ds : List PyData} (hi : VP to σ F (l1 ++ (p, .lst us) :: l2) (.ref p)) (hd : Dts K F us ds) : EvC K (tCB (rListS K) (tCons to tNil)) σ F (l1 ++ (p, .lst us) :: l2) ds (l1 ++ (p, .lst us) :: l2) := fun F1 H1 g1 s Q q =>
  hi F1 H1 g1 s _ ⟨p, us, rfl, .inl (.inl (.inl s.getAt)), fun l nl => q _ _ _ _ .rfl (s.cell nl) (hd.gr g1)⟩
/-! a function that tells a new thing, some parts of which may change -/
def spR (K : PySem.W.Frag) {α β : Type} (A : α → List Ar) (C : β → List (List V)) (R : β → Hp → V → Cs → Prop) (f : α → Option β) : Sp := fun vs H Q _ => ∃ F cc cs x y, ArgR K F vs (A x) cc ∧ Sta F (cc ++ cs) H ∧ f x = some y ∧ ∀ v c F2 H2, Gr F F2 → Sta F2 (c ++ (upC cc (C y) ++ cs)) H2 → R y F2 v c → Q v H2
theorem o_callR {α β : Type} {A : α → List Ar} {C : β → List (List V)} {R : β → Hp → V → Cs → Prop} {f : α → Option β} {x : α} {y : β} {E : XK} {cc cs' : Cs} {Q : VK} (s : Sta F cs H) (h : EvR K as σ F cs (A x) cc cs1) (hp : Sb cs1 (cc ++ cs')) (hf : f x = some y) (hq : Su (upC cc (C y) ++ cs') cs2)
    (q : ∀ v c F2 H2, Gr F F2 → Sta F2 (c ++ cs2) H2 → R y F2 v c → Q v H2) : tCall (spR K A C R f) [] E as σ H Q :=
  h F H .rfl s _ fun vs F2 H2 g2 s2 h2 => ⟨F2, cc, cs', x, y, by rw [List.append_nil]; exact h2, hp _ _ s2, hf, fun v c F3 H3 g3 s3 r => q v c F3 H3 (g2.tr g3) ((su_app hq).sb _ _ s3) r⟩
theorem d_callR {α β : Type} {A : α → List Ar} {C : β → List (List V)} {R : β → Hp → V → Cs → Prop} {B : β → PyData} {f : α → Option β} {x : α} {y : β} {E : XK} {cc cs' : Cs} (hR : ∀ y F H v c cs, R y F v c → Sta F (c ++ cs) H → ∃ F', Gr F F' ∧ Sta F' cs H ∧ Dt K F' v (B y)) (h : EvR K as σ F cs (A x) cc cs1) (hp : Sb cs1 (cc ++ cs')) (hf : f x = some y) (hq : Su (upC cc (C y) ++ cs') cs2) : EvD K (tCall (spR K A C R f) [] E as) σ F cs (B y) cs2 := fun F1 H1 g1 s Q q =>
  h F1 H1 g1 s _ fun vs F2 H2 g2 s2 h2 => ⟨F2, cc, cs', x, y, by rw [List.append_nil]; exact h2, hp _ _ s2, hf, fun v c F3 H3 g3 s3 r => by
    obtain ⟨F4, g4, s4, d4⟩ := hR y F3 H3 v c cs2 r ((su_app hq).sb _ _ s3)
    exact q v F4 H3 ((g2.tr g3).tr g4) s4 d4⟩
end
end Bw

namespace Bw
open PySem L2
/-! data without lists -/
mutual
def noL : PyData → Bool
  | .list _ => false
  | .dict _ => false
  | .tuple ds => noLs ds
  | _ => true
def noLs : List PyData → Bool
  | [] => true
  | d :: ds => noL d && noLs ds
end
section
variable {K : PySem.W.Frag} {F F2 : Hp} {p : Addr} {us : List V}
mutual
theorem Dt.cutL (hp : F2 p = some (.lst us)) : ∀ {v : V} {d : PyData}, Dt K F2 v d → noL d = true → Dt K (cut F2 p) v d
  | _, _, .non, _ => .non
  | _, _, .bl b, _ => .bl b
  | _, _, .int i, _ => .int i
  | _, _, .str x, _ => .str x
  | _, _, .lst h a, n => by simp [noL] at n
  | _, _, .dct h, n => by simp [noL] at n
  | _, _, .tup (a := a) (ds := ds) h k, n => by
    have n' : noLs ds = true := by simpa [noL] using n
    refine .tup ?_ (Dts.cutL hp k n')
    rcases h with (h | ⟨o, h⟩) | h
    · refine .inl (.inl ?_)
      rw [cut_ne (fun z => by rw [z, hp] at h; cases h)]; exact h
    · refine .inl (.inr ⟨o, ?_⟩)
      rw [cut_ne (fun z => by rw [z, hp] at h; cases h)]; exact h
    · exact .inr h
theorem Dts.cutL (hp : F2 p = some (.lst us)) : ∀ {vs : List V} {ds : List PyData}, Dts K F2 vs ds → noLs ds = true → Dts K (cut F2 p) vs ds
  | _, _, .nil, _ => .nil
  | _, _, .cons h t, n => by
    rw [noLs, Bool.and_eq_true] at n
    exact .cons (Dt.cutL hp h n.1) (Dts.cutL hp t n.2)
end
end
def Nl {α : Type} (e : α → PyData) : Prop := ∀ x, noL (e x) = true
theorem nl_I : Nl eI := fun _ => rfl
theorem nl_B : Nl eB := fun _ => rfl
theorem nl_S : Nl eS := fun _ => rfl
theorem nl_N : Nl eN := fun _ => rfl
theorem nl_O {α : Type} {e : α → PyData} (h : Nl e) : Nl (eO e) := fun x => by cases x with
  | none => rfl
  | some y => exact h y
theorem nl_T2 {α β : Type} {e : α → PyData} {f : β → PyData} (h : Nl e) (k : Nl f) : Nl (eT2 e f) := fun x => by show (noL (e x.1) && (noL (f x.2) && true)) = true; rw [h, k]; rfl
theorem nl_T3 {α β γ : Type} {e : α → PyData} {f : β → PyData} {g : γ → PyData} (h : Nl e) (k : Nl f) (l : Nl g) : Nl (eT3 e f g) := fun x => by show (noL (e x.1) && (noL (f x.2.1) && (noL (g x.2.2) && true))) = true; rw [h, k, l]; rfl
theorem nl_T4 {α β γ δ : Type} {e : α → PyData} {f : β → PyData} {g : γ → PyData} {i : δ → PyData} (h : Nl e) (k : Nl f) (l : Nl g) (m : Nl i) : Nl (eT4 e f g i) := fun x => by show (noL (e x.1) && (noL (f x.2.1) && (noL (g x.2.2.1) && (noL (i x.2.2.2) && true)))) = true; rw [h, k, l, m]; rfl
theorem nls {α : Type} {e : α → PyData} (h : Nl e) : ∀ xs : List α, noLs (xs.map e) = true
  | [] => rfl
  | x :: xs => by show (noL (e x) && noLs (xs.map e)) = true; rw [h, nls h xs]; rfl
section
variable {K : PySem.W.Frag} {σ : St} {F F' : Hp} {cs cs1 cs2 cs3 : Cs} {ta tb tc te : TE} {d e : PyData} {as : TA}
theorem Ev.grC {ds : List PyData} (g : Gr F F') (h : EvC K te σ F cs ds cs1) : EvC K te σ F' cs ds cs1 := fun F1 H1 g1 s Q q => h F1 H1 (g.tr g1) s Q q
theorem Ev.grR {xs : List Ar} {cc : Cs} (g : Gr F F') (h : EvR K as σ F cs xs cc cs1) : EvR K as σ F' cs xs cc cs1 := fun F1 H1 g1 s Q q => h F1 H1 (g.tr g1) s Q q
theorem r_cv {xs : List Ar} {cc : Cs} {to : TE} {p : Addr} {us : List V} (hi : VP to σ F cs (.ref p)) (h2 : EvR K as σ F cs xs cc cs2) : EvR K (tCons to as) σ F cs (.c us :: xs) ((p, .lst us) :: cc) cs2 := fun F1 H1 g1 s Q q =>
  hi F1 H1 g1 s _ (h2 F1 H1 g1 s _ fun vs F2 H2 g2 s2 h => q _ F2 H2 g2 s2 (.c h))
/-- the first argument is a new list of flat things, which nobody keeps -/
theorem o_callRN {α β : Type} {A : α → List Ar} {C : β → List (List V)} {R : β → Hp → V → Cs → Prop} {f : α → Option β} {x : α} {y : β} {E : XK} {cc cs' : Cs} {ds : List PyData} {us : List V} {xs : List Ar} {H : Hp} {Q : VK} (s : Sta F cs H) (h : EvC K te σ F cs ds cs1) (hu : ∀ F vs, Dts K F vs ds → vs = us) (hA : A x = .c us :: xs) (h2 : ∀ p, EvR K as σ F ((p, .lst us) :: cs1) xs cc ((p, .lst us) :: cs2))
    (hp : ∀ p, Sb ((p, .lst us) :: cs2) ((p, .lst us) :: cc ++ cs')) (hf : f x = some y) (hq : ∀ p, Su (upC ((p, .lst us) :: cc) (C y) ++ cs') cs3) (q : ∀ v c F2 H2, Gr F F2 → Sta F2 (c ++ cs3) H2 → R y F2 v c → Q v H2) : tCall (spR K A C R f) [] E (tCons te as) σ H Q :=
  h F H .rfl s _ fun p vs F2 H2 g2 s2 hv => by
    cases hu F2 vs hv
    exact h2 p F2 H2 g2 s2 _ fun ws F3 H3 g3 s3 h3 => ⟨F3, (p, .lst us) :: cc, cs', x, y, by rw [List.append_nil, hA]; exact .c h3, hp p _ _ s3, hf, fun v c F4 H4 g4 s4 r => q v c F4 H4 ((g2.tr g3).tr g4) ((su_app (hq p)).sb _ _ s4) r⟩
theorem d_callRN {α β : Type} {A : α → List Ar} {C : β → List (List V)} {R : β → Hp → V → Cs → Prop} {B : β → PyData} {f : α → Option β} {x : α} {y : β} {E : XK} {cc cs' : Cs} {ds : List PyData} {us : List V} {xs : List Ar} (hR : ∀ y F H v c cs, R y F v c → Sta F (c ++ cs) H → ∃ F', Gr F F' ∧ Sta F' cs H ∧ Dt K F' v (B y)) (h : EvC K te σ F cs ds cs1) (hu : ∀ F vs, Dts K F vs ds → vs = us) (hA : A x = .c us :: xs) (h2 : ∀ p, EvR K as σ F ((p, .lst us) :: cs1) xs cc ((p, .lst us) :: cs2))
    (hp : ∀ p, Sb ((p, .lst us) :: cs2) ((p, .lst us) :: cc ++ cs')) (hf : f x = some y) (hq : ∀ p, Su (upC ((p, .lst us) :: cc) (C y) ++ cs') cs3) : EvD K (tCall (spR K A C R f) [] E (tCons te as)) σ F cs (B y) cs3 := fun F1 H1 g1 s Q q =>
  o_callRN s (Ev.grC g1 h) hu hA (fun p => Ev.grR g1 (h2 p)) hp hf hq fun v c F3 H3 g3 s3 r => by
    obtain ⟨F4, g4, s4, d4⟩ := hR y F3 H3 v c cs3 r s3
    exact q v F4 H3 (g3.tr g4) s4 d4
theorem d_lendT {l1 l2 m1 m2 : Cs} {p : Addr} {us : List V} (hn : noL d = true) (h : ∀ F1, Gr F F1 → F1 p = none → EvD K te σ (upd F1 p (.lst us)) (l1 ++ l2) d (m1 ++ m2)) : EvD K te σ F (l1 ++ (p, .lst us) :: l2) d (m1 ++ (p, .lst us) :: m2) := fun F1 H1 g1 s Q q => by
  refine h F1 g1 s.freeAt (upd F1 p (.lst us)) H1 .rfl s.frozeAt Q fun v F2 H2 g2 s2 h2 => ?_
  exact q v (cut F2 p) H2 (gr_cut s.freeAt g2) (Sta.lent g2 s2) (h2.cutL (g2 p _ upd_same) hn)
theorem c_lendT {l1 l2 m1 m2 : Cs} {p : Addr} {us : List V} {ds : List PyData} (hn : noLs ds = true) (h : ∀ F1, Gr F F1 → F1 p = none → EvC K te σ (upd F1 p (.lst us)) (l1 ++ l2) ds (m1 ++ m2)) : EvC K te σ F (l1 ++ (p, .lst us) :: l2) ds (m1 ++ (p, .lst us) :: m2) := fun F1 H1 g1 s Q q => by
  refine h F1 g1 s.freeAt (upd F1 p (.lst us)) H1 .rfl s.frozeAt Q fun a vs F2 H2 g2 s2 h2 => ?_
  exact q a vs (cut F2 p) H2 (gr_cut s.freeAt g2) (Sta.lent (l1 := (a, .lst vs) :: m1) g2 s2) (h2.cutL (g2 p _ upd_same) hn)
end
end Bw

namespace Bw
open PySem L2
/-! dicts with flat keys and flat values -/
def lookK {κ ν : Type} [DecidableEq κ] (d : List (κ × ν)) (k : κ) : Option ν := (d.find? fun p => decide (p.1 = k)).map (·.2)
def putKV {κ ν : Type} [DecidableEq κ] (d : List (κ × ν)) (k : κ) (v : ν) : List (κ × ν) := if (d.any fun p => decide (p.1 = k)) = true then d.map (fun p => if p.1 = k then (p.1, v) else p) else d ++ [(k, v)]
def hasK {κ ν : Type} [DecidableEq κ] (d : List (κ × ν)) (k : κ) : Bool := (lookK d k).isSome
def putM {κ ν : Type} [DecidableEq κ] (d : List (κ × ν)) (k : κ) (v : ν) : Option (List (κ × ν)) := if d.length < 100000 then some (putKV d k v) else none
def kvE {κ ν : Type} (kf : κ → Key) (vf : ν → V) (d : List (κ × ν)) : List (Key × V) := d.map fun p => (kf p.1, vf p.2)
def Inj {κ : Type} (kf : κ → Key) : Prop := ∀ a b, kf a = kf b → a = b
abbrev kS : Str → Key := fun x => Sum.inr x
abbrev kI : Int → Key := fun x => Sum.inl x
theorem inj_S : Inj kS := fun _ _ h => Sum.inr.inj h
theorem inj_I : Inj kI := fun _ _ h => Sum.inl.inj h
section
variable {κ ν : Type} [DecidableEq κ] {kf : κ → Key} {vf : ν → V}
theorem val_kv (hk : Inj kf) : ∀ (d : List (κ × ν)) (k : κ), valV (kvE kf vf d) (kf k) = (lookK d k).map vf
  | [], _ => rfl
  | p :: d, k => by
    have ih := val_kv hk d k
    unfold valV kvE lookK at ih ⊢
    rw [List.map_cons, List.find?_cons, List.find?_cons]
    by_cases h : p.1 = k
    · rw [decide_eq_true h, decide_eq_true (congrArg kf h)]; rfl
    · rw [decide_eq_false h, decide_eq_false (fun z => h (hk _ _ z))]; exact ih
theorem put_kv (hk : Inj kf) (d : List (κ × ν)) (k : κ) (v : ν) : putK (kvE kf vf d) (kf k) (vf v) = kvE kf vf (putKV d k v) := by
  have e : ∀ d : List (κ × ν), ((kvE kf vf d).any fun kv => decide (kv.1 = kf k)) = d.any fun p => decide (p.1 = k) := fun d => by
    unfold kvE
    rw [List.any_map]
    congr 1
    funext p
    by_cases h : p.1 = k
    · simp [h]
    · have : ¬ kf p.1 = kf k := fun z => h (hk _ _ z)
      simp [h, this]
  unfold putK putKV
  rw [e]
  by_cases q : (d.any fun p => decide (p.1 = k)) = true
  · rw [if_pos q, if_pos q]
    unfold kvE
    rw [List.map_map, List.map_map]
    apply List.map_congr_left
    intro p _
    show (if kf p.1 = kf k then (kf p.1, vf v) else (kf p.1, vf p.2)) = _
    by_cases h : p.1 = k
    · rw [if_pos (congrArg kf h)]; show _ = (kf (if p.1 = k then (p.1, v) else p).1, vf (if p.1 = k then (p.1, v) else p).2); rw [if_pos h]
    · rw [if_neg (fun z => h (hk _ _ z))]; show _ = (kf (if p.1 = k then (p.1, v) else p).1, vf (if p.1 = k then (p.1, v) else p).2); rw [if_neg h]
  · rw [if_neg q, if_neg q]
    unfold kvE
    rw [List.map_append]; rfl
theorem putM_some {d e : List (κ × ν)} {k : κ} {v : ν} (h : putM d k v = some e) : d.length < 100000 ∧ putKV d k v = e := by
  unfold putM at h; split at h
  · rename_i q; exact ⟨q, Option.some.inj h⟩
  · cases h
end
/-- how a key's value stands -/
structure KfOk {κ : Type} (kf : κ → Key) (ek : κ → PyData) : Prop where
  inj : Inj kf
  v : ∀ K F v x, Dt K F v (ek x) → v = kV (kf x)
theorem kf_S : KfOk kS eS := ⟨inj_S, fun _ _ _ _ h => h.toStr⟩
theorem kf_I : KfOk kI eI := ⟨inj_I, fun _ _ _ _ h => h.toInt⟩
section
variable {K : PySem.W.Frag} {σ : St} {F F' : Hp} {cs cs1 cs2 cs3 : Cs} {ta tb tc te td : TE} {d e : PyData} {as : TA} {a b c : Int} {nx bk ct : St → Hp → Prop} {rt : VK} {H : Hp} {t u : TS}
variable {κ ν : Type} [DecidableEq κ] {kf : κ → Key} {vf : ν → V} {ek : κ → PyData} {ev : ν → PyData}
/-- a new dict -/
theorem o_dict0 {Q : VK} (s : Sta F cs H) (q : ∀ p H2, Sta F ((p, .dK (kvE kf vf [])) :: cs) H2 → Q (.ref p) H2) : tDNewK σ H Q := fun p hp => q p _ (s.cell hp)
/-- k in d -/
theorem d_din {D : List (κ × ν)} {k : κ} {p : Addr} (hk : KfOk kf ek) (ha : EvD K ta σ F cs (ek k) cs1) (hd : VP td σ F cs1 (.ref p)) (hF : F p = some (.dK (kvE kf vf D))) : EvD K (tDIn ta td) σ F cs (.bool (hasK D k)) cs1 := fun F1 H1 g1 s Q q =>
  ha F1 H1 g1 s _ fun v F2 H2 g2 s2 h2 => hd F2 H2 (g1.tr g2) s2 _ ⟨p, valV (kvE kf vf D) (kf k), rfl, by rw [hk.v K F2 v k h2]; exact DGet.k (s2.fr _ _ ((g1.tr g2) _ _ hF)), by
    rw [val_kv hk.inj, Option.isSome_map]; exact q _ F2 H2 g2 s2 (.bl _)⟩
theorem d_dnin {D : List (κ × ν)} {k : κ} {p : Addr} (hk : KfOk kf ek) (ha : EvD K ta σ F cs (ek k) cs1) (hd : VP td σ F cs1 (.ref p)) (hF : F p = some (.dK (kvE kf vf D))) : EvD K (tDNotIn ta td) σ F cs (.bool (!hasK D k)) cs1 := fun F1 H1 g1 s Q q =>
  ha F1 H1 g1 s _ fun v F2 H2 g2 s2 h2 => hd F2 H2 (g1.tr g2) s2 _ ⟨p, valV (kvE kf vf D) (kf k), rfl, by rw [hk.v K F2 v k h2]; exact DGet.k (s2.fr _ _ ((g1.tr g2) _ _ hF)), by
    rw [val_kv hk.inj, Option.isSome_map]; exact q _ F2 H2 g2 s2 (.bl _)⟩
/-- d[k] -/
theorem d_dget {D : List (κ × ν)} {k : κ} {x : ν} {p : Addr} (hk : KfOk kf ek) (hv : ∀ F x, Dt K F (vf x) (ev x)) (hd : VP td σ F cs (.ref p)) (ha : EvD K ta σ F cs (ek k) cs1) (hF : F p = some (.dK (kvE kf vf D))) (hx : lookK D k = some x) : EvD K (tDGet td ta) σ F cs (ev x) cs1 := fun F1 H1 g1 s Q q =>
  hd F1 H1 g1 s _ (ha F1 H1 g1 s _ fun v F2 H2 g2 s2 h2 => ⟨p, vf x, rfl, by
    have := DGet.k (k := kf k) (s2.fr _ _ ((g1.tr g2) _ _ hF))
    rw [val_kv hk.inj, hx] at this
    rw [hk.v K F2 v k h2]; exact this, q _ F2 H2 g2 s2 (hv _ _)⟩)
/-- len(d) -/
abbrev rLenD : List V → Hp → VK → Prop := fun xs H Q => ∃ a kvs, xs = [V.ref a] ∧ H a = some (.dK kvs) ∧ Q (.int kvs.length) H
theorem d_lenK {D : List (κ × ν)} {p : Addr} (hd : VP td σ F cs (.ref p)) (hF : F p = some (.dK (kvE kf vf D))) : EvD K (tCB rLenD (tCons td tNil)) σ F cs (.int D.length) cs := fun F1 H1 g1 s Q q =>
  hd F1 H1 g1 s _ ⟨p, _, rfl, s.fr _ _ (g1 _ _ hF), q _ F1 H1 .rfl s (by unfold kvE; rw [List.length_map]; exact .int _)⟩
/-- d[k] = v, d a cell -/
theorem s_dput {k1 k2 m1 m2 l1 l2 : Cs} {D D2 : List (κ × ν)} {k : κ} {x : ν} {p : Addr} (hk : KfOk kf ek) (hw : ∀ F v x, Dt K F v (ev x) → v = vf x) (s : Sta F (k1 ++ (p, .dK (kvE kf vf D)) :: k2) H) (h : EvD K te σ F (k1 ++ (p, .dK (kvE kf vf D)) :: k2) (ev x) (m1 ++ (p, .dK (kvE kf vf D)) :: m2))
    (hd : VP td σ F (m1 ++ (p, .dK (kvE kf vf D)) :: m2) (.ref p)) (ha : EvD K ta σ F (m1 ++ (p, .dK (kvE kf vf D)) :: m2) (ek k) (l1 ++ (p, .dK (kvE kf vf D)) :: l2)) (hm : putM D k x = some D2)
    (q : ∀ F2 H2, Gr F F2 → Sta F2 (l1 ++ (p, .dK (kvE kf vf D2)) :: l2) H2 → nx σ H2) : sDPut td ta te ⟨nx, rt, bk, ct⟩ σ H :=
  h F H .rfl s _ fun v F2 H2 g2 s2 hv => hd F2 H2 g2 s2 _ (ha F2 H2 g2 s2 _ fun y F3 H3 g3 s3 hy => by
    obtain ⟨hl, rfl⟩ := putM_some hm
    refine ⟨p, _, rfl, ?_, q F3 _ (g2.tr g3) (s3.putAt (o' := .dK (kvE kf vf (putKV D k x))))⟩
    rw [hk.v K F3 y k hy, hw F2 v x hv, ← put_kv hk.inj]
    exact DPut.k s3.getAt (by unfold kvE; rw [List.length_map]; exact szl hl))
/-- .. for a new name -/
theorem s_setDict {i : Nat} {σ' : Addr → St} (s : Sta F cs H) (hσ : ∀ p, σ.set i (some (.ref p)) = σ' p) (q : ∀ p H2, Sta F ((p, .dK (kvE kf vf [])) :: cs) H2 → nx (σ' p) H2) : tAsg tDNewK (gName i) ⟨nx, rt, bk, ct⟩ σ H := fun p hp => by
  show nx (σ.set i (some (.ref p))) _
  rw [hσ]
  exact q p _ (s.cell hp)
end
/-! what no tuple is, cut out -/
def nTup (o : HO) : Prop := ∀ xs, o ≠ .tup xs ∧ ∀ ob, o ≠ .frz ob (.tup xs)
theorem nt_d (kvs : List (Key × V)) : nTup (.dK kvs) := fun xs => ⟨fun z => (nomatch z), fun _ z => (nomatch z)⟩
theorem nt_l (kvs : List V) : nTup (.lst kvs) := fun xs => ⟨fun z => (nomatch z), fun _ z => (nomatch z)⟩
section
variable {K : PySem.W.Frag} {F F2 : Hp} {p : Addr} {o : HO}
mutual
theorem Dt.cutO (hp : F2 p = some o) (ho : nTup o) : ∀ {v : V} {d : PyData}, Dt K F2 v d → noL d = true → Dt K (cut F2 p) v d
  | _, _, .non, _ => .non
  | _, _, .bl b, _ => .bl b
  | _, _, .int i, _ => .int i
  | _, _, .str x, _ => .str x
  | _, _, .lst h a, n => by simp [noL] at n
  | _, _, .dct h, n => by simp [noL] at n
  | _, _, .tup (a := a) (ds := ds) h k, n => by
    have n' : noLs ds = true := by simpa [noL] using n
    refine .tup ?_ (Dts.cutO hp ho k n')
    rcases h with (h | ⟨ob, h⟩) | h
    · refine .inl (.inl ?_)
      rw [cut_ne (fun z => by rw [z, hp] at h; exact (ho _).1 (Option.some.inj h))]; exact h
    · refine .inl (.inr ⟨ob, ?_⟩)
      rw [cut_ne (fun z => by rw [z, hp] at h; exact (ho _).2 ob (Option.some.inj h))]; exact h
    · exact .inr h
theorem Dts.cutO (hp : F2 p = some o) (ho : nTup o) : ∀ {vs : List V} {ds : List PyData}, Dts K F2 vs ds → noLs ds = true → Dts K (cut F2 p) vs ds
  | _, _, .nil, _ => .nil
  | _, _, .cons h t, n => by
    rw [noLs, Bool.and_eq_true] at n
    exact .cons (Dt.cutO hp ho h n.1) (Dts.cutO hp ho t n.2)
end
end
section
variable {K : PySem.W.Frag} {σ : St} {F F' : Hp} {cs cs1 cs2 cs3 : Cs} {ta tb tc te : TE} {d e : PyData} {as : TA}
theorem d_lendO {l1 l2 m1 m2 : Cs} {p : Addr} {o : HO} (ho : nTup o) (hn : noL d = true) (h : ∀ F1, Gr F F1 → F1 p = none → EvD K te σ (upd F1 p o) (l1 ++ l2) d (m1 ++ m2)) : EvD K te σ F (l1 ++ (p, o) :: l2) d (m1 ++ (p, o) :: m2) := fun F1 H1 g1 s Q q => by
  refine h F1 g1 s.freeAt (upd F1 p o) H1 .rfl s.frozeAt Q fun v F2 H2 g2 s2 h2 => ?_
  exact q v (cut F2 p) H2 (gr_cut s.freeAt g2) (Sta.lent g2 s2) (h2.cutO (g2 p _ upd_same) ho hn)
theorem c_lendO {l1 l2 m1 m2 : Cs} {p : Addr} {o : HO} {ds : List PyData} (ho : nTup o) (hn : noLs ds = true) (h : ∀ F1, Gr F F1 → F1 p = none → EvC K te σ (upd F1 p o) (l1 ++ l2) ds (m1 ++ m2)) : EvC K te σ F (l1 ++ (p, o) :: l2) ds (m1 ++ (p, o) :: m2) := fun F1 H1 g1 s Q q => by
  refine h F1 g1 s.freeAt (upd F1 p o) H1 .rfl s.frozeAt Q fun a vs F2 H2 g2 s2 h2 => ?_
  exact q a vs (cut F2 p) H2 (gr_cut s.freeAt g2) (Sta.lent (l1 := (a, .lst vs) :: m1) g2 s2) (h2.cutO (g2 p _ upd_same) ho hn)
theorem sb_drop2 {z c : Addr × HO} : Sb (z :: c :: cs) (z :: cs) := Sb.tr (sb_perm (.swap c z cs)) sb_drop
/-- xs.insert(i, x), a cell -/
def insM {α : Type} (xs : List α) (i : Int) (x : α) : Option (List α) := if xs.length < 100000 ∧ 0 ≤ i ∧ i < 2 ^ 63 then some (xs.take i.toNat ++ [x] ++ xs.drop i.toNat) else none
abbrev rInsert : V → List V → Hp → VK → Prop := fun x vs H Q => ∃ (l : Addr) (xs : List V) (i : Int) (y : V), x = .ref l ∧ vs = [.int i, y] ∧ H l = some (.lst xs) ∧ xs.length < sizeLine ∧ 0 ≤ i ∧ i < 2 ^ 63 ∧ Q .non (upd H l (.lst (xs.take i.toNat ++ [y] ++ xs.drop i.toNat)))
theorem s_insFV {α : Type} {vf : α → V} {en : α → PyData} {k1 k2 m1 m2 l1 l2 : Cs} {to ti : TE} {p : Addr} {xs ys : List α} {x : α} {k : Int} {nx bk ct : St → Hp → Prop} {rt : VK} {H : Hp} (hw : ∀ F v x, Dt K F v (en x) → v = vf x) (s : Sta F (k1 ++ (p, .lst (xs.map vf)) :: k2) H) (hi : VP to σ F (k1 ++ (p, .lst (xs.map vf)) :: k2) (.ref p))
    (h1 : EvD K ti σ F (k1 ++ (p, .lst (xs.map vf)) :: k2) (.int k) (m1 ++ (p, .lst (xs.map vf)) :: m2)) (h : EvD K te σ F (m1 ++ (p, .lst (xs.map vf)) :: m2) (en x) (l1 ++ (p, .lst (xs.map vf)) :: l2)) (hm : insM xs k x = some ys)
    (q : ∀ F2 H2, Gr F F2 → Sta F2 (l1 ++ (p, .lst (ys.map vf)) :: l2) H2 → nx σ H2) : tDrop (tBM K "list" rInsert to (tCons ti (tCons te tNil))) ⟨nx, rt, bk, ct⟩ σ H := by
  unfold insM at hm; split at hm
  · rename_i hl
    cases hm
    refine hi F H .rfl s _ ⟨.inl ⟨rfl, _, .inl (.inl s.getAt)⟩, h1 F H .rfl s _ fun v F2 H2 g2 s2 hv => h F2 H2 g2 s2 _ fun w F3 H3 g3 s3 hx => ⟨p, xs.map vf, k, w, rfl, by rw [hv.toInt], s3.getAt, by rw [List.length_map]; exact szl hl.1, hl.2.1, hl.2.2, q F3 _ (g2.tr g3) ?_⟩⟩
    cases hw F3 w x hx
    rw [List.map_append, List.map_append, List.map_take, List.map_drop]
    exact s3.putAt
  · cases hm
end
end Bw

namespace Bw
open PySem L2
theorem eqE_OI : EqE (eO eI) := fun x y => by
  cases x <;> cases y <;> simp [eO, PyData.eqv]
  exact beq_dec _ _
theorem eqE_OS : EqE (eO eS) := fun x y => by
  cases x <;> cases y <;> simp [eO, PyData.eqv]
  exact beq_dec _ _
theorem eqE_OB : EqE (eO eB) := fun x y => by
  cases x <;> cases y <;> simp [eO, PyData.eqv]
  exact beq_dec _ _
theorem sh_OI : ShE 0 (eO eI) := fun x => by cases x <;> exact ⟨by simp [eO, PyData.canLay0], by simp [eO, PyData.depth]⟩
theorem sh_OB : ShE 0 (eO eB) := fun x => by cases x <;> exact ⟨by simp [eO, PyData.canLay0], by simp [eO, PyData.depth]⟩
section
variable {K : PySem.W.Frag} {σ : St} {F F' : Hp} {cs cs1 cs2 cs3 : Cs} {ta tb tc te : TE} {d e : PyData} {as : TA} {nx bk ct : St → Hp → Prop} {rt : VK} {H : Hp}
theorem sqT_cut {p a : Addr} {o : HO} {xs : List V} (hp : F p = some o) (ho : nTup o) (h : SqT K F a xs) : SqT K (cut F p) a xs := by
  rcases h with (h | ⟨ob, h⟩) | h
  · refine .inl (.inl ?_)
    rw [cut_ne (fun z => by rw [z, hp] at h; exact (ho _).1 (Option.some.inj h))]; exact h
  · refine .inl (.inr ⟨ob, ?_⟩)
    rw [cut_ne (fun z => by rw [z, hp] at h; exact (ho _).2 ob (Option.some.inj h))]; exact h
  · exact .inr h
theorem i_tupM {α : Type} {en : α → PyData} {xs : List α} (h : EvD K te σ F cs (.tuple (xs.map en)) cs1) : EvI K (iTup K te) σ F cs (xs.map en) cs1 := i_tup h
/-- xs.pop(k), nothing kept -/
theorem s_popFD {α : Type} {vf : α → V} {k1 k2 l1 l2 : Cs} {to : TE} {p : Addr} {xs ys : List α} {x : α} {ti : TE} {k : Int} (s : Sta F (k1 ++ (p, .lst (xs.map vf)) :: k2) H) (hi : VP to σ F (k1 ++ (p, .lst (xs.map vf)) :: k2) (.ref p))
    (h2 : EvD K ti σ F (k1 ++ (p, .lst (xs.map vf)) :: k2) (.int k) (l1 ++ (p, .lst (xs.map vf)) :: l2)) (hm : popM xs k = some (x, ys)) (q : ∀ F2 H2, Gr F F2 → Sta F2 (l1 ++ (p, .lst (ys.map vf)) :: l2) H2 → nx σ H2) : tDrop (tBM K "list" rPopAt to (tCons ti tNil)) ⟨nx, rt, bk, ct⟩ σ H := by
  obtain ⟨⟨a1, a2⟩, m, b1, b2, rfl⟩ := popM_some hm
  refine hi F H .rfl s _ ⟨.inl ⟨rfl, _, .inl (.inl s.getAt)⟩, h2 F H .rfl s _ fun w F3 H3 g3 s3 hw => ⟨p, xs.map vf, k, m, vf x, rfl, by cases hw.toInt; rfl, s3.getAt, a1, a2, by rw [List.length_map]; exact b1, by rw [List.getElem?_map, b2]; rfl, ?_⟩⟩
  have s4 := s3.putAt (o' := .lst ((xs.map vf).eraseIdx m))
  refine q F3 _ g3 ?_
  rw [er_map]; exact s4
theorem Dts.erase : ∀ {vs : List V} {ds : List PyData} (n : Nat), Dts K F vs ds → Dts K F (vs.eraseIdx n) (ds.eraseIdx n)
  | _, _, _, .nil => .nil
  | _, _, 0, .cons _ t => t
  | _, _, n + 1, .cons h t => .cons h (Dts.erase n t)
theorem s_popGD {α : Type} {en : α → PyData} {k1 k2 l1 l2 : Cs} {to : TE} {p : Addr} {vs : List V} {xs ys : List α} {x : α} {ti : TE} {k : Int} (s : Sta F (k1 ++ (p, .lst vs) :: k2) H) (hf : Dts K F vs (xs.map en)) (hi : VP to σ F (k1 ++ (p, .lst vs) :: k2) (.ref p))
    (h2 : EvD K ti σ F (k1 ++ (p, .lst vs) :: k2) (.int k) (l1 ++ (p, .lst vs) :: l2)) (hm : popM xs k = some (x, ys)) (q : ∀ us F2 H2, Gr F F2 → Sta F2 (l1 ++ (p, .lst us) :: l2) H2 → Dts K F2 us (ys.map en) → nx σ H2) : tDrop (tBM K "list" rPopAt to (tCons ti tNil)) ⟨nx, rt, bk, ct⟩ σ H := by
  obtain ⟨⟨a1, a2⟩, m, b1, b2, rfl⟩ := popM_some hm
  have hl : vs.length = xs.length := by rw [hf.len, List.length_map]
  have hm' : m < vs.length := by rw [hl]; exact (List.getElem?_eq_some_iff.mp b2).1
  refine hi F H .rfl s _ ⟨.inl ⟨rfl, _, .inl (.inl s.getAt)⟩, h2 F H .rfl s _ fun w F3 H3 g3 s3 hw => ⟨p, vs, k, m, vs[m], rfl, by cases hw.toInt; rfl, s3.getAt, a1, a2, by rw [hl]; exact b1, List.getElem?_eq_getElem hm', ?_⟩⟩
  refine q _ F3 _ g3 (s3.putAt (o' := .lst (vs.eraseIdx m))) ?_
  rw [er_map]
  exact Dts.erase m (hf.gr g3)
end
end Bw

namespace Bw
open PySem PySem.Calls PyProof.Rows PySem.W
/-! list(zip(a, b)) -/
/-- the pairs told so far, each in a tuple of its own -/
structure ZG (xs ys : Array Value) (lo : Addr) (h : Heap) (as : List Addr) : Prop where
  rise : as.Pairwise (· < ·)
  above : ∀ a ∈ as, lo < a
  pairs : ∀ (j : Nat) (a : Addr), as[j]? = some a → ∃ x y, xs[j]? = some x ∧ ys[j]? = some y ∧ h.get? a = some { cls := .type "tuple", data := .seq #[x, y] }
theorem ZG.there {xs ys : Array Value} {lo : Addr} {h : Heap} {as : List Addr} (g : ZG xs ys lo h as) {a : Addr} (ha : a ∈ as) : a < h.objs.size := by
  obtain ⟨j, hj⟩ := List.mem_iff_getElem?.mp ha
  obtain ⟨_, _, _, _, e⟩ := g.pairs j a hj
  exact Heap.lt_size e
structure ZSt (h : Heap) (z TI TO i1 i2 l1 l2 S : Addr) (i : Nat) : Prop where
  ti : IsPair h TI (.ref i1) (.ref i2)
  it1 : h.IsListIter i1 l1 i
  it2 : h.IsListIter i2 l2 i
  out : (IsZip h z TI TO .none ∧ ∃ x y, IsPair h TO x y) ∨ ∃ T f oT, IsZipHeld h z TI TO T f ∧ h.get? T = some oT ∧ T ≠ z ∧ T ≠ i1 ∧ T ≠ i2 ∧ T ≠ S
theorem ZSt.keep {h h' : Heap} {z TI TO i1 i2 l1 l2 S : Addr} {i : Nat} (st : ZSt h z TI TO i1 i2 l1 l2 S i) (k : ∀ b o, b ≠ S → h.get? b = some o → h'.get? b = some o)
    (n1 : TI ≠ S) (n2 : i1 ≠ S) (n3 : i2 ≠ S) (n4 : z ≠ S) (n5 : TO ≠ S) : ZSt h' z TI TO i1 i2 l1 l2 S i where
  ti := k _ _ n1 st.ti
  it1 := st.it1.at fun o e => k _ o n2 e
  it2 := st.it2.at fun o e => k _ o n3 e
  out := by
    rcases st.out with ⟨a, x, y, b⟩ | ⟨T, f, oT, a, b, c1, c2, c3, c4⟩
    · exact .inl ⟨k _ _ n4 a, x, y, k _ _ n5 b⟩
    · exact .inr ⟨T, f, oT, k _ _ n4 a, k _ _ c4 b, c1, c2, c3, c4⟩
section
variable {prog : Program} {w : World} {A : Around} {E : Value → Shared → Prop} {s : Shared} {z TI TO i1 i2 l1 l2 S : Addr} {xs ys : Array Value}
theorem zl_item {i : Nat} {x y : Value} {Q : Option Value → Shared → Prop} (D : ZipApart z TI TO i1 i2 l1 l2) (st : ZSt s.heap z TI TO i1 i2 l1 l2 S i) (hS : S < s.heap.objs.size) (hl1 : s.heap.IsList l1 xs) (hl2 : s.heap.IsList l2 ys)
    (hx : xs[i]? = some x) (hy : ys[i]? = some y)
    (hQ : ∀ h', ZSt h' z TI TO i1 i2 l1 l2 S (i + 1) → IsPair h' s.heap.objs.size x y → h'.objs.size = s.heap.objs.size + 1 →
      (∀ c o, c ≠ z → c ≠ TO → c ≠ i1 → c ≠ i2 → s.heap.get? c = some o → h'.get? c = some o) → Q (some (.ref s.heap.objs.size)) { s with heap := h' }) : wpAny (model prog w) A (pyNext (.ref z)) Q E s := by
  have li1 : i1 < s.heap.objs.size := let ⟨_, e, _⟩ := st.it1; Heap.lt_size e
  have li2 : i2 < s.heap.objs.size := let ⟨_, e, _⟩ := st.it2; Heap.lt_size e
  rcases st.out with ⟨hz, a, b, hTO⟩ | ⟨T, f, oT, hz, hT, c1, c2, c3, c4⟩
  · have lz : z < s.heap.objs.size := Heap.lt_size hz
    exact wpAny_pyNext_zip_item D hz st.ti hTO st.it1 st.it2 hl1 hl2 hx hy fun h' hz' _ h1' h2' hp hsz hk =>
      hQ h' ⟨hk _ _ D.TIz D.TITO D.TIi1 D.TIi2 st.ti, h1', h2', .inr ⟨_, false, _, hz', hp, Nat.ne_of_gt lz, Nat.ne_of_gt li1, Nat.ne_of_gt li2, Nat.ne_of_gt hS⟩⟩ hp hsz hk
  · exact wpAny_pyNext_zip_item_held D hz hT st.ti st.it1 st.it2 hl1 hl2 hx hy fun h' hz' h1' h2' hp hsz hk =>
      hQ h' ⟨hk _ _ D.TIz D.TIi1 D.TIi2 st.ti, h1', h2', .inr ⟨T, true, oT, hz', hk _ _ c1 c2 c3 hT, c1, c2, c3, c4⟩⟩ hp hsz fun c o q1 _ q3 q4 e => hk c o q1 q3 q4 e
theorem zl_done {i : Nat} {Q : Option Value → Shared → Prop} (hh : A.handled = none) (D : ZipApart z TI TO i1 i2 l1 l2) (st : ZSt s.heap z TI TO i1 i2 l1 l2 S i) (hl1 : s.heap.IsList l1 xs) (hl2 : s.heap.IsList l2 ys)
    (hend : xs[i]? = none ∨ ys[i]? = none)
    (hQ : ∀ h', (∀ c o, c ≠ z → c ≠ TO → c ≠ i1 → c ≠ i2 → s.heap.get? c = some o → h'.get? c = some o) → Q none { s with heap := h' }) : wpAny (model prog w) A (pyNext (.ref z)) Q E s := by
  rcases st.out with ⟨hz, a, b, hTO⟩ | ⟨T, f, oT, hz, hT, c1, c2, c3, c4⟩
  · exact wpAny_pyNext_zip_end hh D hz st.ti hTO st.it1 st.it2 hl1 hl2 hend hQ
  · exact wpAny_pyNext_zip_end_held hh D hz hT st.ti st.it1 st.it2 hl1 hl2 hend fun h' hk => hQ h' fun c o q1 _ q3 q4 e => hk c o q1 q3 q4 e
end
section
variable {prog : Program} {w : World} {A : Around} {s : Shared} {R : Result → Shared → Prop} {z TI TO i1 i2 l1 l2 S : Addr} {xs ys : Array Value}
theorem zl_loop (hh : A.handled = none) (D : ZipApart z TI TO i1 i2 l1 l2) (nz : z < S) (nTI : TI < S) (nTO : TO < S) (n1 : i1 < S) (n2 : i2 < S) (nl1 : l1 < S) (nl2 : l2 < S) (hn : min xs.size ys.size ≤ sizeLine) (res : Value) {h₁ : Heap}
    (hR : ∀ h' tk acc c as, (∀ b o, b ≠ S → b ≠ z → b ≠ TO → b ≠ i1 → b ≠ i2 → h₁.get? b = some o → h'.get? b = some o) → h'.get? S = some { cls := .type "list", dict := none, data := .seq acc c, slots := #[] } → as.length = min xs.size ys.size →
      ZG xs ys S h' as → acc.toList = as.map Value.ref → R (.ok (.ret res)) { s with heap := h', toks := tk }) :
    ∀ (k i : Nat) (h : Heap) (tk c : Nat) (acc : Array Value) (as : List Addr), min xs.size ys.size - i = k → i ≤ min xs.size ys.size → ZSt h z TI TO i1 i2 l1 l2 S i → h.IsList l1 xs → h.IsList l2 ys →
      (∀ b o, b ≠ S → b ≠ z → b ≠ TO → b ≠ i1 → b ≠ i2 → h₁.get? b = some o → h.get? b = some o) →
      h.get? S = some { cls := .type "list", dict := none, data := .seq acc c, slots := #[] } → acc.toList = as.map Value.ref → as.length = i → ZG xs ys S h as →
      codeAny (model prog w) A (.builtin "list.extend.loop" ⟨[.ref S, .ref z, res], []⟩) R { s with heap := h, toks := tk } := by
  have a1 : S ≠ z := Nat.ne_of_gt nz
  have a2 : S ≠ TO := Nat.ne_of_gt nTO
  have a3 : S ≠ i1 := Nat.ne_of_gt n1
  have a4 : S ≠ i2 := Nat.ne_of_gt n2
  have gt : ∀ {b : Addr}, S < b → b ≠ S ∧ b ≠ z ∧ b ≠ TO ∧ b ≠ i1 ∧ b ≠ i2 := fun {b} hb => ⟨Nat.ne_of_gt hb, Nat.ne_of_gt (Nat.lt_trans nz hb), Nat.ne_of_gt (Nat.lt_trans nTO hb), Nat.ne_of_gt (Nat.lt_trans n1 hb), Nat.ne_of_gt (Nat.lt_trans n2 hb)⟩
  intro k
  induction k with
  | zero =>
    intro i h tk c acc as hk hi st hl1 hl2 hkeep hS hacc hal hG
    have hin : i = min xs.size ys.size := by omega
    refine codeAny_builtin PySem.F.entry_extend_loop ?_
    rw [Around.under_plainId PySem.F.plain_extend_loop _]
    show wpAny _ A.in1 (pyNext (.ref z) >>= _) _ _ _
    have hend : xs[i]? = none ∨ ys[i]? = none := by
      by_cases q : xs.size ≤ i
      · exact .inl (Array.getElem?_eq_none q)
      · exact .inr (Array.getElem?_eq_none (by omega))
    refine wpAny_bind (zl_done (s := { s with heap := h, toks := tk }) (A := A.in1) hh D st hl1 hl2 hend fun h' he => ?_)
    refine wpAny_pure (hR h' tk acc c as (fun b o q0 q1 q2 q3 q4 e => he b o q1 q2 q3 q4 (hkeep b o q0 q1 q2 q3 q4 e)) (he S _ a1 a2 a3 a4 hS) (by omega) ⟨hG.rise, hG.above, fun j a hj => ?_⟩ hacc)
    obtain ⟨x, y, e1, e2, e3⟩ := hG.pairs j a hj
    obtain ⟨_, q1, q2, q3, q4⟩ := gt (hG.above a (List.mem_of_getElem? hj))
    exact ⟨x, y, e1, e2, he a _ q1 q2 q3 q4 e3⟩
  | succ k ih =>
    intro i h tk c acc as hk hi st hl1 hl2 hkeep hS hacc hal hG
    have hlt : i < min xs.size ys.size := by omega
    have hx : xs[i]? = some xs[i] := Array.getElem?_eq_getElem (by omega)
    have hy : ys[i]? = some ys[i] := Array.getElem?_eq_getElem (by omega)
    generalize xs[i] = x at hx
    generalize ys[i] = y at hy
    have hsz : acc.size = i := by rw [← Array.length_toList, hacc, List.length_map, hal]
    refine codeAny_builtin PySem.F.entry_extend_loop ?_
    rw [Around.under_plainId PySem.F.plain_extend_loop _]
    show wpAny _ A.in1 (pyNext (.ref z) >>= _) _ _ _
    refine wpAny_bind (zl_item (s := { s with heap := h, toks := tk }) (S := S) D st (Heap.lt_size hS) hl1 hl2 hx hy fun h' st' ht hz hkp => ?_)
    dsimp only at ht hz hkp ⊢
    have hS' := hkp S _ a1 a2 a3 a4 hS
    have up : ∀ b o, b ≠ S → h'.get? b = some o → (h'.update S (Obj.mapSeq (·.push (Value.ref h.objs.size)))).get? b = some o := fun b o hb e => (Heap.get?_update_other _ _ (Ne.symm hb)).trans e
    have hSl : S < h.objs.size := Heap.lt_size hS
    show wpAny _ A.in1 (updateSeq S (·.push (Value.ref h.objs.size)) >>= _) _ _ _
    refine wpAny_bind ?_
    refine wpAny_updateSeq hS' rfl (wpAny_pure ⟨plainId_quiet PySem.F.plain_extend_loop _, ih (i + 1) _ tk _ (acc.push (Value.ref h.objs.size)) (as ++ [h.objs.size]) (by omega) hlt
      (st'.keep up (Nat.ne_of_lt nTI) (Nat.ne_of_lt n1) (Nat.ne_of_lt n2) (Nat.ne_of_lt nz) (Nat.ne_of_lt nTO)) (hl1.at fun o e => up l1 o (Nat.ne_of_lt nl1) (hkp l1 o D.l1z D.l1TO D.l1i1 D.l1i2 e)) (hl2.at fun o e => up l2 o (Nat.ne_of_lt nl2) (hkp l2 o D.l2z D.l2TO D.l2i1 D.l2i2 e))
      (fun b o q0 q1 q2 q3 q4 e => up b o q0 (hkp b o q1 q2 q3 q4 (hkeep b o q0 q1 q2 q3 q4 e))) (Heap.get?_update_self _ hS' rfl) (by rw [Array.toList_push, hacc, List.map_append]; rfl) (by rw [List.length_append, hal]; rfl) ⟨?_, ?_, ?_⟩⟩) (by rw [hsz]; omega) (by show (acc.push (Value.ref h.objs.size)).size ≤ sizeLine + 1; rw [Array.size_push, hsz]; omega)
    · refine List.pairwise_append.mpr ⟨hG.rise, List.pairwise_singleton _ _, fun a ha b hb => ?_⟩
      rw [List.mem_singleton.mp hb]
      exact hG.there ha
    · intro a ha
      rcases List.mem_append.mp ha with ha | ha
      · exact hG.above a ha
      · rw [List.mem_singleton.mp ha]; exact hSl
    · intro j b hj
      rcases Nat.lt_trichotomy j as.length with h1 | h1 | h1
      · rw [List.getElem?_append_left h1] at hj
        obtain ⟨x', y', e1, e2, e3⟩ := hG.pairs j b hj
        obtain ⟨q0, q1, q2, q3, q4⟩ := gt (hG.above b (List.mem_of_getElem? hj))
        exact ⟨x', y', e1, e2, up b _ q0 (hkp b _ q1 q2 q3 q4 e3)⟩
      · subst h1
        have hb : h.objs.size = b := by simpa using hj
        subst hb
        subst hal
        exact ⟨x, y, hx, hy, up _ _ (Nat.ne_of_gt hSl) ht⟩
      · have hnone : (as ++ [h.objs.size])[j]? = none := List.getElem?_eq_none (by rw [List.length_append, List.length_singleton]; omega)
        rw [hnone] at hj; cases hj
end
theorem zl_len : typeLookup (.type "zip") "__len__" = pure none := by rw [typeLookup_type, builtinLookup_eq_fast]; kernel_rfl
theorem zl_hin : typeLookup (.type "zip") "__length_hint__" = pure none := by rw [typeLookup_type, builtinLookup_eq_fast]; kernel_rfl
section
variable {prog : Program} {w : World} {A : Around} {E : Value → Shared → Prop} {s : Shared} {z TI TO i1 i2 l1 l2 S : Addr} {xs ys : Array Value}
theorem zl_hint {r : Addr} {Q : Bool → Shared → Prop} (hT : s.TypeIs (.ref r) "zip") (h : Q true s) : wpAny (model prog w) A (Builtin.List.listLengthHint (.ref r)) Q E s := by
  unfold Builtin.List.listLengthHint
  refine wpAny_bind (wpAny_specialOf hT zl_len ?_)
  refine wpAny_ite_split (fun hab => absurd hab (by decide)) (fun _ => ?_)
  refine wpAny_ite_split (fun hab => absurd hab (by decide)) (fun _ => ?_)
  refine wpAny_bind (wpAny_specialOf hT zl_hin ?_)
  exact wpAny_pure h
theorem zl_extend {R : Result → Shared → Prop} (hh : A.handled = none) (D : ZipApart z TI TO i1 i2 l1 l2) (st : ZSt s.heap z TI TO i1 i2 l1 l2 S 0) (hl1 : s.heap.IsList l1 xs) (hl2 : s.heap.IsList l2 ys)
    (nz : z < S) (nTI : TI < S) (nTO : TO < S) (n1 : i1 < S) (n2 : i2 < S) (nl1 : l1 < S) (nl2 : l2 < S) (hz : IsZip s.heap z TI TO .none) (res : Value) (c₀ : Nat) (hS : s.heap.get? S = some { cls := .type "list", data := .seq #[] c₀ })
    (hR : ∀ h' tk acc c as, (∀ b o, b ≠ S → b ≠ z → b ≠ TO → b ≠ i1 → b ≠ i2 → s.heap.get? b = some o → h'.get? b = some o) → h'.get? S = some { cls := .type "list", dict := none, data := .seq acc c, slots := #[] } → as.length = min xs.size ys.size →
      ZG xs ys S h' as → acc.toList = as.map Value.ref → R (.ok (.ret res)) { s with heap := h', toks := tk }) (hn : min xs.size ys.size ≤ sizeLine) :
    wpAny (model prog w) A.in1 (Builtin.List.listExtendWith (.ref S) (.ref z) res)
      (fun fin s' => match fin with | .done f => R (.ok f) s' | .again c' => c'.quiet = true ∧ codeAny (model prog w) A c' R s') (fun e s' => R (.error e) s') s := by
  have hT : s.TypeIs (.ref z) "zip" := ⟨_, hz, rfl⟩
  have key : ∀ (h : Heap) (c₁ tk : Nat), (∀ b o, b ≠ S → s.heap.get? b = some o → h.get? b = some o) →
      h.get? S = some { cls := .type "list", data := .seq #[] c₁ } → codeAny (model prog w) A (.builtin "list.extend.loop" ⟨[.ref S, .ref z, res], []⟩) R { s with heap := h, toks := tk } := by
    intro h c₁ tk hk hS₁
    exact zl_loop (s := s) (h₁ := s.heap) hh D nz nTI nTO n1 n2 nl1 nl2 hn res hR (min xs.size ys.size) 0 h tk c₁ #[] [] (Nat.sub_zero _) (Nat.zero_le _)
      (st.keep hk (Nat.ne_of_lt nTI) (Nat.ne_of_lt n1) (Nat.ne_of_lt n2) (Nat.ne_of_lt nz) (Nat.ne_of_lt nTO)) (hl1.at fun o e => hk _ o (Nat.ne_of_lt nl1) e) (hl2.at fun o e => hk _ o (Nat.ne_of_lt nl2) e)
      (fun b o hb _ _ _ _ e => hk b o hb e) hS₁ rfl rfl ⟨List.Pairwise.nil, (fun _ ha => nomatch ha), (fun j a hj => by simp at hj)⟩
  unfold Builtin.List.listExtendWith
  refine wpAny_bind (wpAny_typeOf (T := "zip") hT ?_)
  have h1 : Builtin.List.listSameRef (.ref S) (.ref z) = false := by simp [Builtin.List.listSameRef, Nat.ne_of_gt nz]
  have h2 : (Value.type "zip" == Value.type "list") = false := by decide
  have h3 : (Value.type "zip" == Value.type "tuple") = false := by decide
  simp only [h1, h2, h3, Bool.or_false, Bool.false_eq_true, if_false]
  refine wpAny_bind (wpAny_pyIter_zip hz ?_)
  refine wpAny_bind (wpAny_holding (zl_hint hT ?_))
  refine wpAny_ite_split (fun _ => ?_) (fun hab => absurd rfl hab)
  refine wpAny_bind (wpAny_rule ?_)
  refine wpAny_bind ?_
  show wpAny _ _ (updateSeq S (·.push .none) >>= fun _ => updateSeq S (·.pop)) _ _ _
  refine wpAny_bind (wpAny_updateSeq hS rfl ?_)
  have hS₂ := Heap.get?_update_self (Obj.mapSeq (·.push Value.none)) hS rfl
  refine wpAny_updateSeq (hz := by seq_fits) hS₂ rfl ?_
  have hS₃ := Heap.get?_update_self (Obj.mapSeq (·.pop)) hS₂ rfl
  refine wpAny_pure ⟨plainId_quiet PySem.F.plain_extend_loop _, key _ _ _ (fun b o hb e => ?_) hS₃⟩
  exact (Heap.get?_update_other _ _ (Ne.symm hb)).trans ((Heap.get?_update_other _ _ (Ne.symm hb)).trans e)
theorem zl_init {R : Result → Shared → Prop} (hh : A.handled = none) (D : ZipApart z TI TO i1 i2 l1 l2) (st : ZSt s.heap z TI TO i1 i2 l1 l2 S 0) (hl1 : s.heap.IsList l1 xs) (hl2 : s.heap.IsList l2 ys)
    (nz : z < S) (nTI : TI < S) (nTO : TO < S) (n1 : i1 < S) (n2 : i2 < S) (nl1 : l1 < S) (nl2 : l2 < S) (hz : IsZip s.heap z TI TO .none) (hS : s.heap.get? S = some { cls := .type "list", data := .seq #[] })
    (hR : ∀ h' tk acc c as, (∀ b o, b ≠ S → b ≠ z → b ≠ TO → b ≠ i1 → b ≠ i2 → s.heap.get? b = some o → h'.get? b = some o) → h'.get? S = some { cls := .type "list", dict := none, data := .seq acc c, slots := #[] } → as.length = min xs.size ys.size →
      ZG xs ys S h' as → acc.toList = as.map Value.ref → R (.ok (.ret .none)) { s with heap := h', toks := tk }) (hn : min xs.size ys.size ≤ sizeLine) :
    wpAny (model prog w) A.in1 (Builtin.«list.__init__» ⟨[.ref S, .ref z], []⟩)
      (fun fin s' => match fin with | .done f => R (.ok f) s' | .again c' => c'.quiet = true ∧ codeAny (model prog w) A c' R s') (fun e s' => R (.error e) s') s := by
  show wpAny _ _ (do let old ← Builtin.List.listItems (.ref S); Builtin.List.listUpdate (.ref S) (fun _ => #[]); letGo old.toList.reverse; Builtin.List.listExtendWith (.ref S) (.ref z) .none) _ _ s
  refine wpAny_bind ?_
  unfold Builtin.List.listItems
  refine wpAny_bind (wpAny_seqItems hS rfl (wpAny_pure ?_))
  show wpAny _ _ (updateSeq S (fun _ => #[]) >>= fun _ => letGo (#[] : Array Value).toList.reverse >>= fun _ => Builtin.List.listExtendWith (.ref S) (.ref z) .none) _ _ s
  refine wpAny_bind (wpAny_updateSeq hS rfl ?_)
  have hS₂ := Heap.get?_update_self (Obj.mapSeq (fun _ => (#[] : Array Value))) hS rfl
  have oth : ∀ b o, b ≠ S → s.heap.get? b = some o → (s.heap.update S (Obj.mapSeq (fun _ => (#[] : Array Value)))).get? b = some o :=
    fun b o hb e => (Heap.get?_update_other _ _ (Ne.symm hb)).trans e
  refine wpAny_bind (wpAny_letGo ?_)
  refine zl_extend hh D (st.keep oth (Nat.ne_of_lt nTI) (Nat.ne_of_lt n1) (Nat.ne_of_lt n2) (Nat.ne_of_lt nz) (Nat.ne_of_lt nTO)) (hl1.at fun o e => oth _ o (Nat.ne_of_lt nl1) e) (hl2.at fun o e => oth _ o (Nat.ne_of_lt nl2) e)
    nz nTI nTO n1 n2 nl1 nl2 (oth _ _ (Nat.ne_of_lt nz) hz) .none _ hS₂ (fun h' tk acc c as hk hS' hl hG hacc => ?_) hn
  exact hR h' tk acc c as (fun b o q0 q1 q2 q3 q4 e => hk b o q0 q1 q2 q3 q4 (oth b o q0 e)) hS' hl hG hacc
theorem zl_call {Q : Value → Shared → Prop} {a b : Value} (hh : A.handled = none) (D : ZipApart z TI TO i1 i2 l1 l2) (hz : IsZip s.heap z TI TO .none) (hTI : IsPair s.heap TI (.ref i1) (.ref i2)) (hTO : IsPair s.heap TO a b) (h1 : s.heap.IsListIter i1 l1 0) (h2 : s.heap.IsListIter i2 l2 0)
    (hl1 : s.heap.IsList l1 xs) (hl2 : s.heap.IsList l2 ys) (hn : min xs.size ys.size ≤ sizeLine)
    (hQ : ∀ h' tk acc c as, (∀ b o, b ≠ z → b ≠ TO → b ≠ i1 → b ≠ i2 → s.heap.get? b = some o → h'.get? b = some o) → h'.get? s.heap.objs.size = some { cls := .type "list", dict := none, data := .seq acc c, slots := #[] } → as.length = min xs.size ys.size →
      ZG xs ys s.heap.objs.size h' as → acc.toList = as.map Value.ref → Q (.ref s.heap.objs.size) { s with heap := h', toks := tk }) :
    wpAny (model prog w) A (call (.type "list") [.ref z]) Q E s := by
  refine callType_codes (Q₁ := fun obj s₁ => obj = .ref s.heap.objs.size ∧ s₁ = { s with heap := s.heap.push { cls := .type "list", data := .seq #[] } }) PySem.F.called_list (PySem.F.typeCall_list_1 _) PySem.F.entry_list_init
    (code_list_new _ ⟨rfl, rfl⟩) fun obj s₁ h₁ => ?_
  obtain ⟨rfl, rfl⟩ := h₁
  have hS : (s.heap.push { cls := .type "list", data := .seq #[] }).get? s.heap.objs.size = some { cls := .type "list", data := .seq #[] } := Heap.get?_push_size _ rfl
  have pk : ∀ b o, s.heap.get? b = some o → (s.heap.push { cls := .type "list", data := .seq #[] }).get? b = some o := fun b o e => Heap.get?_push_of_some _ e
  have li1 : i1 < s.heap.objs.size := let ⟨_, e, _⟩ := h1; Heap.lt_size e
  have li2 : i2 < s.heap.objs.size := let ⟨_, e, _⟩ := h2; Heap.lt_size e
  have ll1 : l1 < s.heap.objs.size := let ⟨_, e, _⟩ := hl1; Heap.lt_size e
  have ll2 : l2 < s.heap.objs.size := let ⟨_, e, _⟩ := hl2; Heap.lt_size e
  refine ⟨⟨_, hS, rfl⟩, PySem.F.args_list_init_2 _ _, zl_init (A := A.in1) hh D ⟨pk _ _ hTI, h1.at fun o e => pk _ o e, h2.at fun o e => pk _ o e, .inl ⟨pk _ _ hz, _, _, pk _ _ hTO⟩⟩ (hl1.at fun o e => pk _ o e) (hl2.at fun o e => pk _ o e)
    (Heap.lt_size hz) (Heap.lt_size hTI) (Heap.lt_size hTO) li1 li2 ll1 ll2 (pk _ _ hz) hS (fun h' tk acc c as hk hS' hl hG hacc => ?_) hn⟩
  exact ⟨rfl, hQ h' tk acc c as (fun b o q1 q2 q3 q4 e => hk b o (Nat.ne_of_lt (Heap.lt_size e)) q1 q2 q3 q4 (Heap.get?_push_of_some _ e)) hS' hl hG hacc⟩
end
end Bw
namespace Bw
open PySem L2
/-! the laid pairs -/
def layT : Hp → List (V × V) → List Addr → Hp
  | H, p :: ps, t :: ts => layT (upd H t (.tup [p.1, p.2])) ps ts
  | H, _, _ => H
def freT : Hp → List (V × V) → List Addr → Prop
  | H, p :: ps, t :: ts => H t = none ∧ freT (upd H t (.tup [p.1, p.2])) ps ts
  | _, [], [] => True
  | _, _, _ => False
theorem layT_ne : ∀ (ts : List Addr) (ps : List (V × V)) (H : Hp) (b : Addr), b ∉ ts → layT H ps ts b = H b
  | [], [], _, _, _ => rfl
  | [], _ :: _, _, _, _ => rfl
  | _ :: _, [], _, _, _ => rfl
  | t :: ts, p :: ps, H, b, h => by
    show layT (upd H t _) ps ts b = _
    have n : b ≠ t := fun q => h (by rw [q]; exact List.mem_cons_self)
    rw [layT_ne ts ps _ b fun q => h (List.mem_cons_of_mem _ q), upd_ne n]
theorem freT_of : ∀ (ts : List Addr) (ps : List (V × V)) (H : Hp), ts.length = ps.length → ts.Nodup → (∀ t ∈ ts, H t = none) → freT H ps ts
  | [], [], _, _, _, _ => trivial
  | [], _ :: _, _, h, _, _ => by simp at h
  | _ :: _, [], _, h, _, _ => by simp at h
  | t :: ts, p :: ps, H, hl, nd, hn => by
    rw [List.nodup_cons] at nd
    refine ⟨hn t List.mem_cons_self, freT_of ts ps _ (by simpa using hl) nd.2 fun u hu => ?_⟩
    have n : u ≠ t := fun q => nd.1 (by rw [← q]; exact hu)
    rw [upd_ne n]
    exact hn u (List.mem_cons_of_mem _ hu)
theorem layT_at : ∀ (ts : List Addr) (ps : List (V × V)) (H : Hp) (j : Nat) (t : Addr) (p : V × V), ts.Nodup → ts[j]? = some t → ps[j]? = some p → layT H ps ts t = some (.tup [p.1, p.2])
  | [], _, _, _, _, _, _, h, _ => by simp at h
  | _ :: _, [], _, _, _, _, _, _, h => by simp at h
  | u :: ts, q :: ps, H, j, t, p, nd, h1, h2 => by
    rw [List.nodup_cons] at nd
    show layT (upd H u _) ps ts t = _
    cases j with
    | zero =>
      simp only [List.getElem?_cons_zero, Option.some.injEq] at h1 h2
      subst h1; subst h2
      rw [layT_ne ts ps _ _ nd.1, upd_same]
    | succ j => exact layT_at ts ps _ j t p nd.2 (by simpa using h1) (by simpa using h2)
def tListZip (K : PySem.W.Frag) (ta : TA) : TE := fun σ H Q => ta σ H fun vs H1 => ∃ a b xs ys, vs = [.ref a, .ref b] ∧ SqL K H1 a xs ∧ SqL K H1 b ys ∧
  ∀ (ts : List Addr) (l : Addr), freT H1 (xs.zip ys) ts → layT H1 (xs.zip ys) ts l = none → Q (.ref l) (upd (layT H1 (xs.zip ys) ts) l (.lst (ts.map V.ref)))
/-- many things laid at once -/
theorem inv_many {X : Cx} {pins : List (Addr × Obj)} {σ : St} {H H' : Hp} {s : Shared} {h' : Heap} {t' : Nat} (I : Inv X pins σ H s) (k : ∀ b u, s.heap.get? b = some u → h'.get? b = some u)
    (same : ∀ b, b < s.heap.objs.size → H' b = H b) (new : ∀ b o, s.heap.objs.size ≤ b → H' b = some o → ObjOk X.prog X.w H' h' b o) : Inv X pins σ H' { s with heap := h', toks := t' } := by
  refine I.un ⟨fun b o e _ _ _ => k b o e, fun b o e _ _ _ => ⟨o.slots, k b o e⟩, fun b o e n _ => (same b (Heap.lt_size e)).trans n, fun b o e _ => ⟨o, k b o e⟩, fun b xs e => (same b (I.hok.lt e)).trans e, fun b o u e => (same b (I.hok.lt e)).trans e, fun b ps e => ⟨#[], by rw [same b (I.hok.lt e), e]; simp⟩⟩ fun b o e => ?_
  by_cases q : b < s.heap.objs.size
  · rw [same b q] at e
    exact (I.hok b o e).stay (fun c u _ z => k c u z) (fun c z => (same c (I.hok.lt z)).trans z) fun c xs z => (same c (I.hok.lt z)).trans z
  · exact new b o (Nat.le_of_not_lt q) e
theorem vals_refs : ∀ as : List Addr, Vals (as.map V.ref) (as.map Value.ref)
  | [] => .nil
  | _ :: as => .cons rfl (vals_refs as)
section
variable {X : Cx} {e e2 : Expr} {ta : TA} {p p0 pos pos0 : Pos}
theorem pe_listzip (hg0 : Gl X "list") (hm0 : X.mg "list" = none) (hg : Gl X "zip") (hm : X.mg "zip" = none) (ha : PA X [e, e2] ta) (hc : X.calm = true)
    (hs : starEach [e, e2] X.env = (false, eval e X.env) :: starEach [e2] X.env := by rfl) (hpl : (backTo pos (starEach [e2] X.env)).any (·.1) = false := by rfl) :
    PE X (.Call (.Name "list" p0) [.Call (.Name "zip" p) [e, e2] [] pos] [] pos0) (tListZip X.K ta) := by
  refine ⟨fun pins s σ H Q I h => ?_⟩
  refine wpAny_Call_Name_kw (ld_blt I hg0 hm0 PyProof.Rows.boot_list ?_)
  refine PyProof.Rows.callWith_type1 (Calls.spliced_cons ?_) rfl rfl
  refine PyProof.Rows.Call_ (ld_blt I hg hm PyProof.Rows.boot_zip (PyProof.Rows.callWith_type1 (thn (ha.run pos pins s σ H _ I h) fun us s1 ⟨vs, H1, I1, r1, q1⟩ => ?_) hs hpl))
  obtain ⟨a, b, xs, ys, ex, hqx, hqy, q⟩ := q1
  subst ex
  cases r1 with
  | cons r rr =>
    cases rr with
    | cons r' rr =>
      cases rr
      cases r
      cases r'
      obtain ⟨its, rv, p1, z1⟩ := I1.list hqx
      obtain ⟨its2, rv2, p2, z2⟩ := I1.list hqy
      have la : a < s1.heap.objs.size := p1.lt
      have lb : b < s1.heap.objs.size := p2.lt
      have e1 := rv.length
      have e2 := rv2.length
      refine call_zip_2 p1.isList p2.isList fun h' hz hTI hTO h1 h2 hsz hk => ?_
      refine Calls.spliced_nil ?_
      refine zl_call (s := { s1 with heap := h' }) (xs := its.toArray) (ys := its2.toArray) (I.ok.hd hc) (PySem.W.ktu_apart s1.heap.objs.size a b la lb) hz hTI hTO h1 h2 (p1.isList.at fun o x => hk _ o x) (p2.isList.at fun o x => hk _ o x) (by simp only [List.size_toArray]; omega) fun h'' tk acc c as hk2 hl hlen hG hacc => ?_
      dsimp only at hl hlen hG ⊢
      have keep : ∀ b o, s1.heap.get? b = some o → h''.get? b = some o := fun b o x => by
        have bl : b < s1.heap.objs.size := Heap.lt_size x
        have up : ∀ k : Nat, b ≠ s1.heap.objs.size + k := fun k => Nat.ne_of_lt (Nat.lt_of_lt_of_le bl (Nat.le_add_right _ _))
        exact hk2 b o (up 4) (up 3) (up 0) (up 1) (hk b o x)
      have sz' : s1.heap.objs.size ≤ h'.objs.size := by rw [hsz]; exact Nat.le_add_right _ _
      have nd : as.Nodup := hG.rise.imp fun hab => Nat.ne_of_lt hab
      have hab : ∀ t ∈ as, s1.heap.objs.size + 5 < t := fun t ht => hsz ▸ hG.above t ht
      have zl : (xs.zip ys).length = as.length := by rw [List.length_zip, hlen]; simp only [List.size_toArray]; omega
      have nl : h'.objs.size ∉ as := fun hm => Nat.lt_irrefl _ (hG.above _ hm)
      have fr : ∀ t ∈ as, H1 t = none := fun t ht => I1.hok.fresh (Nat.le_of_lt (Nat.lt_of_le_of_lt (Nat.le_add_right _ 5) (hab t ht)))
      have ln : layT H1 (xs.zip ys) as h'.objs.size = none := by rw [layT_ne _ _ _ _ nl]; exact I1.hok.fresh sz'
      have I2 : Inv X pins σ (upd (layT H1 (xs.zip ys) as) h'.objs.size (.lst (as.map V.ref))) { s1 with heap := h'', toks := tk } := by
        refine inv_many I1 keep (fun b hb => ?_) fun b o hb ho => ?_
        · rw [upd_ne (Nat.ne_of_lt (Nat.lt_of_lt_of_le hb sz')), layT_ne _ _ _ _ fun hm => Nat.lt_irrefl _ (Nat.lt_trans (Nat.lt_of_lt_of_le hb (Nat.le_add_right _ 5)) (hab b hm))]
        · by_cases q1 : b = h'.objs.size
          · subst q1
            rw [upd_same] at ho
            cases ho
            refine ⟨by rw [List.length_map, ← zl, List.length_zip]; omega, acc.toList, c, ?_, by rw [Array.toArray_toList]; exact hl⟩
            rw [hacc]
            exact vals_refs as
          · rw [upd_ne q1] at ho
            by_cases q2 : b ∈ as
            · obtain ⟨j, hj⟩ := List.mem_iff_getElem?.mp q2
              have hjl : j < as.length := (List.getElem?_eq_some_iff.mp hj).1
              have hjz : (xs.zip ys)[j]? = some (xs.zip ys)[j] := List.getElem?_eq_getElem (by omega)
              have hat := layT_at as (xs.zip ys) H1 j b _ nd hj hjz
              rw [hat] at ho
              cases ho
              obtain ⟨x, y, x1, y1, hT⟩ := hG.pairs j b hj
              have hx : xs[j]? = some (xs.zip ys)[j].1 := by
                rw [List.getElem_zip]; exact List.getElem?_eq_getElem _
              have hy : ys[j]? = some (xs.zip ys)[j].2 := by
                rw [List.getElem_zip]; exact List.getElem?_eq_getElem _
              obtain ⟨u, hu1, ru⟩ := rv.get hx
              obtain ⟨u2, hu2, ru2⟩ := rv2.get hy
              have x1' : its[j]? = some x := by simpa using x1
              have y1' : its2[j]? = some y := by simpa using y1
              rw [hu1] at x1'; cases x1'
              rw [hu2] at y1'; cases y1'
              exact ⟨by show 2 ≤ sizeLine; decide, [_, _], .cons ru (.cons ru2 .nil), ⟨_, hT, rfl, _, rfl⟩⟩
            · rw [layT_ne _ _ _ _ q2, I1.hok.fresh hb] at ho
              cases ho
      exact ⟨.ref h'.objs.size, _, I2, rfl, q as _ (freT_of _ _ _ zl.symm nd fr) ln⟩
end
section
variable {K : PySem.W.Frag} {σ : St} {F : Hp} {cs cs1 : Cs} {as : TA}
theorem lay_sta : ∀ (vs ws : List V) (ds es : List PyData) (ts : List Addr) (F H : Hp), Sta F cs H → freT H (vs.zip ws) ts → Dts K F vs ds → Dts K F ws es → ∃ F', Gr F F' ∧ Sta F' cs (layT H (vs.zip ws) ts) ∧ Dts K F' (ts.map V.ref) (List.zipWith (fun d e => PyData.tuple [d, e]) ds es)
  | [], _, _, _, ts, F, H, s, f, h1, h2 => by
    cases h1
    cases ts with
    | nil => exact ⟨F, Gr.rfl, s, .nil⟩
    | cons t ts => exact absurd f id
  | _ :: _, [], _, _, ts, F, H, s, f, h1, h2 => by
    cases h1
    cases h2
    cases ts with
    | nil => exact ⟨F, Gr.rfl, s, .nil⟩
    | cons t ts => exact absurd f id
  | v :: vs, w :: ws, _, _, ts, F, H, s, f, h1, h2 => by
    cases h1 with
    | cons a1 b1 =>
      cases h2 with
      | cons a2 b2 =>
        cases ts with
        | nil => exact absurd f id
        | cons t ts =>
          obtain ⟨nt, f⟩ := f
          have g0 : Gr F (upd F t (.tup [v, w])) := Gr.new (s.fr.back nt)
          obtain ⟨F', g, s', d⟩ := lay_sta vs ws _ _ ts _ _ (s.lay nt) f (b1.gr g0) (b2.gr g0)
          exact ⟨F', g0.tr g, s', .cons (.tup (.inl (.inl (g _ _ upd_same))) (.cons (a1.gr (g0.tr g)) (.cons (a2.gr (g0.tr g)) .nil))) d⟩
theorem c_listzip {α β : Type} {en : α → PyData} {em : β → PyData} {xs : List α} {ys : List β} (h : EvDs K as σ F cs [eL en xs, eL em ys] cs1) : EvC K (tListZip K as) σ F cs ((xs.zip ys).map (eT2 en em)) cs1 := fun F1 H1 g1 s Q q =>
  h F1 H1 g1 s _ fun v F2 H2 g2 s2 h2 => by
    obtain ⟨v, w, rfl, k1, k2⟩ := h2.two
    obtain ⟨p, vs, rfl, hs, hd⟩ := k1.toLst
    obtain ⟨p', ws, rfl, hs', hd'⟩ := k2.toLst
    refine ⟨p, p', vs, ws, rfl, gr_L s2.fr hs, gr_L s2.fr hs', fun ts l f nl => ?_⟩
    obtain ⟨F3, g3, s3, d3⟩ := lay_sta vs ws _ _ ts F2 H2 s2 f hd hd'
    rw [zip_map] at d3
    exact q l _ F3 _ (g2.tr g3) (s3.cell nl) d3
end
end Bw

namespace Bw
open PySem L2
/-! sorted, of ints -/
def insI (x : Int) : List Int → List Int
  | [] => [x]
  | y :: ys => if x ≤ y then x :: y :: ys else y :: insI x ys
def srtI : List Int → List Int
  | [] => []
  | x :: xs => insI x (srtI xs)
theorem insI_perm (x : Int) : ∀ ys, (insI x ys).Perm (x :: ys)
  | [] => List.Perm.refl _
  | y :: ys => by
    unfold insI
    split
    · exact List.Perm.refl _
    · exact ((insI_perm x ys).cons y).trans (List.Perm.swap x y ys)
theorem srtI_perm : ∀ xs, (srtI xs).Perm xs
  | [] => List.Perm.refl _
  | x :: xs => (insI_perm x _).trans ((srtI_perm xs).cons x)
theorem insI_sort (x : Int) : ∀ ys, ys.Pairwise (· ≤ ·) → (insI x ys).Pairwise (· ≤ ·)
  | [], _ => List.pairwise_singleton _ _
  | y :: ys, h => by
    rw [List.pairwise_cons] at h
    unfold insI
    split
    · rename_i q
      rw [List.pairwise_cons]
      exact ⟨fun z hz => by rcases List.mem_cons.mp hz with rfl | hz; (exact q); (exact Int.le_trans q (h.1 z hz)), List.pairwise_cons.mpr h⟩
    · rename_i q
      rw [List.pairwise_cons]
      refine ⟨fun z hz => ?_, insI_sort x ys h.2⟩
      rcases List.mem_cons.mp ((insI_perm x ys).mem_iff.mp hz) with rfl | hz
      · omega
      · exact h.1 z hz
theorem srtI_sort : ∀ xs, (srtI xs).Pairwise (· ≤ ·)
  | [] => List.Pairwise.nil
  | x :: xs => insI_sort x _ (srtI_sort xs)
theorem sort_uniq : ∀ (xs ys : List Int), xs.Perm ys → xs.Pairwise (· ≤ ·) → ys.Pairwise (· ≤ ·) → xs = ys
  | [], ys, p, _, _ => (List.Perm.nil_eq p)
  | x :: xs, [], p, _, _ => by have := p.length_eq; simp at this
  | x :: xs, y :: ys, p, h1, h2 => by
    rw [List.pairwise_cons] at h1 h2
    have e : x = y := by
      have hx : x ∈ y :: ys := p.mem_iff.mp List.mem_cons_self
      have hy : y ∈ x :: xs := p.mem_iff.mpr List.mem_cons_self
      rcases List.mem_cons.mp hx with e | hx
      · exact e
      · rcases List.mem_cons.mp hy with e | hy
        · exact e.symm
        · have := h1.1 y hy; have := h2.1 x hx; omega
    subst e
    rw [sort_uniq xs ys (List.Perm.cons_inv p) h1.2 h2.2]
section
variable {K : PySem.W.Frag} {σ : St} {F : Hp} {cs cs1 : Cs} {as : TA}
theorem c_sortedI {xs : List Int} (h : EvDs K as σ F cs [eL eI xs] cs1) : EvC K (tCB (rSortedI K) as) σ F cs ((srtI xs).map eI) cs1 := fun F1 H1 g1 s Q q =>
  h F1 H1 g1 s _ fun v F2 H2 g2 s2 h2 => by
    obtain ⟨v, rfl, k1⟩ := h2.one
    obtain ⟨p, vs, rfl, hs, hd⟩ := k1.toLst
    have := hd.ints
    subst this
    refine ⟨p, xs, rfl, gr_L s2.fr hs, fun ns' l pr so nl => ?_⟩
    rw [sort_uniq ns' (srtI xs) (pr.trans (srtI_perm xs).symm) so (srtI_sort xs)]
    exact q l _ F2 _ g2 (s2.cell nl) (Dts.of_ints _)
theorem d_sortedI {xs : List Int} (h : EvDs K as σ F cs [eL eI xs] cs1) : EvD K (tCB (rSortedI K) as) σ F cs (eL eI (srtI xs)) cs1 := (c_sortedI h).dd
/-- max, min of a list -/
def maxL : List Int → Option Int
  | [] => none
  | x :: xs => some (xs.foldl max x)
def minL : List Int → Option Int
  | [] => none
  | x :: xs => some (xs.foldl min x)
theorem foldl_max : ∀ (xs : List Int) (x : Int), (xs.foldl max x = x ∨ xs.foldl max x ∈ xs) ∧ x ≤ xs.foldl max x ∧ ∀ y ∈ xs, y ≤ xs.foldl max x
  | [], x => ⟨.inl rfl, Int.le_refl _, fun y hy => by cases hy⟩
  | z :: xs, x => by
    obtain ⟨h1, h2, h3⟩ := foldl_max xs (max x z)
    rw [List.foldl_cons]
    refine ⟨?_, by omega, fun y hy => ?_⟩
    · rcases h1 with h1 | h1
      · rw [h1]
        by_cases q : z ≤ x
        · left; omega
        · right; have : max x z = z := by omega
          rw [this]; exact List.mem_cons_self
      · exact .inr (List.mem_cons_of_mem _ h1)
    · rcases List.mem_cons.mp hy with rfl | hy
      · omega
      · exact h3 y hy
theorem foldl_min : ∀ (xs : List Int) (x : Int), (xs.foldl min x = x ∨ xs.foldl min x ∈ xs) ∧ xs.foldl min x ≤ x ∧ ∀ y ∈ xs, xs.foldl min x ≤ y
  | [], x => ⟨.inl rfl, Int.le_refl _, fun y hy => by cases hy⟩
  | z :: xs, x => by
    obtain ⟨h1, h2, h3⟩ := foldl_min xs (min x z)
    rw [List.foldl_cons]
    refine ⟨?_, by omega, fun y hy => ?_⟩
    · rcases h1 with h1 | h1
      · rw [h1]
        by_cases q : x ≤ z
        · left; omega
        · right; have : min x z = z := by omega
          rw [this]; exact List.mem_cons_self
      · exact .inr (List.mem_cons_of_mem _ h1)
    · rcases List.mem_cons.mp hy with rfl | hy
      · omega
      · exact h3 y hy
theorem d_maxL {xs : List Int} {m : Int} (h : EvDs K as σ F cs [eL eI xs] cs1) (hm : maxL xs = some m) : EvD K (tCB (rMax K) as) σ F cs (.int m) cs1 := fun F1 H1 g1 s Q q =>
  h F1 H1 g1 s _ fun v F2 H2 g2 s2 h2 => by
    obtain ⟨v, rfl, k1⟩ := h2.one
    obtain ⟨p, vs, rfl, hs, hd⟩ := k1.toLst
    have := hd.ints
    subst this
    cases xs with
    | nil => cases hm
    | cons x xs =>
      cases hm
      obtain ⟨a1, a2, a3⟩ := foldl_max xs x
      refine ⟨p, x :: xs, rfl, gr_L s2.fr hs, by simp, fun m hm hle => ?_⟩
      have e : m = xs.foldl max x := by
        have b1 : xs.foldl max x ≤ m := by
          rcases a1 with e | e
          · rw [e]; exact hle x List.mem_cons_self
          · exact hle _ (List.mem_cons_of_mem _ e)
        have b2 : m ≤ xs.foldl max x := by
          rcases List.mem_cons.mp hm with rfl | hm
          · exact a2
          · exact a3 m hm
        omega
      rw [e]
      exact q _ F2 H2 g2 s2 (.int _)
theorem d_minL {xs : List Int} {m : Int} (h : EvDs K as σ F cs [eL eI xs] cs1) (hm : minL xs = some m) : EvD K (tCB (rMin K) as) σ F cs (.int m) cs1 := fun F1 H1 g1 s Q q =>
  h F1 H1 g1 s _ fun v F2 H2 g2 s2 h2 => by
    obtain ⟨v, rfl, k1⟩ := h2.one
    obtain ⟨p, vs, rfl, hs, hd⟩ := k1.toLst
    have := hd.ints
    subst this
    cases xs with
    | nil => cases hm
    | cons x xs =>
      cases hm
      obtain ⟨a1, a2, a3⟩ := foldl_min xs x
      refine ⟨p, x :: xs, rfl, gr_L s2.fr hs, by simp, fun m hm hle => ?_⟩
      have e : m = xs.foldl min x := by
        have b1 : m ≤ xs.foldl min x := by
          rcases a1 with e | e
          · rw [e]; exact hle x List.mem_cons_self
          · exact hle _ (List.mem_cons_of_mem _ e)
        have b2 : xs.foldl min x ≤ m := by
          rcases List.mem_cons.mp hm with rfl | hm
          · exact a2
          · exact a3 m hm
        omega
      rw [e]
      exact q _ F2 H2 g2 s2 (.int _)
end
end Bw
namespace Bw
open PySem L2
section
variable {K : PySem.W.Frag} {σ : St} {F : Hp} {cs cs1 cs2 : Cs} {ta tb : TE} {b : Int}
theorem d_ixTH {α : Type} {e : α → PyData} {xs : List α} {z : α} (ha : EvD K ta σ F cs (.tuple (xs.map e)) cs1) (hb : EvD K tb σ F cs1 (.int b) cs2) (hz : atI xs b = some z) : EvD K (tOp (rIxT K) ta tb) σ F cs (e z) cs2 :=
  d_ixT ha hb (by rw [atI_map, hz]; rfl)
theorem dts_D {α : Type} {e : α → PyData} {xs : List α} {us : List V} (h : Dts K F us (xs.map e)) : Dts K F us ((xs.map e).map eD) := by
  have : (xs.map e).map eD = xs.map e := by rw [List.map_map]; rfl
  rw [this]; exact h
end
end Bw
namespace Bw
open PySem L2
section
variable {K : PySem.W.Frag} {F : Hp}
def tup2M {α : Type} : List α → Option (α × α)
  | [a, b] => some (a, b)
  | _ => none
def tup3M {α : Type} : List α → Option (α × α × α)
  | [a, b, c] => some (a, b, c)
  | _ => none
theorem tup2M_eq {α : Type} {xs : List α} {p : α × α} (h : tup2M xs = some p) : xs = [p.1, p.2] := by
  unfold tup2M at h; split at h
  · cases h; rfl
  · cases h
theorem tup3M_eq {α : Type} {xs : List α} {p : α × α × α} (h : tup3M xs = some p) : xs = [p.1, p.2.1, p.2.2] := by
  unfold tup3M at h; split at h
  · cases h; rfl
  · cases h
theorem ul2 {v : V} {d1 d2 : PyData} (h : Dt K F v (.list [d1, d2])) : ∃ p v1 v2, v = .ref p ∧ SqL K F p [v1, v2] ∧ Dt K F v1 d1 ∧ Dt K F v2 d2 := by
  obtain ⟨p, vs, rfl, h1, h2⟩ := h.toLst
  obtain ⟨v1, v2, rfl, k1, k2⟩ := h2.two
  exact ⟨p, v1, v2, rfl, h1, k1, k2⟩
theorem ul3 {v : V} {d1 d2 d3 : PyData} (h : Dt K F v (.list [d1, d2, d3])) : ∃ p v1 v2 v3, v = .ref p ∧ SqL K F p [v1, v2, v3] ∧ Dt K F v1 d1 ∧ Dt K F v2 d2 ∧ Dt K F v3 d3 := by
  obtain ⟨p, vs, rfl, h1, h2⟩ := h.toLst
  cases h2 with
  | cons a1 h2 =>
    obtain ⟨v2, v3, rfl, k2, k3⟩ := h2.two
    exact ⟨p, _, v2, v3, rfl, h1, a1, k2, k3⟩
end
end Bw

namespace Bw
open PySem L2
/-! exceptions that are kept -/
/-- an exception of the class at C, its dict at d (none: it has none), at a -/
def ExK (C : Addr) (d : Option Addr) (a : Addr) : HO := .ext fun h => ∃ (oe : Obj) (vs : Array Value), h.get? a = some oe ∧ oe.cls = .ref C ∧ oe.dict = d ∧ oe.data = .fields vs
def DOk (H : Hp) (d : Option Addr) : Prop := match d with
  | none => True
  | some dd => ∃ fs, H dd = some (.xd fs)
theorem exK_ok {P : Program} {w : World} {H : Hp} {h : Heap} {a C : Addr} {dd : Option Addr} {oe : Obj} {vs : Array Value} (e : h.get? a = some oe) (c : oe.cls = .ref C) (d : oe.dict = dd) (hd : oe.data = .fields vs) : ObjOk P w H h a (ExK C dd a) :=
  ⟨⟨oe, vs, e, c, d, hd⟩, ⟨oe, e⟩, fun _ _ ⟨o, v, q, r⟩ k => ⟨o, v, k o q, r⟩⟩
/-- what is known of an exception class -/
def ExC (K : PySem.W.Frag) (C : Addr) : Bool := (PySem.W.clsIn K C).isSome && PySem.W.findIn K (.ref C) "__getattribute__" == some (some (.builtin "BaseException.__getattribute__")) && (PySem.W.findIn K (.ref C) "__getattr__").isSome &&
  PySem.W.subIn K (.ref C) (.type "BaseException") == some true && PySem.W.findIn K (.ref C) "__class__" == some (some (.builtin "object.__class__")) && PySem.W.specialIn K (.builtin "object.__class__") "__get__" == some (some (.builtin "getset_descriptor.__get__")) &&
  PySem.W.takesIn K (.builtin "object.__class__") == some true && PySem.W.mroIn K C (.type "object") == some true
theorem kit_ex {K : PySem.W.Frag} {C x : Addr} {ox : Obj} {od : Option Obj} (h : ExC K C = true) : PySem.W.KitX K (.ref x) (.ref C) (fun h => PySem.W.InstAt h x ox C od) := by
  unfold ExC at h
  simp only [Bool.and_eq_true, beq_iff_eq] at h
  obtain ⟨⟨⟨⟨⟨⟨⟨h1, h2⟩, h3⟩, h4⟩, h5⟩, h6⟩, h7⟩, h8⟩ := h
  obtain ⟨gt, h3⟩ := Option.isSome_iff_exists.mp h3
  exact PySem.W.kitx_exc h1 h2 h3 h4 h5 h6 h7 h8
def rIsiE (K : PySem.W.Frag) : List V → Hp → VK → Prop := fun xs H Q => ∃ (a C : Addr) (d : Option Addr) (c : V) (u : Value) (b : Bool), xs = [.ref a, c] ∧ ClsV c u ∧ H a = some (ExK C d a) ∧ DOk H d ∧ ExC K C = true ∧ PySem.W.kitOne K (.ref C) u = some b ∧ Q (.bl b) H
def rIsiTE (K : PySem.W.Frag) : List V → Hp → VK → Prop := fun xs H Q => ∃ (a C : Addr) (d : Option Addr) (tp : Addr) (cs : List V) (us : List Value) (b : Bool), xs = [.ref a, .ref tp] ∧ H tp = some (.tup cs) ∧ Paired ClsV cs us ∧ H a = some (ExK C d a) ∧ DOk H d ∧ ExC K C = true ∧ PySem.W.kitAny K (.ref C) us = some b ∧ Q (.bl b) H
section
variable {X : Cx}
theorem exK_at {pins : List (Addr × Obj)} {σ : St} {H : Hp} {s : Shared} {a C : Addr} {d : Option Addr} (I : Inv X pins σ H s) (h : H a = some (ExK C d a)) (hx : DOk H d) : ∃ oe od, PySem.W.InstAt s.heap a oe C od := by
  have x : ObjOk X.prog X.w H s.heap a (.ext fun h => ∃ (oe : Obj) (vs : Array Value), h.get? a = some oe ∧ oe.cls = .ref C ∧ oe.dict = d ∧ oe.data = .fields vs) := I.hok a _ h
  obtain ⟨⟨oe, vs, e, c, dd, hd⟩, _⟩ := x
  obtain ⟨oc, od, dt, sl⟩ := oe
  dsimp only at c dd hd
  subst c dd hd
  cases od with
  | none => exact ⟨_, none, e, rfl, rfl, trivial⟩
  | some z =>
    obtain ⟨fs, hz⟩ := hx
    obtain ⟨mA, hns, hr⟩ := (show ObjOk X.prog X.w H s.heap z (.xd fs) from I.hok z _ hz)
    obtain ⟨oz, ho, hl⟩ := lookIn_ns hns
    exact ⟨_, some oz, e, rfl, rfl, ho⟩
theorem cr_isiE : CallR X (.builtin "isinstance") (rIsiE X.K) := by
  intro pins s σ H xs us Q I r h
  obtain ⟨a, C, d, c, u, b, rfl, k, ha, hd, hC, e, q⟩ := h
  obtain ⟨u1, u2, rfl, r1, r2⟩ := vals2 r
  have e2 := k.eq r2
  subst e2
  cases (show u1 = Value.ref a from r1)
  obtain ⟨oe, od, J⟩ := exK_at I ha hd
  exact PySem.W.kia_one (kit_ex (ox := oe) (od := od) hC) I.kIn J e (fun z => nomatch z) fun tk => ⟨.bl b, H, I.tok tk, rfl, q⟩
theorem cr_isiTE : CallR X (.builtin "isinstance") (rIsiTE X.K) := by
  intro pins s σ H xs us Q I r h
  obtain ⟨a, C, d, tp, cs, ws, b, rfl, hT, k, ha, hd, hC, e, q⟩ := h
  obtain ⟨u1, u2, rfl, r1, r2⟩ := vals2 r
  cases (show u2 = Value.ref tp from r2)
  cases (show u1 = Value.ref a from r1)
  obtain ⟨oe, od, J⟩ := exK_at I ha hd
  obtain ⟨_, its, rv, o, h1, h2, n, h3⟩ := (show ObjOk X.prog X.w H s.heap tp (.tup cs) from I.hok tp _ hT)
  have e3 := ClsV.all k rv
  subst e3
  obtain ⟨oc, od', dt, sl⟩ := o
  simp only at h2 h3
  subst h2 h3
  exact PySem.W.kia_tup (kit_ex (ox := oe) (od := od) hC) I.kIn J h1 e (fun z => nomatch z) fun tk => ⟨.bl b, H, I.tok tk, rfl, q⟩
/-- an object that was not tracked is tracked from now on -/
theorem inv_track {pins : List (Addr × Obj)} {σ : St} {H : Hp} {s : Shared} {a : Addr} {o : HO} {oe : Obj} {vs : Array Value} (I : Inv X pins σ H s) (na : H a = none) (e : s.heap.get? a = some oe) (hd : oe.data = .fields vs) (nL : a ≠ X.env.locals)
    (n0 : X.s_0.heap.get? a = none) (np : ∀ p ∈ X.pn ++ pins, p.1 ≠ a) (new : ObjOk X.prog X.w (upd H a o) s.heap a o) : Inv X pins σ (upd H a o) s := by
  have ne : ∀ b u, H b = some u → b ≠ a := fun b u q z => by rw [z, na] at q; cases q
  refine ⟨I.ok, I.os, I.bare, ⟨I.base.keep, I.base.slot, fun b ob q n hx => ?_, I.base.there, fun b xs q => ?_, fun b ob u q => ?_, fun b ps q => ?_⟩, I.loc, I.cell, ?_, fun x c q => ?_, fun p hp => ?_, fun b u q => ?_, I.len⟩
  · have : b ≠ a := fun z => by rw [z, n0] at q; cases q
    rw [upd_ne this]; exact I.base.free b ob q n hx
  · have := I.base.tups b xs q
    rw [upd_ne (ne b _ this)]; exact this
  · have := I.base.frzs b ob u q
    rw [upd_ne (ne b _ this)]; exact this
  · obtain ⟨more, q⟩ := I.base.tbls b ps q
    exact ⟨more, by rw [upd_ne (ne b _ q)]; exact q⟩
  · rw [upd_ne (Ne.symm nL)]; exact I.free
  · have : c ≠ a := fun z => by
      obtain ⟨v, oc, h1, h2⟩ := I.cell x c q
      rw [z, e] at h1
      cases h1
      rw [hd] at h2
      cases h2
    rw [upd_ne this]; exact I.freeC x c q
  · obtain ⟨q1, q2, q3⟩ := I.pin p hp
    exact ⟨q1, by rw [upd_ne (np p hp)]; exact q2, q3⟩
  · by_cases z : b = a
    · subst z; rw [upd_same] at q; cases q; exact new
    · rw [upd_ne z] at q
      exact (I.hok b u q).stay (fun c v _ q => q) (fun c q => by rw [upd_ne (ne c _ q)]; exact q) fun c xs q => by rw [upd_ne (ne c _ q)]; exact q
end
/-- 'except x as n: suite', where what is caught may be kept behind the suite -/
def wKeep (K : PySem.W.Frag) (c : Value) (i : Nat) (ts : Addr → Value → Option Addr → TS) (Wout : WX) (D : Ends) : WX := fun cls d σ H =>
  ∃ b, PySem.W.exmOne K cls c = some b ∧ (b = true → ∃ C, cls = .ref C ∧ ∀ a, H a = none → ts a cls d { nx := fun σ' H' => H' a = none ∧ D.nx (σ'.set i none) (upd H' a (ExK C d a)), rt := fun _ _ => False, bk := fun _ _ => False, ct := fun _ _ => False } (σ.set i (some (.ref a))) H) ∧
    (b = false → Wout cls d σ H)
section
open PySem.Spec PyProof.Rows
variable {X : Cx} {x n : Str} {c : Value} {i : Nat} {body suite : List Stmt} {b₀ : Stmt} {np pos pos' : Pos} {tb : WX → TS} {ts : Addr → Value → Option Addr → TS} {Wout : WX}
theorem ps_try_keep (hs : X.stack = X.env :: X.outer) (hf : X.env.frame = some X.env.locals) (hex : X.ex = []) (hN : X.N.Nodup) (hi : X.N[i]? = some n) (hln : X.env.kindOf n = some .local) (hc : Names X x c) (tk : Takes X Wout)
    (hb : ∀ (W : WX) (pn : List (Addr × Obj)) (xe : Value → Shared → Prop), Takes (X.tr pn xe) W → PassesOwn (model X.prog X.w) X.A X.env xe → PSs (X.tr pn xe) body (tb W))
    (hsu : ∀ (a : Addr) (oe : Obj) (cls : Value) (d : Option Addr) (pn : List (Addr × Obj)), Zc cls d oe → (∃ vs, oe.data = .fields vs) → PSs (X.suite a ((a, oe) :: pn)) (b₀ :: suite) (ts a cls d)) :
    PS X (.Try body [.ExceptHandler (some (.Name x np)) (some n) (b₀ :: suite) pos'] [] [] pos) (fun D σ H => tb (wKeep X.K c i ts Wout D) D σ H) := by
  refine ⟨fun pins s σ H D I h => ?_⟩
  have ok := I.ok
  have hfr : X.A.frames = some (X.env :: X.outer) := by rw [ok.frames, hs]
  have hloc : Loc X.env.scope n := .inl hln
  refine wpAny_Try_except ?_
  refine wpAny_mono ((hb (wKeep X.K c i ts Wout D) (X.pn ++ pins) (fun e s₁ => wpAny (model X.prog X.w) X.A (noteFrame e X.env) (fun _ s₂ => wpAny (model X.prog X.w) X.A (setFlight e none) (fun _ s₃ =>
    wpAny (model X.prog X.w) X.A (handleBy e X.env [.ExceptHandler (some (.Name x np)) (some n) (b₀ :: suite) pos']) (SP X pins D) X.xe s₃) X.xe s₂) X.xe s₁) (fun u s' xx => ?_) PassesOwn.looking).run [] s σ H D (I.toTry _) h) (fun f s1 hsp => ?_) (fun e s1 he => he)
  · obtain ⟨a, B, sI, pins', σ', H', cls, d, rfl, J', nb, up, sky, na, os, ag, b, hb1, hyes, hno⟩ := xx
    have J : Inv X pins σ' H' sI := J'.ofTry ok
    have sky' : Sky B (X.env :: X.outer) a (Zc cls d) X.env.locals s'.heap := by rw [← hs]; exact sky
    show wpAny (model X.prog X.w) X.A (noteFrame (.ref a) X.env) _ _ _
    refine Sky.land Zc.steady hfr hf sky' fun h3 fl3 up3 => ?_
    have J3 : Inv X pins σ' H' { s' with heap := h3 } := J.landed nb fl3.1 (up.trans up3) os ag
    obtain ⟨oe3, vs3, he3, hz3, hd3⟩ := fl3.there
    have hBn : B.get? a = none := fl3.2.1
    have notFr : ∀ {h : Heap} {o : Obj} {vs : Array Value}, h.FunFrames B (X.env :: X.outer) → h.get? a = some o → o.data = .fields vs → a ∉ frs (X.env :: X.outer) := fun {h o vs} ff e dd hm => by
      obtain ⟨_, o', e', hnf⟩ := ff.mem hm
      rw [e] at e'; cases e'
      exact hnf _ dd
    have nfr := notFr fl3.2.2.1 he3 hd3
    have nL : a ≠ X.env.locals := fun z => nfr (List.mem_filterMap.mpr ⟨X.env, List.mem_cons_self, by rw [hf, z]⟩)
    have nF : a ∉ X.fs := fun hm => by
      obtain ⟨e, he, q⟩ := List.mem_filterMap.mp hm
      exact nfr (List.mem_filterMap.mpr ⟨e, List.mem_cons_of_mem _ he, q⟩)
    have nSI : sI.heap.get? a = none := by
      cases q : sI.heap.get? a with
      | none => rfl
      | some o =>
        have := nb a o q (by rw [hs]; exact nfr)
        rw [hBn] at this; cases this
    have n0 : X.s_0.heap.get? a = none := by
      cases q : X.s_0.heap.get? a with
      | none => rfl
      | some o =>
        obtain ⟨o', q'⟩ := J.base.there a o q (by rw [hex]; exact List.not_mem_nil)
        rw [nSI] at q'; cases q'
    have npin : ∀ p ∈ X.pn ++ pins, p.1 ≠ a := fun p hp z => by
      have := (J.pin p hp).1
      rw [z, nSI] at this; cases this
    have S3 := J3.suite he3 hd3 na nL nF
    refine wpAny_handleBy_cons (codeAny_handlers_test ?_) (by intro q; cases q)
    have LT : PySem.W.Looks (model X.prog X.w) h3 (typeOf (.ref a)) cls := fun A Q E s k q => wpAny_typeOf_ref (k _ _ he3) (by rw [hz3.1]; exact q)
    have LM := PySem.W.exm_one (M := model X.prog X.w) (J3.kIn) LT hb1
    have test : ∀ {Q : Value → Shared → Prop} {E : Value → Shared → Prop}, Q c { s' with heap := h3 } → wpAny (model X.prog X.w) (X.A.mark (some (.ref a))) (eval (.Name x np) X.env) Q E { s' with heap := h3 } := fun {Q E} q => by
      obtain ⟨hg, hdbg, hm | ⟨hm, hv, hnn⟩⟩ := hc
      · exact ld_glob (X := X.suite a ((a, oe3) :: (X.pn ++ pins))) S3 hg hm q hdbg
      · exact ld_blt (X := X.suite a ((a, oe3) :: (X.pn ++ pins))) S3 hg hm hv q hnn hdbg
    refine test (LM.here ?_)
    cases b with
    | true =>
      obtain ⟨C, hcls, hyes⟩ := hyes rfl
      refine codeAny_handlers_suite_as ?_
      refine HandSPX.lands_againZ fl3 fun h4 fl4 up4 => ?_
      have J4 : Inv X pins σ' H' { s' with heap := h4 } := J.landed nb fl4.1 ((up.trans up3).trans up4) os ag
      obtain ⟨oe4, vs4, he4, hz4, hd4⟩ := fl4.there
      have S4 := J4.suite he4 hd4 na nL nF
      refine store_ok (X := X.suite a ((a, oe4) :: (X.pn ++ pins))) (v := .ref a) S4 hN hi hloc rfl (fun s5 S5 => ?_) (.inr hln)
      refine wpAny_mono ((hsu a oe4 cls d (X.pn ++ pins) hz4 ⟨_, hd4⟩).run [] s5 _ H' _ S5 (hyes a na)) (fun f s6 hsp => ?_) (fun _ _ z => False.elim z)
      cases f with
      | next =>
        obtain ⟨σ6, H6, S6, na6, q6⟩ := hsp
        refine gone_ok (X := X.suite a ((a, oe4) :: (X.pn ++ pins))) S6 hN hi hln fun s7 S7 => ?_
        have he7 : s7.heap.get? a = some oe4 := (S7.pin (a, oe4) (by simp)).1
        have J7 : Inv X pins (σ6.set i none) H6 s7 := S7.unsuite ok
        exact ⟨_, _, inv_track J7 na6 he7 hd4 nL n0 npin (exK_ok he7 (hz4.1.trans hcls) hz4.2 hd4), q6⟩
      | brk =>
        obtain ⟨σ6, H6, S6, q6⟩ := hsp
        exact False.elim q6
      | cont =>
        obtain ⟨σ6, H6, S6, q6⟩ := hsp
        exact False.elim q6
      | ret u =>
        obtain ⟨v6, σ6, H6, S6, r6, q6⟩ := hsp
        exact False.elim q6
    | false =>
      show wpAny _ X.A (handleBy (.ref a) X.env []) _ _ _
      refine wpAny_handleBy_nil ?_
      obtain ⟨k1, k2, k3, oe, vs, T, oT, ts', he, hz, hd, h1, hr⟩ := id fl3
      unfold PySem.passOn
      refine wpAny_bind (wpAny_field he hd h1 ?_)
      rw [if_neg (show ¬ ((Value.ref T == Value.none) = true) from by simp)]
      have fin : wpAny (model X.prog X.w) X.A (setFlight (.ref a) X.env.frame) (fun _ s4 => wpAny (model X.prog X.w) X.A (throw (.ref a) : Sem Flow) (SP X pins D) X.xe s4) X.xe { s' with heap := h3 } := by
        rw [hf]
        refine HandSPX.setFlight_upZ fl3 fun h4 hh4 up4 => wpAny_throw (tk _ _ ?_)
        exact ⟨a, B, sI, pins, σ', H', cls, d, rfl, J, nb, (up.trans up3).trans up4, .inr (.inr (by rw [hs]; exact hh4)), na, os, ag, hno rfl⟩
      first
        | exact wpAny_bind (wpAny_pure (wpAny_bind fin))
        | exact wpAny_bind fin
  · cases f with
    | next =>
      obtain ⟨σ', H', J', q⟩ := hsp
      exact wpAny_execs_nil ⟨σ', H', J'.ofTry ok, q⟩
    | brk =>
      obtain ⟨σ', H', J', q⟩ := hsp
      exact ⟨σ', H', J'.ofTry ok, q⟩
    | cont =>
      obtain ⟨σ', H', J', q⟩ := hsp
      exact ⟨σ', H', J'.ofTry ok, q⟩
    | ret u =>
      obtain ⟨v, σ', H', J', r, q⟩ := hsp
      exact ⟨v, σ', H', J'.ofTry ok, r, q⟩
end
end Bw

namespace Bw
open PySem L2
/-! what raises -/
/-- a class's name, and what its field holds -/
abbrev Xe := Str × PyData
inductive Rs (β : Type) where
  | ok (y : β)
  | ex (c : Xe)
/-- the field of a class -/
def fld (c : Str) : Option Str := if c = "NoStore" then some "part" else if c = "NoPlan" then some "at" else if c = "NoPaper" then some "at" else none
/-- what d, an exception's dict, holds -/
def Xd (K : PySem.W.Frag) (F : Hp) (e : Xe) (d : Option Addr) : Prop := match fld e.1 with
  | none => d = none
  | some f => ∃ a v, d = some a ∧ F a = some (.xd [(f, v)]) ∧ Dt K F v e.2
theorem Xd.gr {K : PySem.W.Frag} {F F' : Hp} {e : Xe} {d : Option Addr} (g : Gr F F') (h : Xd K F e d) : Xd K F' e d := by
  unfold Xd at h ⊢
  split at h
  · exact h
  · obtain ⟨a, v, h1, h2, h3⟩ := h
    exact ⟨a, v, h1, g _ _ h2, h3.gr g⟩
theorem Xd.ok {K : PySem.W.Frag} {F H : Hp} {e : Xe} {d : Option Addr} (g : Gr F H) (h : Xd K F e d) : DOk H d := by
  unfold Xd at h
  split at h
  · subst h; trivial
  · obtain ⟨a, v, rfl, h2, h3⟩ := h
    exact ⟨_, g _ _ h2⟩
def okM {β : Type} : Rs β → Option β
  | .ok y => some y
  | .ex _ => none
theorem okM_some {β : Type} {r : Rs β} {y : β} (h : okM r = some y) : r = .ok y := by
  cases r with
  | ok z => cases h; rfl
  | ex c => cases h
def Rs.map {α β : Type} (g : α → β) : Rs α → Rs β
  | .ok y => .ok (g y)
  | .ex c => .ex c
/-- a promise that may end by an exception of a class of the program -/
def spPX (K : PySem.W.Frag) {α β : Type} (A : α → List PyData) (B : β → PyData) (f : α → Option (Rs β)) : Sp := fun vs H Q E => ∃ F cs x r, Dts K F vs (A x) ∧ Sta F cs H ∧ f x = some r ∧
  (∀ y, r = .ok y → ∀ v F2 H2, Gr F F2 → Sta F2 cs H2 → Dt K F2 v (B y) → Q v H2) ∧ ∀ c, r = .ex c → ∀ d F2 H2, Gr F F2 → Sta F2 cs H2 → Xd K F2 c d → E (.ref (He.ga K c.1)) d H2
structure OkX (P : Program) (w : World) (K : PySem.W.Frag) (mg : Str → Option Value) (base : Heap) (k : Nat) (x : Str) (ps : List Str) (sp : Sp) : Prop where
  ex : ∃ fd, FnOk P w K mg base (L2.CX P w) k (He.ga K x) fd ps sp ∧ Binds K fd ps [] ∧ Lk K (He.ga K x) fd
  kp : PySem.W.keepIn K (.ref (He.ga K x)) = true
  gm : mg x = some (.ref (He.ga K x))
abbrev XF0 : XK := fun _ _ _ => False
abbrev WF0 : WX := fun _ _ _ _ => False
theorem passF {X : Cx} (σ : St) : PassesAt (L2.CX X.prog X.w) X σ XF0 := fun _ _ _ e s' I c => by
  obtain ⟨a, B, H', cls, d, _, _, _, _, _, _, _, h⟩ := c
  exact False.elim h
section
variable {K : PySem.W.Frag} {σ : St} {F : Hp} {cs cs1 : Cs} {H : Hp} {as : TA} {te : TE} {nx bk ct : St → Hp → Prop} {rt : V → Hp → Prop} {W : WX}
/-- called where it does not raise -/
theorem dx_call {α β : Type} {A : α → List PyData} {B : β → PyData} {f : α → Option (Rs β)} {x : α} {y : β} {E : St → XK} (h : EvDs K as σ F cs (A x) cs1) (hf : f x = some (.ok y)) : EvD K (tCallS (spPX K A B f) E as) σ F cs (B y) cs1 := fun F1 H1 g1 s Q q =>
  h F1 H1 g1 s _ fun vs F2 H2 g2 s2 h2 => ⟨F2, cs1, x, .ok y, h2, s2, hf, fun z hz v F3 H3 g3 s3 h3 => by cases hz; exact q v F3 H3 (g2.tr g3) s3 h3, fun c hc => nomatch hc⟩
/-- what may raise: r the end -/
def EvX (K : PySem.W.Frag) (te : TE) (W : WX) (σ : St) (F : Hp) (cs : Cs) (r : Rs PyData) (cs' : Cs) : Prop :=
  ∀ F1 H1, Gr F F1 → Sta F1 cs H1 → ∀ Q : VK, (∀ d, r = .ok d → ∀ v F2 H2, Gr F1 F2 → Sta F2 cs' H2 → Dt K F2 v d → Q v H2) → (∀ c, r = .ex c → ∀ d F2 H2, Gr F1 F2 → Sta F2 cs' H2 → Xd K F2 c d → W (.ref (He.ga K c.1)) d σ H2) → te σ H1 Q
theorem x_call {α β : Type} {A : α → List PyData} {B : β → PyData} {f : α → Option (Rs β)} {x : α} {r : Rs β} (h : EvDs K as σ F cs (A x) cs1) (hf : f x = some r) : EvX K (tCallS (spPX K A B f) (WE W) as) W σ F cs (r.map B) cs1 := fun F1 H1 g1 s Q q qx =>
  h F1 H1 g1 s _ fun vs F2 H2 g2 s2 h2 => ⟨F2, cs1, x, r, h2, s2, hf, fun y hy v F3 H3 g3 s3 h3 => by subst hy; exact q _ rfl v F3 H3 (g2.tr g3) s3 h3, fun c hc d F3 H3 g3 s3 xd => by subst hc; exact qx c rfl d F3 H3 (g2.tr g3) s3 xd⟩
theorem s_dropX {α : Type} {B : α → PyData} {r : Rs α} (s : Sta F cs H) (h : EvX K te W σ F cs (r.map B) cs1) (q : ∀ y, r = .ok y → ∀ F2 H2, Gr F F2 → Sta F2 cs1 H2 → nx σ H2)
    (qx : ∀ c, r = .ex c → ∀ d F2 H2, Gr F F2 → Sta F2 cs1 H2 → Xd K F2 c d → W (.ref (He.ga K c.1)) d σ H2) : tDrop te ⟨nx, rt, bk, ct⟩ σ H :=
  h F H .rfl s _ (fun d hd v F2 H2 g2 s2 _ => by
    cases r with
    | ok y => exact q y rfl F2 H2 g2 s2
    | ex c => cases hd) (fun c hc d F2 H2 g2 s2 xd => by
    cases r with
    | ok y => cases hc
    | ex c' => cases hc; exact qx c rfl d F2 H2 g2 s2 xd)
theorem s_setX {α : Type} {B : α → PyData} {r : Rs α} {i : Nat} {σ' : V → St} (s : Sta F cs H) (h : EvX K te W σ F cs (r.map B) cs1) (hσ : ∀ v, σ.set i (some v) = σ' v) (q : ∀ y, r = .ok y → ∀ v F2 H2, Gr F F2 → Sta F2 cs1 H2 → Dt K F2 v (B y) → nx (σ' v) H2)
    (qx : ∀ c, r = .ex c → ∀ d F2 H2, Gr F F2 → Sta F2 cs1 H2 → Xd K F2 c d → W (.ref (He.ga K c.1)) d σ H2) : tAsg te (gName i) ⟨nx, rt, bk, ct⟩ σ H :=
  h F H .rfl s _ (fun d hd v F2 H2 g2 s2 h2 => by
    cases r with
    | ok y =>
      cases hd
      show nx (σ.set i (some v)) H2
      rw [hσ v]; exact q y rfl v F2 H2 g2 s2 h2
    | ex c => cases hd) (fun c hc d F2 H2 g2 s2 xd => by
    cases r with
    | ok y => cases hc
    | ex c' => cases hc; exact qx c rfl d F2 H2 g2 s2 xd)
theorem s_retX {α : Type} {B : α → PyData} {r : Rs α} (s : Sta F cs H) (h : EvX K te W σ F cs (r.map B) cs1) (q : ∀ y, r = .ok y → ∀ v F2 H2, Gr F F2 → Sta F2 cs1 H2 → Dt K F2 v (B y) → rt v H2)
    (qx : ∀ c, r = .ex c → ∀ d F2 H2, Gr F F2 → Sta F2 cs1 H2 → Xd K F2 c d → W (.ref (He.ga K c.1)) d σ H2) : tRet te ⟨nx, rt, bk, ct⟩ σ H :=
  h F H .rfl s _ (fun d hd v F2 H2 g2 s2 h2 => by
    cases r with
    | ok y => cases hd; exact q y rfl v F2 H2 g2 s2 h2
    | ex c => cases hd) (fun c hc d F2 H2 g2 s2 xd => by
    cases r with
    | ok y => cases hc
    | ex c' => cases hc; exact qx c rfl d F2 H2 g2 s2 xd)
/-- a kept exception, or None -/
def Xv (K : PySem.W.Frag) (cl : List Str) (F : Hp) (v : V) : Option Xe → Prop
  | none => v = .non
  | some c => c.1 ∈ cl ∧ ∃ a d, v = .ref a ∧ F a = some (ExK (He.ga K c.1) d a) ∧ Xd K F c d
theorem Xv.gr {cl : List Str} {F F' : Hp} {v : V} {o : Option Xe} (g : Gr F F') (h : Xv K cl F v o) : Xv K cl F' v o := by
  cases o with
  | none => exact h
  | some c => obtain ⟨h0, a, d, h1, h2, h3⟩ := h; exact ⟨h0, a, d, h1, g _ _ h2, h3.gr g⟩
def subX (c d : Str) : Bool := c == d || d == "CartError"
def isX (o : Option Xe) (d : Str) : Bool := match o with
  | none => false
  | some c => subX c.1 d
def anyX (o : Option Xe) (ds : List Str) : Bool := ds.any fun d => isX o d
/-- what is known of the classes: cl may be raised, ts are asked for -/
structure XFc (K : PySem.W.Frag) (cl ts : List Str) : Prop where
  ex : ∀ c ∈ cl, ExC K (He.ga K c) = true
  kit : ∀ c ∈ cl, ∀ d ∈ ts, PySem.W.kitOne K (.ref (He.ga K c)) (.ref (He.ga K d)) = some (subX c d)
  kitV : ∀ c ∈ cl, PySem.W.kitOne K (.ref (He.ga K c)) (.type "ValueError") = some true
  kitN : ∀ d ∈ ts, PySem.W.kitOne K (.type "NoneType") (.ref (He.ga K d)) = some false
  exm : ∀ c ∈ cl, PySem.W.exmOne K (.ref (He.ga K c)) (.ref (He.ga K "CartError")) = some true
  fl : ∀ c ∈ cl, ∀ f, fld c = some f → xfB K (He.ga K c) = true ∧ PySem.W.findIn K (.ref (He.ga K c)) f = some none
abbrev rIsiX (K : PySem.W.Frag) : List V → Hp → VK → Prop := fun xs H Q => rIsi K xs H Q ∨ rIsiE K xs H Q
abbrev rIsiXT (K : PySem.W.Frag) : List V → Hp → VK → Prop := fun xs H Q => rIsiT K xs H Q ∨ rIsiTE K xs H Q
theorem cr_isiX {X : Cx} : CallR X (.builtin "isinstance") (rIsiX X.K) := call_isi.or cr_isiE
theorem cr_isiXT {X : Cx} : CallR X (.builtin "isinstance") (rIsiXT X.K) := call_isiT.or cr_isiTE
theorem kitN_V : kitB "NoneType" "ValueError" = some false := by decide +kernel
theorem d_isiX {cl ts : List Str} {o : Option Xe} {v : V} {i : Nat} {d : Str} (X : XFc K cl ts) (hi : σ[i]? = some (some v)) (hx : Xv K cl F v o) (hd : d ∈ ts) : EvD K (tCB (rIsiX K) (tCons (tVar i) (tCons (tC (.ref (He.ga K d))) tNil))) σ F cs (.bool (isX o d)) cs := fun F1 H1 g1 s Q q => by
  refine ⟨v, hi, ?_⟩
  show rIsiX K [v, .ref (He.ga K d)] H1 Q
  cases o with
  | none =>
    cases (show v = .non from hx)
    exact .inl ⟨.non, _, .type "NoneType", .ref (He.ga K d), false, rfl, .own _, .base .non, X.kitN d hd, q _ F1 H1 .rfl s (.bl _)⟩
  | some c =>
    obtain ⟨hc, a, dd, rfl, ha, hxd⟩ := hx
    exact .inr ⟨a, He.ga K c.1, dd, _, .ref (He.ga K d), subX c.1 d, rfl, .own _, s.fr _ _ (g1 _ _ ha), hxd.ok (g1.tr s.fr), X.ex c.1 hc, X.kit c.1 hc d hd, q _ F1 H1 .rfl s (.bl _)⟩
theorem d_isiXV {cl ts : List Str} {o : Option Xe} {v : V} {i : Nat} (X : XFc K cl ts) (hi : σ[i]? = some (some v)) (hx : Xv K cl F v o) : EvD K (tCB (rIsiX K) (tCons (tVar i) (tCons (tC (.ty "ValueError")) tNil))) σ F cs (.bool o.isSome) cs := fun F1 H1 g1 s Q q => by
  refine ⟨v, hi, ?_⟩
  show rIsiX K [v, .ty "ValueError"] H1 Q
  cases o with
  | none =>
    cases (show v = .non from hx)
    exact .inl ⟨.non, _, .type "NoneType", .type "ValueError", false, rfl, .ty _, .base .non, kit_ty kitN_V, q _ F1 H1 .rfl s (.bl _)⟩
  | some c =>
    obtain ⟨hc, a, dd, rfl, ha, hxd⟩ := hx
    exact .inr ⟨a, He.ga K c.1, dd, _, .type "ValueError", true, rfl, .ty _, s.fr _ _ (g1 _ _ ha), hxd.ok (g1.tr s.fr), X.ex c.1 hc, X.kitV c.1 hc, q _ F1 H1 .rfl s (.bl _)⟩
def clsV (K : PySem.W.Frag) (ds : List Str) : List V := ds.map fun d => .ref (He.ga K d)
theorem clsV_paired : ∀ ds : List Str, Paired ClsV (clsV K ds) (ds.map fun d => Value.ref (He.ga K d))
  | [] => .nil
  | d :: ds => .cons (.own _) (clsV_paired ds)
theorem kitAny_none {cl ts : List Str} (X : XFc K cl ts) : ∀ ds : List Str, (∀ d ∈ ds, d ∈ ts) → PySem.W.kitAny K (.type "NoneType") (ds.map fun d => Value.ref (He.ga K d)) = some false
  | [], _ => rfl
  | d :: ds, h => kitAny_cons (X.kitN d (h d List.mem_cons_self)) (fun _ => kitAny_none X ds fun e he => h e (List.mem_cons_of_mem _ he)) (fun z => nomatch z)
theorem kitAny_some {cl ts : List Str} (X : XFc K cl ts) {c : Xe} (hc : c.1 ∈ cl) : ∀ ds : List Str, (∀ d ∈ ds, d ∈ ts) → PySem.W.kitAny K (.ref (He.ga K c.1)) (ds.map fun d => Value.ref (He.ga K d)) = some (anyX (some c) ds)
  | [], _ => rfl
  | d :: ds, h => by
    refine kitAny_cons (X.kit c.1 hc d (h d List.mem_cons_self)) (fun z => ?_) (fun z => ?_)
    · have := kitAny_some X hc ds fun e he => h e (List.mem_cons_of_mem _ he)
      rw [this]
      show some _ = some (subX c.1 d || _)
      rw [z]; rfl
    · show (subX c.1 d || _) = true
      rw [z]; rfl
/-- isinstance(x, (A, B, ..)); ta the written tuple's parts -/
theorem d_isiXT {cl ts ds : List Str} {o : Option Xe} {v : V} {i : Nat} {ta : TA} (X : XFc K cl ts) (hi : σ[i]? = some (some v)) (hx : Xv K cl F v o) (hd : ∀ d ∈ ds, d ∈ ts) (hl : ds.length ≤ 100000)
    (ht : ∀ H (Q : List V → Hp → Prop), Q (clsV K ds) H → ta σ H Q) : EvD K (tCB (rIsiXT K) (tCons (tVar i) (tCons (tTup ta) tNil))) σ F cs (.bool (anyX o ds)) cs := fun F1 H1 g1 s Q q => by
  refine ⟨v, hi, ?_⟩
  show tTup ta σ H1 fun w H2 => rIsiXT K [v, w] H2 Q
  refine ht H1 _ ⟨by unfold clsV; rw [List.length_map]; exact sz hl, fun p hp => ?_⟩
  have s2 : Sta (upd F1 p (.tup (clsV K ds))) cs (upd H1 p (.tup (clsV K ds))) := s.lay hp
  have g2 : Gr F1 (upd F1 p (.tup (clsV K ds))) := Gr.new (s.fr.back hp)
  cases o with
  | none =>
    cases (show v = .non from hx)
    refine .inl ⟨.non, p, clsV K ds, .type "NoneType", _, false, rfl, upd_same, clsV_paired ds, .base .non, kitAny_none X ds hd, ?_⟩
    have : anyX none ds = false := by unfold anyX; rw [List.any_eq_false]; intro d _; exact Bool.false_ne_true
    rw [this] at q
    exact q _ _ _ g2 s2 (.bl _)
  | some c =>
    obtain ⟨hc, a, dd, rfl, ha, hxd⟩ := hx
    exact .inr ⟨a, He.ga K c.1, dd, p, clsV K ds, _, anyX (some c) ds, rfl, upd_same, clsV_paired ds, s2.fr _ _ (g2 _ _ (g1 _ _ ha)), hxd.ok ((g1.tr g2).tr s2.fr), X.ex c.1 hc, kitAny_some X hc ds hd, q _ _ _ g2 s2 (.bl _)⟩
/-- caught and kept: `except CartError as e: kept = e`; i is e's place, j the keeper's -/
theorem s_catch {cl ts : List Str} {i j : Nat} {c : Xe} {dd : Option Addr} {D : Ends} {Wout : WX} {σ' : Addr → St} (X : XFc K cl ts) (hc : c.1 ∈ cl) (s : Sta F cs H) (xd : Xd K F c dd) (hij : ∀ v, (σ.set i (some v))[i]? = some (some v)) (hσ : ∀ a, (((σ.set i (some (.ref a))).set j (some (.ref a))).set i none) = σ' a)
    (q : ∀ a F2 H2, Gr F F2 → Sta F2 cs H2 → Xv K cl F2 (.ref a) (some c) → D.nx (σ' a) H2) :
    wKeep K (.ref (He.ga K "CartError")) i (fun _ _ _ => tAsg (tVar i) (gName j)) Wout D (.ref (He.ga K c.1)) dd σ H := by
  refine ⟨true, X.exm c.1 hc, fun _ => ⟨_, rfl, fun a ha => ?_⟩, fun z => nomatch z⟩
  refine ⟨.ref a, hij _, ha, ?_⟩
  rw [hσ a]
  exact q a _ _ (Gr.new (s.fr.back ha)) (s.lay ha) ⟨hc, a, dd, rfl, upd_same, xd.gr (Gr.new (s.fr.back ha))⟩
end
end Bw

namespace Bw
open PySem L2
/-! tuple(xs), list(a tuple), tuple + tuple -/
abbrev rTupleL (K : PySem.W.Frag) : List V → Hp → VK → Prop := fun xs H Q => ∃ p ys, xs = [.ref p] ∧ ((SqL K H p ys ∧ ∀ l, H l = none → Q (.ref l) (upd H l (.tup ys))) ∨ (SqT K H p ys ∧ Q (.ref p) H))
theorem cr_tuple {X : Cx} : CallR X (.type "tuple") (rTupleL X.K) := call_tuple_of
section
variable {K : PySem.W.Frag} {σ : St} {F : Hp} {cs cs1 cs2 : Cs} {as : TA} {ta tb : TE}
theorem d_tupleL {ds : List PyData} (h : EvDs K as σ F cs [.list ds] cs1) : EvD K (tCB (rTupleL K) as) σ F cs (.tuple ds) cs1 := fun F1 H1 g1 s Q q =>
  h F1 H1 g1 s _ fun v F2 H2 g2 s2 h2 => by
    obtain ⟨v, rfl, k⟩ := h2.one
    obtain ⟨p, ys, rfl, hl, hd⟩ := k.toLst
    refine ⟨p, ys, rfl, .inl ⟨gr_L s2.fr hl, fun l nl => ?_⟩⟩
    have g3 : Gr F2 (upd F2 l (.tup ys)) := Gr.new (s2.fr.back nl)
    exact q _ _ _ (g2.tr g3) (s2.lay nl) (.tup (.inl (.inl upd_same)) (hd.gr g3))
theorem d_tupleT {ds : List PyData} (h : EvDs K as σ F cs [.tuple ds] cs1) : EvD K (tCB (rTupleL K) as) σ F cs (.tuple ds) cs1 := fun F1 H1 g1 s Q q =>
  h F1 H1 g1 s _ fun v F2 H2 g2 s2 h2 => by
    obtain ⟨v, rfl, k⟩ := h2.one
    obtain ⟨p, ys, rfl, hl, hd⟩ := k.toTup
    exact ⟨p, ys, rfl, .inr ⟨gr_T s2.fr hl, q _ _ _ g2 s2 (.tup hl hd)⟩⟩
theorem c_listT {ds : List PyData} (h : EvDs K as σ F cs [.tuple ds] cs1) : EvC K (tCB (rListS K) as) σ F cs ds cs1 := fun F1 H1 g1 s Q q =>
  h F1 H1 g1 s _ fun v F2 H2 g2 s2 h2 => by
    obtain ⟨v, rfl, k⟩ := h2.one
    obtain ⟨p, ys, rfl, hl, hd⟩ := k.toTup
    exact ⟨p, ys, rfl, .inr (gr_T s2.fr hl), fun l nl => q _ _ _ _ g2 (s2.cell nl) hd⟩
theorem d_catT {ds es : List PyData} (ha : EvD K ta σ F cs (.tuple ds) cs1) (hb : EvD K tb σ F cs1 (.tuple es) cs2) (hn : ds ≠ []) (he : es ≠ []) (hl : ds.length + es.length ≤ 100000) : EvD K (tOp (rCatT K) ta tb) σ F cs (.tuple (ds ++ es)) cs2 :=
  d_op ha hb fun x y F2 H2 hx hy s _ Q q => by
    obtain ⟨p, vs, rfl, h1, k1⟩ := hx.toTup
    obtain ⟨p', ws, rfl, h2, k2⟩ := hy.toTup
    have l1 := k1.len
    have l2 := k2.len
    have e2 : ws ≠ [] := fun z => he (List.length_eq_zero_iff.mp (by rw [← l2, z]; rfl))
    refine ⟨p, p', vs, ws, rfl, rfl, gr_T s.fr h1, gr_T s.fr h2, fun z => hn (List.length_eq_zero_iff.mp (by rw [← l1, z]; rfl)), by rw [l1, l2]; exact sz hl, fun z => absurd z e2, fun _ l nl => ?_⟩
    have g3 : Gr F2 (upd F2 l (.tup (vs ++ ws))) := Gr.new (s.fr.back nl)
    exact q _ _ _ g3 (s.lay nl) (.tup (.inl (.inl upd_same)) ((k1.gr g3).app (k2.gr g3)))
end
end Bw

namespace Bw
open PySem L2
/-! raise and try, put together for the generator -/
abbrev WX0 (E : XK) : WX := fun cls d _ H => E cls d H
def tRaiseX (W : WX) (C : Addr) : TS := fun _ σ H => W (.ref C) none σ H
/-- a plain exception class of the program -/
def excB (K : PySem.W.Frag) (x : Str) : Bool := PySem.W.excIn K (He.ga K x) [.type "ValueError", .type "Exception", .type "BaseException", .type "object"] "ValueError.__new__" && PySem.W.keepIn K (.ref (He.ga K x)) &&
  PySem.W.subIn K (.ref (He.ga K x)) (.type "BaseException") == some true && PySem.W.typeIn K (.ref (He.ga K x)) == some (.type "type")
structure ExD (K : PySem.W.Frag) (mg : Str → Option Value) (x : Str) : Prop where
  b : excB K x = true
  gm : mg x = some (.ref (He.ga K x))
section
variable {X : Cx} {W : WX} {body : List Stmt} {t : TS}
theorem pss_tk (tk : Takes X W) (h : Takes X W → PSs X body t) : PSs X body t := h tk
theorem ps_raiseX {x m : Str} {j : Nat} {p p2 pos pos' : Pos} (hc : X.calm = true) (tk : Takes X W) (e : ExD X.K X.mg x) (hg : Gl X x) (hdb : (x == ("__debug__" : Str)) = false := by decide) :
    PS X (.Raise (some (.Call (.Name x p) [.Constant (.str m) j p2] [] pos)) none pos') (tRaiseX W (He.ga X.K x)) := by
  have hb := e.b
  unfold excB at hb
  simp only [Bool.and_eq_true, beq_iff_eq] at hb
  obtain ⟨⟨⟨h1, h2⟩, h3⟩, h4⟩ := hb
  exact ps_raise hc tk (pmk_own PySem.F.excBase_ValueError h1 e.gm h2 (raises_own h3 h4) hg hdb)
theorem takesF : Takes X.nox WF0 := fun u s' h => by
  obtain ⟨a, B, sI, pins, σ, H, cls, d, _, _, _, _, _, _, _, _, w⟩ := h
  exact False.elim w
def tTryK (K : PySem.W.Frag) (i j : Nat) (Wout : WX) (tb : WX → TS) : TS := fun D σ H => tb (wKeep K (.ref (He.ga K "CartError")) i (fun _ _ _ => tAsg (tVar i) (gName j)) Wout D) D σ H
end
section
variable {K : PySem.W.Frag} {σ : St} {F : Hp} {cs : Cs} {H : Hp} {W : WX} {D : Ends}
theorem s_raise {C : Addr} (h : W (.ref C) none σ H) : tRaiseX W C D σ H := h
end
end Bw
namespace Bw
open PySem L2
def tupD2 : PyData → Option (PyData × PyData)
  | .tuple [a, b] => some (a, b)
  | _ => none
def tupD3 : PyData → Option (PyData × PyData × PyData)
  | .tuple [a, b, c] => some (a, b, c)
  | _ => none
def tupD4 : PyData → Option (PyData × PyData × PyData × PyData)
  | .tuple [a, b, c, d] => some (a, b, c, d)
  | _ => none
theorem tupD2_eq {d : PyData} {p : PyData × PyData} (h : tupD2 d = some p) : d = .tuple [p.1, p.2] := by
  unfold tupD2 at h; split at h
  · cases h; rfl
  · cases h
theorem tupD3_eq {d : PyData} {p : PyData × PyData × PyData} (h : tupD3 d = some p) : d = .tuple [p.1, p.2.1, p.2.2] := by
  unfold tupD3 at h; split at h
  · cases h; rfl
  · cases h
theorem tupD4_eq {d : PyData} {p : PyData × PyData × PyData × PyData} (h : tupD4 d = some p) : d = .tuple [p.1, p.2.1, p.2.2.1, p.2.2.2] := by
  unfold tupD4 at h; split at h
  · cases h; rfl
  · cases h
end Bw
namespace Bw
open PySem L2
theorem s_tryJ {K : PySem.W.Frag} {σ : St} {H : Hp} {nx bk ct : St → Hp → Prop} {rt : V → Hp → Prop} {i j : Nat} {Wout : WX} {tb : WX → TS} (J : St → Hp → Prop) (rest : ∀ σ' H', J σ' H' → nx σ' H')
    (body : (∀ σ' H', J σ' H' → nx σ' H') → tb (wKeep K (.ref (He.ga K "CartError")) i (fun _ _ _ => tAsg (tVar i) (gName j)) Wout ⟨nx, rt, bk, ct⟩) ⟨nx, rt, bk, ct⟩ σ H) : tTryK K i j Wout tb ⟨nx, rt, bk, ct⟩ σ H := body rest
end Bw
namespace Bw
open PySem L2
/-! the facts of the classes, told by the head -/
def ceB (K : PySem.W.Frag) : Bool := PySem.W.specialIn K (.ref (He.ga K "CartError")) "__getattribute__" == some (some (.builtin "type.__getattribute__")) && PySem.W.readsIn K (He.ga K "CartError") (.type "type") && (match PySem.W.findCls K (.ref (He.ga K "CartError")) (.type "type") "__init__" with
  | some (.val (.builtin n)) => n == "ValueError.__init__"
  | _ => false) && PySem.W.keepIn K (.ref (He.ga K "CartError"))
/-- a class with an own __init__ and a field -/
def oexB (K : PySem.W.Frag) (C : Addr) (f : Str) : Bool := (match K.lookup C with
  | some ⟨.type "type", _, .cls cd, sl⟩ => (match cd.mro, sl.toList with
    | .ref C' :: bm, [_, _, _, _, some (.builtin n), _] => C' == C && n == "ValueError.__new__" && !cd.hasDel && cd.hasDict && HandSPX.refsVE bm
    | _, _ => false)
  | _ => false) && PySem.W.findIn K (.ref C) "__setattr__" == some (some (.builtin "object.__setattr__")) && PySem.W.subIn K (.ref C) (.type "BaseException") == some true && PySem.W.typeIn K (.ref C) == some (.type "type") && PySem.W.keepIn K (.ref C) &&
  PySem.W.findIn K (.ref C) "__init__" == some (some (.ref (He.ma K C "__init__"))) && PySem.W.typeIn K (.ref (He.ma K C "__init__")) == some (.type "function") && xfB K C && PySem.W.findIn K (.ref C) f == some none
structure OexF (K : PySem.W.Frag) (C : Addr) (f : Str) : Prop where
  T : OexC K C
  iC : PySem.W.findIn K (.ref C) "__init__" = some (some (.ref (He.ma K C "__init__")))
  tI : PySem.W.typeIn K (.ref (He.ma K C "__init__")) = some (.type "function")
  xf : xfB K C = true
  no : PySem.W.findIn K (.ref C) f = some none
theorem oex_of {K : PySem.W.Frag} {C : Addr} {f : Str} (h : oexB K C f = true) : OexF K C f := by
  unfold oexB at h
  simp only [Bool.and_eq_true, beq_iff_eq] at h
  obtain ⟨⟨⟨⟨⟨⟨⟨⟨q, h2⟩, h3⟩, h4⟩, h5⟩, h6⟩, h7⟩, h8⟩, h9⟩ := h
  refine ⟨⟨?_, h2, h3, h4, h5⟩, h6, h7, h8, h9⟩
  split at q
  · rename_i dd cd sl ho
    split at q
    · rename_i C' bm k0 k1 k2 k3 n k5 hm hs
      simp only [Bool.and_eq_true, beq_iff_eq, Bool.not_eq_true'] at q
      obtain ⟨⟨⟨⟨rfl, rfl⟩, hdel⟩, hdi⟩, ht⟩ := q
      obtain ⟨nm, bs, mro, ns, qn, hd, sn, sub, ab, col, del⟩ := cd
      dsimp only at hm hdel hdi
      subst hm hdel hdi
      have hsl : sl = #[k0, k1, k2, k3, some (.builtin "ValueError.__new__"), k5] := by
        obtain ⟨l⟩ := sl
        simp only at hs
        rw [hs]
      subst hsl
      exact ⟨nm, qn, ns, bs, bm, sn, sub, ab, col, dd, k0, k1, k2, k3, k5, ho, ht⟩
    · cases q
  · cases q
def xfcB (cl ts : List Str) (K : PySem.W.Frag) : Bool := (cl.all fun c => ExC K (He.ga K c) && (ts.all fun d => PySem.W.kitOne K (.ref (He.ga K c)) (.ref (He.ga K d)) == some (subX c d)) && PySem.W.kitOne K (.ref (He.ga K c)) (.type "ValueError") == some true &&
  PySem.W.exmOne K (.ref (He.ga K c)) (.ref (He.ga K "CartError")) == some true && (match fld c with
    | none => excB K c
    | some f => oexB K (He.ga K c) f)) && (ts.all fun d => PySem.W.kitOne K (.type "NoneType") (.ref (He.ga K d)) == some false) && ceB K
theorem xfc_of {cl ts : List Str} {K : PySem.W.Frag} (h : xfcB cl ts K = true) : XFc K cl ts := by
  unfold xfcB at h
  rw [Bool.and_eq_true, Bool.and_eq_true, List.all_eq_true, List.all_eq_true] at h
  obtain ⟨⟨h1, h2⟩, _⟩ := h
  have k : ∀ c ∈ cl, _ := fun c hc => h1 c hc
  simp only [Bool.and_eq_true, List.all_eq_true, beq_iff_eq] at k h2
  refine ⟨fun c hc => (k c hc).1.1.1.1, fun c hc d hd => (k c hc).1.1.1.2 d hd, fun c hc => (k c hc).1.1.2, fun d hd => h2 d hd, fun c hc => (k c hc).1.2, fun c hc f hf => ?_⟩
  have z := (k c hc).2
  rw [hf] at z
  exact ⟨(oex_of z).xf, (oex_of z).no⟩
theorem ce_of {cl ts : List Str} {K : PySem.W.Frag} (h : xfcB cl ts K = true) : ceB K = true := by
  unfold xfcB at h
  rw [Bool.and_eq_true] at h
  exact h.2
theorem oxf_of {cl ts : List Str} {K : PySem.W.Frag} (h : xfcB cl ts K = true) {c f : Str} (hc : c ∈ cl) (hf : fld c = some f) : OexF K (He.ga K c) f := by
  unfold xfcB at h
  rw [Bool.and_eq_true, Bool.and_eq_true, List.all_eq_true] at h
  have k := h.1.1 c hc
  simp only [Bool.and_eq_true] at k
  have z := k.2
  rw [hf] at z
  exact oex_of z
theorem exd_of {cl ts : List Str} {K : PySem.W.Frag} {mg : Str → Option Value} (h : xfcB cl ts K = true) {c : Str} (hc : c ∈ cl) (hf : fld c = none) (g : mg c = some (.ref (He.ga K c))) : ExD K mg c := by
  unfold xfcB at h
  rw [Bool.and_eq_true, Bool.and_eq_true, List.all_eq_true] at h
  have k := h.1.1 c hc
  simp only [Bool.and_eq_true] at k
  have z := k.2
  rw [hf] at z
  exact ⟨z, g⟩
def asCS (g : Addr → Option Obj) (n : Nat) : List Addr := He.asD g n ++ [cStatics]
def hookB (n : Nat) (fa : List He.Fa) (fn : List He.DefD) (ex : PySem.W.Frag → Bool) : PySem.W.Hook where
  α := He.AlD × Bool
  obs := fun s => (He.obsD fa fn (He.frG s.heap.get? (asCS s.heap.get? n)), ex (He.frG s.heap.get? (asCS s.heap.get? n)))
  val := fun _ => (He.valD fn, true)
  says := fun _ h => ∃ K : PySem.W.Frag, K.In h ∧ He.SaysD fa fn K ∧ ex K = true
  of := fun _ _ e => ⟨_, He.frG_in, congrArg (fun z : He.AlD × Bool => z.1) e, congrArg (fun z : He.AlD × Bool => z.2) e⟩
  keeps := fun _ _ _ ⟨K, hK, c⟩ k => ⟨K, PySem.W.Frag.In.keeps hK k, c⟩
def obsB (n : Nat) (fa : List He.Fa) (fn : List He.DefD) (ex : PySem.W.Frag → Bool) (g : Addr → Option Obj) : He.AlD × Bool := (He.obsD fa fn (He.frG g (asCS g n)), ex (He.frG g (asCS g n)))
theorem obsB_eq {n : Nat} {fa : List He.Fa} {fn : List He.DefD} {ex : PySem.W.Frag → Bool} {g : Addr → Option Obj} {s : Shared} (h : ∀ a, g a = s.heap.get? a) : obsB n fa fn ex g = (hookB n fa fn ex).obs s := by
  have e : g = s.heap.get? := funext h
  rw [e]; rfl
end Bw

namespace Bw
open PySem L2
/-! dict(a list of pairs) -/
abbrev rDictP (K : PySem.W.Frag) : List V → Hp → VK → Prop := fun xs H Q => ∃ (a : Addr) (ps : List Addr) (kvs : List (Key × V)), xs = [.ref a] ∧ SqL K H a (ps.map V.ref) ∧ Paired (fun p kv => SqT K H p [kV kv.1, kv.2]) ps kvs ∧ ∀ p, H p = none → Q (.ref p) (upd H p (.dK (mergeK [] kvs)))
theorem cr_dictP {X : Cx} (hc : X.calm = true) : CallR X (.type "dict") (rDictP X.K) := call_dictP hc
section
variable {K : PySem.W.Frag} {σ : St} {F : Hp} {cs cs1 : Cs} {as : TA}
theorem dts_pairs {ν : Type} {ev : ν → PyData} {vf : ν → V} (hv : ∀ F v x, Dt K F v (ev x) → v = vf x) {H : Hp} (g : Gr F H) : ∀ {xs : List (Str × ν)} {vs : List V}, Dts K F vs (xs.map (eT2 eS ev)) → ∃ ps : List Addr, vs = ps.map V.ref ∧ Paired (fun p kv => SqT K H p [kV kv.1, kv.2]) ps (kvE kS vf xs)
  | [], vs, h => by cases h; exact ⟨[], rfl, .nil⟩
  | x :: xs, vs, h => by
    cases h with
    | cons a b =>
      obtain ⟨p, v1, v2, rfl, hT, k1, k2⟩ := u2 a
      obtain ⟨ps, rfl, hp⟩ := dts_pairs hv g b
      cases k1.toStr
      cases hv _ _ _ k2
      exact ⟨p :: ps, rfl, .cons (gr_T g hT) hp⟩
/-- .. as a thing -/
theorem d_dictP {ν : Type} {ev : ν → PyData} {vf : ν → V} (hv : ∀ F v x, Dt K F v (ev x) → v = vf x) {xs : List (Str × ν)} (h : EvDs K as σ F cs [eL (eT2 eS ev) xs] cs1) : EvD K (tCB (rDictP K) as) σ F cs (.dict []) cs1 := fun F1 H1 g1 s Q q =>
  h F1 H1 g1 s _ fun v F2 H2 g2 s2 h2 => by
    obtain ⟨v, rfl, k⟩ := h2.one
    obtain ⟨p, ys, rfl, hl, hd⟩ := k.toLst
    obtain ⟨ps, rfl, hp⟩ := dts_pairs hv s2.fr hd
    exact ⟨p, ps, _, rfl, gr_L s2.fr hl, hp, fun l nl => q _ _ _ (g2.tr (Gr.new (s2.fr.back nl))) (s2.lay nl) (.dct upd_same)⟩
end
end Bw

namespace Bw
open PySem L2
/-! exceptions with a field: raised, kept, read -/
/-- what may stand in the text of an exception -/
def FmV (v : V) : Prop := (∃ y : Str, v = .str y ∧ y.length ≤ 1000) ∨ ∃ i : Int, v = .int i ∧ i.natAbs.log2 < 1920 ∧ (toString i : Str).length ≤ 1000
def spI (C : Addr) (f : Str) : Sp := fun vs H Q _ => ∃ a v, vs = [.ref a, v] ∧ H a = some (exo a C none) ∧ FmV v ∧ ∀ dx, H dx = none → dx ≠ a → Q .non (upd (upd H dx (exd dx [(f, v)])) a (exo a C (some dx)))
theorem spI_len {C : Addr} {f : Str} {vs : List V} {H : Hp} {Q : VK} {E : XK} (h : spI C f vs H Q E) : vs.length = 2 := by
  obtain ⟨a, v, rfl, _⟩ := h; rfl
structure OkI (P : Program) (w : World) (K : PySem.W.Frag) (mg : Str → Option Value) (base : Heap) (x f : Str) : Prop where
  ex : ∃ fd, FnOk P w K mg base CX0 1 (He.ma K (He.ga K x) "__init__") fd ["self", f] (spI (He.ga K x) f) ∧ Binds K fd ["self", f] []
  gm : mg x = some (.ref (He.ga K x))
  T : OexF K (He.ga K x) f
section
variable {X : Cx} {e : Expr} {es : List Expr} {te : TE} {ta : TA} {p1 p2 pos p pos' : Pos} {W : WX}
theorem pe_ceinit {pl : Sem Bool} (hg : Gl X "CartError") (hm : X.mg "CartError" = some (.ref (He.ga X.K "CartError"))) (ce : ceB X.K = true) (ha : PA X (e :: es) ta)
    (hc : eval (.Call (.Attribute (.Name "CartError" p1) "__init__" p2) (e :: es) [] pos) X.env = (do
      let ov ← eval (.Name "CartError" p1) X.env
      standAt p2.atName
      let (f, first) ← holding [ov] (getMethod ov "__init__" pl)
      callWith pos f first (backTo pos (starEach (e :: es) X.env)) (backToKw pos (keywordEach [] X.env))) := by rfl)
    (he : starEach (e :: es) X.env = (false, eval e X.env) :: starEach es X.env := by rfl) (hpl : (backTo pos (starEach es X.env)).any (·.1) = false := by rfl) :
    PE X (.Call (.Attribute (.Name "CartError" p1) "__init__" p2) (e :: es) [] pos) (tVeI X.K ta) := by
  unfold ceB at ce
  simp only [Bool.and_eq_true, beq_iff_eq] at ce
  obtain ⟨⟨⟨c1, c2⟩, c3⟩, c4⟩ := ce
  have vV : PySem.W.findCls X.K (.ref (He.ga X.K "CartError")) (.type "type") "__init__" = some (.val (.builtin "ValueError.__init__")) := by
    split at c3
    · rename_i n h; rw [h]; rw [beq_iff_eq] at c3; rw [c3]
    · cases c3
  refine ⟨fun pins s σ H Q I h => ?_⟩
  refine PySem.W.methodCall_KW (ld_glob I hg hm ?_ (by decide)) hc
  refine PySem.W.method_cls I.kIn c1 (PySem.W.cls_value I.kIn c2 vV (by decide +kernel) ?_)
  show wpAny _ _ (callWith pos (Value.builtin "ValueError.__init__") [] (backTo pos (starEach (e :: es) X.env)) []) _ _ _
  refine PyProof.Rows.callWith_method1 (thn (ha.run pos pins _ σ H _ (I.tok _) h) fun us s1 ⟨vs, H1, I1, r1, a, C, ws, ev, hl, T, ea, q⟩ => ?_) he hpl
  subst ev
  cases r1 with
  | @cons _ u0 _ ur ra rw' =>
    obtain rfl : u0 = Value.ref a := ra
    have hlen : ur.length ≤ sizeLine := by
      rw [← Paired.length rw', sizeLine_eq]
      omega
    exact oinit_ok T I1 ea hlen fun s' J => ⟨.non, H1, J, rfl, q⟩
def tRaiseF (K : PySem.W.Frag) (W : WX) (x f : Str) (te : TE) : TS := fun _ σ H => tMkO (He.ga K x) (spI (He.ga K x) f) [] (tCons te tNil) σ H fun cls d H' => W cls d σ H'
theorem ps_raiseF {x f : Str} (hc : X.calm = true) (tk : Takes X W) (F : OkI X.prog X.w X.K X.mg X.base x f) (hr : Room 2 X.A) (hg : Gl X x) (he : PE X e te) (hdb : (x == ("__debug__" : Str)) = false := by decide)
    (hs : starEach [e] X.env = (false, eval e X.env) :: starEach [] X.env := by rfl) (hpl : (backTo pos (starEach [] X.env)).any (·.1) = false := by rfl) :
    PS X (.Raise (some (.Call (.Name x p) [e] [] pos)) none pos') (tRaiseF X.K W x f te) := by
  obtain ⟨fd, F1, hb⟩ := F.ex
  exact ps_raise hc tk (pmk_oex F.T.T F.T.iC F.T.tI F1 hr hb .nil pass0 hg F.gm (pa_cons he pa_nil (hs := hs)) hdb hs hpl)
/-- x.f, where x holds an exception that is kept -/
def tXat (K : PySem.W.Frag) (f : Str) (te : TE) : TE := fun σ H Q => te σ H fun x H1 => ∃ (a C dd : Addr) (fs : List (Str × V)) (v : V), x = .ref a ∧ H1 a = some (ExK C (some dd) a) ∧ H1 dd = some (.xd fs) ∧ xfB K C = true ∧ PySem.W.findIn K (.ref C) f = some none ∧ fs.lookup f = some v ∧ Q v H1
theorem pe_xat {n : Str} (he : PE X e te) (hb : attributeBase e n X.env (eval e X.env) = eval e X.env := by rfl) : PE X (.Attribute e n pos) (tXat X.K n te) := by
  refine ⟨fun pins s σ H Q I h => ?_⟩
  refine attr_of hb (thn (he.run pins s σ H _ I h) fun u s1 hh => ?_)
  obtain ⟨x, H1, I1, rx, a, C, dd, fs, v, ex, ha, ea, xf, hno, l, q⟩ := hh
  subst ex
  obtain rfl : u = Value.ref a := rx
  have T := xfB_ok xf
  have hk : ObjOk X.prog X.w H1 s1.heap a (.ext fun h => ∃ (oe : Obj) (vs : Array Value), h.get? a = some oe ∧ oe.cls = .ref C ∧ oe.dict = some dd ∧ oe.data = .fields vs) := I1.hok a _ ha
  obtain ⟨⟨oe, vs, e1, e2, e3, hd⟩, _⟩ := hk
  have hx : ObjOk X.prog X.w H1 s1.heap dd (.xd fs) := I1.hok dd _ ea
  obtain ⟨mA, hns, hr⟩ := hx
  obtain ⟨od, ho, hl⟩ := lookIn_ns hns
  obtain ⟨u, hu, ru⟩ := RelO.some_of (v := v) (o := mA n) (by rw [← l]; exact hr n)
  have J : PySem.W.InstAt s1.heap a oe C (some od) := ⟨e1, e2, by unfold PySem.W.notCls; rw [hd] <;> rfl, by rw [e3]; exact ho⟩
  exact HandSPX.exc_get I1.kIn J T.ga T.gg T.exC (PySem.W.findObj_own T.hdC hno rfl (by rw [hl, hu])) (handed_of ru) ⟨v, H1, I1.tok _, ru, q⟩
end
/-- self, x: CartError.__init__(self, f'm{x}'); self.x = x -/
def tInit (K : PySem.W.Frag) (f m : Str) : TS := tSeq (tDrop (tVeI K (tCons (tVar 0) (tCons (fun σ H Q => tJs [tC (.str m), tFmt (tVar 1)] Str.empty σ H fun out H1 => Q (.str out) H1) tNil)))) (tOst K f (tVar 0) (tVar 1))
theorem w_init {K : PySem.W.Frag} {C : Addr} {f m : Str} {vs : List V} {H : Hp} {Q : VK} {E : XK} (T : OexF K C f) (hm : m.length ≤ 1000) (h : spI C f vs H Q E) : tInit K f m { nx := fun _ H' => Q .non H', rt := Q } (start ["self", f] vs) H := by
  obtain ⟨a, v, rfl, ha, fm, q⟩ := h
  have sl : sizeLine = sizeLine := rfl
  refine ⟨.ref a, rfl, m, rfl, ?_, v, rfl, ?_⟩
  · rw [sizeLine_eq, Str.length_append]; have : Str.empty.length = 0 := rfl; omega
  have fin : ∀ y : Str, y.length ≤ 1000 → ∃ z : Str, V.str y = V.str z ∧ (Str.empty ++ m ++ z).length ≤ sizeLine ∧ tJs [] (Str.empty ++ m ++ z) [some (.ref a), some v] H fun out H1 => tNil [some (.ref a), some v] H1 fun ws H2 => ∃ (a' C' : Addr) (ws' : List V), (.ref a :: .str out :: ws) = .ref a' :: ws' ∧ ws'.length ≤ 1000 ∧ OexC K C' ∧ H2 a' = some (exo a' C' none) ∧ tOst K f (tVar 0) (tVar 1) { nx := fun _ H' => Q .non H', rt := Q } [some (.ref a), some v] H2 := fun y hy => by
    refine ⟨y, rfl, ?_, ?_⟩
    · rw [sizeLine_eq, Str.length_append, Str.length_append]; have : Str.empty.length = 0 := rfl; omega
    · refine ⟨a, C, _, rfl, Nat.le_of_ble_eq_true rfl, T.T, ha, ?_⟩
      exact ⟨v, rfl, .ref a, rfl, a, C, rfl, T.T, T.no, .inl ⟨ha, fun dx hx hn => q dx hx hn⟩⟩
  rcases fm with ⟨y, rfl, hy⟩ | ⟨i, rfl, hi, hy⟩
  · refine .inl ⟨y, rfl, by rw [sizeLine_eq]; omega, ?_⟩
    exact fin y hy
  · exact .inr ⟨i, rfl, hi, fin _ hy⟩
section
variable {K : PySem.W.Frag} {σ : St} {F : Hp} {cs cs1 : Cs} {H : Hp} {te : TE} {W : WX} {D : Ends}
/-- a thing that may stand in the text of an exception -/
def fmB : PyData → Bool
  | .str y => decide (y.length ≤ 1000)
  | .int i => decide (i.natAbs.log2 < 1920) && decide ((toString i : Str).length ≤ 1000)
  | _ => false
theorem fmV_of {v : V} {d : PyData} (h : Dt K F v d) (b : fmB d = true) : FmV v := by
  cases d with
  | str y => cases h.toStr; exact .inl ⟨y, rfl, of_decide_eq_true b⟩
  | int i =>
    cases h.toInt
    obtain ⟨b1, b2⟩ := Bool.and_eq_true_iff.mp b
    exact .inr ⟨i, rfl, of_decide_eq_true b1, of_decide_eq_true b2⟩
  | _ => cases b
theorem s_raiseF {d : PyData} {x f : Str} (s : Sta F cs H) (h : EvD K te σ F cs d cs1) (b : fmB d = true) (hf : fld x = some f) (q : ∀ dd F2 H2, Gr F F2 → Sta F2 cs1 H2 → Xd K F2 (x, d) dd → W (.ref (He.ga K x)) dd σ H2) : tRaiseF K W x f te D σ H := by
  refine h F H .rfl s _ fun v F2 H2 g2 s2 hv => ⟨Nat.le_of_ble_eq_true rfl, fun a ha => ?_⟩
  refine ⟨a, v, rfl, upd_same, fmV_of hv b, fun dx hx hn => ⟨rfl, dx, [(f, v)], upd_same, ?_, ?_, ?_⟩⟩
  · rw [upd_ne hn, upd_same]
  · rw [upd_ne hn] at hx; exact hx
  · rw [upd_ne hn] at hx
    have e : upd (del (upd (upd (upd H2 a (exo a (He.ga K x) none)) dx (exd dx [(f, v)])) a (exo a (He.ga K x) (some dx))) a) dx (.xd [(f, v)]) = upd H2 dx (.xd [(f, v)]) := by
      funext z
      by_cases hz : z = dx
      · rw [hz, upd_same, upd_same]
      · rw [upd_ne hz, upd_ne hz]
        by_cases hza : z = a
        · rw [hza, del_same, ha]
        · rw [del_ne hza, upd_ne hza, upd_ne hz, upd_ne hza]
    rw [e]
    have g3 : Gr F2 (upd F2 dx (.xd [(f, v)])) := Gr.new (s2.fr.back hx)
    refine q _ _ _ (g2.tr g3) (s2.lay hx) ?_
    unfold Xd
    rw [hf]
    exact ⟨dx, v, rfl, upd_same, hv.gr g3⟩
def partM (f : Str) (o : Option Xe) : Option PyData := match o with
  | some e => if fld e.1 = some f then some e.2 else none
  | none => none
theorem d_xat {cl ts : List Str} {o : Option Xe} {v : V} {i : Nat} {f : Str} {d : PyData} (X : XFc K cl ts) (hi : σ[i]? = some (some v)) (hx : Xv K cl F v o) (h : partM f o = some d) : EvD K (tXat K f (tVar i)) σ F cs d cs := fun F1 H1 g1 s Q q => by
  cases o with
  | none => cases h
  | some e =>
    obtain ⟨hc, a, dd, rfl, ha, hxd⟩ := hx
    unfold partM at h
    dsimp only at h
    split at h
    · rename_i hf
      cases h
      unfold Xd at hxd
      rw [hf] at hxd
      obtain ⟨z, w, rfl, hz, hw⟩ := hxd
      obtain ⟨x1, x2⟩ := X.fl _ hc f hf
      refine ⟨.ref a, hi, a, He.ga K e.1, z, [(f, w)], w, rfl, s.fr _ _ (g1 _ _ ha), s.fr _ _ (g1 _ _ hz), x1, x2, ?_, q w F1 H1 .rfl s (hw.gr g1)⟩
      simp [List.lookup]
    · cases h
end
end Bw
namespace Bw
open PySem L2
theorem xd0 {K : PySem.W.Frag} {F : Hp} {c : Str} {d : PyData} (h : fld c = none) : Xd K F (c, d) none := by
  unfold Xd; rw [h]
def fmM (d : PyData) : Option Unit := if fmB d = true then some () else none
theorem fmM_ok {d : PyData} {u : Unit} (h : fmM d = some u) : fmB d = true := by
  unfold fmM at h
  split at h
  · assumption
  · cases h
end Bw

namespace Bw
open PySem PySem.Spec PyProof.Rows L2
/-! an old list, repeated -/
def rRepS (K : PySem.W.Frag) : R2 := fun x y H Q => ∃ l k xs, x = .ref l ∧ y = .int k ∧ SqL K H l xs ∧ -(2 ^ 63) ≤ k ∧ k < 2 ^ 63 ∧ xs.length * k.toNat ≤ sizeLine ∧
  ∀ p, H p = none → Q (.ref p) (upd H p (.lst (List.replicate k.toNat xs).flatten))
theorem rmulW (a : Int) (t : Tok) (l : Addr) (items : Array Value) (n : Nat) (dd : Option Addr) (sl : Array (Option Value)) :
    Meets (Builtin.«int.__rmul__» ⟨[.int a t, .ref l], []⟩) (fun _ R s => s.heap.get? l = some { cls := .type "list", dict := dd, data := .seq items n, slots := sl } ∧ R (.ok (.ret Value.notImplemented)) s) :=
  .of_wp fun prog w A R s h => by
    obtain ⟨hp, g, d, tk, os⟩ := s; obtain ⟨hl, h⟩ := h
    wp_walk using PyProof.Rows.wpAny_loadPart' hl
    exact ⟨_, rfl, h⟩
theorem mulW (l : Addr) (items : Array Value) (n : Nat) (dd : Option Addr) (sl : Array (Option Value)) (x : Int) (u : Tok) (hc0 : ¬(!Builtin.List.listFitsIndex x) = true) (hc1 : ¬items.size * x.toNat > (2 ^ 63 - 1) / 8) (hc2 : ¬Builtin.List.listTooLong (items.size * x.toNat) = true) :
    Meets (Builtin.«list.__mul__» ⟨[.ref l, .int x u], []⟩) (fun _ R s => s.heap.get? l = some { cls := .type "list", dict := dd, data := .seq items n, slots := sl } ∧ R (.ok (.ret (Value.ref s.heap.objs.size))) { s with heap := s.heap.push { cls := Value.type "list", data := Data.seq (List.foldl (fun x1 x2 => x1 ++ x2) #[] (List.replicate (if items.isEmpty = true then 0 else x.toNat) items)) }, toks := s.toks }) :=
  .of_wp fun prog w A R s h => by
    obtain ⟨hp, g, d, tk, os⟩ := s; obtain ⟨hl, h⟩ := h
    have hsz := PySem.AutoListH.joined_fits hc2
    wp_walk using PyProof.Rows.wpAny_loadPart' hl
    refine wpAny_ite_false (decide_eq_false (Nat.not_lt.mpr hsz)) ?_
    wp_walk using PyProof.Rows.wpAny_loadPart' hl
    exact ⟨_, rfl, h⟩
theorem op_repS {X : Cx} : OpR X (binaryOp .Mult) (rRepS X.K) := by
  intro pins s σ H x y v u Q I rx ry h
  obtain ⟨l, k, xs, rfl, rfl, hH, h1, h2, hz, q⟩ := h
  cases rx
  obtain ⟨t, rfl⟩ := ry
  obtain ⟨its, r, pl, _⟩ := I.list hH
  have hl := r.length
  obtain ⟨⟨cls, dd, data, sl⟩, e, hc, n, hd⟩ := pl.isList
  simp only at hc hd
  subst hc hd
  have hlen : its.toArray.size * k.toNat ≤ sizeLine := by rw [List.size_toArray, ← hl]; exact hz
  have hcap : ¬ its.toArray.size * k.toNat > (2 ^ 63 - 1) / 8 := by
    have : (sizeLine : Nat) ≤ (2 ^ 63 - 1) / 8 := by decide
    omega
  have hfit : ¬ (!Builtin.List.listFitsIndex k) = true := by
    rw [fitsIndex_both h1 h2]
    exact Bool.false_ne_true
  have hlong : ¬ Builtin.List.listTooLong (its.toArray.size * k.toNat) = true := by
    rw [notLongL hlen]
    exact Bool.false_ne_true
  have hnew : List.foldl (fun x1 x2 => x1 ++ x2) #[] (List.replicate (if its.toArray.isEmpty = true then 0 else k.toNat) its.toArray) = (List.replicate k.toNat its).flatten.toArray := by
    have f0 : ∀ m : Nat, List.foldl (fun x1 x2 => x1 ++ x2) #[] (List.replicate m its.toArray) = (List.replicate m its).flatten.toArray := fun m => by
      have := foldl_rep its m []
      rw [List.nil_append] at this
      exact this
    rw [f0]
    cases its with
    | nil => simp
    | cons a r' => rw [if_neg (by simp)]
  refine wpAny_binaryOp_repeat_ref (T := "list") (U := "int") (by decide) ⟨_, e, rfl⟩ (fun s' => typeIs_int s' k t) PySem.noFill_list_mul F.fills_int_mul F.slot_int_rmul PySem.repeat_list F.slot_int_index.lookup
    (call_meets F.slot_int_rmul (typeIs_int s k t) F.entry_int_rmul (F.args_int_rmul_2 _ _) (rmulW k t l its.toArray n dd sl)
      ⟨e, rfl, ⟨_, e, rfl⟩, call_meets F.slot_list_mul ⟨_, e, rfl⟩ F.entry_list_mul (F.args_list_mul_2 _ _) (mulW l its.toArray n dd sl k t hfit hcap hlong) ⟨e, ?_⟩⟩)
  rw [hnew]
  exact ⟨.ref _, _, I.lnew (t' := s.toks) (r.rep k.toNat) (by rw [PyProof.Rows.lm_len_rep_flat, Nat.mul_comm]; exact hz), rfl, q _ I.fresh⟩
end Bw
namespace Bw
open PySem L2
section
variable {K : PySem.W.Frag} {σ : St} {F : Hp} {cs cs1 cs2 cs3 : Cs} {ta tb te : TE} {as : TA} {b : Int} {d : PyData}
theorem c_repS {α : Type} {en : α → PyData} {xs zs : List α} (ha : EvD K ta σ F cs (eL en xs) cs1) (hb : EvD K tb σ F cs1 (.int b) cs2) (hz : repM xs b = some zs) : EvC K (tOp (rRepS K) ta tb) σ F cs (zs.map en) cs2 := fun F1 H1 g1 s Q q =>
  ha F1 H1 g1 s _ fun v F2 H2 g2 s2 h2 => hb F2 H2 (g1.tr g2) s2 _ fun w F3 H3 g3 s3 h3 => by
    cases h3.toInt
    obtain ⟨p, vs, rfl, hl, hd⟩ := (h2.gr g3).toLst
    obtain ⟨⟨h4, h5, h6⟩, rfl⟩ := repM_some hz
    refine ⟨p, b, vs, rfl, rfl, gr_L s3.fr hl, h4, h5, ?_, fun l nl => q _ _ _ _ (g2.tr g3) (s3.cell nl) ?_⟩
    · rw [hd.len, List.length_map]; exact sz h6
    · rw [List.map_flatten, List.map_replicate]; exact hd.rep b.toNat
/-- {} as a thing -/
theorem d_dnew : EvD K tDNewK σ F cs (.dict []) cs := fun F1 H1 g1 s Q q => fun p hp => q _ _ _ (Gr.new (s.fr.back hp)) (s.lay hp) (.dct upd_same)
/-! a new list among the arguments -/
def EvN (K : PySem.W.Frag) (ta : TA) (σ : St) (F : Hp) (cs : Cs) (as : List Ar) (us : List V) (cc cs' : Cs) : Prop :=
  ∀ F1 H1, Gr F F1 → Sta F1 cs H1 → ∀ Q : List V → Hp → Prop, (∀ p vs F2 H2, Gr F1 F2 → Sta F2 ((p, .lst us) :: cs') H2 → ArgR K F2 vs as ((p, .lst us) :: cc) → Q vs H2) → ta σ H1 Q
theorem n_new {xs : List Ar} {cc : Cs} {ds : List PyData} {us : List V} (h : EvC K te σ F cs ds cs1) (hu : ∀ F vs, Dts K F vs ds → vs = us) (h2 : ∀ p, EvR K as σ F ((p, .lst us) :: cs1) xs cc ((p, .lst us) :: cs2)) : EvN K (tCons te as) σ F cs (.c us :: xs) us cc cs2 := fun F1 H1 g1 s Q q =>
  h F1 H1 g1 s _ fun p vs F2 H2 g2 s2 hv => by
    cases hu F2 vs hv
    exact h2 p F2 H2 (g1.tr g2) s2 _ fun ws F3 H3 g3 s3 h3 => q p _ F3 H3 (g2.tr g3) s3 (.c h3)
theorem n_d {xs : List Ar} {cc : Cs} {us : List V} (h : EvD K te σ F cs d cs1) (h2 : EvN K as σ F cs1 xs us cc cs2) : EvN K (tCons te as) σ F cs (.d d :: xs) us cc cs2 := fun F1 H1 g1 s Q q =>
  h F1 H1 g1 s _ fun v F2 H2 g2 s2 hv => h2 F2 H2 (g1.tr g2) s2 _ fun p vs F3 H3 g3 s3 h3 => q p _ F3 H3 (g2.tr g3) s3 (.d (hv.gr g3) h3)
theorem d_callM {α β : Type} {A : α → List Ar} {B : β → PyData} {C : β → List (List V)} {f : α → Option β} {x : α} {y : β} {E : XK} {cc cs' : Cs} {us : List V} (h : EvN K as σ F cs (A x) us cc cs2)
    (hp : ∀ p, Sb ((p, .lst us) :: cs2) ((p, .lst us) :: cc ++ cs')) (hf : f x = some y) (hq : ∀ p, Sb (upC ((p, .lst us) :: cc) (C y) ++ cs') cs3) : EvD K (tCall (spC K A B C f) [] E as) σ F cs (B y) cs3 := fun F1 H1 g1 s Q q =>
  h F1 H1 g1 s _ fun p vs F3 H3 g3 s3 h3 => ⟨F3, (p, .lst us) :: cc, cs', x, y, by rw [List.append_nil]; exact h3, hp p _ _ s3, hf, fun v F4 H4 g4 s4 h4 => q v F4 H4 (g3.tr g4) (hq p _ _ s4) h4⟩
theorem c_callM {α β : Type} {A : α → List Ar} {B : β → List PyData} {C : β → List (List V)} {f : α → Option β} {x : α} {y : β} {E : XK} {cc cs' : Cs} {us : List V} (h : EvN K as σ F cs (A x) us cc cs2)
    (hp : ∀ p, Sb ((p, .lst us) :: cs2) ((p, .lst us) :: cc ++ cs')) (hf : f x = some y) (hq : ∀ p z, Sb (z :: (upC ((p, .lst us) :: cc) (C y) ++ cs')) (z :: cs3)) : EvC K (tCall (spF K A B C f) [] E as) σ F cs (B y) cs3 := fun F1 H1 g1 s Q q =>
  h F1 H1 g1 s _ fun p vs F3 H3 g3 s3 h3 => ⟨F3, (p, .lst us) :: cc, cs', x, y, by rw [List.append_nil]; exact h3, hp p _ _ s3, hf, fun p' us' F4 H4 g4 s4 h4 => q p' us' F4 H4 (g3.tr g4) (hq p _ _ _ s4) h4⟩
theorem o_callRM {α β : Type} {A : α → List Ar} {C : β → List (List V)} {R : β → Hp → V → Cs → Prop} {f : α → Option β} {x : α} {y : β} {E : XK} {cc cs' : Cs} {us : List V} {H : Hp} {Q : VK} (s : Sta F cs H) (h : EvN K as σ F cs (A x) us cc cs2)
    (hp : ∀ p, Sb ((p, .lst us) :: cs2) ((p, .lst us) :: cc ++ cs')) (hf : f x = some y) (hq : ∀ p, Su (upC ((p, .lst us) :: cc) (C y) ++ cs') cs3) (q : ∀ v c F2 H2, Gr F F2 → Sta F2 (c ++ cs3) H2 → R y F2 v c → Q v H2) : tCall (spR K A C R f) [] E as σ H Q :=
  h F H .rfl s _ fun p vs F3 H3 g3 s3 h3 => ⟨F3, (p, .lst us) :: cc, cs', x, y, by rw [List.append_nil]; exact h3, hp p _ _ s3, hf, fun v c F4 H4 g4 s4 r => q v c F4 H4 (g3.tr g4) ((su_app (hq p)).sb _ _ s4) r⟩
theorem d_callRM {α β : Type} {A : α → List Ar} {C : β → List (List V)} {R : β → Hp → V → Cs → Prop} {B : β → PyData} {f : α → Option β} {x : α} {y : β} {E : XK} {cc cs' : Cs} {us : List V} (hR : ∀ y F H v c cs, R y F v c → Sta F (c ++ cs) H → ∃ F', Gr F F' ∧ Sta F' cs H ∧ Dt K F' v (B y)) (h : EvN K as σ F cs (A x) us cc cs2)
    (hp : ∀ p, Sb ((p, .lst us) :: cs2) ((p, .lst us) :: cc ++ cs')) (hf : f x = some y) (hq : ∀ p, Su (upC ((p, .lst us) :: cc) (C y) ++ cs') cs3) : EvD K (tCall (spR K A C R f) [] E as) σ F cs (B y) cs3 := fun F1 H1 g1 s Q q =>
  o_callRM s (fun F2 H2 g2 => h F2 H2 (g1.tr g2)) hp hf hq fun v c F3 H3 g3 s3 r => by
    obtain ⟨F4, g4, s4, d4⟩ := hR y F3 H3 v c cs3 r s3
    exact q v F4 H3 (g3.tr g4) s4 d4
/-! a function of one thing, a kept exception or None -/
def spX (K : PySem.W.Frag) (cl : List Str) {β : Type} (B : β → PyData) (f : Option Xe → Option β) : Sp := fun vs H Q _ => ∃ F cs v o y, vs = [v] ∧ Xv K cl F v o ∧ Sta F cs H ∧ f o = some y ∧ ∀ v2 F2 H2, Gr F F2 → Sta F2 cs H2 → Dt K F2 v2 (B y) → Q v2 H2
theorem d_callX1 {cl : List Str} {β : Type} {B : β → PyData} {f : Option Xe → Option β} {o : Option Xe} {y : β} {v : V} {i : Nat} {E : XK} (hi : σ[i]? = some (some v)) (hx : Xv K cl F v o) (hf : f o = some y) : EvD K (tCall (spX K cl B f) [] E (tCons (tVar i) tNil)) σ F cs (B y) cs := fun F1 H1 g1 s Q q =>
  ⟨v, hi, F1, cs, v, o, y, rfl, hx.gr g1, s, hf, fun v2 F2 H2 g2 s2 h2 => q v2 F2 H2 g2 s2 h2⟩
end
end Bw
namespace Bw
open PySem L2
section
variable {K : PySem.W.Frag} {σ : St} {F : Hp} {cs cs1 cs2 : Cs} {ta tb : TE}
/-! and, or: where a later part changes cells -/
theorem t_andC {t u : TT} {a r : Bool} (h1 : EvT t σ F cs a cs1) (h2 : a = true → EvT u σ F cs1 r cs2) (h4 : a = false → r = false ∧ cs1 = cs2) : EvT (tAnd t u) σ F cs r cs2 := fun F1 H1 g1 s Q q => h1 F1 H1 g1 s _ fun F2 H2 g2 s2 => by
  cases a with
  | true => exact h2 rfl F2 H2 (g1.tr g2) s2 Q fun F3 H3 g3 s3 => q F3 H3 (g2.tr g3) s3
  | false => obtain ⟨e1, e2⟩ := h4 rfl; rw [e1] at q; rw [e2] at s2; exact q F2 H2 g2 s2
theorem t_orC {t u : TT} {a r : Bool} (h1 : EvT t σ F cs a cs1) (h2 : a = false → EvT u σ F cs1 r cs2) (h4 : a = true → r = true ∧ cs1 = cs2) : EvT (tOr t u) σ F cs r cs2 := fun F1 H1 g1 s Q q => h1 F1 H1 g1 s _ fun F2 H2 g2 s2 => by
  cases a with
  | false => exact h2 rfl F2 H2 (g1.tr g2) s2 Q fun F3 H3 g3 s3 => q F3 H3 (g2.tr g3) s3
  | true => obtain ⟨e1, e2⟩ := h4 rfl; rw [e1] at q; rw [e2] at s2; exact q F2 H2 g2 s2
theorem d_andC {a r : Bool} (h1 : EvD K ta σ F cs (.bool a) cs1) (h2 : a = true → EvD K tb σ F cs1 (.bool r) cs2) (h4 : a = false → r = false ∧ cs1 = cs2) : EvD K (tAndV ta tb) σ F cs (.bool r) cs2 := fun F1 H1 g1 s Q q => h1 F1 H1 g1 s _ fun v F2 H2 g2 s2 hv => ⟨a, hv.toBl, by
  cases a with
  | true => exact h2 rfl F2 H2 (g1.tr g2) s2 Q fun v F3 H3 g3 s3 k => q v F3 H3 (g2.tr g3) s3 k
  | false => obtain ⟨e1, e2⟩ := h4 rfl; rw [e1] at q; rw [e2] at s2; exact q _ F2 H2 g2 s2 (.bl false)⟩
theorem d_orC {a r : Bool} (h1 : EvD K ta σ F cs (.bool a) cs1) (h2 : a = false → EvD K tb σ F cs1 (.bool r) cs2) (h4 : a = true → r = true ∧ cs1 = cs2) : EvD K (tOrV ta tb) σ F cs (.bool r) cs2 := fun F1 H1 g1 s Q q => h1 F1 H1 g1 s _ fun v F2 H2 g2 s2 hv => ⟨a, hv.toBl, by
  cases a with
  | false => exact h2 rfl F2 H2 (g1.tr g2) s2 Q fun v F3 H3 g3 s3 k => q v F3 H3 (g2.tr g3) s3 k
  | true => obtain ⟨e1, e2⟩ := h4 rfl; rw [e1] at q; rw [e2] at s2; exact q _ F2 H2 g2 s2 (.bl true)⟩
end
end Bw
namespace Bw
open PySem L2
def clsB : Stmt → List Stmt
  | .ClassDef (body := b) .. => b
  | _ => []
abbrev eT5 {α β γ δ ε : Type} (e : α → PyData) (f : β → PyData) (g : γ → PyData) (h : δ → PyData) (i : ε → PyData) (x : α × β × γ × δ × ε) : PyData := .tuple [e x.1, f x.2.1, g x.2.2.1, h x.2.2.2.1, i x.2.2.2.2]
end Bw

namespace L2
open PySem PySem.Spec PyProof.Rows
/-! an instance is made, and its __init__ may raise -/
def tMakeS (C : Addr) (sp : Sp) (E : St → XK) (t : TA) : TE := fun σ H Q => t σ H fun vs H1 => ∀ x dx, H1 x = none → H1 dx = none → dx ≠ x →
  sp (.ref x :: vs) (upd (upd H1 dx (.own x)) x (.ins C dx [])) (fun v H2 => v = .non ∧ Q (.ref x) H2) (E σ)
section
variable {X : Cx} {CX : CXT} {k : Nat} {f C : Addr} {fd : FuncData} {ps : List Str} {sp : Sp} {E : St → XK} {x m : Str} {p pos apos : Pos} {e o : Expr} {es : List Expr} {ta : TE} {t : TA}
theorem run_makeS {pins : List (Addr × Obj)} {σ : St} {H : Hp} {s : Shared} {Q : VK} {us : List Value} {vs : List V} (M : Mk X.K C f) (F : FnOk X.prog X.w X.K X.mg X.base CX k f fd ps sp) (hr : Room (k + 1) X.A) (hb : Binds X.K fd ps [])
    (hx : PassesAt CX X σ (E σ)) (I : Inv X pins σ H s) (r : Vals vs us)
    (h : ∀ x dx, H x = none → H dx = none → dx ≠ x → sp (.ref x :: vs) (upd (upd H dx (.own x)) x (.ins C dx [])) (fun v H2 => v = .non ∧ Q (.ref x) H2) (E σ)) :
    wpAny (model X.prog X.w) X.A (call (.ref C) us) (EP X pins σ Q) X.xe s := by
  have hq := h (s.heap.objs.size + 1) s.heap.objs.size (I.hok.fresh (Nat.le_succ _)) (I.hok.fresh (Nat.le_refl _)) (Nat.ne_of_lt (Nat.lt_succ_self _))
  have I2 := Inv.made (C := C) I
  have r2 : Vals (V.ref (s.heap.objs.size + 1) :: vs) (Value.ref (s.heap.objs.size + 1) :: us) := .cons rfl r
  have hl : (Value.ref (s.heap.objs.size + 1) :: us).length = ps.length := by
    have e := r2.length
    rw [F.len _ _ _ _ hq] at e
    exact e.symm
  have b := hb _ (Value.ref (s.heap.objs.size + 1) :: us) I2.kIn (by rw [List.append_nil]; exact hl)
  rw [List.append_nil] at b
  refine wpAny_call (make_map (f := f) I.kIn M.makes M.init (beq_iff_eq.mp M.fn) (codeAny_mono (F.run _ X.stack _ _ ⟨Value.ref (s.heap.objs.size + 1) :: us, []⟩ (Value.ref (s.heap.objs.size + 1) :: us) _ _ (E σ) (hr.make C us [])
    (I2.env0.make C us []) b r2 hq) fun r s' hq' => ?_))
  cases r with
  | error e => exact hx pins _ _ e s' I2 hq'
  | ok fl =>
    cases fl with
    | ret u =>
      obtain ⟨v, H', I3, rv, ev, q3⟩ := I2.after hq'
      subst ev
      exact ⟨rv, ⟨V.ref (s.heap.objs.size + 1), H', I3, rfl, q3⟩⟩
    | next => exact False.elim hq'
    | brk => exact False.elim hq'
    | cont => exact False.elim hq'
theorem pe_makeS (M : Mk X.K C f) (F : FnOk X.prog X.w X.K X.mg X.base CX k f fd ps sp) (hr : Room (k + 1) X.A) (hg : Gl X x) (hm : X.mg x = some (.ref C)) (hb : Binds X.K fd ps []) (hx : ∀ σ, PassesAt CX X σ (E σ))
    (ha : PA X (e :: es) t) (hdb : (x == ("__debug__" : Str)) = false := by decide) (he : starEach (e :: es) X.env = (false, eval e X.env) :: starEach es X.env := by rfl) (hpl : (backTo pos (starEach es X.env)).any (·.1) = false := by rfl) :
    PE X (.Call (.Name x p) (e :: es) [] pos) (tMakeS C sp E t) := by
  refine ⟨fun pins s σ H Q I h => ?_⟩
  refine wpAny_Call_Name_kw (ld_glob I hg hm ?_ hdb)
  refine PySem.W.callWith_K (h₀ := X.base) I.ok.mod.kin M.kp (thn (ha.run pos pins s σ H _ I h) fun us s1 ⟨vs, H1, I1, r, q⟩ => ⟨I1.kIn, ?_⟩) he hpl
  exact run_makeS M F hr hb (hx σ) I1 r q
end
end L2
namespace Bw
open PySem L2
/-- a promise of an __init__ that ends by an exception -/
def spMX (K : PySem.W.Frag) (C : Addr) {α : Type} (A : α → List PyData) (f : α → Option (Rs Unit)) : Sp := fun vs H _ E => ∃ F cs a dx ws x e, vs = .ref a :: ws ∧ Dts K F ws (A x) ∧ Sta F ((a, .ins C dx []) :: (dx, .own a) :: cs) H ∧ f x = some (.ex e) ∧
  ∀ d F2 H2, Gr F F2 → Sta F2 cs H2 → Xd K F2 e d → E (.ref (He.ga K e.1)) d H2
structure OkM (P : Program) (w : World) (K : PySem.W.Frag) (mg : Str → Option Value) (base : Heap) (k : Nat) (x : Str) (ps : List Str) (sp : Sp) : Prop where
  ex : ∃ fd, FnOk P w K mg base (L2.CX P w) k (He.ma K (He.ga K x) "__init__") fd ps sp ∧ Binds K fd ps []
  gm : mg x = some (.ref (He.ga K x))
  mkr : Mk K (He.ga K x) (He.ma K (He.ga K x) "__init__")
/-- a method's def -/
def DfM (K : PySem.W.Frag) (c m q : Str) (st : Stmt) : Prop := ∃ fd, FunD K m q (defArgs st) (defBody st) (defScope st) [] [] (He.ma K (He.ga K c) m) fd
section
variable {K : PySem.W.Frag} {σ : St} {F : Hp} {cs cs1 : Cs} {H : Hp} {as : TA} {W : WX}
theorem x_makeX {α : Type} {C : Addr} {A : α → List PyData} {f : α → Option (Rs Unit)} {x : α} {e : Xe} (h : EvDs K as σ F cs (A x) cs1) (hf : f x = some (.ex e)) : EvX K (tMakeS C (spMX K C A f) (WE W) as) W σ F cs (.ex e) cs1 := fun F1 H1 g1 s Q q qx =>
  h F1 H1 g1 s _ fun vs F2 H2 g2 s2 h2 => fun a dx ha hdx hne => by
    have s3 : Sta F2 ((dx, .own a) :: cs1) (upd H2 dx (.own a)) := s2.cell hdx
    have s4 : Sta F2 ((a, .ins C dx []) :: (dx, .own a) :: cs1) (upd (upd H2 dx (.own a)) a (.ins C dx [])) := s3.cell (by rw [upd_ne (Ne.symm hne)]; exact ha)
    exact ⟨F2, cs1, a, dx, vs, x, e, rfl, h2, s4, hf, fun d F3 H3 g3 s5 xd => qx e rfl d F3 H3 (g2.tr g3) s5 xd⟩
end
end Bw
namespace Bw
open PySem L2
theorem exinj {β : Type} {c e : Xe} (h : some (Rs.ex c : Rs β) = some (.ex e)) : c = e := by cases h; rfl
end Bw
namespace Bw
open PySem L2
theorem ref_inj {a b : Addr} (h : (some (Value.ref a) : Option Value) = some (Value.ref b)) : a = b := by cases h; rfl
end Bw
namespace Bw
open PySem L2
section
variable {K : PySem.W.Frag} {σ : St} {F : Hp} {te : TE}
theorem s_insGV {α : Type} {en : α → PyData} {k1 k2 m1 m2 l1 l2 : Cs} {to ti : TE} {p : Addr} {vs : List V} {xs ys : List α} {x : α} {k : Int} {nx bk ct : St → Hp → Prop} {rt : VK} {H : Hp} (s : Sta F (k1 ++ (p, .lst vs) :: k2) H) (hf : Dts K F vs (xs.map en)) (hi : VP to σ F (k1 ++ (p, .lst vs) :: k2) (.ref p))
    (h1 : EvD K ti σ F (k1 ++ (p, .lst vs) :: k2) (.int k) (m1 ++ (p, .lst vs) :: m2)) (h : EvD K te σ F (m1 ++ (p, .lst vs) :: m2) (en x) (l1 ++ (p, .lst vs) :: l2)) (hm : insM xs k x = some ys)
    (q : ∀ us F2 H2, Gr F F2 → Sta F2 (l1 ++ (p, .lst us) :: l2) H2 → Dts K F2 us (ys.map en) → nx σ H2) : tDrop (tBM K "list" rInsert to (tCons ti (tCons te tNil))) ⟨nx, rt, bk, ct⟩ σ H := by
  unfold insM at hm; split at hm
  · rename_i hl
    cases hm
    refine hi F H .rfl s _ ⟨.inl ⟨rfl, _, .inl (.inl s.getAt)⟩, h1 F H .rfl s _ fun v F2 H2 g2 s2 hv => h F2 H2 g2 s2 _ fun w F3 H3 g3 s3 hx => ⟨p, vs, k, w, rfl, by rw [hv.toInt], s3.getAt, by rw [hf.len, List.length_map]; exact szl hl.1, hl.2.1, hl.2.2, q _ F3 _ (g2.tr g3) s3.putAt ?_⟩⟩
    rw [List.map_append, List.map_append, List.map_take, List.map_drop]
    have hf3 := hf.gr (g2.tr g3)
    exact ((hf3.take _).app (.cons hx .nil)).app (hf3.drop _)
  · cases hm
end
end Bw

namespace Bw
open PySem L2
/-! a dict that is walked is locked the while -/
theorem nt_f {o : Obj} {kvs : List (Key × V)} : nTup (.frz o (.dK kvs)) := fun xs => ⟨fun z => (nomatch z), fun _ z => by cases z⟩
theorem Sta.lockAt {F : Hp} {l1 l2 : Cs} {H : Hp} {p : Addr} {o o' : HO} (s : Sta F (l1 ++ (p, o) :: l2) H) : Sta (upd F p o') (l1 ++ l2) (upd H p o') := (s.putAt (o' := o')).frozeAt
theorem Sta.unlockAt {F F2 : Hp} {l1 l2 : Cs} {H2 : Hp} {p : Addr} {o o' : HO} (g : Gr (upd F p o') F2) (s : Sta F2 (l1 ++ l2) H2) : Sta (cut F2 p) (l1 ++ (p, o) :: l2) (upd H2 p o) := (Sta.lent g s).putAt
section
variable {K : PySem.W.Frag} {σ : St} {F : Hp} {cs cs1 : Cs} {te : TE} {d : PyData}
theorem c_lock {l1 l2 m1 m2 : Cs} {p : Addr} {kvs : List (Key × V)} {ds : List PyData} (hn : noLs ds = true) (h : ∀ od F1, Gr F F1 → F1 p = none → EvC K te σ (upd F1 p (.frz od (.dK kvs))) (l1 ++ l2) ds (m1 ++ m2)) :
    EvC K (tLockE te) σ F (l1 ++ (p, .dK kvs) :: l2) ds (m1 ++ (p, .dK kvs) :: m2) := fun F1 H1 g1 s Q q => by
  refine ⟨p, .dK kvs, s.getAt, True.intro, fun od => ?_⟩
  refine h od F1 g1 s.freeAt (upd F1 p (.frz od (.dK kvs))) _ .rfl s.lockAt _ fun a vs F2 H2 g2 s2 h2 => ?_
  refine ⟨s2.fr _ _ (g2 p _ upd_same), ?_⟩
  exact q a vs (cut F2 p) _ (gr_cut s.freeAt g2) (Sta.unlockAt (l1 := (a, .lst vs) :: m1) g2 s2) (h2.cutO (g2 p _ upd_same) nt_f hn)
theorem src_items {κ ν : Type} {p : Addr} {od : Obj} {xs : List (κ × ν)} {kf : κ → Key} {vf : ν → V} {ek : κ → PyData} {ev : ν → PyData} (hk : ∀ F k, Dt K F (kV (kf k)) (ek k)) (hv : ∀ F x, Dt K F (vf x) (ev x)) (h : F p = some (.frz od (.dK (kvE kf vf xs)))) : Src K (Iti p od (kvE kf vf xs)) F (xs.map (eT2 ek ev)) := fun F1 c1 H1 g s => by
  have hH : H1 p = some (.frz od (.dK (kvE kf vf xs))) := s.fr _ _ (g _ _ h)
  have w := walk_items (d := p) (o := od) (kvs := kvE kf vf xs)
  have len : (kvE kf vf xs).length = xs.length := List.length_map ..
  refine ⟨fun i hi => w.goes i H1 (by rw [len]; simpa using hi) hH, ?_, fun i v H2 d e y => ?_⟩
  · have := w.stops H1 hH
    rw [len] at this
    rw [List.length_map]; exact this
  · rw [List.getElem?_map] at e
    cases ex : xs[i]? with
    | none => rw [ex] at e; cases e
    | some kv =>
      rw [ex] at e
      cases e
      have hi := (List.getElem?_eq_some_iff.mp ex).1
      obtain ⟨T, x, z, rfl, nT, rfl, hx, hz⟩ := w.yields i H1 v H2 (by rw [len]; exact hi) hH y
      have ek : (kvE kf vf xs)[i]? = some (kf kv.1, vf kv.2) := by unfold kvE; rw [List.getElem?_map, ex]; rfl
      dsimp only at hx hz
      rw [ek] at hx hz
      cases hx
      cases hz
      have gg := Gr.new (o := .tup [kV (kf kv.1), vf kv.2]) (s.fr.back nT)
      exact ⟨_, gg, s.lay nT, .tup (.inl (.inl upd_same)) (.cons (hk _ _) (.cons (hv _ _) .nil))⟩
theorem i_items {κ ν : Type} {p : Addr} {od : Obj} {xs : List (κ × ν)} {kf : κ → Key} {vf : ν → V} {ek : κ → PyData} {ev : ν → PyData} (hk : ∀ F k, Dt K F (kV (kf k)) (ek k)) (hv : ∀ F x, Dt K F (vf x) (ev x)) (hi : VP te σ F cs (.ref p)) (h : F p = some (.frz od (.dK (kvE kf vf xs)))) : EvI K (iItems te) σ F cs (xs.map (eT2 ek ev)) cs := fun F1 H1 g1 s R q =>
  hi F1 H1 g1 s _ ⟨p, od, _, rfl, s.fr _ _ (g1 _ _ h), q _ F1 H1 .rfl s (src_items hk hv (g1 _ _ h))⟩
end
end Bw

namespace Bw
open PySem L2
section
variable {K : PySem.W.Frag} {σ : St} {F : Hp} {cs cs1 cs2 : Cs} {te : TE} {d : PyData}
/-! comprehensions whose tests and elements change cells -/
theorem c_lcT {S α β : Type} {wi : TI} {g : TG} {tt : TT} {vs : List Nat} {xs : List α} {en : α → PyData} {em : β → PyData} {f : S → α → Option (S × Option β)} {ys : List β} {s0 s1 : S} (cc : S → Cs)
    (hi : EvI K wi σ F cs (xs.map en) (cc s0)) (hm : lcSC f s0 xs = some (s1, ys))
    (turn : ∀ x z z' o v F1 p us, Gr F F1 → Dt K F1 v (en x) → f z x = some (z', o) → ∃ (σ2 : St) (z1 : S), (∀ H (Q : St → Hp → Prop), Sta F1 ((p, .lst us) :: cc z) H → Q σ2 H → g v (wipe σ vs) H Q) ∧ wipe σ2 vs = wipe σ vs ∧
      EvT tt σ2 F1 ((p, .lst us) :: cc z) o.isSome ((p, .lst us) :: cc z1) ∧ (o = none → z' = z1) ∧ ∀ y, o = some y → EvD K te σ2 F1 ((p, .lst us) :: cc z1) (em y) ((p, .lst us) :: cc z')) :
    EvC K (tLc wi g tt te vs) σ F cs (ys.map em) (cc s1) := fun F1 H1 g1 s Q q => by
  unfold lcSC at hm
  split at hm
  case isFalse => cases hm
  rename_i hl
  refine hi F1 H1 g1 s _ fun J F2 H2 g2 s2 hs => ?_
  intro p hp
  have s3 : Sta F2 ((p, .lst []) :: cc s0) (upd H2 p (.lst [])) := s2.cell hp
  refine ⟨fun i m H4 => m = xs.length - i ∧ i ≤ xs.length ∧ ∃ us done rest z F4, us.length ≤ i ∧ Gr F2 F4 ∧ Sta F4 ((p, .lst us) :: cc z) H4 ∧ Dts K F4 us (done.map em) ∧ lcS f z (xs.drop i) = some (s1, rest) ∧ done ++ rest = ys,
    ⟨xs.length, by simp, Nat.zero_le _, [], [], ys, s0, F2, Nat.le_refl _, .rfl, s3, .nil, by simpa using hm, rfl⟩, ?_⟩
  rintro i m H4 ⟨rfl, hi, us, done, rest, z, F4, hu, g4, s4, hd, hr, he⟩
  obtain ⟨hgo, hstop, hy⟩ := hs F4 _ H4 g4 s4
  by_cases hlt : i < xs.length
  · rw [List.drop_eq_getElem_cons hlt] at hr
    obtain ⟨⟨z', o⟩, ho, hr⟩ := bnd (show (f z xs[i]).bind _ = some (s1, rest) from hr)
    obtain ⟨⟨s1', zs⟩, hz, hr⟩ := bnd hr
    dsimp only at hz hr
    refine .inr ⟨hgo i (by simpa using hlt), fun H' => i + 1 ≤ xs.length ∧ ∃ us done rest z F4, us.length ≤ i + 1 ∧ Gr F2 F4 ∧ Sta F4 ((p, .lst us) :: cc z) H' ∧ Dts K F4 us (done.map em) ∧ lcS f z (xs.drop (i + 1)) = some (s1, rest) ∧ done ++ rest = ys, fun H' h' => ⟨xs.length - (i + 1), by omega, rfl, h'⟩, fun x H' y => ?_⟩
    obtain ⟨F5, g5, s5, d5⟩ := hy i x H' (en xs[i]) (by rw [List.getElem?_map, List.getElem?_eq_getElem hlt]; rfl) y
    obtain ⟨σ2, z1, h1, h2, h3, hn, h4⟩ := turn xs[i] z z' o x F5 p us (g1.tr (g2.tr (g4.tr g5))) d5 ho
    refine h1 H' _ s5 ⟨h2, h3 F5 H' .rfl s5 _ fun F6 H6 g6 s6 => ?_⟩
    cases o with
    | none =>
      cases hr
      cases hn rfl
      exact ⟨hlt, us, done, zs, z', F6, Nat.le_succ_of_le hu, g4.tr (g5.tr g6), s6, hd.gr (g5.tr g6), hz, he⟩
    | some y1 =>
      cases hr
      refine (h4 y1 rfl) F6 H6 g6 s6 _ fun v F7 H7 g7 s7 hv => ⟨us, s7.at List.mem_cons_self, szl (by omega), hlt, us ++ [v], done ++ [y1], zs, z', F7, by rw [List.length_append]; exact Nat.succ_le_succ hu, g4.tr (g5.tr (g6.tr g7)), s7.put, ?_, hz, ?_⟩
      · rw [List.map_append]
        exact (hd.gr (g5.tr (g6.tr g7))).app (.cons hv .nil)
      · rw [List.append_assoc]; exact he
  · have e : i = xs.length := by omega
    subst e
    rw [List.drop_length] at hr
    cases hr
    rw [List.append_nil] at he
    subst he
    exact .inl ⟨by simpa using hstop, q p us F4 H4 (g2.tr g4) s4 hd⟩
/-! tests that may raise -/
def EvTX (K : PySem.W.Frag) (tt : TT) (W : WX) (σ : St) (F : Hp) (cs : Cs) (r : Rs Bool) (cs' : Cs) : Prop :=
  ∀ F1 H1, Gr F F1 → Sta F1 cs H1 → ∀ Q : Bool → Hp → Prop, (∀ b, r = .ok b → ∀ F2 H2, Gr F1 F2 → Sta F2 cs' H2 → Q b H2) → (∀ c, r = .ex c → ∀ d F2 H2, Gr F1 F2 → Sta F2 cs' H2 → Xd K F2 c d → W (.ref (He.ga K c.1)) d σ H2) → tt σ H1 Q
def andXM (a : Rs Bool) (b : Unit → Option (Rs Bool)) : Option (Rs Bool) := match a with
  | .ok true => b ()
  | .ok false => some (.ok false)
  | .ex c => some (.ex c)
def orXM (a : Rs Bool) (b : Unit → Option (Rs Bool)) : Option (Rs Bool) := match a with
  | .ok false => b ()
  | .ok true => some (.ok true)
  | .ex c => some (.ex c)
variable {W : WX} {t u : TT}
theorem tx_of {b : Bool} (h : EvT t σ F cs b cs1) : EvTX K t W σ F cs (.ok b) cs1 := fun F1 H1 g1 s Q q _ => h F1 H1 g1 s _ fun F2 H2 g2 s2 => q b rfl F2 H2 g2 s2
theorem tx_and {a r : Rs Bool} {b : Unit → Option (Rs Bool)} (h1 : EvTX K t W σ F cs a cs1) (hm : andXM a b = some r) (h2 : ∀ r', b () = some r' → EvTX K u W σ F cs1 r' cs1) : EvTX K (tAnd t u) W σ F cs r cs1 := fun F1 H1 g1 s Q q qx =>
  h1 F1 H1 g1 s _ (fun b' hb F2 H2 g2 s2 => by
    subst hb
    cases b' with
    | true => exact (h2 r hm) F2 H2 (g1.tr g2) s2 Q (fun b e F3 H3 g3 s3 => q b e F3 H3 (g2.tr g3) s3) fun c e d F3 H3 g3 s3 xd => qx c e d F3 H3 (g2.tr g3) s3 xd
    | false =>
      cases (show some (Rs.ok false) = some r from hm)
      exact q false rfl F2 H2 g2 s2) fun c hc d F2 H2 g2 s2 xd => by
    subst hc
    cases (show some (Rs.ex c) = some r from hm)
    exact qx c rfl d F2 H2 g2 s2 xd
theorem tx_or {a r : Rs Bool} {b : Unit → Option (Rs Bool)} (h1 : EvTX K t W σ F cs a cs1) (hm : orXM a b = some r) (h2 : ∀ r', b () = some r' → EvTX K u W σ F cs1 r' cs1) : EvTX K (tOr t u) W σ F cs r cs1 := fun F1 H1 g1 s Q q qx =>
  h1 F1 H1 g1 s _ (fun b' hb F2 H2 g2 s2 => by
    subst hb
    cases b' with
    | false => exact (h2 r hm) F2 H2 (g1.tr g2) s2 Q (fun b e F3 H3 g3 s3 => q b e F3 H3 (g2.tr g3) s3) fun c e d F3 H3 g3 s3 xd => qx c e d F3 H3 (g2.tr g3) s3 xd
    | true =>
      cases (show some (Rs.ok true) = some r from hm)
      exact q true rfl F2 H2 g2 s2) fun c hc d F2 H2 g2 s2 xd => by
    subst hc
    cases (show some (Rs.ex c) = some r from hm)
    exact qx c rfl d F2 H2 g2 s2 xd
theorem tx_v {r : Rs Bool} (h : EvX K te W σ F cs (r.map PyData.bool) cs1) : EvTX K (tB te) W σ F cs r cs1 := fun F1 H1 g1 s Q q qx =>
  h F1 H1 g1 s _ (fun d hd v F2 H2 g2 s2 hv => by
    cases r with
    | ok b => cases hd; exact ⟨b, hv.toBl, q b rfl F2 H2 g2 s2⟩
    | ex c => cases hd) fun c hc d F2 H2 g2 s2 xd => by
    cases r with
    | ok b => cases hc
    | ex c' => cases hc; exact qx c rfl d F2 H2 g2 s2 xd
theorem tx_test {r : Rs Bool} (h : EvX K te W σ F cs (r.map PyData.bool) cs1) : EvTX K (tTest te) W σ F cs r cs1 := tx_v h
theorem x_isN {α : Type} {r : Rs α} (h : EvX K te W σ F cs (r.map fun _ => PyData.none) cs1) : EvX K (tOp rIsN te (tC .non)) W σ F cs ((r.map fun _ => true).map PyData.bool) cs1 := fun F1 H1 g1 s Q q qx =>
  h F1 H1 g1 s _ (fun d hd v F2 H2 g2 s2 hv => by
    cases r with
    | ok b =>
      cases hd
      cases hv.toNon
      exact ⟨rfl, q _ rfl _ F2 H2 g2 s2 (.bl _)⟩
    | ex c => cases hd) fun c hc d F2 H2 g2 s2 xd => by
    cases r with
    | ok b => cases hc
    | ex c' => cases hc; exact qx c rfl d F2 H2 g2 s2 xd
theorem x_isi {α : Type} {e : α → PyData} {r : Rs α} {c : String} (hc : c ∈ isiK) (h : EvX K te W σ F cs (r.map e) cs1) : EvX K (tCB (rIsi K) (tCons te (tCons (tC (.ty c)) tNil))) W σ F cs ((r.map fun y => isiD c (e y)).map PyData.bool) cs1 := fun F1 H1 g1 s Q q qx =>
  h F1 H1 g1 s _ (fun d hd v F2 H2 g2 s2 hv => by
    cases r with
    | ok b =>
      cases hd
      exact ⟨v, .ty c, .type (kindD (e b)), .type c, isiD c (e b), rfl, .ty c, ty_of s2.fr hv, kit_isi hc (e b), q _ rfl _ F2 H2 g2 s2 (.bl _)⟩
    | ex c => cases hd) fun c hc d F2 H2 g2 s2 xd => by
    cases r with
    | ok b => cases hc
    | ex c' => cases hc; exact qx c rfl d F2 H2 g2 s2 xd
theorem s_ifX {c : TT} {r r' : Rs Bool} {t u : TS} {H : Hp} {nx bk ct : St → Hp → Prop} {rt : VK} (s : Sta F cs H) (h : EvTX K c W σ F cs r cs1) (e : r = r') (qt : r' = .ok true → ∀ F2 H2, Gr F F2 → Sta F2 cs1 H2 → t ⟨nx, rt, bk, ct⟩ σ H2) (qf : r' = .ok false → ∀ F2 H2, Gr F F2 → Sta F2 cs1 H2 → u ⟨nx, rt, bk, ct⟩ σ H2)
    (qx : ∀ c, r' = .ex c → ∀ d F2 H2, Gr F F2 → Sta F2 cs1 H2 → Xd K F2 c d → W (.ref (He.ga K c.1)) d σ H2) : tIfS c t u ⟨nx, rt, bk, ct⟩ σ H := by
  subst e
  exact h F H .rfl s _ (fun b hb F2 H2 g2 s2 => by
    cases b with
    | true => exact qt hb F2 H2 g2 s2
    | false => exact qf hb F2 H2 g2 s2) qx
end
end Bw
namespace Bw
open PySem L2
/-! in range(n) -/
abbrev rRange1 : List V → Hp → VK → Prop := fun vs H Q => ∃ j, vs = [V.int j] ∧ ∀ p, H p = none → Q (.ref p) (upd H p (.rng 0 j))
theorem cr_range1' {X : Cx} : CallR X (.type "range") rRange1 := by
  intro pins s σ H vs us Q I r h
  obtain ⟨j, rfl, q⟩ := h
  obtain ⟨u1, rfl, rj⟩ := vals1 r
  obtain ⟨u, rfl⟩ := rj
  refine call_range_1 ⟨.ref s.heap.objs.size, upd H s.heap.objs.size (.rng 0 j), I.laid (t' := s.toks + 1 + 1) (fun b o e => Heap.get?_push_of_some _ e) (Nat.le_refl _) ?_, rfl, q _ (I.hok.fresh (Nat.le_refl _))⟩
  exact ⟨s.toks, u, s.toks + 1, Heap.get?_push_size _ rfl⟩
section
variable {K : PySem.W.Frag} {σ : St} {F : Hp} {cs cs1 cs2 : Cs} {ta : TE} {as : TA} {a c : Int}
theorem d_inRng1 (ha : EvD K ta σ F cs (.int a) cs1) (hb : EvDs K as σ F cs1 [.int c] cs2) : EvD K (tOp rInRng ta (tCB rRange1 as)) σ F cs (.bool (decide (0 ≤ a ∧ a < c))) cs2 := fun F1 H1 g1 s Q q =>
  ha F1 H1 g1 s _ fun v F2 H2 g2 s2 h2 => hb F2 H2 (g1.tr g2) s2 _ fun vs F3 H3 g3 s3 h3 => by
    cases h2.toInt
    obtain ⟨w, rfl, k1⟩ := h3.one; cases k1.toInt
    exact ⟨c, rfl, fun p hp => ⟨a, p, 0, c, rfl, rfl, upd_same, q _ _ _ ((g2.tr g3).tr (Gr.new (s3.fr.back hp))) (s3.lay hp) (.bl _)⟩⟩
theorem d_ninRng1 (ha : EvD K ta σ F cs (.int a) cs1) (hb : EvDs K as σ F cs1 [.int c] cs2) : EvD K (tOp rNinRng ta (tCB rRange1 as)) σ F cs (.bool (!decide (0 ≤ a ∧ a < c))) cs2 := fun F1 H1 g1 s Q q =>
  ha F1 H1 g1 s _ fun v F2 H2 g2 s2 h2 => hb F2 H2 (g1.tr g2) s2 _ fun vs F3 H3 g3 s3 h3 => by
    cases h2.toInt
    obtain ⟨w, rfl, k1⟩ := h3.one; cases k1.toInt
    exact ⟨c, rfl, fun p hp => ⟨a, p, 0, c, rfl, rfl, upd_same, q _ _ _ ((g2.tr g3).tr (Gr.new (s3.fr.back hp))) (s3.lay hp) (.bl _)⟩⟩
end
end Bw
namespace Bw
open PySem L2
section
variable {K : PySem.W.Frag} {σ : St} {F : Hp} {cs cs1 cs2 : Cs} {ta tb : TE}
theorem d_inTI {x : Int} {xs : List Int} (ha : EvD K ta σ F cs (.int x) cs1) (hb : EvD K tb σ F cs1 (.tuple (xs.map eI)) cs2) : EvD K (tOp (rIn K false) ta tb) σ F cs (.bool (inL x xs)) cs2 :=
  d_op ha hb fun _ y F2 H2 hx hy s _ Q q => by
    cases hx.toInt
    obtain ⟨p, vs, rfl, hl, hd⟩ := hy.toTup
    cases hd.ints
    refine ⟨p, _, rfl, .inr (gr_T s.fr hl), rfl, flatI xs, q _ F2 H2 .rfl s ?_⟩
    rw [inV_int]; exact .bl _
theorem d_ninTI {x : Int} {xs : List Int} (ha : EvD K ta σ F cs (.int x) cs1) (hb : EvD K tb σ F cs1 (.tuple (xs.map eI)) cs2) : EvD K (tOp (rIn K true) ta tb) σ F cs (.bool (!inL x xs)) cs2 :=
  d_op ha hb fun _ y F2 H2 hx hy s _ Q q => by
    cases hx.toInt
    obtain ⟨p, vs, rfl, hl, hd⟩ := hy.toTup
    cases hd.ints
    refine ⟨p, _, rfl, .inr (gr_T s.fr hl), rfl, flatI xs, q _ F2 H2 .rfl s ?_⟩
    rw [inV_int]; exact .bl _
theorem d_inTS {x : Str} {xs : List Str} (ha : EvD K ta σ F cs (.str x) cs1) (hb : EvD K tb σ F cs1 (.tuple (xs.map eS)) cs2) : EvD K (tOp (rIn K false) ta tb) σ F cs (.bool (inL x xs)) cs2 :=
  d_op ha hb fun _ y F2 H2 hx hy s _ Q q => by
    cases hx.toStr
    obtain ⟨p, vs, rfl, hl, hd⟩ := hy.toTup
    cases hd.strs
    refine ⟨p, _, rfl, .inr (gr_T s.fr hl), rfl, flatS xs, q _ F2 H2 .rfl s ?_⟩
    rw [inV_str]; exact .bl _
theorem d_ninTS {x : Str} {xs : List Str} (ha : EvD K ta σ F cs (.str x) cs1) (hb : EvD K tb σ F cs1 (.tuple (xs.map eS)) cs2) : EvD K (tOp (rIn K true) ta tb) σ F cs (.bool (!inL x xs)) cs2 :=
  d_op ha hb fun _ y F2 H2 hx hy s _ Q q => by
    cases hx.toStr
    obtain ⟨p, vs, rfl, hl, hd⟩ := hy.toTup
    cases hd.strs
    refine ⟨p, _, rfl, .inr (gr_T s.fr hl), rfl, flatS xs, q _ F2 H2 .rfl s ?_⟩
    rw [inV_str]; exact .bl _
end
end Bw
namespace Bw
open PySem L2
/-! list(range(n)) -/
def lrgM (a b : Int) : Option (List Int) := (rngM a b).bind fun xs => if xs.length ≤ 100000 then some xs else none
theorem c_listRg1 {K : PySem.W.Frag} {σ : St} {F : Hp} {cs cs1 : Cs} {ta : TE} {n : Int} {xs : List Int} (h : EvD K ta σ F cs (.int n) cs1) (hm : lrgM 0 n = some xs) : EvC K (tLstRg (tRg1 ta)) σ F cs (xs.map eI) cs1 := fun F1 H1 g1 s Q q => by
  obtain ⟨ys, h1, h2⟩ := bnd hm
  obtain ⟨hr, rfl⟩ := rngM_some h1
  split at h2
  case isFalse => cases h2
  rename_i hl
  cases h2
  refine h F1 H1 g1 s _ fun v F2 H2 g2 s2 hv => ?_
  cases hv.toInt
  have e : rgV 0 n = (rngL 0 n).map V.int := by unfold rgV rngL; rw [List.map_map]; rfl
  refine ⟨n, rfl, ⟨hr.1, hr.2.1, hr.2.2.1, hr.2.2.2, ?_⟩, fun p hp => ?_⟩
  · unfold rngL at hl; rw [List.length_map, List.length_range] at hl; omega
  · rw [e]
    exact q p _ F2 _ g2 (s2.cell hp) (Dts.of_ints _)
end Bw

namespace Bw
open PySem L2
def top (i : Nat) : Stmt := PySem.Challenge.pw_baycart_k04_rooms_and_bounds.main.body.getD i (.Pass ⟨0, 0, 0, 0⟩)
abbrev xcl : List Str := ["NoStore"]
abbrev xts : List Str := ["NoAisle", "NoBay", "NoBox", "NoFork", "NoOrders", "NoPaper", "NoPlan", "NoRoom", "NoRow", "NoStore", "NoText", "NoWants", "TooMany", "Unknown"]
abbrev s_NoStore_i : Stmt := (clsB (top 13)).getD 0 (.Pass ⟨0, 0, 0, 0⟩)
theorem sc_NoStore_i : FnScope ["self", "part"] ["self", "part"] (defScope s_NoStore_i) := ⟨rfl, rfl, rfl, by decide +kernel, rfl, by decide +kernel, by decide +kernel⟩
theorem ok_NoStore_i {P : Program} {w : World} {K : PySem.W.Frag} {mg : Str → Option Value} {base : Heap} (hF : ∃ fd, FunD K "__init__" "NoStore.__init__" (defArgs s_NoStore_i) (defBody s_NoStore_i) (defScope s_NoStore_i) [] [] (He.ma K (He.ga K "NoStore") "__init__") fd)
    (g : mg "NoStore" = some (.ref (He.ga K "NoStore"))) (gc : mg "CartError" = some (.ref (He.ga K "CartError"))) (ce : ceB K = true) (T : OexF K (He.ga K "NoStore") "part") : OkI P w K mg base "NoStore" "part" := by
  obtain ⟨fd, F⟩ := hF
  refine ⟨⟨fd, F.ok sc_NoStore_i (fun vs H Q E h => spI_len h) (fun cdv A outer s H vs Q E hr h => ⟨tInit K "part" "no store: ", PSs.nox ?_, w_init T (by decide) h⟩), F.bindsN fun _ _ _ _ _ _ us hl => match us, hl with | [_, _], _ => rfl⟩, g, T⟩
  exact (pss_cons (ps_expr (pe_ceinit (by rfl) gc ce (pa_cons (pv 0) (pa_cons (pe_joined (PJ.cons pe_str (PJ.cons (pe_fmt (pv 1)) PJ.nil))) pa_nil)))) (pss_one (ps_ost (pv 0) (pv 1))))
abbrev s_draws : Stmt := (top 40)
def f_draws_b31 (k_2 : Int) (great_14 : Bool) : (Int × Int × (List Int)) → (Int × Int) → Option (Int × Int × (List Int)) := fun (number_34, mixed_35, found_36) (turn_37, size_38) => (if great_14 = true then (((modM number_34 size_38)).bind fun x68 => ((appM found_36 x68)).bind fun found_70 => (((fdivM number_34 size_38)).bind fun x76 => some (x76, mixed_35, found_70))) else (((mulM mixed_35 mixed_35)).bind fun x86 => letM (((x86 + ((104729 : Int) * (k_2 + turn_37))) + (11 : Int)) % (2147483587 : Int)) fun mixed_92 => (((modM (mixed_92 / (16 : Int)) size_38)).bind fun x94 => ((appM found_36 x94)).bind fun found_96 => some (number_34, mixed_92, found_96))))
def f_draws : (Int × Int × (List Int)) → Option (List Int) := fun (cell_here_1, k_2, sizes_3) => (letM (absI cell_here_1) fun number_8 => (letM (decide ((1000000000000000000 : Int) ≤ number_8)) fun great_14 => (letM (((((number_8 % (1000000007 : Int)) + ((7919 : Int) * k_2)) + (1 : Int)) * (48271 : Int)) % (2147483629 : Int)) fun mixed_20 => (letM ([] : (List Int)) fun found_26 => ((enumM sizes_3).foldlM (f_draws_b31 k_2 great_14) (number_8, mixed_20, found_26)).bind fun (number_108, mixed_109, found_110) => some found_110))))
abbrev A_draws : (Int × Int × (List Int)) → List Ar := fun x => [.d (eI x.1), .d (eI x.2.1), .d ((eL eI) x.2.2)]
abbrev B_draws : (List Int) → List PyData := fun y => y.map eI
abbrev C_draws : (List Int) → List (List V) := fun y => []
abbrev N_draws : List Str := ["_law_cell_here", "_law_k", "_law_sizes", "_law_number", "_law_great", "_law_mixed", "_law_found", "_law_turn", "_law_size"]
abbrev sp_draws (K : PySem.W.Frag) : Sp := spF K A_draws B_draws C_draws f_draws
def t_draws (K : PySem.W.Frag) : TS := (tSeq (tAsg (tCB rAbs (tCons (tVar 0) tNil)) (gName 3)) (tSeq (tAsg (tOp (rI0 fun i j => .bl (decide (j ≤ i))) (tVar 3) (tOp (rI CPow fun i j => .int (i ^ j.toNat)) (tC (.int 10)) (tC (.int 18)))) (gName 4)) (tSeq (tAsg (tOp (rI (fun _ j => 0 < j) fun i j => .int (i % j)) (tOp (rI CMul fun i j => .int (i * j)) (tOp (rI0 fun i j => .int (i + j)) (tOp (rI0 fun i j => .int (i + j)) (tOp (rI (fun _ j => 0 < j) fun i j => .int (i % j)) (tVar 3) (tC (.int 1000000007))) (tOp (rI CMul fun i j => .int (i * j)) (tC (.int 7919)) (tVar 1))) (tC (.int 1))) (tC (.int 48271))) (tC (.int 2147483629))) (gName 5)) (tSeq (tAsg (tLst tNil) (gName 6)) (tSeq (tFor (iEnum K (tCons (tVar 2) tNil)) (gTup K 2 (gCons (gName 7) (gCons (gName 8) gNil))) (tIfS (tB (tVar 4)) (tSeq (tDrop (tBM K "list" rAppend (tVar 6) (tCons (tOp (rI (fun _ j => 0 < j) fun i j => .int (i % j)) (tVar 3) (tVar 8)) tNil))) (tAsg (tOp (rI CDiv fun i j => .int (i / j)) (tVar 3) (tVar 8)) (gName 3))) (tSeq (tAsg (tOp (rI (fun _ j => 0 < j) fun i j => .int (i % j)) (tOp (rI0 fun i j => .int (i + j)) (tOp (rI0 fun i j => .int (i + j)) (tOp (rI CMul fun i j => .int (i * j)) (tVar 5) (tVar 5)) (tOp (rI CMul fun i j => .int (i * j)) (tC (.int 104729)) (tOp (rI0 fun i j => .int (i + j)) (tVar 1) (tVar 7)))) (tC (.int 11))) (tC (.int 2147483587))) (gName 5)) (tDrop (tBM K "list" rAppend (tVar 6) (tCons (tOp (rI (fun _ j => 0 < j) fun i j => .int (i % j)) (tOp (rI CDiv fun i j => .int (i / j)) (tVar 5) (tC (.int 16))) (tVar 8)) tNil)))))) (tRet (tVar 6)))))))
theorem w_draws {K : PySem.W.Frag} (vs : List V) (H : Hp) (Q : VK) (E : XK) (h : sp_draws K vs H Q E) : t_draws K { nx := fun _ H' => Q .non H', rt := Q } (start N_draws vs) H := by
  obtain ⟨F0, cc, cs, ⟨cell_here_1, k_2, sizes_3⟩, y, h0, hS0, m, q⟩ := h
  obtain ⟨a0, _, rfl, ha0, h1⟩ := ArgR.hd h0
  obtain ⟨a1, _, rfl, ha1, h2⟩ := ArgR.hd h1
  obtain ⟨a2, _, rfl, ha2, h3⟩ := ArgR.hd h2
  obtain ⟨rfl, rfl⟩ := ArgR.no h3
  obtain rfl := Dt.toInt ha0
  obtain rfl := Dt.toInt ha1
  unfold f_draws at m
  try dsimp only at m
  unfold t_draws
  refine go (σ' := [some (.int cell_here_1), some (.int k_2), some a2, none, none, none, none, none, none]) rfl ?_
  obtain ⟨number_8, k9, m⟩ := lt m
  refine s_setV (K := K) (d := eI number_8) (i := 3) (σ' := [some (.int cell_here_1), some (.int k_2), some a2, some (.int number_8), none, none, none, none, none]) (fun _ _ h => Dt.toInt h) hS0 (d_is (d_abs (a_cons (d_var rfl (.int _)) a_nil)) (congrArg eI k9)) rfl (fun F4 H5 g6 hS7 => ?_)
  obtain ⟨great_14, k15, m⟩ := lt m
  refine s_setV (K := K) (d := eB great_14) (i := 4) (σ' := [some (.int cell_here_1), some (.int k_2), some a2, some (.int number_8), some (.bl great_14), none, none, none, none]) (fun _ _ h => Dt.toBl h) hS7 (d_is (d_ge (d_var rfl (.int _)) (d_is (e := PyData.int 1000000000000000000) (d_powC d_int d_int ⟨by decide, by decide, by decide⟩) (congrArg PyData.int (by decide)))) (congrArg eB k15)) rfl (fun F10 H11 g12 hS13 => ?_)
  obtain ⟨mixed_20, k21, m⟩ := lt m
  refine s_setV (K := K) (d := eI mixed_20) (i := 5) (σ' := [some (.int cell_here_1), some (.int k_2), some a2, some (.int number_8), some (.bl great_14), some (.int mixed_20), none, none, none]) (fun _ _ h => Dt.toInt h) hS13 (d_is (d_modC (d_mulC (d_add (d_add (d_modC (d_var rfl (.int _)) d_int (by decide)) (d_mulC d_int (d_var rfl (.int _)) (.inl ⟨by decide, by decide⟩))) d_int) d_int (.inr ⟨by decide, by decide⟩)) d_int (by decide)) (congrArg eI k21)) rfl (fun F16 H17 g18 hS19 => ?_)
  obtain ⟨found_26, k27, m⟩ := lt m
  refine s_setC (K := K) (ds := found_26.map eI) (i := 6) (σ' := fun p28 => [some (.int cell_here_1), some (.int k_2), some a2, some (.int number_8), some (.bl great_14), some (.int mixed_20), some (.ref p28), none, none]) hS19 (c_is (c_lst a_nil (Nat.le_of_ble_eq_true rfl)) (congrArg (List.map eI) k27)) (fun _ => rfl) (fun p28 us29 F22 H23 g24 hS25 hu30 => ?_)
  obtain rfl := Dts.ints hu30
  obtain ⟨⟨number_108, mixed_109, found_110⟩, k33, m⟩ := bnd m
  try dsimp only at m
  refine s_for (K := K) (xs := (enumM sizes_3)) (en := (eT2 eI eI)) (body := (f_draws_b31 k_2 great_14)) (s0 := (number_8, mixed_20, found_26)) (r := (number_108, mixed_109, found_110)) (fun (a : Int × Int × (List Int)) F σ c => ∃ (j7 : Option V) (j8 : Option V), σ = [some (.int cell_here_1), some (.int k_2), some a2, some (.int a.1), some (.bl great_14), some (.int a.2.1), some (.ref p28), j7, j8] ∧ (p28, .lst (a.2.2.map V.int)) :: cs = c) hS25 (i_enum (en := eI) (a_cons (d_var rfl (Dt.gr (Gr.tr g6 (Gr.tr g12 (Gr.tr g18 g24))) ha2)) a_nil)) (fun _ _ => ⟨_, _, rfl, rfl⟩) k33 ?_ ?_
  · rintro ⟨turn_37, size_38⟩ ⟨number_34, mixed_35, found_36⟩ b47 F39 F40 σ53 c54 H41 v46 N48 g42 ⟨u56, u57, rfl, rfl⟩ g43 hS44 hv45 m55 hN50
    obtain ⟨p58, w60, w61, rfl, hT59, hw62, hw63⟩ := u2 hv45
    obtain rfl := Dt.toInt hw62
    obtain rfl := Dt.toInt hw63
    refine tg (σ' := [some (.int cell_here_1), some (.int k_2), some a2, some (.int number_34), some (.bl great_14), some (.int mixed_35), some (.ref p28), some (.int turn_37), some (.int size_38)]) (fun Q hq => ⟨p58, [_, _], rfl, gr_T hS44.fr hT59, rfl, _, _, rfl, _, _, rfl, rfl, hq⟩) ?_
    unfold f_draws_b31 at m55
    try dsimp only at m55
    refine s_if (b := great_14) hS44 (t_B (K := K) (d_var rfl (.bl _))) (fun hc F64 H65 g66 hS67 => ?_) (fun hc F82 H83 g84 hS85 => ?_)
    · rw [if_pos hc] at m55
      obtain ⟨x68, k69, m55⟩ := bnd m55
      obtain ⟨found_70, k71, m55⟩ := bnd m55
      refine s_appFV (K := K) (k1 := []) (x := x68) (l1 := []) (p := p28) (vf := V.int) (en := eI) (fun _ _ _ h => Dt.toInt h) hS67 (vp_var rfl) (d_mod (d_var rfl (.int _)) (d_var rfl (.int _)) k69) k71 (fun F72 H73 g74 hS75 => ?_)
      obtain ⟨x76, k77, m55⟩ := bnd m55
      refine s_setV (K := K) (d := eI x76) (i := 3) (σ' := [some (.int cell_here_1), some (.int k_2), some a2, some (.int x76), some (.bl great_14), some (.int mixed_35), some (.ref p28), some (.int turn_37), some (.int size_38)]) (fun _ _ h => Dt.toInt h) hS75 (d_fdiv (d_var rfl (.int _)) (d_var rfl (.int _)) k77) rfl (fun F78 H79 g80 hS81 => ?_)
      obtain rfl := sm m55
      exact hN50 _ _ _ _ (Gr.tr g66 (Gr.tr g74 g80)) hS81 ⟨_, _, rfl, rfl⟩
    · rw [if_neg (bf hc)] at m55
      obtain ⟨x86, k87, m55⟩ := bnd m55
      obtain ⟨mixed_92, k93, m55⟩ := lt m55
      refine s_setV (K := K) (d := eI mixed_92) (i := 5) (σ' := [some (.int cell_here_1), some (.int k_2), some a2, some (.int number_34), some (.bl great_14), some (.int mixed_92), some (.ref p28), some (.int turn_37), some (.int size_38)]) (fun _ _ h => Dt.toInt h) hS85 (d_is (d_modC (d_add (d_add (d_mul (d_var rfl (.int _)) (d_var rfl (.int _)) k87) (d_mulC d_int (d_add (d_var rfl (.int _)) (d_var rfl (.int _))) (.inl ⟨by decide, by decide⟩))) d_int) d_int (by decide)) (congrArg eI k93)) rfl (fun F88 H89 g90 hS91 => ?_)
      obtain ⟨x94, k95, m55⟩ := bnd m55
      obtain ⟨found_96, k97, m55⟩ := bnd m55
      refine s_appFV (K := K) (k1 := []) (x := x94) (l1 := []) (p := p28) (vf := V.int) (en := eI) (fun _ _ _ h => Dt.toInt h) hS91 (vp_var rfl) (d_mod (d_fdivC (d_var rfl (.int _)) d_int ⟨by decide, by decide⟩) (d_var rfl (.int _)) k95) k97 (fun F98 H99 g100 hS101 => ?_)
      obtain rfl := sm m55
      exact hN50 _ _ _ _ (Gr.tr g84 (Gr.tr g90 g100)) hS101 ⟨_, _, rfl, rfl⟩
  · rintro F102 σ107 c106 H103 g104 hS105 ⟨u111, u112, rfl, rfl⟩
    refine s_retV rfl ?_
    obtain rfl := sm m
    exact q _ _ _ _ (Gr.tr g6 (Gr.tr g12 (Gr.tr g18 (Gr.tr g24 g104)))) hS105 (Dts.of_ints _)
theorem sc_draws : FnScope N_draws ["_law_cell_here", "_law_k", "_law_sizes"] (defScope s_draws) := ⟨rfl, rfl, rfl, by decide +kernel, rfl, by decide +kernel, by decide +kernel⟩
theorem ok_draws {P : Program} {w : World} {K : PySem.W.Frag} {mg : Str → Option Value} {base : Heap} (hF : Df K mg "_law_draws" s_draws) (m_abs : mg "abs" = none) (m_enumerate : mg "enumerate" = none) : Ok P w K mg base 1 "_law_draws" ["_law_cell_here", "_law_k", "_law_sizes"] (sp_draws K) := by
  obtain ⟨⟨fd, F⟩, gm⟩ := hF
  refine ⟨⟨fd, F.ok sc_draws (fun vs H Q E h => ?_) (fun cdv A outer s H vs Q E hr h => ⟨t_draws K, PSs.nox ?_, w_draws vs H Q E h⟩), F.bindsN fun _ _ _ _ _ _ us hl => match us, hl with | [_, _, _], _ => rfl, lk_of F⟩, F.kp, gm⟩
  · obtain ⟨F0, cc, cs, x, y, h, _⟩ := h; exact ArgR.len h
  · exact (pss_cons (ps_set (i := 3) sc_draws.nd rfl (Or.inl rfl) (pe_callB cr_abs (by rfl) m_abs (by decide +kernel) (pa_cons (pv 0) pa_nil))) (pss_cons (ps_set (i := 4) sc_draws.nd rfl (Or.inl rfl) (pe_cmpR op_ge (pv 3) (pe_op op_pow pe_int pe_int) (nomark _))) (pss_cons (ps_set (i := 5) sc_draws.nd rfl (Or.inl rfl) (pe_op op_mod (pe_op op_mul (pe_op op_add (pe_op op_add (pe_op op_mod (pv 3) pe_int) (pe_op op_mul pe_int (pv 1))) pe_int) pe_int) pe_int)) (pss_cons (ps_set (i := 6) sc_draws.nd rfl (Or.inl rfl) (pe_lst pa_nil)) (pss_cons (ps_for PassesOwn.never rfl (pi_enum (by rfl) m_enumerate (pa_cons (pv 2) pa_nil)) (pg_tup rfl (pgs_cons (pg_name (i := 7) sc_draws.nd rfl (Or.inl rfl)) (pgs_cons (pg_name (i := 8) sc_draws.nd rfl (Or.inl rfl)) pgs_nil))) (pss_one (ps_if (pt_val (pv 4)) (pss_cons (ps_expr (pe_bm PySem.F.plainAttrs_list PySem.F.slot_list_append PySem.F.type_list_append mt_append (pv 6) (pa_cons (pe_op op_mod (pv 3) (pv 8)) pa_nil))) (pss_one (ps_set (i := 3) sc_draws.nd rfl (Or.inl rfl) (pe_op op_fdiv (pv 3) (pv 8))))) (pss_cons (ps_set (i := 5) sc_draws.nd rfl (Or.inl rfl) (pe_op op_mod (pe_op op_add (pe_op op_add (pe_op op_mul (pv 5) (pv 5)) (pe_op op_mul pe_int (pe_op op_add (pv 1) (pv 7)))) pe_int) pe_int)) (pss_one (ps_expr (pe_bm PySem.F.plainAttrs_list PySem.F.slot_list_append PySem.F.type_list_append mt_append (pv 6) (pa_cons (pe_op op_mod (pe_op op_fdiv (pv 5) pe_int) (pv 8)) pa_nil)))))))) (pss_one (ps_ret (pv 6))))))))
abbrev s_names : Stmt := (top 41)
def f_names_b53 (many_2 : Int) (x3 : (List Int)) (letters_15 : Str) (some_27 : (List Str)) : (List Str) → Int → Option (List Str) := fun found_56 k_57 => (((atI x3 (3 : Int))).bind fun x78 => ((ixS letters_15 ((x78 + k_57) % (26 : Int)))).bind fun x80 => ((ixS letters_15 (k_57 / (26 : Int)))).bind fun x82 => ((scatM x80 x82)).bind fun x84 => (((atI x3 (1 : Int))).bind fun x90 => ((srepM ("x" : Str) x90)).bind fun x92 => ((scatM x92 x84)).bind fun x94 => ((atI x3 (2 : Int))).bind fun x96 => ((atI x3 (1 : Int))).bind fun x98 => ((srepM ("q" : Str) (minI x96 ((6 : Int) - x98)))).bind fun x100 => ((scatM x94 x100)).bind fun x102 => (((repM ([x102] : (List Str)) many_2)).bind fun x108 => ((catM some_27 x108)).bind fun x110 => ((atI x110 k_57)).bind fun x112 => ((appM found_56 x112)).bind fun found_114 => some found_114)))
def f_names : (Int × Int) → Option (List Str) := fun (cell_here_1, many_2) => (((f_draws (cell_here_1, (5 : Int), ([(4 : Int), (4 : Int), (5 : Int), (26 : Int)] : (List Int))))).bind fun x3 => (letM ("abcdefghijklmnopqrstuvwxyz" : Str) fun letters_15 => (letM ([] : (List Str)) fun some_21 => (((atI x3 (0 : Int))).bind fun x25 => ((if (decide (x25 = (1 : Int))) = true then (letM ([("rooms" : Str), ("gaps" : Str), ("most" : Str), ("boxes" : Str), ("go" : Str), ("swap" : Str), ("box" : Str), ("room" : Str), ("swaps" : Str), ("a" : Str), ("b" : Str)] : (List Str)) fun some_139 => some some_139) else some some_21)).bind fun some_27 => (letM ([] : (List Str)) fun found_46 => (((rngM (0 : Int) many_2)).bind fun x51 => (x51.foldlM (f_names_b53 many_2 x3 letters_15 some_27) found_46).bind fun found_126 => some found_126))))))
abbrev A_names : (Int × Int) → List Ar := fun x => [.d (eI x.1), .d (eI x.2)]
abbrev B_names : (List Str) → List PyData := fun y => y.map eS
abbrev C_names : (List Str) → List (List V) := fun y => []
abbrev N_names : List Str := ["_law_cell_here", "_law_many", "_law_row", "_law_letters", "_law_some", "_law_found", "_law_k", "_law_middle", "_law_name"]
abbrev sp_names (K : PySem.W.Frag) : Sp := spF K A_names B_names C_names f_names
def t_names (K : PySem.W.Frag) : TS := (tSeq (tAsg (tCall (sp_draws K) [] E0 (tCons (tVar 0) (tCons (tC (.int 5)) (tCons (tLst (tCons (tC (.int 4)) (tCons (tC (.int 4)) (tCons (tC (.int 5)) (tCons (tC (.int 26)) tNil))))) tNil)))) (gName 2)) (tSeq (tAsg (tC (.str "abcdefghijklmnopqrstuvwxyz")) (gName 3)) (tSeq (tAsg (tLst tNil) (gName 4)) (tSeq (tIfS (tTest (tOp rEq (tOp (rIxL K) (tVar 2) (tC (.int 0))) (tC (.int 1)))) (tAsg (tLst (tCons (tC (.str "rooms")) (tCons (tC (.str "gaps")) (tCons (tC (.str "most")) (tCons (tC (.str "boxes")) (tCons (tC (.str "go")) (tCons (tC (.str "swap")) (tCons (tC (.str "box")) (tCons (tC (.str "room")) (tCons (tC (.str "swaps")) (tCons (tC (.str "a")) (tCons (tC (.str "b")) tNil)))))))))))) (gName 4)) tNext) (tSeq (tAsg (tLst tNil) (gName 5)) (tSeq (tFor (iRng1 (tCons (tVar 1) tNil)) (gName 6) (tSeq (tAsg (tOp rScat (tOp rIxS (tVar 3) (tOp (rI (fun _ j => 0 < j) fun i j => .int (i % j)) (tOp (rI0 fun i j => .int (i + j)) (tOp (rIxL K) (tVar 2) (tC (.int 3))) (tVar 6)) (tC (.int 26)))) (tOp rIxS (tVar 3) (tOp (rI CDiv fun i j => .int (i / j)) (tVar 6) (tC (.int 26))))) (gName 7)) (tSeq (tAsg (tOp rScat (tOp rScat (tOp rSrep (tC (.str "x")) (tOp (rIxL K) (tVar 2) (tC (.int 1)))) (tVar 7)) (tOp rSrep (tC (.str "q")) (tCB rMin2 (tCons (tOp (rIxL K) (tVar 2) (tC (.int 2))) (tCons (tOp (rI0 fun i j => .int (i - j)) (tC (.int 6)) (tOp (rIxL K) (tVar 2) (tC (.int 1)))) tNil))))) (gName 8)) (tDrop (tBM K "list" rAppend (tVar 5) (tCons (tOp (rIxL K) (tOp (rCatS K) (tVar 4) (tOp rRep (tLst (tCons (tVar 8) tNil)) (tVar 1))) (tVar 6)) tNil)))))) (tRet (tVar 5))))))))
theorem w_names {K : PySem.W.Frag} (vs : List V) (H : Hp) (Q : VK) (E : XK) (h : sp_names K vs H Q E) : t_names K { nx := fun _ H' => Q .non H', rt := Q } (start N_names vs) H := by
  obtain ⟨F0, cc, cs, ⟨cell_here_1, many_2⟩, y, h0, hS0, m, q⟩ := h
  obtain ⟨a0, _, rfl, ha0, h1⟩ := ArgR.hd h0
  obtain ⟨a1, _, rfl, ha1, h2⟩ := ArgR.hd h1
  obtain ⟨rfl, rfl⟩ := ArgR.no h2
  obtain rfl := Dt.toInt ha0
  obtain rfl := Dt.toInt ha1
  unfold f_names at m
  try dsimp only at m
  unfold t_names
  refine go (σ' := [some (.int cell_here_1), some (.int many_2), none, none, none, none, none, none, none]) rfl ?_
  obtain ⟨x3, k4, m⟩ := bnd m
  refine s_set (K := K) (d := (eL eI) x3) (i := 2) (σ' := fun v9 => [some (.int cell_here_1), some (.int many_2), some v9, none, none, none, none, none, none]) hS0 (EvC.dd (c_callX (A := A_draws) (B := B_draws) (C := C_draws) (x := (cell_here_1, (5 : Int), ([(4 : Int), (4 : Int), (5 : Int), (26 : Int)] : (List Int)))) (y := x3) (cs2 := (cs)) (cc := []) (cs' := (cs)) (r_d (d_var rfl (.int _)) (r_d d_int (r_d (d_lst (a_cons d_int (a_cons d_int (a_cons d_int (a_cons d_int a_nil)))) (Nat.le_of_ble_eq_true rfl)) r_nil))) sb_rfl k4 (fun _ => sb_rfl))) (fun _ => rfl) (fun v9 F5 H6 g7 hS8 hv10 => ?_)
  obtain ⟨letters_15, k16, m⟩ := lt m
  refine s_setV (K := K) (d := eS letters_15) (i := 3) (σ' := [some (.int cell_here_1), some (.int many_2), some v9, some (.str letters_15), none, none, none, none, none]) (fun _ _ h => Dt.toStr h) hS8 (d_is d_str (congrArg eS k16)) rfl (fun F11 H12 g13 hS14 => ?_)
  obtain ⟨some_21, k22, m⟩ := lt m
  refine s_set (K := K) (d := (eL eS) some_21) (i := 4) (σ' := fun v23 => [some (.int cell_here_1), some (.int many_2), some v9, some (.str letters_15), some v23, none, none, none, none]) hS14 (d_is (d_lst a_nil (Nat.le_of_ble_eq_true rfl)) (congrArg (eL eS) k22)) (fun _ => rfl) (fun v23 F17 H18 g19 hS20 hv24 => ?_)
  obtain ⟨x25, k26, m⟩ := bnd m
  obtain ⟨some_27, k29, m⟩ := bnd m
  refine s_ifJ (b := (decide (x25 = (1 : Int)))) (fun σ H => ∃ (F : Hp) (c : Cs), Gr F17 F ∧ Sta F c H ∧ ∃ (j4 : V) (j5 : Option V) (j6 : Option V) (j7 : Option V) (j8 : Option V), σ = [some (.int cell_here_1), some (.int many_2), some v9, some (.str letters_15), some j4, j5, j6, j7, j8] ∧ cs = c ∧ Dt K F j4 ((eL eS) some_27)) hS20 (t_test (K := K) (d_eqI (d_ix (e := eI) (d_var rfl (Dt.gr (Gr.tr g13 g19) hv10)) d_int k26) d_int)) ?_ (fun jn28 hc F131 H132 g133 hS134 => ?_) (fun jn28 hc F143 H144 g145 hS146 => ?_)
  · rintro σ35 H31 ⟨F30, c34, g32, hS33, v36, u37, u38, u39, u40, rfl, rfl, h41⟩
    obtain ⟨found_46, k47, m⟩ := lt m
    refine s_setC (K := K) (ds := found_46.map eS) (i := 5) (σ' := fun p48 => [some (.int cell_here_1), some (.int many_2), some v9, some (.str letters_15), some v36, some (.ref p48), u38, u39, u40]) hS33 (c_is (c_lst a_nil (Nat.le_of_ble_eq_true rfl)) (congrArg (List.map eS) k47)) (fun _ => rfl) (fun p48 us49 F42 H43 g44 hS45 hu50 => ?_)
    obtain rfl := Dts.strs hu50
    obtain ⟨x51, k52, m⟩ := bnd m
    obtain ⟨found_126, k55, m⟩ := bnd m
    refine s_for (K := K) (xs := x51) (en := eI) (body := (f_names_b53 many_2 x3 letters_15 some_27)) (s0 := found_46) (r := found_126) (fun (a : (List Str)) F σ c => ∃ (j6 : Option V) (j7 : Option V) (j8 : Option V), σ = [some (.int cell_here_1), some (.int many_2), some v9, some (.str letters_15), some v36, some (.ref p48), j6, j7, j8] ∧ (p48, .lst (a.map V.str)) :: cs = c) hS45 (i_rng1 (a_cons (d_var rfl (.int _)) a_nil) k52) (fun _ _ => ⟨_, _, _, rfl, rfl⟩) k55 ?_ ?_
    · rintro k_57 found_56 b66 F58 F59 σ72 c73 H60 v65 N67 g61 ⟨u75, u76, u77, rfl, rfl⟩ g62 hS63 hv64 m74 hN69
      obtain rfl := Dt.toInt hv64
      refine tg (σ' := [some (.int cell_here_1), some (.int many_2), some v9, some (.str letters_15), some v36, some (.ref p48), some (.int k_57), u76, u77]) (fun Q hq => hq) ?_
      unfold f_names_b53 at m74
      try dsimp only at m74
      obtain ⟨x78, k79, m74⟩ := bnd m74
      obtain ⟨x80, k81, m74⟩ := bnd m74
      obtain ⟨x82, k83, m74⟩ := bnd m74
      obtain ⟨x84, k85, m74⟩ := bnd m74
      refine s_setV (K := K) (d := eS x84) (i := 7) (σ' := [some (.int cell_here_1), some (.int many_2), some v9, some (.str letters_15), some v36, some (.ref p48), some (.int k_57), some (.str x84), u77]) (fun _ _ h => Dt.toStr h) hS63 (d_scat (d_ixS (d_var rfl (.str _)) (d_modC (d_add (d_ix (e := eI) (d_var rfl (Dt.gr (Gr.tr g13 (Gr.tr g19 (Gr.tr g32 (Gr.tr g44 (Gr.tr g61 g62))))) hv10)) d_int k79) (d_var rfl (.int _))) d_int (by decide)) k81) (d_ixS (d_var rfl (.str _)) (d_fdivC (d_var rfl (.int _)) d_int ⟨by decide, by decide⟩) k83) k85) rfl (fun F86 H87 g88 hS89 => ?_)
      obtain ⟨x90, k91, m74⟩ := bnd m74
      obtain ⟨x92, k93, m74⟩ := bnd m74
      obtain ⟨x94, k95, m74⟩ := bnd m74
      obtain ⟨x96, k97, m74⟩ := bnd m74
      obtain ⟨x98, k99, m74⟩ := bnd m74
      obtain ⟨x100, k101, m74⟩ := bnd m74
      obtain ⟨x102, k103, m74⟩ := bnd m74
      refine s_setV (K := K) (d := eS x102) (i := 8) (σ' := [some (.int cell_here_1), some (.int many_2), some v9, some (.str letters_15), some v36, some (.ref p48), some (.int k_57), some (.str x84), some (.str x102)]) (fun _ _ h => Dt.toStr h) hS89 (d_scat (d_scat (d_srep d_str (d_ix (e := eI) (d_var rfl (Dt.gr (Gr.tr g13 (Gr.tr g19 (Gr.tr g32 (Gr.tr g44 (Gr.tr g61 (Gr.tr g62 g88)))))) hv10)) d_int k91) k93) (d_var rfl (.str _)) k95) (d_srep d_str (d_min2 (a_cons (d_ix (e := eI) (d_var rfl (Dt.gr (Gr.tr g13 (Gr.tr g19 (Gr.tr g32 (Gr.tr g44 (Gr.tr g61 (Gr.tr g62 g88)))))) hv10)) d_int k97) (a_cons (d_sub d_int (d_ix (e := eI) (d_var rfl (Dt.gr (Gr.tr g13 (Gr.tr g19 (Gr.tr g32 (Gr.tr g44 (Gr.tr g61 (Gr.tr g62 g88)))))) hv10)) d_int k99)) a_nil))) k101) k103) rfl (fun F104 H105 g106 hS107 => ?_)
      obtain ⟨x108, k109, m74⟩ := bnd m74
      obtain ⟨x110, k111, m74⟩ := bnd m74
      obtain ⟨x112, k113, m74⟩ := bnd m74
      obtain ⟨found_114, k115, m74⟩ := bnd m74
      refine s_appFV (K := K) (k1 := []) (x := x112) (l1 := []) (p := p48) (vf := V.str) (en := eS) (fun _ _ _ h => Dt.toStr h) hS107 (vp_var rfl) (d_ix (e := eS) (EvC.dd (c_cat (en := eS) (d_var rfl (Dt.gr (Gr.tr g44 (Gr.tr g61 (Gr.tr g62 (Gr.tr g88 g106)))) h41)) (EvC.dd (c_rep (en := eS) (c_lst (a_cons (d_var rfl (.str _)) a_nil) (Nat.le_of_ble_eq_true rfl)) (fun _ => (d_var rfl (.int _))) k109)) k111)) (d_var rfl (.int _)) k113) k115 (fun F116 H117 g118 hS119 => ?_)
      obtain rfl := sm m74
      exact hN69 _ _ _ _ (Gr.tr g88 (Gr.tr g106 g118)) hS119 ⟨_, _, _, rfl, rfl⟩
    · rintro F120 σ125 c124 H121 g122 hS123 ⟨u127, u128, u129, rfl, rfl⟩
      refine s_retV rfl ?_
      obtain rfl := sm m
      exact q _ _ _ _ (Gr.tr g7 (Gr.tr g13 (Gr.tr g19 (Gr.tr g32 (Gr.tr g44 g122))))) hS123 (Dts.of_strs _)
  · rw [if_pos hc] at k29
    obtain ⟨some_139, k140, k29⟩ := lt k29
    refine s_set (K := K) (d := (eL eS) some_139) (i := 4) (σ' := fun v141 => [some (.int cell_here_1), some (.int many_2), some v9, some (.str letters_15), some v141, none, none, none, none]) hS134 (d_is (d_lst (a_cons d_str (a_cons d_str (a_cons d_str (a_cons d_str (a_cons d_str (a_cons d_str (a_cons d_str (a_cons d_str (a_cons d_str (a_cons d_str (a_cons d_str a_nil))))))))))) (Nat.le_of_ble_eq_true rfl)) (congrArg (eL eS) k140)) (fun _ => rfl) (fun v141 F135 H136 g137 hS138 hv142 => ?_)
    obtain rfl := sm k29
    exact jn28 _ _ ⟨_, _, (Gr.tr g133 g137), hS138, _, _, _, _, _, rfl, rfl, hv142⟩
  · rw [if_neg (bf hc)] at k29
    refine nxt ?_
    obtain rfl := sm k29
    exact jn28 _ _ ⟨_, _, g145, hS146, _, _, _, _, _, rfl, rfl, (Dt.gr g145 hv24)⟩
theorem sc_names : FnScope N_names ["_law_cell_here", "_law_many"] (defScope s_names) := ⟨rfl, rfl, rfl, by decide +kernel, rfl, by decide +kernel, by decide +kernel⟩
theorem ok_names {P : Program} {w : World} {K : PySem.W.Frag} {mg : Str → Option Value} {base : Heap} (hF : Df K mg "_law_names" s_names) (m_min : mg "min" = none) (m_range : mg "range" = none) (o_draws : Ok P w K mg base 1 "_law_draws" ["_law_cell_here", "_law_k", "_law_sizes"] (sp_draws K)) : Ok P w K mg base 2 "_law_names" ["_law_cell_here", "_law_many"] (sp_names K) := by
  obtain ⟨⟨_, G_draws, bd_draws, _⟩, kp_draws, gm_draws⟩ := o_draws
  obtain ⟨⟨fd, F⟩, gm⟩ := hF
  refine ⟨⟨fd, F.ok sc_names (fun vs H Q E h => ?_) (fun cdv A outer s H vs Q E hr h => ⟨t_names K, PSs.nox ?_, w_names vs H Q E h⟩), F.bindsN fun _ _ _ _ _ _ us hl => match us, hl with | [_, _], _ => rfl, lk_of F⟩, F.kp, gm⟩
  · obtain ⟨F0, cc, cs, x, y, h, _⟩ := h; exact ArgR.len h
  · exact (pss_cons (ps_set (i := 2) sc_names.nd rfl (Or.inl rfl) (pe_call G_draws (hr.mono (by decide)) (by rfl) gm_draws kp_draws bd_draws .nil pass0 (pa_cons (pv 0) (pa_cons pe_int (pa_cons (pe_lst (pa_cons pe_int (pa_cons pe_int (pa_cons pe_int (pa_cons pe_int pa_nil))))) pa_nil))))) (pss_cons (ps_set (i := 3) sc_names.nd rfl (Or.inl rfl) pe_str) (pss_cons (ps_set (i := 4) sc_names.nd rfl (Or.inl rfl) (pe_lst pa_nil)) (pss_cons (ps_if (pt_cmpR op_eq (pe_ix ix_list (pv 2) pe_int (fun _ _ => rfl)) pe_int (nomark _)) (pss_one (ps_set (i := 4) sc_names.nd rfl (Or.inl rfl) (pe_lst (pa_cons pe_str (pa_cons pe_str (pa_cons pe_str (pa_cons pe_str (pa_cons pe_str (pa_cons pe_str (pa_cons pe_str (pa_cons pe_str (pa_cons pe_str (pa_cons pe_str (pa_cons pe_str pa_nil)))))))))))))) pss_nil) (pss_cons (ps_set (i := 5) sc_names.nd rfl (Or.inl rfl) (pe_lst pa_nil)) (pss_cons (ps_for PassesOwn.never rfl (pi_range1 (by rfl) m_range (pa_cons (pv 1) pa_nil)) (pg_name (i := 6) sc_names.nd rfl (Or.inl rfl)) (pss_cons (ps_set (i := 7) sc_names.nd rfl (Or.inl rfl) (pe_op op_scatR (pe_ix ix_str (pv 3) (pe_op op_mod (pe_op op_add (pe_ix ix_list (pv 2) pe_int (fun _ _ => rfl)) (pv 6)) pe_int) (fun _ _ => rfl)) (pe_ix ix_str (pv 3) (pe_op op_fdiv (pv 6) pe_int) (fun _ _ => rfl)))) (pss_cons (ps_set (i := 8) sc_names.nd rfl (Or.inl rfl) (pe_op op_scatR (pe_op op_scatR (pe_op op_srep pe_str (pe_ix ix_list (pv 2) pe_int (fun _ _ => rfl))) (pv 7)) (pe_op op_srep pe_str (pe_callB (cr_min2 rfl) (by rfl) m_min (by decide +kernel) (pa_cons (pe_ix ix_list (pv 2) pe_int (fun _ _ => rfl)) (pa_cons (pe_op op_sub pe_int (pe_ix ix_list (pv 2) pe_int (fun _ _ => rfl))) pa_nil)))))) (pss_one (ps_expr (pe_bm PySem.F.plainAttrs_list PySem.F.slot_list_append PySem.F.type_list_append mt_append (pv 5) (pa_cons (pe_ix ix_list (pe_op op_catS (pv 4) (pe_op op_rep (pe_lst (pa_cons (pv 8) pa_nil)) (pv 1))) (pv 6) (fun _ _ => rfl)) pa_nil))))))) (pss_one (ps_ret (pv 5)))))))))
abbrev s_cell : Stmt := (top 39)
def f_cell : ((List Int) × Int) → Option Int := fun (script_1, k_2) => (if (decide (k_2 < (script_1.length : Int))) = true then (((atI script_1 k_2)).bind fun x7 => some x7) else some (0 : Int))
abbrev A_cell : ((List Int) × Int) → List PyData := fun x => [(eL eI) x.1, eI x.2]
abbrev N_cell : List Str := ["_law_script", "_law_k"]
abbrev sp_cell (K : PySem.W.Frag) : Sp := spP K A_cell eI f_cell
def t_cell (K : PySem.W.Frag) : TS := (tSeq (tIfS (tTest (tOp (rI0 fun i j => .bl (decide (i < j))) (tVar 1) (tCB (rLenL K) (tCons (tVar 0) tNil)))) (tRet (tOp (rIxL K) (tVar 0) (tVar 1))) tNext) (tRet (tC (.int 0))))
theorem w_cell {K : PySem.W.Frag} (vs : List V) (H : Hp) (Q : VK) (E : XK) (h : sp_cell K vs H Q E) : t_cell K { nx := fun _ H' => Q .non H', rt := Q } (start N_cell vs) H := by
  obtain ⟨F0, cs, ⟨script_1, k_2⟩, y, h, hS0, m, q⟩ := h
  obtain ⟨a0, _, rfl, ha0, h⟩ := Dts.hd h
  obtain ⟨a1, _, rfl, ha1, h⟩ := Dts.hd h
  obtain rfl := Dts.no h
  obtain rfl := Dt.toInt ha1
  unfold f_cell at m
  try dsimp only at m
  unfold t_cell
  refine go (σ' := [some a0, some (.int k_2)]) rfl ?_
  refine s_if (b := (decide (k_2 < (script_1.length : Int)))) hS0 (t_test (K := K) (d_lt (d_var rfl (.int _)) (d_len (e := eI) (a_cons (d_var rfl ha0) a_nil)))) (fun hc F3 H4 g5 hS6 => ?_) (fun hc F15 H16 g17 hS18 => ?_)
  · rw [if_pos hc] at m
    obtain ⟨x7, k8, m⟩ := bnd m
    refine s_ret (K := K) (d := eI x7) hS6 (d_ix (e := eI) (d_var rfl (Dt.gr g5 ha0)) (d_var rfl (.int _)) k8) (fun v13 F9 H10 g11 hS12 hv14 => ?_)
    obtain rfl := sm m
    exact q _ _ _ (Gr.tr g5 g11) hS12 hv14
  · rw [if_neg (bf hc)] at m
    refine nxt ?_
    refine s_ret (K := K) (d := eI (0 : Int)) hS18 d_int (fun v23 F19 H20 g21 hS22 hv24 => ?_)
    obtain rfl := sm m
    exact q _ _ _ (Gr.tr g17 g21) hS22 hv24
theorem sc_cell : FnScope N_cell ["_law_script", "_law_k"] (defScope s_cell) := ⟨rfl, rfl, rfl, by decide +kernel, rfl, by decide +kernel, by decide +kernel⟩
theorem ok_cell {P : Program} {w : World} {K : PySem.W.Frag} {mg : Str → Option Value} {base : Heap} (hF : Df K mg "_law_cell" s_cell) (m_len : mg "len" = none) : Ok P w K mg base 1 "_law_cell" ["_law_script", "_law_k"] (sp_cell K) := by
  obtain ⟨⟨fd, F⟩, gm⟩ := hF
  refine ⟨⟨fd, F.ok sc_cell (fun vs H Q E h => ?_) (fun cdv A outer s H vs Q E hr h => ⟨t_cell K, PSs.nox ?_, w_cell vs H Q E h⟩), F.bindsN fun _ _ _ _ _ _ us hl => match us, hl with | [_, _], _ => rfl, lk_of F⟩, F.kp, gm⟩
  · obtain ⟨F0, cs, x, y, h, _⟩ := h; exact Dts.len h
  · exact (pss_cons (ps_if (pt_cmpR op_lt (pv 1) (pe_callB cr_lenL (by rfl) m_len PySem.boot_len (pa_cons (pv 0) pa_nil)) (nomark _)) (pss_one (ps_ret (pe_ix ix_list (pv 0) (pv 1) (fun _ _ => rfl)))) pss_nil) (pss_one (ps_ret pe_int)))
abbrev s_boxes : Stmt := (top 42)
def f_boxes_b13 : (List Int) → (Int × Int) → Option (List Int) := fun here_16 (bay_17, room_18) => (((repM ([bay_17] : (List Int)) room_18)).bind fun x53 => ((catM here_16 x53)).bind fun x55 => some x55)
def f_boxes_b112 (script_1 : (List Int)) (x90 : (List Str)) : ((List Int) × (List Int) × (List (Str × Int × Int))) → Int → Option ((List Int) × (List Int) × (List (Str × Int × Int))) := fun (here_115, there_116, boxes_here_117) k_118 => (((f_cell (script_1, ((4 : Int) + k_118)))).bind fun x150 => ((f_draws (x150, ((4 : Int) + k_118), ([(here_115.length : Int), (there_116.length : Int), (5 : Int)] : (List Int))))).bind fun x152 => (((atI x152 (0 : Int))).bind fun x160 => ((popM here_115 x160)).bind fun (at_162, here_163) => (((atI x152 (1 : Int))).bind fun x172 => ((atI there_116 x172)).bind fun x174 => (((atI x152 (2 : Int))).bind fun x183 => ((if ((decide (x183 = (0 : Int))) && (inL at_162 there_116)) = true then some at_162 else some x174)).bind fun to_185 => (((remM there_116 to_185)).bind fun there_196 => (((atI x90 k_118)).bind fun x202 => ((appM boxes_here_117 (x202, at_162, to_185))).bind fun boxes_here_204 => some (here_163, there_196, boxes_here_204)))))))
def f_boxes : ((List Int) × (List Int) × Int) → Option ((List (Str × Int × Int))) := fun (script_1, rooms_2, many_3) => (letM ([] : (List Int)) fun here_8 => ((enumM rooms_2).foldlM (f_boxes_b13) here_8).bind fun here_70 => (((f_cell (script_1, (3 : Int)))).bind fun x88 => ((f_names (x88, many_3))).bind fun x90 => (letM ([] : (List (Str × Int × Int))) fun boxes_here_102 => (((rngM (0 : Int) (minI many_3 (here_70.length : Int)))).bind fun x110 => (x110.foldlM (f_boxes_b112 script_1 x90) (here_70, here_70, boxes_here_102)).bind fun (here_230, there_231, boxes_here_232) => some boxes_here_232))))
abbrev A_boxes : ((List Int) × (List Int) × Int) → List Ar := fun x => [.d ((eL eI) x.1), .d ((eL eI) x.2.1), .d (eI x.2.2)]
abbrev B_boxes : ((List (Str × Int × Int))) → List PyData := fun y => y.map (eT3 eS eI eI)
abbrev C_boxes : ((List (Str × Int × Int))) → List (List V) := fun y => []
abbrev N_boxes : List Str := ["_law_script", "_law_rooms", "_law_many", "_law_here", "_law_there", "_law_names_here", "_law_boxes_here", "_law_k", "_law_bay", "_law_room", "_law_row", "_law_at", "_law_to"]
abbrev sp_boxes (K : PySem.W.Frag) : Sp := spF K A_boxes B_boxes C_boxes f_boxes
def t_boxes (K : PySem.W.Frag) : TS := (tSeq (tAsg (tLst tNil) (gName 3)) (tSeq (tFor (iEnum K (tCons (tVar 1) tNil)) (gTup K 2 (gCons (gName 8) (gCons (gName 9) gNil))) (tAsg (tOp (rCatS K) (tVar 3) (tOp rRep (tLst (tCons (tVar 8) tNil)) (tVar 9))) (gName 3))) (tSeq (tAsg (tCB (rListS K) (tCons (tVar 3) tNil)) (gName 4)) (tSeq (tAsg (tCall (sp_names K) [] E0 (tCons (tCall (sp_cell K) [] E0 (tCons (tVar 0) (tCons (tC (.int 3)) tNil))) (tCons (tVar 2) tNil))) (gName 5)) (tSeq (tAsg (tLst tNil) (gName 6)) (tSeq (tFor (iRng1 (tCons (tCB rMin2 (tCons (tVar 2) (tCons (tCB (rLenL K) (tCons (tVar 3) tNil)) tNil))) tNil)) (gName 7) (tSeq (tAsg (tCall (sp_draws K) [] E0 (tCons (tCall (sp_cell K) [] E0 (tCons (tVar 0) (tCons (tOp (rI0 fun i j => .int (i + j)) (tC (.int 4)) (tVar 7)) tNil))) (tCons (tOp (rI0 fun i j => .int (i + j)) (tC (.int 4)) (tVar 7)) (tCons (tLst (tCons (tCB (rLenL K) (tCons (tVar 3) tNil)) (tCons (tCB (rLenL K) (tCons (tVar 4) tNil)) (tCons (tC (.int 5)) tNil)))) tNil)))) (gName 10)) (tSeq (tAsg (tBM K "list" rPopAt (tVar 3) (tCons (tOp (rIxL K) (tVar 10) (tC (.int 0))) tNil)) (gName 11)) (tSeq (tAsg (tOp (rIxL K) (tVar 4) (tOp (rIxL K) (tVar 10) (tC (.int 1)))) (gName 12)) (tSeq (tIfS (tAnd (tTest (tOp rEq (tOp (rIxL K) (tVar 10) (tC (.int 2))) (tC (.int 0)))) (tTest (tOp (rIn K false) (tVar 11) (tVar 4)))) (tAsg (tVar 11) (gName 12)) tNext) (tSeq (tDrop (tBM K "list" rRemI (tVar 4) (tCons (tVar 12) tNil))) (tDrop (tBM K "list" rAppend (tVar 6) (tCons (tTup (tCons (tOp (rIxL K) (tVar 5) (tVar 7)) (tCons (tVar 11) (tCons (tVar 12) tNil)))) tNil))))))))) (tRet (tVar 6))))))))
theorem w_boxes {K : PySem.W.Frag} (vs : List V) (H : Hp) (Q : VK) (E : XK) (h : sp_boxes K vs H Q E) : t_boxes K { nx := fun _ H' => Q .non H', rt := Q } (start N_boxes vs) H := by
  obtain ⟨F0, cc, cs, ⟨script_1, rooms_2, many_3⟩, y, h0, hS0, m, q⟩ := h
  obtain ⟨a0, _, rfl, ha0, h1⟩ := ArgR.hd h0
  obtain ⟨a1, _, rfl, ha1, h2⟩ := ArgR.hd h1
  obtain ⟨a2, _, rfl, ha2, h3⟩ := ArgR.hd h2
  obtain ⟨rfl, rfl⟩ := ArgR.no h3
  obtain rfl := Dt.toInt ha2
  unfold f_boxes at m
  try dsimp only at m
  unfold t_boxes
  refine go (σ' := [some a0, some a1, some (.int many_3), none, none, none, none, none, none, none, none, none, none]) rfl ?_
  obtain ⟨here_8, k9, m⟩ := lt m
  refine s_setC (K := K) (ds := here_8.map eI) (i := 3) (σ' := fun p10 => [some a0, some a1, some (.int many_3), some (.ref p10), none, none, none, none, none, none, none, none, none]) hS0 (c_is (c_lst a_nil (Nat.le_of_ble_eq_true rfl)) (congrArg (List.map eI) k9)) (fun _ => rfl) (fun p10 us11 F4 H5 g6 hS7 hu12 => ?_)
  obtain rfl := Dts.ints hu12
  obtain ⟨here_70, k15, m⟩ := bnd m
  refine s_for (K := K) (xs := (enumM rooms_2)) (en := (eT2 eI eI)) (body := (f_boxes_b13)) (s0 := here_8) (r := here_70) (fun (a : (List Int)) F σ c => ∃ (j4 : Option V) (j5 : Option V) (j6 : Option V) (j7 : Option V) (j8 : Option V) (j9 : Option V) (j10 : Option V) (j11 : Option V) (j12 : Option V) (y3 : Addr), σ = [some a0, some a1, some (.int many_3), some (.ref y3), j4, j5, j6, j7, j8, j9, j10, j11, j12] ∧ (y3, .lst (a.map V.int)) :: cs = c) hS7 (i_enum (en := eI) (a_cons (d_var rfl (Dt.gr g6 ha1)) a_nil)) (fun _ _ => ⟨_, _, _, _, _, _, _, _, _, _, rfl, rfl⟩) k15 ?_ ?_
  · rintro ⟨bay_17, room_18⟩ here_16 b27 F19 F20 σ33 c34 H21 v26 N28 g22 ⟨u36, u37, u38, u39, u40, u41, u42, u43, u44, p45, rfl, rfl⟩ g23 hS24 hv25 m35 hN30
    obtain ⟨p46, w48, w49, rfl, hT47, hw50, hw51⟩ := u2 hv25
    obtain rfl := Dt.toInt hw50
    obtain rfl := Dt.toInt hw51
    refine tg (σ' := [some a0, some a1, some (.int many_3), some (.ref p45), u36, u37, u38, u39, some (.int bay_17), some (.int room_18), u42, u43, u44]) (fun Q hq => ⟨p46, [_, _], rfl, gr_T hS24.fr hT47, rfl, _, _, rfl, _, _, rfl, rfl, hq⟩) ?_
    unfold f_boxes_b13 at m35
    try dsimp only at m35
    have hS52 := Sta.frozeAt (l1 := []) hS24
    obtain ⟨x53, k54, m35⟩ := bnd m35
    obtain ⟨x55, k56, m35⟩ := bnd m35
    refine s_setC (K := K) (ds := x55.map eI) (i := 3) (σ' := fun p61 => [some a0, some a1, some (.int many_3), some (.ref p61), u36, u37, u38, u39, some (.int bay_17), some (.int room_18), u42, u43, u44]) hS52 (c_cat (en := eI) (d_var rfl (Dt.lst (.inl (.inl upd_same)) (Dts.gr (Gr.new (Sta.freeAt (l1 := []) hS24)) (Dts.of_ints _)))) (EvC.dd (c_rep (en := eI) (c_lst (a_cons (d_var rfl (.int _)) a_nil) (Nat.le_of_ble_eq_true rfl)) (fun _ => (d_var rfl (.int _))) k54)) k56) (fun _ => rfl) (fun p61 us62 F57 H58 g59 hS60 hu63 => ?_)
    obtain rfl := Dts.ints hu63
    obtain rfl := sm m35
    exact hN30 _ _ _ _ (Gr.tr (Gr.new (Sta.freeAt (l1 := []) hS24)) g59) hS60 ⟨_, _, _, _, _, _, _, _, _, _, rfl, rfl⟩
  · rintro F64 σ69 c68 H65 g66 hS67 ⟨u71, u72, u73, u74, u75, u76, u77, u78, u79, p80, rfl, rfl⟩
    refine s_setC (K := K) (ds := here_70.map eI) (i := 4) (σ' := fun p85 => [some a0, some a1, some (.int many_3), some (.ref p80), some (.ref p85), u72, u73, u74, u75, u76, u77, u78, u79]) hS67 (c_listV (l1 := []) (vp_var rfl) (Dts.of_ints _)) (fun _ => rfl) (fun p85 us86 F81 H82 g83 hS84 hu87 => ?_)
    obtain rfl := Dts.ints hu87
    obtain ⟨x88, k89, m⟩ := bnd m
    obtain ⟨x90, k91, m⟩ := bnd m
    refine s_set (K := K) (d := (eL eS) x90) (i := 5) (σ' := fun v96 => [some a0, some a1, some (.int many_3), some (.ref p80), some (.ref p85), some v96, u73, u74, u75, u76, u77, u78, u79]) hS84 (EvC.dd (c_callX (A := A_names) (B := B_names) (C := C_names) (x := (x88, many_3)) (y := x90) (cs2 := ((p85, HO.lst (here_70.map V.int)) :: (p80, HO.lst (here_70.map V.int)) :: cs)) (cc := []) (cs' := ((p85, HO.lst (here_70.map V.int)) :: (p80, HO.lst (here_70.map V.int)) :: cs)) (r_d (d_call (A := A_cell) (B := eI) (x := (script_1, (3 : Int))) (a_cons (d_var rfl (Dt.gr (Gr.tr g6 (Gr.tr g66 g83)) ha0)) (a_cons d_int a_nil)) k89) (r_d (d_var rfl (.int _)) r_nil)) sb_rfl k91 (fun _ => sb_rfl))) (fun _ => rfl) (fun v96 F92 H93 g94 hS95 hv97 => ?_)
    obtain ⟨boxes_here_102, k103, m⟩ := lt m
    refine s_setC (K := K) (ds := boxes_here_102.map (eT3 eS eI eI)) (i := 6) (σ' := fun p104 => [some a0, some a1, some (.int many_3), some (.ref p80), some (.ref p85), some v96, some (.ref p104), u74, u75, u76, u77, u78, u79]) hS95 (c_is (c_lst a_nil (Nat.le_of_ble_eq_true rfl)) (congrArg (List.map (eT3 eS eI eI)) k103)) (fun _ => rfl) (fun p104 us105 F98 H99 g100 hS101 hu106 => ?_)
    obtain ⟨x110, k111, m⟩ := bnd m
    obtain ⟨⟨here_230, there_231, boxes_here_232⟩, k114, m⟩ := bnd m
    try dsimp only at m
    refine s_for (K := K) (xs := x110) (en := eI) (body := (f_boxes_b112 script_1 x90)) (s0 := (here_70, here_70, boxes_here_102)) (r := (here_230, there_231, boxes_here_232)) (fun (a : (List Int) × (List Int) × (List (Str × Int × Int))) F σ c => ∃ (j7 : Option V) (j8 : Option V) (j9 : Option V) (j10 : Option V) (j11 : Option V) (j12 : Option V) (z6 : List V), σ = [some a0, some a1, some (.int many_3), some (.ref p80), some (.ref p85), some v96, some (.ref p104), j7, j8, j9, j10, j11, j12] ∧ (p104, .lst z6) :: (p85, .lst (a.2.1.map V.int)) :: (p80, .lst (a.1.map V.int)) :: cs = c ∧ Dts K F z6 (a.2.2.map (eT3 eS eI eI))) hS101 (i_rng1 (a_cons (d_lendX (l1 := [(p104, HO.lst us105), (p85, HO.lst (here_70.map V.int))]) (m1 := [(p104, HO.lst us105), (p85, HO.lst (here_70.map V.int))]) (fun _ _ h => Dt.toInt h) (fun _ => (.int _)) (fun F107 g108 hn109 => (d_min2 (a_cons (d_var rfl (.int _)) (a_cons (d_len (e := eI) (a_cons (d_var rfl (lent_l hn109 (Dts.gr g108 (Dts.of_ints _)))) a_nil)) a_nil))))) a_nil) k111) (fun _ _ => ⟨_, _, _, _, _, _, _, rfl, rfl, (Dts.gr ‹_› hu106)⟩) k114 ?_ ?_
    · rintro k_118 ⟨here_115, there_116, boxes_here_117⟩ b127 F119 F120 σ133 c134 H121 v126 N128 g122 ⟨u136, u137, u138, u139, u140, u141, us142, rfl, rfl, h143⟩ g123 hS124 hv125 m135 hN130
      obtain rfl := Dt.toInt hv125
      refine tg (σ' := [some a0, some a1, some (.int many_3), some (.ref p80), some (.ref p85), some v96, some (.ref p104), some (.int k_118), u137, u138, u139, u140, u141]) (fun Q hq => hq) ?_
      unfold f_boxes_b112 at m135
      try dsimp only at m135
      obtain ⟨x150, k151, m135⟩ := bnd m135
      obtain ⟨x152, k153, m135⟩ := bnd m135
      refine s_set (K := K) (d := (eL eI) x152) (i := 10) (σ' := fun v158 => [some a0, some a1, some (.int many_3), some (.ref p80), some (.ref p85), some v96, some (.ref p104), some (.int k_118), u137, u138, some v158, u140, u141]) hS124 (EvC.dd (c_lendX (l1 := [(p104, HO.lst us142), (p85, HO.lst (there_116.map V.int))]) (m1 := [(p104, HO.lst us142), (p85, HO.lst (there_116.map V.int))]) (fun _ _ h => Dts.ints h) (fun _ => Dts.of_ints _) (fun F144 g145 hn146 => (c_lendX (l1 := [(p104, HO.lst us142)]) (m1 := [(p104, HO.lst us142)]) (fun _ _ h => Dts.ints h) (fun _ => Dts.of_ints _) (fun F147 g148 hn149 => (c_callX (A := A_draws) (B := B_draws) (C := C_draws) (x := (x150, ((4 : Int) + k_118), ([(here_115.length : Int), (there_116.length : Int), (5 : Int)] : (List Int)))) (y := x152) (cs2 := ((p104, HO.lst us142) :: cs)) (cc := []) (cs' := ((p104, HO.lst us142) :: cs)) (r_d (d_call (A := A_cell) (B := eI) (x := (script_1, ((4 : Int) + k_118))) (a_cons (d_var rfl (Dt.gr (Gr.tr g6 (Gr.tr g66 (Gr.tr g83 (Gr.tr g94 (Gr.tr g100 (Gr.tr g122 (Gr.tr g123 (Gr.tr (Gr.tr g145 (Gr.new hn146)) (Gr.tr g148 (Gr.new hn149)))))))))) ha0)) (a_cons (d_add d_int (d_var rfl (.int _))) a_nil)) k151) (r_d (d_add d_int (d_var rfl (.int _))) (r_d (d_lst (a_cons (d_len (e := eI) (a_cons (d_var rfl (Dt.gr (Gr.tr g148 (Gr.new hn149)) (lent_l hn146 (Dts.gr g145 (Dts.of_ints _))))) a_nil)) (a_cons (d_len (e := eI) (a_cons (d_var rfl (lent_l hn149 (Dts.gr g148 (Dts.of_ints _)))) a_nil)) (a_cons d_int a_nil))) (Nat.le_of_ble_eq_true rfl)) r_nil))) sb_rfl k153 (fun _ => sb_rfl))))))) (fun _ => rfl) (fun v158 F154 H155 g156 hS157 hv159 => ?_)
      obtain ⟨x160, k161, m135⟩ := bnd m135
      obtain ⟨⟨at_162, here_163⟩, k164, m135⟩ := bnd m135; (try dsimp only at m135)
      refine s_popFV (K := K) (k1 := [(p104, .lst us142), (p85, .lst (there_116.map V.int))]) (l1 := [(p104, .lst us142), (p85, .lst (there_116.map V.int))]) (p := p80) (vf := V.int) (en := eI) (j := 11) (σ' := [some a0, some a1, some (.int many_3), some (.ref p80), some (.ref p85), some v96, some (.ref p104), some (.int k_118), u137, u138, some v158, some (.int at_162), u141]) (fun _ _ => (.int _)) hS157 (vp_var rfl) (d_ix (e := eI) (d_var rfl hv159) d_int k161) k164 rfl (fun F165 H166 g167 hS168 => ?_)
      obtain ⟨x172, k173, m135⟩ := bnd m135
      obtain ⟨x174, k175, m135⟩ := bnd m135
      refine s_setV (K := K) (d := eI x174) (i := 12) (σ' := [some a0, some a1, some (.int many_3), some (.ref p80), some (.ref p85), some v96, some (.ref p104), some (.int k_118), u137, u138, some v158, some (.int at_162), some (.int x174)]) (fun _ _ h => Dt.toInt h) hS168 (d_lendX (l1 := [(p104, HO.lst us142)]) (m1 := [(p104, HO.lst us142)]) (fun _ _ h => Dt.toInt h) (fun _ => (.int _)) (fun F169 g170 hn171 => (d_ix (e := eI) (d_var rfl (lent_l hn171 (Dts.gr g170 (Dts.of_ints _)))) (d_ix (e := eI) (d_var rfl (Dt.gr (Gr.tr g167 (Gr.tr g170 (Gr.new hn171))) hv159)) d_int k173) k175))) rfl (fun F176 H177 g178 hS179 => ?_)
      obtain ⟨x183, k184, m135⟩ := bnd m135
      obtain ⟨to_185, k187, m135⟩ := bnd m135
      refine s_ifJ (b := ((decide (x183 = (0 : Int))) && (inL at_162 there_116))) (fun σ H => ∃ (F : Hp) (c : Cs), Gr F176 F ∧ Sta F c H ∧ ∃ (j8 : Option V) (j9 : Option V), σ = [some a0, some a1, some (.int many_3), some (.ref p80), some (.ref p85), some v96, some (.ref p104), some (.int k_118), j8, j9, some v158, some (.int at_162), some (.int to_185)] ∧ (p104, .lst us142) :: (p85, .lst (there_116.map V.int)) :: (p80, .lst (here_163.map V.int)) :: cs = c) hS179 (t_lendX (l1 := [(p104, HO.lst us142)]) (m1 := [(p104, HO.lst us142)]) (fun F180 g181 hn182 => (t_andP (t_test (K := K) (d_eqI (d_ix (e := eI) (d_var rfl (Dt.gr (Gr.tr g167 (Gr.tr g178 (Gr.tr g181 (Gr.new hn182)))) hv159)) d_int k184) d_int)) (fun hc => (t_test (K := K) (d_inI (d_var rfl (.int _)) (d_var rfl (lent_l hn182 (Dts.gr g181 (Dts.of_ints _)))))))))) ?_ (fun jn186 hc F212 H213 g214 hS215 => ?_) (fun jn186 hc F220 H221 g222 hS223 => ?_)
      · rintro σ193 H189 ⟨F188, c192, g190, hS191, u194, u195, rfl, rfl⟩
        obtain ⟨there_196, k197, m135⟩ := bnd m135
        refine s_remFV (K := K) (k1 := [(p104, .lst us142)]) (l1 := [(p104, .lst us142)]) (p := p85) hS191 (vp_var rfl) (d_var rfl (.int _)) k197 (fun F198 H199 g200 hS201 => ?_)
        obtain ⟨x202, k203, m135⟩ := bnd m135
        obtain ⟨boxes_here_204, k205, m135⟩ := bnd m135
        refine s_appGV (K := K) (k1 := []) (x := (x202, at_162, to_185)) (l1 := []) (p := p104) (en := (eT3 eS eI eI)) hS201 (Dts.gr (Gr.tr g123 (Gr.tr g156 (Gr.tr g167 (Gr.tr g178 (Gr.tr g190 g200))))) h143) (vp_var rfl) (d_tup (a_cons (d_ix (e := eS) (d_var rfl (Dt.gr (Gr.tr g100 (Gr.tr g122 (Gr.tr g123 (Gr.tr g156 (Gr.tr g167 (Gr.tr g178 (Gr.tr g190 g200))))))) hv97)) (d_var rfl (.int _)) k203) (a_cons (d_var rfl (.int _)) (a_cons (d_var rfl (.int _)) a_nil))) (Nat.le_of_ble_eq_true rfl)) k205 (fun us210 F206 H207 g208 hS209 hu211 => ?_)
        obtain rfl := sm m135
        exact hN130 _ _ _ _ (Gr.tr g156 (Gr.tr g167 (Gr.tr g178 (Gr.tr g190 (Gr.tr g200 g208))))) hS209 ⟨_, _, _, _, _, _, _, rfl, rfl, hu211⟩
      · rw [if_pos hc] at k187
        refine s_setV (K := K) (d := eI at_162) (i := 12) (σ' := [some a0, some a1, some (.int many_3), some (.ref p80), some (.ref p85), some v96, some (.ref p104), some (.int k_118), u137, u138, some v158, some (.int at_162), some (.int at_162)]) (fun _ _ h => Dt.toInt h) hS215 (d_var rfl (.int _)) rfl (fun F216 H217 g218 hS219 => ?_)
        obtain rfl := sm k187
        exact jn186 _ _ ⟨_, _, (Gr.tr g214 g218), hS219, _, _, rfl, rfl⟩
      · rw [if_neg (bf hc)] at k187
        refine nxt ?_
        obtain rfl := sm k187
        exact jn186 _ _ ⟨_, _, g222, hS223, _, _, rfl, rfl⟩
    · rintro F224 σ229 c228 H225 g226 hS227 ⟨u233, u234, u235, u236, u237, u238, us239, rfl, rfl, h240⟩
      have hS241 := Sta.frozeAt (l1 := [(p104, .lst us239)]) hS227
      have hS242 := Sta.frozeAt (l1 := [(p104, .lst us239)]) hS241
      refine s_retV rfl ?_
      obtain rfl := sm m
      exact q _ _ _ _ (Gr.tr g6 (Gr.tr g66 (Gr.tr g83 (Gr.tr g94 (Gr.tr g100 (Gr.tr g226 (Gr.tr (Gr.new (Sta.freeAt (l1 := [(p104, .lst us239)]) hS227)) (Gr.new (Sta.freeAt (l1 := [(p104, .lst us239)]) hS241))))))))) hS242 (Dts.gr (Gr.tr (Gr.new (Sta.freeAt (l1 := [(p104, .lst us239)]) hS227)) (Gr.new (Sta.freeAt (l1 := [(p104, .lst us239)]) hS241))) h240)
theorem sc_boxes : FnScope N_boxes ["_law_script", "_law_rooms", "_law_many"] (defScope s_boxes) := ⟨rfl, rfl, rfl, by decide +kernel, rfl, by decide +kernel, by decide +kernel⟩
theorem ok_boxes {P : Program} {w : World} {K : PySem.W.Frag} {mg : Str → Option Value} {base : Heap} (hF : Df K mg "_law_boxes" s_boxes) (m_enumerate : mg "enumerate" = none) (m_len : mg "len" = none) (m_list : mg "list" = none) (m_min : mg "min" = none) (m_range : mg "range" = none) (o_draws : Ok P w K mg base 1 "_law_draws" ["_law_cell_here", "_law_k", "_law_sizes"] (sp_draws K)) (o_cell : Ok P w K mg base 1 "_law_cell" ["_law_script", "_law_k"] (sp_cell K)) (o_names : Ok P w K mg base 2 "_law_names" ["_law_cell_here", "_law_many"] (sp_names K)) : Ok P w K mg base 3 "_law_boxes" ["_law_script", "_law_rooms", "_law_many"] (sp_boxes K) := by
  obtain ⟨⟨_, G_draws, bd_draws, _⟩, kp_draws, gm_draws⟩ := o_draws
  obtain ⟨⟨_, G_cell, bd_cell, _⟩, kp_cell, gm_cell⟩ := o_cell
  obtain ⟨⟨_, G_names, bd_names, _⟩, kp_names, gm_names⟩ := o_names
  obtain ⟨⟨fd, F⟩, gm⟩ := hF
  refine ⟨⟨fd, F.ok sc_boxes (fun vs H Q E h => ?_) (fun cdv A outer s H vs Q E hr h => ⟨t_boxes K, PSs.nox ?_, w_boxes vs H Q E h⟩), F.bindsN fun _ _ _ _ _ _ us hl => match us, hl with | [_, _, _], _ => rfl, lk_of F⟩, F.kp, gm⟩
  · obtain ⟨F0, cc, cs, x, y, h, _⟩ := h; exact ArgR.len h
  · exact (pss_cons (ps_set (i := 3) sc_boxes.nd rfl (Or.inl rfl) (pe_lst pa_nil)) (pss_cons (ps_for PassesOwn.never rfl (pi_enum (by rfl) m_enumerate (pa_cons (pv 1) pa_nil)) (pg_tup rfl (pgs_cons (pg_name (i := 8) sc_boxes.nd rfl (Or.inl rfl)) (pgs_cons (pg_name (i := 9) sc_boxes.nd rfl (Or.inl rfl)) pgs_nil))) (pss_one (ps_set (i := 3) sc_boxes.nd rfl (Or.inl rfl) (pe_op op_catS (pv 3) (pe_op op_rep (pe_lst (pa_cons (pv 8) pa_nil)) (pv 9)))))) (pss_cons (ps_set (i := 4) sc_boxes.nd rfl (Or.inl rfl) (pe_callTy cr_list (by rfl) m_list (by decide +kernel) (pa_cons (pv 3) pa_nil))) (pss_cons (ps_set (i := 5) sc_boxes.nd rfl (Or.inl rfl) (pe_call G_names (hr.mono (by decide)) (by rfl) gm_names kp_names bd_names .nil pass0 (pa_cons (pe_call G_cell (hr.mono (by decide)) (by rfl) gm_cell kp_cell bd_cell .nil pass0 (pa_cons (pv 0) (pa_cons pe_int pa_nil))) (pa_cons (pv 2) pa_nil)))) (pss_cons (ps_set (i := 6) sc_boxes.nd rfl (Or.inl rfl) (pe_lst pa_nil)) (pss_cons (ps_for PassesOwn.never rfl (pi_range1 (by rfl) m_range (pa_cons (pe_callB (cr_min2 rfl) (by rfl) m_min (by decide +kernel) (pa_cons (pv 2) (pa_cons (pe_callB cr_lenL (by rfl) m_len PySem.boot_len (pa_cons (pv 3) pa_nil)) pa_nil))) pa_nil)) (pg_name (i := 7) sc_boxes.nd rfl (Or.inl rfl)) (pss_cons (ps_set (i := 10) sc_boxes.nd rfl (Or.inl rfl) (pe_call G_draws (hr.mono (by decide)) (by rfl) gm_draws kp_draws bd_draws .nil pass0 (pa_cons (pe_call G_cell (hr.mono (by decide)) (by rfl) gm_cell kp_cell bd_cell .nil pass0 (pa_cons (pv 0) (pa_cons (pe_op op_add pe_int (pv 7)) pa_nil))) (pa_cons (pe_op op_add pe_int (pv 7)) (pa_cons (pe_lst (pa_cons (pe_callB cr_lenL (by rfl) m_len PySem.boot_len (pa_cons (pv 3) pa_nil)) (pa_cons (pe_callB cr_lenL (by rfl) m_len PySem.boot_len (pa_cons (pv 4) pa_nil)) (pa_cons pe_int pa_nil)))) pa_nil))))) (pss_cons (ps_set (i := 11) sc_boxes.nd rfl (Or.inl rfl) (pe_bm PySem.F.plainAttrs_list PySem.F.slot_list_pop PySem.F.type_list_pop mt_popAt (pv 3) (pa_cons (pe_ix ix_list (pv 10) pe_int (fun _ _ => rfl)) pa_nil))) (pss_cons (ps_set (i := 12) sc_boxes.nd rfl (Or.inl rfl) (pe_ix ix_list (pv 4) (pe_ix ix_list (pv 10) pe_int (fun _ _ => rfl)) (fun _ _ => rfl))) (pss_cons (ps_if (PW.pt (pw_and (pt_cmpR op_eq (pe_ix ix_list (pv 10) pe_int (fun _ _ => rfl)) pe_int (nomark _)) (pw_and1 (pt_cmpR op_in_seq (pv 11) (pv 4) (by rfl))))) (pss_one (ps_set (i := 12) sc_boxes.nd rfl (Or.inl rfl) (pv 11))) pss_nil) (pss_cons (ps_expr (pe_bm PySem.F.plainAttrs_list PySem.F.slot_list_remove PySem.F.type_list_remove mt_remove (pv 4) (pa_cons (pv 12) pa_nil))) (pss_one (ps_expr (pe_bm PySem.F.plainAttrs_list PySem.F.slot_list_append PySem.F.type_list_append mt_append (pv 6) (pa_cons (pe_tup (pa_cons (pe_ix ix_list (pv 5) (pv 7) (fun _ _ => rfl)) (pa_cons (pv 11) (pa_cons (pv 12) pa_nil)))) pa_nil)))))))))) (pss_one (ps_ret (pv 6)))))))))
abbrev s_store : Stmt := (top 43)
def f_store : (List Int) → Option (((List Int) × (List Int) × Int × (List (Str × Int × Int)))) := fun script_1 => (((f_cell (script_1, (0 : Int)))).bind fun x2 => ((f_draws (x2, (0 : Int), ([(15 : Int), (6 : Int), (4 : Int), (20 : Int), (4 : Int), (61 : Int), (12 : Int)] : (List Int))))).bind fun x4 => (((atI x4 (0 : Int))).bind fun x12 => letM ((2 : Int) + x12) fun many_18 => (((atI x4 (1 : Int))).bind fun x20 => ((if (decide ((0 : Int) < x20)) = true then (((atI x4 (0 : Int))).bind fun x140 => letM ((2 : Int) + (x140 % (4 : Int))) fun many_146 => some many_146) else some many_18)).bind fun many_22 => (((atI x4 (2 : Int))).bind fun x38 => ((atI ([(1 : Int), (3 : Int), (40 : Int), (6 : Int)] : (List Int)) x38)).bind fun x40 => (((f_cell (script_1, (1 : Int)))).bind fun x46 => ((repM ([x40] : (List Int)) many_22)).bind fun x48 => ((f_draws (x46, (1 : Int), x48))).bind fun x50 => ((mapC (fun number_52 => ((1 : Int) + number_52)) x50)).bind fun x63 => (((atI x4 (4 : Int))).bind fun x71 => ((atI ([(5 : Int), (1000000000 : Int)] : (List Int)) (b2I (decide (x71 = (1 : Int)))))).bind fun x73 => (((f_cell (script_1, (2 : Int)))).bind fun x79 => ((repM ([x73] : (List Int)) (many_22 - (1 : Int)))).bind fun x81 => ((f_draws (x79, (2 : Int), x81))).bind fun x83 => ((mapC (fun number_85 => ((1 : Int) + number_85)) x83)).bind fun x96 => (((atI x4 (3 : Int))).bind fun x104 => ((atI x4 (4 : Int))).bind fun x106 => ((atI ([(1 : Int), (2 : Int), (3 : Int), ((1 : Int) + x104)] : (List Int)) x106)).bind fun x108 => (((atI x4 (5 : Int))).bind fun x114 => ((atI x4 (6 : Int))).bind fun x116 => ((atI x4 (1 : Int))).bind fun x118 => ((atI ([x114, x116] : (List Int)) (b2I (decide ((1 : Int) < x118))))).bind fun x120 => ((f_boxes (script_1, x63, x120))).bind fun x122 => some (x63, x96, x108, x122))))))))))
abbrev A_store : (List Int) → List PyData := fun x => [(eL eI) x]
abbrev N_store : List Str := ["_law_script", "_law_row", "_law_many", "_law_wide", "_law_rooms", "_law_far", "_law_gaps", "_law_most", "_law_boxes_here", "_law_number"]
abbrev sp_store (K : PySem.W.Frag) : Sp := spP K A_store (eT4 (eL eI) (eL eI) eI (eL (eT3 eS eI eI))) f_store
def t_store (K : PySem.W.Frag) : TS := (tSeq (tAsg (tCall (sp_draws K) [] E0 (tCons (tCall (sp_cell K) [] E0 (tCons (tVar 0) (tCons (tC (.int 0)) tNil))) (tCons (tC (.int 0)) (tCons (tLst (tCons (tC (.int 15)) (tCons (tC (.int 6)) (tCons (tC (.int 4)) (tCons (tC (.int 20)) (tCons (tC (.int 4)) (tCons (tC (.int 61)) (tCons (tC (.int 12)) tNil)))))))) tNil)))) (gName 1)) (tSeq (tAsg (tOp (rI0 fun i j => .int (i + j)) (tC (.int 2)) (tOp (rIxL K) (tVar 1) (tC (.int 0)))) (gName 2)) (tSeq (tIfS (tTest (tOp (rI0 fun i j => .bl (decide (j < i))) (tOp (rIxL K) (tVar 1) (tC (.int 1))) (tC (.int 0)))) (tAsg (tOp (rI0 fun i j => .int (i + j)) (tC (.int 2)) (tOp (rI (fun _ j => 0 < j) fun i j => .int (i % j)) (tOp (rIxL K) (tVar 1) (tC (.int 0))) (tC (.int 4)))) (gName 2)) tNext) (tSeq (tAsg (tOp (rIxL K) (tLst (tCons (tC (.int 1)) (tCons (tC (.int 3)) (tCons (tC (.int 40)) (tCons (tC (.int 6)) tNil))))) (tOp (rIxL K) (tVar 1) (tC (.int 2)))) (gName 3)) (tSeq (tAsg (tLc (iList K (tCall (sp_draws K) [] E0 (tCons (tCall (sp_cell K) [] E0 (tCons (tVar 0) (tCons (tC (.int 1)) tNil))) (tCons (tC (.int 1)) (tCons (tOp rRep (tLst (tCons (tVar 3) tNil)) (tVar 2)) tNil))))) (gName 9) tYes (tOp (rI0 fun i j => .int (i + j)) (tC (.int 1)) (tVar 9)) [9]) (gName 4)) (tSeq (tAsg (tOp (rIxL K) (tLst (tCons (tC (.int 5)) (tCons (tOp (rI CPow fun i j => .int (i ^ j.toNat)) (tC (.int 10)) (tC (.int 9))) tNil))) (tCB rInt (tCons (tOp rEq (tOp (rIxL K) (tVar 1) (tC (.int 4))) (tC (.int 1))) tNil))) (gName 5)) (tSeq (tAsg (tLc (iList K (tCall (sp_draws K) [] E0 (tCons (tCall (sp_cell K) [] E0 (tCons (tVar 0) (tCons (tC (.int 2)) tNil))) (tCons (tC (.int 2)) (tCons (tOp rRep (tLst (tCons (tVar 5) tNil)) (tOp (rI0 fun i j => .int (i - j)) (tVar 2) (tC (.int 1)))) tNil))))) (gName 9) tYes (tOp (rI0 fun i j => .int (i + j)) (tC (.int 1)) (tVar 9)) [9]) (gName 6)) (tSeq (tAsg (tOp (rIxL K) (tLst (tCons (tC (.int 1)) (tCons (tC (.int 2)) (tCons (tC (.int 3)) (tCons (tOp (rI0 fun i j => .int (i + j)) (tC (.int 1)) (tOp (rIxL K) (tVar 1) (tC (.int 3)))) tNil))))) (tOp (rIxL K) (tVar 1) (tC (.int 4)))) (gName 7)) (tSeq (tAsg (tCall (sp_boxes K) [] E0 (tCons (tVar 0) (tCons (tVar 4) (tCons (tOp (rIxL K) (tLst (tCons (tOp (rIxL K) (tVar 1) (tC (.int 5))) (tCons (tOp (rIxL K) (tVar 1) (tC (.int 6))) tNil))) (tCB rInt (tCons (tOp (rI0 fun i j => .bl (decide (j < i))) (tOp (rIxL K) (tVar 1) (tC (.int 1))) (tC (.int 1))) tNil))) tNil)))) (gName 8)) (tRet (tTup (tCons (tVar 4) (tCons (tVar 6) (tCons (tVar 7) (tCons (tVar 8) tNil)))))))))))))))
theorem w_store {K : PySem.W.Frag} (vs : List V) (H : Hp) (Q : VK) (E : XK) (h : sp_store K vs H Q E) : t_store K { nx := fun _ H' => Q .non H', rt := Q } (start N_store vs) H := by
  obtain ⟨F0, cs, script_1, y, h, hS0, m, q⟩ := h
  obtain ⟨a0, _, rfl, ha0, h⟩ := Dts.hd h
  obtain rfl := Dts.no h
  unfold f_store at m
  try dsimp only at m
  unfold t_store
  refine go (σ' := [some a0, none, none, none, none, none, none, none, none, none]) rfl ?_
  obtain ⟨x2, k3, m⟩ := bnd m
  obtain ⟨x4, k5, m⟩ := bnd m
  refine s_set (K := K) (d := (eL eI) x4) (i := 1) (σ' := fun v10 => [some a0, some v10, none, none, none, none, none, none, none, none]) hS0 (EvC.dd (c_callX (A := A_draws) (B := B_draws) (C := C_draws) (x := (x2, (0 : Int), ([(15 : Int), (6 : Int), (4 : Int), (20 : Int), (4 : Int), (61 : Int), (12 : Int)] : (List Int)))) (y := x4) (cs2 := (cs)) (cc := []) (cs' := (cs)) (r_d (d_call (A := A_cell) (B := eI) (x := (script_1, (0 : Int))) (a_cons (d_var rfl ha0) (a_cons d_int a_nil)) k3) (r_d d_int (r_d (d_lst (a_cons d_int (a_cons d_int (a_cons d_int (a_cons d_int (a_cons d_int (a_cons d_int (a_cons d_int a_nil))))))) (Nat.le_of_ble_eq_true rfl)) r_nil))) sb_rfl k5 (fun _ => sb_rfl))) (fun _ => rfl) (fun v10 F6 H7 g8 hS9 hv11 => ?_)
  obtain ⟨x12, k13, m⟩ := bnd m
  obtain ⟨many_18, k19, m⟩ := lt m
  refine s_setV (K := K) (d := eI many_18) (i := 2) (σ' := [some a0, some v10, some (.int many_18), none, none, none, none, none, none, none]) (fun _ _ h => Dt.toInt h) hS9 (d_is (d_add d_int (d_ix (e := eI) (d_var rfl hv11) d_int k13)) (congrArg eI k19)) rfl (fun F14 H15 g16 hS17 => ?_)
  obtain ⟨x20, k21, m⟩ := bnd m
  obtain ⟨many_22, k24, m⟩ := bnd m
  refine s_ifJ (b := (decide ((0 : Int) < x20))) (fun σ H => ∃ (F : Hp) (c : Cs), Gr F14 F ∧ Sta F c H ∧ ∃ (j3 : Option V) (j4 : Option V) (j5 : Option V) (j6 : Option V) (j7 : Option V) (j8 : Option V) (j9 : Option V), σ = [some a0, some v10, some (.int many_22), j3, j4, j5, j6, j7, j8, j9] ∧ cs = c) hS17 (t_test (K := K) (d_gt (d_ix (e := eI) (d_var rfl (Dt.gr g16 hv11)) d_int k21) d_int)) ?_ (fun jn23 hc F136 H137 g138 hS139 => ?_) (fun jn23 hc F148 H149 g150 hS151 => ?_)
  · rintro σ30 H26 ⟨F25, c29, g27, hS28, u31, u32, u33, u34, u35, u36, u37, rfl, rfl⟩
    obtain ⟨x38, k39, m⟩ := bnd m
    obtain ⟨x40, k41, m⟩ := bnd m
    refine s_setV (K := K) (d := eI x40) (i := 3) (σ' := [some a0, some v10, some (.int many_22), some (.int x40), u32, u33, u34, u35, u36, u37]) (fun _ _ h => Dt.toInt h) hS28 (d_ix (e := eI) (d_lst (a_cons d_int (a_cons d_int (a_cons d_int (a_cons d_int a_nil)))) (Nat.le_of_ble_eq_true rfl)) (d_ix (e := eI) (d_var rfl (Dt.gr (Gr.tr g16 g27) hv11)) d_int k39) k41) rfl (fun F42 H43 g44 hS45 => ?_)
    obtain ⟨x46, k47, m⟩ := bnd m
    obtain ⟨x48, k49, m⟩ := bnd m
    obtain ⟨x50, k51, m⟩ := bnd m
    obtain ⟨x63, k64, m⟩ := bnd m
    refine s_set (K := K) (d := (eL eI) x63) (i := 4) (σ' := fun v69 => [some a0, some v10, some (.int many_22), some (.int x40), some v69, u33, u34, u35, u36, u37]) hS45 (EvC.dd (c_mapC (K := K) (f := (fun number_52 => ((1 : Int) + number_52))) (em := eI) (i_list (en := eI) (EvC.dd (c_callX (A := A_draws) (B := B_draws) (C := C_draws) (x := (x46, (1 : Int), x48)) (y := x50) (cs2 := (cs)) (cc := []) (cs' := (cs)) (r_d (d_call (A := A_cell) (B := eI) (x := (script_1, (1 : Int))) (a_cons (d_var rfl (Dt.gr (Gr.tr g8 (Gr.tr g16 (Gr.tr g27 g44))) ha0)) (a_cons d_int a_nil)) k47) (r_d d_int (r_d (EvC.dd (c_rep (en := eI) (c_lst (a_cons (d_var rfl (.int _)) a_nil) (Nat.le_of_ble_eq_true rfl)) (fun _ => (d_var rfl (.int _))) k49)) r_nil))) sb_rfl k51 (fun _ => sb_rfl)))) k64 (fun number_52 o59 v60 F53 p54 us55 g56 hv57 ho58 => by obtain rfl := Dt.toInt hv57; obtain rfl := sm ho58; exact ⟨[some a0, some v10, some (.int many_22), some (.int x40), u32, u33, u34, u35, u36, some (.int number_52)], fun H62 Q hS61 hq => (fun Q hq => hq) Q hq, rfl, t_yes, fun y hy => by obtain rfl := sm hy; exact (d_add d_int (d_var rfl (.int _)))⟩))) (fun _ => rfl) (fun v69 F65 H66 g67 hS68 hv70 => ?_)
    obtain ⟨x71, k72, m⟩ := bnd m
    obtain ⟨x73, k74, m⟩ := bnd m
    refine s_setV (K := K) (d := eI x73) (i := 5) (σ' := [some a0, some v10, some (.int many_22), some (.int x40), some v69, some (.int x73), u34, u35, u36, u37]) (fun _ _ h => Dt.toInt h) hS68 (d_ix (e := eI) (d_lst (a_cons d_int (a_cons (d_is (e := PyData.int 1000000000) (d_powC d_int d_int ⟨by decide, by decide, by decide⟩) (congrArg PyData.int (by decide))) a_nil)) (Nat.le_of_ble_eq_true rfl)) (d_intB (a_cons (d_eqI (d_ix (e := eI) (d_var rfl (Dt.gr (Gr.tr g16 (Gr.tr g27 (Gr.tr g44 g67))) hv11)) d_int k72) d_int) a_nil)) k74) rfl (fun F75 H76 g77 hS78 => ?_)
    obtain ⟨x79, k80, m⟩ := bnd m
    obtain ⟨x81, k82, m⟩ := bnd m
    obtain ⟨x83, k84, m⟩ := bnd m
    obtain ⟨x96, k97, m⟩ := bnd m
    refine s_set (K := K) (d := (eL eI) x96) (i := 6) (σ' := fun v102 => [some a0, some v10, some (.int many_22), some (.int x40), some v69, some (.int x73), some v102, u35, u36, u37]) hS78 (EvC.dd (c_mapC (K := K) (f := (fun number_85 => ((1 : Int) + number_85))) (em := eI) (i_list (en := eI) (EvC.dd (c_callX (A := A_draws) (B := B_draws) (C := C_draws) (x := (x79, (2 : Int), x81)) (y := x83) (cs2 := (cs)) (cc := []) (cs' := (cs)) (r_d (d_call (A := A_cell) (B := eI) (x := (script_1, (2 : Int))) (a_cons (d_var rfl (Dt.gr (Gr.tr g8 (Gr.tr g16 (Gr.tr g27 (Gr.tr g44 (Gr.tr g67 g77))))) ha0)) (a_cons d_int a_nil)) k80) (r_d d_int (r_d (EvC.dd (c_rep (en := eI) (c_lst (a_cons (d_var rfl (.int _)) a_nil) (Nat.le_of_ble_eq_true rfl)) (fun _ => (d_sub (d_var rfl (.int _)) d_int)) k82)) r_nil))) sb_rfl k84 (fun _ => sb_rfl)))) k97 (fun number_85 o92 v93 F86 p87 us88 g89 hv90 ho91 => by obtain rfl := Dt.toInt hv90; obtain rfl := sm ho91; exact ⟨[some a0, some v10, some (.int many_22), some (.int x40), some v69, some (.int x73), u34, u35, u36, some (.int number_85)], fun H95 Q hS94 hq => (fun Q hq => hq) Q hq, rfl, t_yes, fun y hy => by obtain rfl := sm hy; exact (d_add d_int (d_var rfl (.int _)))⟩))) (fun _ => rfl) (fun v102 F98 H99 g100 hS101 hv103 => ?_)
    obtain ⟨x104, k105, m⟩ := bnd m
    obtain ⟨x106, k107, m⟩ := bnd m
    obtain ⟨x108, k109, m⟩ := bnd m
    refine s_setV (K := K) (d := eI x108) (i := 7) (σ' := [some a0, some v10, some (.int many_22), some (.int x40), some v69, some (.int x73), some v102, some (.int x108), u36, u37]) (fun _ _ h => Dt.toInt h) hS101 (d_ix (e := eI) (d_lst (a_cons d_int (a_cons d_int (a_cons d_int (a_cons (d_add d_int (d_ix (e := eI) (d_var rfl (Dt.gr (Gr.tr g16 (Gr.tr g27 (Gr.tr g44 (Gr.tr g67 (Gr.tr g77 g100))))) hv11)) d_int k105)) a_nil)))) (Nat.le_of_ble_eq_true rfl)) (d_ix (e := eI) (d_var rfl (Dt.gr (Gr.tr g16 (Gr.tr g27 (Gr.tr g44 (Gr.tr g67 (Gr.tr g77 g100))))) hv11)) d_int k107) k109) rfl (fun F110 H111 g112 hS113 => ?_)
    obtain ⟨x114, k115, m⟩ := bnd m
    obtain ⟨x116, k117, m⟩ := bnd m
    obtain ⟨x118, k119, m⟩ := bnd m
    obtain ⟨x120, k121, m⟩ := bnd m
    obtain ⟨x122, k123, m⟩ := bnd m
    refine s_set (K := K) (d := (eL (eT3 eS eI eI)) x122) (i := 8) (σ' := fun v128 => [some a0, some v10, some (.int many_22), some (.int x40), some v69, some (.int x73), some v102, some (.int x108), some v128, u37]) hS113 (EvC.dd (c_callX (A := A_boxes) (B := B_boxes) (C := C_boxes) (x := (script_1, x63, x120)) (y := x122) (cs2 := (cs)) (cc := []) (cs' := (cs)) (r_d (d_var rfl (Dt.gr (Gr.tr g8 (Gr.tr g16 (Gr.tr g27 (Gr.tr g44 (Gr.tr g67 (Gr.tr g77 (Gr.tr g100 g112))))))) ha0)) (r_d (d_var rfl (Dt.gr (Gr.tr g77 (Gr.tr g100 g112)) hv70)) (r_d (d_ix (e := eI) (d_lst (a_cons (d_ix (e := eI) (d_var rfl (Dt.gr (Gr.tr g16 (Gr.tr g27 (Gr.tr g44 (Gr.tr g67 (Gr.tr g77 (Gr.tr g100 g112)))))) hv11)) d_int k115) (a_cons (d_ix (e := eI) (d_var rfl (Dt.gr (Gr.tr g16 (Gr.tr g27 (Gr.tr g44 (Gr.tr g67 (Gr.tr g77 (Gr.tr g100 g112)))))) hv11)) d_int k117) a_nil)) (Nat.le_of_ble_eq_true rfl)) (d_intB (a_cons (d_gt (d_ix (e := eI) (d_var rfl (Dt.gr (Gr.tr g16 (Gr.tr g27 (Gr.tr g44 (Gr.tr g67 (Gr.tr g77 (Gr.tr g100 g112)))))) hv11)) d_int k119) d_int) a_nil)) k121) r_nil))) sb_rfl k123 (fun _ => sb_rfl))) (fun _ => rfl) (fun v128 F124 H125 g126 hS127 hv129 => ?_)
    refine s_ret (K := K) (d := (eT4 (eL eI) (eL eI) eI (eL (eT3 eS eI eI))) (x63, x96, x108, x122)) hS127 (d_tup (a_cons (d_var rfl (Dt.gr (Gr.tr g77 (Gr.tr g100 (Gr.tr g112 g126))) hv70)) (a_cons (d_var rfl (Dt.gr (Gr.tr g112 g126) hv103)) (a_cons (d_var rfl (.int _)) (a_cons (d_var rfl hv129) a_nil)))) (Nat.le_of_ble_eq_true rfl)) (fun v134 F130 H131 g132 hS133 hv135 => ?_)
    obtain rfl := sm m
    exact q _ _ _ (Gr.tr g8 (Gr.tr g16 (Gr.tr g27 (Gr.tr g44 (Gr.tr g67 (Gr.tr g77 (Gr.tr g100 (Gr.tr g112 (Gr.tr g126 g132))))))))) hS133 hv135
  · rw [if_pos hc] at k24
    obtain ⟨x140, k141, k24⟩ := bnd k24
    obtain ⟨many_146, k147, k24⟩ := lt k24
    refine s_setV (K := K) (d := eI many_146) (i := 2) (σ' := [some a0, some v10, some (.int many_146), none, none, none, none, none, none, none]) (fun _ _ h => Dt.toInt h) hS139 (d_is (d_add d_int (d_modC (d_ix (e := eI) (d_var rfl (Dt.gr (Gr.tr g16 g138) hv11)) d_int k141) d_int (by decide))) (congrArg eI k147)) rfl (fun F142 H143 g144 hS145 => ?_)
    obtain rfl := sm k24
    exact jn23 _ _ ⟨_, _, (Gr.tr g138 g144), hS145, _, _, _, _, _, _, _, rfl, rfl⟩
  · rw [if_neg (bf hc)] at k24
    refine nxt ?_
    obtain rfl := sm k24
    exact jn23 _ _ ⟨_, _, g150, hS151, _, _, _, _, _, _, _, rfl, rfl⟩
theorem sc_store : FnScope N_store ["_law_script"] (defScope s_store) := ⟨rfl, rfl, rfl, by decide +kernel, rfl, by decide +kernel, by decide +kernel⟩
theorem ok_store {P : Program} {w : World} {K : PySem.W.Frag} {mg : Str → Option Value} {base : Heap} (hF : Df K mg "_law_store" s_store) (m_int : mg "int" = none) (o_boxes : Ok P w K mg base 3 "_law_boxes" ["_law_script", "_law_rooms", "_law_many"] (sp_boxes K)) (o_draws : Ok P w K mg base 1 "_law_draws" ["_law_cell_here", "_law_k", "_law_sizes"] (sp_draws K)) (o_cell : Ok P w K mg base 1 "_law_cell" ["_law_script", "_law_k"] (sp_cell K)) : Ok P w K mg base 4 "_law_store" ["_law_script"] (sp_store K) := by
  obtain ⟨⟨_, G_boxes, bd_boxes, _⟩, kp_boxes, gm_boxes⟩ := o_boxes
  obtain ⟨⟨_, G_draws, bd_draws, _⟩, kp_draws, gm_draws⟩ := o_draws
  obtain ⟨⟨_, G_cell, bd_cell, _⟩, kp_cell, gm_cell⟩ := o_cell
  obtain ⟨⟨fd, F⟩, gm⟩ := hF
  refine ⟨⟨fd, F.ok sc_store (fun vs H Q E h => ?_) (fun cdv A outer s H vs Q E hr h => ⟨t_store K, PSs.nox ?_, w_store vs H Q E h⟩), F.bindsN fun _ _ _ _ _ _ us hl => match us, hl with | [_], _ => rfl, lk_of F⟩, F.kp, gm⟩
  · obtain ⟨F0, cs, x, y, h, _⟩ := h; exact Dts.len h
  · exact (pss_cons (ps_set (i := 1) sc_store.nd rfl (Or.inl rfl) (pe_call G_draws (hr.mono (by decide)) (by rfl) gm_draws kp_draws bd_draws .nil pass0 (pa_cons (pe_call G_cell (hr.mono (by decide)) (by rfl) gm_cell kp_cell bd_cell .nil pass0 (pa_cons (pv 0) (pa_cons pe_int pa_nil))) (pa_cons pe_int (pa_cons (pe_lst (pa_cons pe_int (pa_cons pe_int (pa_cons pe_int (pa_cons pe_int (pa_cons pe_int (pa_cons pe_int (pa_cons pe_int pa_nil)))))))) pa_nil))))) (pss_cons (ps_set (i := 2) sc_store.nd rfl (Or.inl rfl) (pe_op op_add pe_int (pe_ix ix_list (pv 1) pe_int (fun _ _ => rfl)))) (pss_cons (ps_if (pt_cmpR op_gt (pe_ix ix_list (pv 1) pe_int (fun _ _ => rfl)) pe_int (nomark _)) (pss_one (ps_set (i := 2) sc_store.nd rfl (Or.inl rfl) (pe_op op_add pe_int (pe_op op_mod (pe_ix ix_list (pv 1) pe_int (fun _ _ => rfl)) pe_int)))) pss_nil) (pss_cons (ps_set (i := 3) sc_store.nd rfl (Or.inl rfl) (pe_ix ix_list (pe_lst (pa_cons pe_int (pa_cons pe_int (pa_cons pe_int (pa_cons pe_int pa_nil))))) (pe_ix ix_list (pv 1) pe_int (fun _ _ => rfl)) (fun _ _ => rfl))) (pss_cons (ps_setLc (i := 4) (own := [("_law_number", 9)]) (g := (gName 9)) (tt := tYes) (te := (tOp (rI0 fun i j => .int (i + j)) (tC (.int 1)) (tVar 9))) (by rfl) sc_store.nd rfl rfl (sw_true rfl rfl rfl (by decide +kernel)) (pi_list (pe_call G_draws (hr.mono (by decide)) (by rfl) gm_draws kp_draws bd_draws .nil pass0 (pa_cons (pe_call G_cell (hr.mono (by decide)) (by rfl) gm_cell kp_cell bd_cell .nil pass0 (pa_cons (pv 0) (pa_cons pe_int pa_nil))) (pa_cons pe_int (pa_cons (pe_op op_rep (pe_lst (pa_cons (pv 3) pa_nil)) (pv 2)) pa_nil))))) (blkOk_by (own := [("_law_number", 9)]) (N := N_store) (sc := defScope s_store) (by decide +kernel)) (fun _ _ _ _ _ => (pg_name (i := 9) sc_store.nd rfl (Or.inl rfl))) (fun _ _ _ _ _ => pts_nil) (fun _ _ _ _ _ => (pe_op op_add pe_int (pv 9)))) (pss_cons (ps_set (i := 5) sc_store.nd rfl (Or.inl rfl) (pe_ix ix_list (pe_lst (pa_cons pe_int (pa_cons (pe_op op_pow pe_int pe_int) pa_nil))) (pe_callTy cr_int (by rfl) m_int (by decide +kernel) (pa_cons (pe_cmpR op_eq (pe_ix ix_list (pv 1) pe_int (fun _ _ => rfl)) pe_int (nomark _)) pa_nil)) (fun _ _ => rfl))) (pss_cons (ps_setLc (i := 6) (own := [("_law_number", 9)]) (g := (gName 9)) (tt := tYes) (te := (tOp (rI0 fun i j => .int (i + j)) (tC (.int 1)) (tVar 9))) (by rfl) sc_store.nd rfl rfl (sw_true rfl rfl rfl (by decide +kernel)) (pi_list (pe_call G_draws (hr.mono (by decide)) (by rfl) gm_draws kp_draws bd_draws .nil pass0 (pa_cons (pe_call G_cell (hr.mono (by decide)) (by rfl) gm_cell kp_cell bd_cell .nil pass0 (pa_cons (pv 0) (pa_cons pe_int pa_nil))) (pa_cons pe_int (pa_cons (pe_op op_rep (pe_lst (pa_cons (pv 5) pa_nil)) (pe_op op_sub (pv 2) pe_int)) pa_nil))))) (blkOk_by (own := [("_law_number", 9)]) (N := N_store) (sc := defScope s_store) (by decide +kernel)) (fun _ _ _ _ _ => (pg_name (i := 9) sc_store.nd rfl (Or.inl rfl))) (fun _ _ _ _ _ => pts_nil) (fun _ _ _ _ _ => (pe_op op_add pe_int (pv 9)))) (pss_cons (ps_set (i := 7) sc_store.nd rfl (Or.inl rfl) (pe_ix ix_list (pe_lst (pa_cons pe_int (pa_cons pe_int (pa_cons pe_int (pa_cons (pe_op op_add pe_int (pe_ix ix_list (pv 1) pe_int (fun _ _ => rfl))) pa_nil))))) (pe_ix ix_list (pv 1) pe_int (fun _ _ => rfl)) (fun _ _ => rfl))) (pss_cons (ps_set (i := 8) sc_store.nd rfl (Or.inl rfl) (pe_call G_boxes (hr.mono (by decide)) (by rfl) gm_boxes kp_boxes bd_boxes .nil pass0 (pa_cons (pv 0) (pa_cons (pv 4) (pa_cons (pe_ix ix_list (pe_lst (pa_cons (pe_ix ix_list (pv 1) pe_int (fun _ _ => rfl)) (pa_cons (pe_ix ix_list (pv 1) pe_int (fun _ _ => rfl)) pa_nil))) (pe_callTy cr_int (by rfl) m_int (by decide +kernel) (pa_cons (pe_cmpR op_gt (pe_ix ix_list (pv 1) pe_int (fun _ _ => rfl)) pe_int (nomark _)) pa_nil)) (fun _ _ => rfl)) pa_nil))))) (pss_one (ps_ret (pe_tup (pa_cons (pv 4) (pa_cons (pv 6) (pa_cons (pv 7) (pa_cons (pv 8) pa_nil))))))))))))))))
abbrev s_turned : Stmt := (top 44)
def f_turned : (((List Int) × (List Int) × Int × (List (Str × Int × Int))) × Int) → Option (((List Int) × (List Int) × Int × (List (Str × Int × Int)))) := fun (store_here_1, cell_here_2) => (letM store_here_1.1 fun x3 => letM store_here_1.2.1 fun x12 => letM store_here_1.2.2.1 fun x21 => letM store_here_1.2.2.2 fun x29 => (((f_draws (cell_here_2, (8 : Int), ([(11 : Int), (16 : Int), (16 : Int), (61 : Int), (9 : Int)] : (List Int))))).bind fun x42 => (((atI x42 (1 : Int))).bind fun x53 => ((modM x53 (x3.length : Int))).bind fun x55 => (((atI x42 (2 : Int))).bind fun x64 => ((modM x64 (x3.length : Int))).bind fun x66 => (((atI x42 (0 : Int))).bind fun x72 => ((if (decide (x72 = (1 : Int))) = true then (((atI x3 x55)).bind fun x110 => ((setM x3 x55 (x110 - (1 : Int)))).bind fun rooms_112 => some (x21, rooms_112, x12, x29)) else (((atI x42 (0 : Int))).bind fun x123 => (if (decide (x123 = (2 : Int))) = true then (((atI x42 (4 : Int))).bind fun x131 => ((atI ([(40 : Int), (41 : Int), (0 : Int), (1 : Int)] : (List Int)) (x131 % (4 : Int)))).bind fun x133 => ((setM x3 x55 x133)).bind fun rooms_135 => some (x21, rooms_135, x12, x29)) else (((atI x42 (0 : Int))).bind fun x150 => (if ((decide (x150 = (3 : Int))) && (!decide (x12 = ([] : (List Int))))) = true then (((atI x42 (4 : Int))).bind fun x157 => ((atI ([(0 : Int), (1 : Int), (1000000000 : Int), ((1000000000 : Int) + (1 : Int))] : (List Int)) (x157 % (4 : Int)))).bind fun x159 => ((modM x55 (x12.length : Int))).bind fun x164 => ((setM x12 x164 x159)).bind fun gaps_166 => some (x21, x3, gaps_166, x29)) else (((atI x42 (0 : Int))).bind fun x178 => (if (decide (x178 = (4 : Int))) = true then (((atI x42 (4 : Int))).bind fun x185 => ((atI ([(0 : Int), (1 : Int), (20 : Int), (21 : Int)] : (List Int)) (x185 % (4 : Int)))).bind fun x187 => some (x187, x3, x12, x29)) else (((atI x42 (0 : Int))).bind fun x200 => ((if (inL x200 ([(5 : Int), (6 : Int)] : (List Int))) = true then (((eqTM (eL (eT3 eS eI eI)) x29 ([] : (List (Str × Int × Int))))).bind fun x202 => some (!x202)) else some false)).bind fun x204 => (if x204 = true then (((atI x42 (3 : Int))).bind fun x213 => ((modM x213 (x29.length : Int))).bind fun x215 => ((atI x29 x215)).bind fun x217 => (((atI x42 (0 : Int))).bind fun x233 => ((atI ([(x217.1, x55, x217.2.2), (x217.1, x217.2.1, x55)] : (List (Str × Int × Int))) (x233 - (5 : Int)))).bind fun x235 => ((atI x42 (3 : Int))).bind fun x240 => ((modM x240 (x29.length : Int))).bind fun x242 => ((setM x29 x242 x235)).bind fun boxes_here_244 => some (x21, x3, x12, boxes_here_244))) else (((atI x42 (0 : Int))).bind fun x257 => (if (decide (x257 = (7 : Int))) = true then (((catM x29 ([(("zz" : Str), x55, x66)] : (List (Str × Int × Int))))).bind fun x264 => some (x21, x3, x12, x264)) else (((atI x42 (0 : Int))).bind fun x276 => (if (decide (x276 = (8 : Int))) = true then (((catM ([(("zy" : Str), x55, x66), (("zx" : Str), x66, x55)] : (List (Str × Int × Int))) x29)).bind fun x283 => some (x21, x3, x12, x283)) else (((atI x42 (0 : Int))).bind fun x295 => (if (decide (x295 = (9 : Int))) = true then (((catM x3 ([(1 : Int)] : (List Int)))).bind fun x302 => ((catM x12 ([(1 : Int)] : (List Int)))).bind fun x304 => ((catM x12 ([(1 : Int)] : (List Int)))).bind fun x306 => ((atI x42 (4 : Int))).bind fun x308 => ((atI ([([x302, x304] : (List (List Int))), ([(cutL x3 none (some (-(1 : Int)))), (cutL x12 none (some (-(1 : Int))))] : (List (List Int))), ([x3, x306] : (List (List Int)))] : (List (List (List Int)))) (x308 % (3 : Int)))).bind fun x310 => ((tup2M x310)).bind fun x318 => some (x21, x318.1, x318.2, x29)) else (((atI x42 (0 : Int))).bind fun x333 => ((if (decide (x333 = (10 : Int))) = true then (((eqTM (eL (eT3 eS eI eI)) x29 ([] : (List (Str × Int × Int))))).bind fun x335 => some (!x335)) else some false)).bind fun x337 => (if x337 = true then (((atI x42 (3 : Int))).bind fun x346 => ((modM x346 (x29.length : Int))).bind fun x348 => ((atI x29 x348)).bind fun x350 => ((appM x29 (x350.1, x55, x66))).bind fun boxes_here_352 => some (x21, x3, x12, boxes_here_352)) else some (x21, x3, x12, x29))))))))))))))))))).bind fun (most_74, rooms_75, gaps_76, boxes_here_77) => some (rooms_75, gaps_76, most_74, boxes_here_77))))))
abbrev A_turned : (((List Int) × (List Int) × Int × (List (Str × Int × Int))) × Int) → List PyData := fun x => [(eT4 (eL eI) (eL eI) eI (eL (eT3 eS eI eI))) x.1, eI x.2]
abbrev N_turned : List Str := ["_law_store_here", "_law_cell_here", "_law_row", "_law_bay", "_law_other", "_law_rooms", "_law_gaps", "_law_most", "_law_boxes_here", "_law_name", "_law_at", "_law_to"]
abbrev sp_turned (K : PySem.W.Frag) : Sp := spP K A_turned (eT4 (eL eI) (eL eI) eI (eL (eT3 eS eI eI))) f_turned
def t_turned (K : PySem.W.Frag) : TS := (tSeq (tAsg (tTup (tCons (tCB (rListS K) (tCons (tOp (rIxT K) (tVar 0) (tC (.int 0))) tNil)) (tCons (tCB (rListS K) (tCons (tOp (rIxT K) (tVar 0) (tC (.int 1))) tNil)) (tCons (tOp (rIxT K) (tVar 0) (tC (.int 2))) (tCons (tCB (rListS K) (tCons (tOp (rIxT K) (tVar 0) (tC (.int 3))) tNil)) tNil))))) (gTup K 4 (gCons (gName 5) (gCons (gName 6) (gCons (gName 7) (gCons (gName 8) gNil)))))) (tSeq (tAsg (tCall (sp_draws K) [] E0 (tCons (tVar 1) (tCons (tC (.int 8)) (tCons (tLst (tCons (tC (.int 11)) (tCons (tC (.int 16)) (tCons (tC (.int 16)) (tCons (tC (.int 61)) (tCons (tC (.int 9)) tNil)))))) tNil)))) (gName 2)) (tSeq (tAsg (tOp (rI (fun _ j => 0 < j) fun i j => .int (i % j)) (tOp (rIxL K) (tVar 2) (tC (.int 1))) (tCB (rLenL K) (tCons (tVar 5) tNil))) (gName 3)) (tSeq (tAsg (tOp (rI (fun _ j => 0 < j) fun i j => .int (i % j)) (tOp (rIxL K) (tVar 2) (tC (.int 2))) (tCB (rLenL K) (tCons (tVar 5) tNil))) (gName 4)) (tSeq (tIfS (tTest (tOp rEq (tOp (rIxL K) (tVar 2) (tC (.int 0))) (tC (.int 1)))) (tAsg (tOp (rI0 fun i j => .int (i - j)) (tOp (rIxL K) (tVar 5) (tVar 3)) (tC (.int 1))) (gSub (tVar 5) (tVar 3) rSetL)) (tIfS (tTest (tOp rEq (tOp (rIxL K) (tVar 2) (tC (.int 0))) (tC (.int 2)))) (tAsg (tOp (rIxL K) (tLst (tCons (tC (.int 40)) (tCons (tC (.int 41)) (tCons (tC (.int 0)) (tCons (tC (.int 1)) tNil))))) (tOp (rI (fun _ j => 0 < j) fun i j => .int (i % j)) (tOp (rIxL K) (tVar 2) (tC (.int 4))) (tC (.int 4)))) (gSub (tVar 5) (tVar 3) rSetL)) (tIfS (tAnd (tTest (tOp rEq (tOp (rIxL K) (tVar 2) (tC (.int 0))) (tC (.int 3)))) (tTest (tOp (rNeD K) (tVar 6) (tLst tNil)))) (tAsg (tOp (rIxL K) (tLst (tCons (tC (.int 0)) (tCons (tC (.int 1)) (tCons (tOp (rI CPow fun i j => .int (i ^ j.toNat)) (tC (.int 10)) (tC (.int 9))) (tCons (tOp (rI0 fun i j => .int (i + j)) (tOp (rI CPow fun i j => .int (i ^ j.toNat)) (tC (.int 10)) (tC (.int 9))) (tC (.int 1))) tNil))))) (tOp (rI (fun _ j => 0 < j) fun i j => .int (i % j)) (tOp (rIxL K) (tVar 2) (tC (.int 4))) (tC (.int 4)))) (gSub (tVar 6) (tOp (rI (fun _ j => 0 < j) fun i j => .int (i % j)) (tVar 3) (tCB (rLenL K) (tCons (tVar 6) tNil))) rSetL)) (tIfS (tTest (tOp rEq (tOp (rIxL K) (tVar 2) (tC (.int 0))) (tC (.int 4)))) (tAsg (tOp (rIxL K) (tLst (tCons (tC (.int 0)) (tCons (tC (.int 1)) (tCons (tC (.int 20)) (tCons (tC (.int 21)) tNil))))) (tOp (rI (fun _ j => 0 < j) fun i j => .int (i % j)) (tOp (rIxL K) (tVar 2) (tC (.int 4))) (tC (.int 4)))) (gName 7)) (tIfS (tAnd (tTest (tOp (rIn K false) (tOp (rIxL K) (tVar 2) (tC (.int 0))) (tTup (tCons (tC (.int 5)) (tCons (tC (.int 6)) tNil))))) (tTest (tOp (rNeD K) (tVar 8) (tLst tNil)))) (tSeq (tAsg (tOp (rIxL K) (tVar 8) (tOp (rI (fun _ j => 0 < j) fun i j => .int (i % j)) (tOp (rIxL K) (tVar 2) (tC (.int 3))) (tCB (rLenL K) (tCons (tVar 8) tNil)))) (gTup K 3 (gCons (gName 9) (gCons (gName 10) (gCons (gName 11) gNil))))) (tAsg (tOp (rIxL K) (tLst (tCons (tTup (tCons (tVar 9) (tCons (tVar 3) (tCons (tVar 11) tNil)))) (tCons (tTup (tCons (tVar 9) (tCons (tVar 10) (tCons (tVar 3) tNil)))) tNil))) (tOp (rI0 fun i j => .int (i - j)) (tOp (rIxL K) (tVar 2) (tC (.int 0))) (tC (.int 5)))) (gSub (tVar 8) (tOp (rI (fun _ j => 0 < j) fun i j => .int (i % j)) (tOp (rIxL K) (tVar 2) (tC (.int 3))) (tCB (rLenL K) (tCons (tVar 8) tNil))) rSetL))) (tIfS (tTest (tOp rEq (tOp (rIxL K) (tVar 2) (tC (.int 0))) (tC (.int 7)))) (tAsg (tOp (rCatS K) (tVar 8) (tLst (tCons (tTup (tCons (tC (.str "zz")) (tCons (tVar 3) (tCons (tVar 4) tNil)))) tNil))) (gName 8)) (tIfS (tTest (tOp rEq (tOp (rIxL K) (tVar 2) (tC (.int 0))) (tC (.int 8)))) (tAsg (tOp (rCatS K) (tLst (tCons (tTup (tCons (tC (.str "zy")) (tCons (tVar 3) (tCons (tVar 4) tNil)))) (tCons (tTup (tCons (tC (.str "zx")) (tCons (tVar 4) (tCons (tVar 3) tNil)))) tNil))) (tVar 8)) (gName 8)) (tIfS (tTest (tOp rEq (tOp (rIxL K) (tVar 2) (tC (.int 0))) (tC (.int 9)))) (tAsg (tOp (rIxL K) (tLst (tCons (tLst (tCons (tOp (rCatS K) (tVar 5) (tLst (tCons (tC (.int 1)) tNil))) (tCons (tOp (rCatS K) (tVar 6) (tLst (tCons (tC (.int 1)) tNil))) tNil))) (tCons (tLst (tCons (tSl (rSlL K) (tVar 5) tNoPart (tPart (tUn (rU fun i => .int (-i)) (tC (.int 1))))) (tCons (tSl (rSlL K) (tVar 6) tNoPart (tPart (tUn (rU fun i => .int (-i)) (tC (.int 1))))) tNil))) (tCons (tLst (tCons (tVar 5) (tCons (tOp (rCatS K) (tVar 6) (tLst (tCons (tC (.int 1)) tNil))) tNil))) tNil)))) (tOp (rI (fun _ j => 0 < j) fun i j => .int (i % j)) (tOp (rIxL K) (tVar 2) (tC (.int 4))) (tC (.int 3)))) (gLst K 2 (gCons (gName 5) (gCons (gName 6) gNil)))) (tIfS (tAnd (tTest (tOp rEq (tOp (rIxL K) (tVar 2) (tC (.int 0))) (tC (.int 10)))) (tTest (tOp (rNeD K) (tVar 8) (tLst tNil)))) (tDrop (tBM K "list" rAppend (tVar 8) (tCons (tTup (tCons (tOp (rIxT K) (tOp (rIxL K) (tVar 8) (tOp (rI (fun _ j => 0 < j) fun i j => .int (i % j)) (tOp (rIxL K) (tVar 2) (tC (.int 3))) (tCB (rLenL K) (tCons (tVar 8) tNil)))) (tC (.int 0))) (tCons (tVar 3) (tCons (tVar 4) tNil)))) tNil))) tNext))))))))) (tRet (tTup (tCons (tVar 5) (tCons (tVar 6) (tCons (tVar 7) (tCons (tVar 8) tNil)))))))))))
theorem w_turned {K : PySem.W.Frag} (vs : List V) (H : Hp) (Q : VK) (E : XK) (h : sp_turned K vs H Q E) : t_turned K { nx := fun _ H' => Q .non H', rt := Q } (start N_turned vs) H := by
  obtain ⟨F0, cs, ⟨store_here_1, cell_here_2⟩, y, h, hS0, m, q⟩ := h
  obtain ⟨a0, _, rfl, ha0, h⟩ := Dts.hd h
  obtain ⟨a1, _, rfl, ha1, h⟩ := Dts.hd h
  obtain rfl := Dts.no h
  obtain rfl := Dt.toInt ha1
  unfold f_turned at m
  try dsimp only at m
  unfold t_turned
  refine go (σ' := [some a0, some (.int cell_here_2), none, none, none, none, none, none, none, none, none, none]) rfl ?_
  refine o_asg (o_tup ?_)
  refine o_cons ?_
  obtain ⟨x3, k4, m⟩ := lt m
  refine o_c (K := K) (ds := x3.map eI) hS0 (c_is (c_list (a_cons (d_ixT (d_var rfl ha0) d_int rfl) a_nil)) (congrArg (List.map eI) k4)) (fun p9 us10 F5 H6 g7 hS8 hu11 => ?_)
  obtain rfl := Dts.ints hu11
  refine o_cons ?_
  obtain ⟨x12, k13, m⟩ := lt m
  refine o_c (K := K) (ds := x12.map eI) hS8 (c_is (c_list (a_cons (d_ixT (d_var rfl (Dt.gr g7 ha0)) d_int rfl) a_nil)) (congrArg (List.map eI) k13)) (fun p18 us19 F14 H15 g16 hS17 hu20 => ?_)
  obtain rfl := Dts.ints hu20
  refine o_cons ?_
  obtain ⟨x21, k22, m⟩ := lt m
  refine o_d (K := K) (d := eI x21) hS17 (d_is (d_ixT (d_var rfl (Dt.gr (Gr.tr g7 g16) ha0)) d_int rfl) (congrArg eI k22)) (fun v27 F23 H24 g25 hS26 hv28 => ?_)
  obtain rfl := Dt.toInt hv28
  refine o_cons ?_
  obtain ⟨x29, k30, m⟩ := lt m
  refine o_c (K := K) (ds := x29.map (eT3 eS eI eI)) hS26 (c_is (c_list (a_cons (d_ixT (d_var rfl (Dt.gr (Gr.tr g7 (Gr.tr g16 g25)) ha0)) d_int rfl) a_nil)) (congrArg (List.map (eT3 eS eI eI)) k30)) (fun p35 us36 F31 H32 g33 hS34 hu37 => ?_)
  refine o_nil ?_
  refine ⟨Nat.le_trans (show ([(.ref p9), (.ref p18), (.int x21), (.ref p35)] : List V).length ≤ 1000 from Nat.le_of_ble_eq_true rfl) (by decide), fun p38 hp41 => ?_⟩
  have g39 := Gr.new (o := .tup [(.ref p9), (.ref p18), (.int x21), (.ref p35)]) (hS34.fr.back hp41)
  have hS40 := Sta.lay (o := .tup [(.ref p9), (.ref p18), (.int x21), (.ref p35)]) hS34 hp41
  refine tg (σ' := [some a0, some (.int cell_here_2), none, none, none, some (.ref p9), some (.ref p18), some (.int x21), some (.ref p35), none, none, none]) (fun Q hq => ⟨p38, [_, _, _, _], rfl, gr_T hS40.fr sq_new, rfl, _, _, rfl, _, _, rfl, _, _, rfl, _, _, rfl, rfl, hq⟩) ?_
  obtain ⟨x42, k43, m⟩ := bnd m
  refine s_set (K := K) (d := (eL eI) x42) (i := 2) (σ' := fun v48 => [some a0, some (.int cell_here_2), some v48, none, none, some (.ref p9), some (.ref p18), some (.int x21), some (.ref p35), none, none, none]) hS40 (EvC.dd (c_callX (A := A_draws) (B := B_draws) (C := C_draws) (x := (cell_here_2, (8 : Int), ([(11 : Int), (16 : Int), (16 : Int), (61 : Int), (9 : Int)] : (List Int)))) (y := x42) (cs2 := ((p35, HO.lst us36) :: (p18, HO.lst (x12.map V.int)) :: (p9, HO.lst (x3.map V.int)) :: cs)) (cc := []) (cs' := ((p35, HO.lst us36) :: (p18, HO.lst (x12.map V.int)) :: (p9, HO.lst (x3.map V.int)) :: cs)) (r_d (d_var rfl (.int _)) (r_d d_int (r_d (d_lst (a_cons d_int (a_cons d_int (a_cons d_int (a_cons d_int (a_cons d_int a_nil))))) (Nat.le_of_ble_eq_true rfl)) r_nil))) sb_rfl k43 (fun _ => sb_rfl))) (fun _ => rfl) (fun v48 F44 H45 g46 hS47 hv49 => ?_)
  obtain ⟨x53, k54, m⟩ := bnd m
  obtain ⟨x55, k56, m⟩ := bnd m
  refine s_setV (K := K) (d := eI x55) (i := 3) (σ' := [some a0, some (.int cell_here_2), some v48, some (.int x55), none, some (.ref p9), some (.ref p18), some (.int x21), some (.ref p35), none, none, none]) (fun _ _ h => Dt.toInt h) hS47 (d_lendX (l1 := [(p35, HO.lst us36), (p18, HO.lst (x12.map V.int))]) (m1 := [(p35, HO.lst us36), (p18, HO.lst (x12.map V.int))]) (fun _ _ h => Dt.toInt h) (fun _ => (.int _)) (fun F50 g51 hn52 => (d_mod (d_ix (e := eI) (d_var rfl (Dt.gr (Gr.tr g51 (Gr.new hn52)) hv49)) d_int k54) (d_len (e := eI) (a_cons (d_var rfl (lent_l hn52 (Dts.gr g51 (Dts.of_ints _)))) a_nil)) k56))) rfl (fun F57 H58 g59 hS60 => ?_)
  obtain ⟨x64, k65, m⟩ := bnd m
  obtain ⟨x66, k67, m⟩ := bnd m
  refine s_setV (K := K) (d := eI x66) (i := 4) (σ' := [some a0, some (.int cell_here_2), some v48, some (.int x55), some (.int x66), some (.ref p9), some (.ref p18), some (.int x21), some (.ref p35), none, none, none]) (fun _ _ h => Dt.toInt h) hS60 (d_lendX (l1 := [(p35, HO.lst us36), (p18, HO.lst (x12.map V.int))]) (m1 := [(p35, HO.lst us36), (p18, HO.lst (x12.map V.int))]) (fun _ _ h => Dt.toInt h) (fun _ => (.int _)) (fun F61 g62 hn63 => (d_mod (d_ix (e := eI) (d_var rfl (Dt.gr (Gr.tr g59 (Gr.tr g62 (Gr.new hn63))) hv49)) d_int k65) (d_len (e := eI) (a_cons (d_var rfl (lent_l hn63 (Dts.gr g62 (Dts.of_ints _)))) a_nil)) k67))) rfl (fun F68 H69 g70 hS71 => ?_)
  obtain ⟨x72, k73, m⟩ := bnd m
  obtain ⟨⟨most_74, rooms_75, gaps_76, boxes_here_77⟩, k79, m⟩ := bnd m
  try dsimp only at m
  refine s_ifJ (b := (decide (x72 = (1 : Int)))) (fun σ H => ∃ (F : Hp) (c : Cs), Gr F68 F ∧ Sta F c H ∧ ∃ (j5 : V) (j6 : V) (j8 : V) (j9 : Option V) (j10 : Option V) (j11 : Option V), σ = [some a0, some (.int cell_here_2), some v48, some (.int x55), some (.int x66), some j5, some j6, some (.int most_74), some j8, j9, j10, j11] ∧ cs = c ∧ Dt K F j5 ((eL eI) rooms_75) ∧ Dt K F j6 ((eL eI) gaps_76) ∧ Dt K F j8 ((eL (eT3 eS eI eI)) boxes_here_77)) hS71 (t_test (K := K) (d_eqI (d_ix (e := eI) (d_var rfl (Dt.gr (Gr.tr g59 g70) hv49)) d_int k73) d_int)) ?_ (fun jn78 hc F101 H102 g103 hS104 => ?_) (fun jn78 hc F119 H120 g121 hS122 => ?_)
  · rintro σ85 H81 ⟨F80, c84, g82, hS83, v86, v87, v88, u89, u90, u91, rfl, rfl, h92, h93, h94⟩
    refine s_ret (K := K) (d := (eT4 (eL eI) (eL eI) eI (eL (eT3 eS eI eI))) (rooms_75, gaps_76, most_74, boxes_here_77)) hS83 (d_tup (a_cons (d_var rfl h92) (a_cons (d_var rfl h93) (a_cons (d_var rfl (.int _)) (a_cons (d_var rfl h94) a_nil)))) (Nat.le_of_ble_eq_true rfl)) (fun v99 F95 H96 g97 hS98 hv100 => ?_)
    obtain rfl := sm m
    exact q _ _ _ (Gr.tr g7 (Gr.tr g16 (Gr.tr g25 (Gr.tr g33 (Gr.tr g39 (Gr.tr g46 (Gr.tr g59 (Gr.tr g70 (Gr.tr g82 g97))))))))) hS98 hv100
  · rw [if_pos hc] at k79
    have hS105 := Sta.frozeAt (l1 := []) hS104
    have hS106 := Sta.frozeAt (l1 := []) hS105
    obtain ⟨x110, k111, k79⟩ := bnd k79
    obtain ⟨rooms_112, k113, k79⟩ := bnd k79
    refine s_itemFV (K := K) (k1 := []) (m1 := []) (x := (x110 - (1 : Int))) (l1 := []) (p := p9) (vf := V.int) (en := eI) (fun _ _ _ h => Dt.toInt h) hS106 (vp_var rfl) (d_lendX (l1 := []) (m1 := []) (fun _ _ h => Dt.toInt h) (fun _ => (.int _)) (fun F107 g108 hn109 => (d_sub (d_ix (e := eI) (d_var rfl (lent_l hn109 (Dts.gr g108 (Dts.of_ints _)))) (d_var rfl (.int _)) k111) d_int))) (d_var rfl (.int _)) k113 (fun F114 H115 g116 hS117 => ?_)
    have hS118 := Sta.frozeAt (l1 := []) hS117
    obtain ⟨rfl, rfl, rfl, rfl⟩ := pr4 (sm k79)
    exact jn78 _ _ ⟨_, _, (Gr.tr g103 (Gr.tr (Gr.new (Sta.freeAt (l1 := []) hS104)) (Gr.tr (Gr.new (Sta.freeAt (l1 := []) hS105)) (Gr.tr g116 (Gr.new (Sta.freeAt (l1 := []) hS117)))))), hS118, _, _, _, _, _, _, rfl, rfl, (Dt.lst (.inl (.inl upd_same)) (Dts.gr (Gr.new (Sta.freeAt (l1 := []) hS117)) (Dts.of_ints _))), (Dt.gr (Gr.tr g116 (Gr.new (Sta.freeAt (l1 := []) hS117))) (Dt.lst (.inl (.inl upd_same)) (Dts.gr (Gr.new (Sta.freeAt (l1 := []) hS105)) (Dts.of_ints _)))), (Dt.gr (Gr.tr (Gr.new (Sta.freeAt (l1 := []) hS105)) (Gr.tr g116 (Gr.new (Sta.freeAt (l1 := []) hS117)))) (Dt.lst (.inl (.inl upd_same)) (Dts.gr (Gr.new (Sta.freeAt (l1 := []) hS104)) (Dts.gr (Gr.tr g39 (Gr.tr g46 (Gr.tr g59 (Gr.tr g70 g103)))) hu37))))⟩
  · rw [if_neg (bf hc)] at k79
    obtain ⟨x123, k124, k79⟩ := bnd k79
    refine s_if (b := (decide (x123 = (2 : Int)))) hS122 (t_test (K := K) (d_eqI (d_ix (e := eI) (d_var rfl (Dt.gr (Gr.tr g59 (Gr.tr g70 g121)) hv49)) d_int k124) d_int)) (fun hc F125 H126 g127 hS128 => ?_) (fun hc F142 H143 g144 hS145 => ?_)
    · rw [if_pos hc] at k79
      have hS129 := Sta.frozeAt (l1 := []) hS128
      have hS130 := Sta.frozeAt (l1 := []) hS129
      obtain ⟨x131, k132, k79⟩ := bnd k79
      obtain ⟨x133, k134, k79⟩ := bnd k79
      obtain ⟨rooms_135, k136, k79⟩ := bnd k79
      refine s_itemFV (K := K) (k1 := []) (m1 := []) (x := x133) (l1 := []) (p := p9) (vf := V.int) (en := eI) (fun _ _ _ h => Dt.toInt h) hS130 (vp_var rfl) (d_ix (e := eI) (d_lst (a_cons d_int (a_cons d_int (a_cons d_int (a_cons d_int a_nil)))) (Nat.le_of_ble_eq_true rfl)) (d_modC (d_ix (e := eI) (d_var rfl (Dt.gr (Gr.tr g59 (Gr.tr g70 (Gr.tr g121 (Gr.tr g127 (Gr.tr (Gr.new (Sta.freeAt (l1 := []) hS128)) (Gr.new (Sta.freeAt (l1 := []) hS129))))))) hv49)) d_int k132) d_int (by decide)) k134) (d_var rfl (.int _)) k136 (fun F137 H138 g139 hS140 => ?_)
      have hS141 := Sta.frozeAt (l1 := []) hS140
      obtain ⟨rfl, rfl, rfl, rfl⟩ := pr4 (sm k79)
      exact jn78 _ _ ⟨_, _, (Gr.tr g121 (Gr.tr g127 (Gr.tr (Gr.new (Sta.freeAt (l1 := []) hS128)) (Gr.tr (Gr.new (Sta.freeAt (l1 := []) hS129)) (Gr.tr g139 (Gr.new (Sta.freeAt (l1 := []) hS140))))))), hS141, _, _, _, _, _, _, rfl, rfl, (Dt.lst (.inl (.inl upd_same)) (Dts.gr (Gr.new (Sta.freeAt (l1 := []) hS140)) (Dts.of_ints _))), (Dt.gr (Gr.tr g139 (Gr.new (Sta.freeAt (l1 := []) hS140))) (Dt.lst (.inl (.inl upd_same)) (Dts.gr (Gr.new (Sta.freeAt (l1 := []) hS129)) (Dts.of_ints _)))), (Dt.gr (Gr.tr (Gr.new (Sta.freeAt (l1 := []) hS129)) (Gr.tr g139 (Gr.new (Sta.freeAt (l1 := []) hS140)))) (Dt.lst (.inl (.inl upd_same)) (Dts.gr (Gr.new (Sta.freeAt (l1 := []) hS128)) (Dts.gr (Gr.tr g39 (Gr.tr g46 (Gr.tr g59 (Gr.tr g70 (Gr.tr g121 g127))))) hu37))))⟩
    · rw [if_neg (bf hc)] at k79
      have hS146 := Sta.frozeAt (l1 := [(p35, .lst us36), (p18, .lst (x12.map V.int))]) hS145
      obtain ⟨x150, k151, k79⟩ := bnd k79
      refine s_if (b := ((decide (x150 = (3 : Int))) && (!decide (x12 = ([] : (List Int)))))) hS146 (t_lendX (l1 := [(p35, HO.lst us36)]) (m1 := [(p35, HO.lst us36)]) (fun F147 g148 hn149 => (t_andP (t_test (K := K) (d_eqI (d_ix (e := eI) (d_var rfl (Dt.gr (Gr.tr g59 (Gr.tr g70 (Gr.tr g121 (Gr.tr g144 (Gr.tr (Gr.new (Sta.freeAt (l1 := [(p35, .lst us36), (p18, .lst (x12.map V.int))]) hS145)) (Gr.tr g148 (Gr.new hn149))))))) hv49)) d_int k151) d_int)) (fun hc => (t_test (K := K) (d_neT (e := (eL eI)) (EqE.l eqE_I) (ShE.l sh_I) (by decide) (d_var rfl (lent_l hn149 (Dts.gr g148 (Dts.of_ints _)))) (d_lst a_nil (Nat.le_of_ble_eq_true rfl)))))))) (fun hc F152 H153 g154 hS155 => ?_) (fun hc F173 H174 g175 hS176 => ?_)
      · rw [if_pos hc] at k79
        have hS156 := Sta.frozeAt (l1 := []) hS155
        obtain ⟨x157, k158, k79⟩ := bnd k79
        obtain ⟨x159, k160, k79⟩ := bnd k79
        obtain ⟨x164, k165, k79⟩ := bnd k79
        obtain ⟨gaps_166, k167, k79⟩ := bnd k79
        refine s_itemFV (K := K) (k1 := []) (m1 := []) (x := x159) (l1 := []) (p := p18) (vf := V.int) (en := eI) (fun _ _ _ h => Dt.toInt h) hS156 (vp_var rfl) (d_ix (e := eI) (d_lst (a_cons d_int (a_cons d_int (a_cons (d_is (e := PyData.int 1000000000) (d_powC d_int d_int ⟨by decide, by decide, by decide⟩) (congrArg PyData.int (by decide))) (a_cons (d_add (d_is (e := PyData.int 1000000000) (d_powC d_int d_int ⟨by decide, by decide, by decide⟩) (congrArg PyData.int (by decide))) d_int) a_nil)))) (Nat.le_of_ble_eq_true rfl)) (d_modC (d_ix (e := eI) (d_var rfl (Dt.gr (Gr.tr g59 (Gr.tr g70 (Gr.tr g121 (Gr.tr g144 (Gr.tr (Gr.new (Sta.freeAt (l1 := [(p35, .lst us36), (p18, .lst (x12.map V.int))]) hS145)) (Gr.tr g154 (Gr.new (Sta.freeAt (l1 := []) hS155)))))))) hv49)) d_int k158) d_int (by decide)) k160) (d_lendX (l1 := []) (m1 := []) (fun _ _ h => Dt.toInt h) (fun _ => (.int _)) (fun F161 g162 hn163 => (d_mod (d_var rfl (.int _)) (d_len (e := eI) (a_cons (d_var rfl (lent_l hn163 (Dts.gr g162 (Dts.of_ints _)))) a_nil)) k165))) k167 (fun F168 H169 g170 hS171 => ?_)
        have hS172 := Sta.frozeAt (l1 := []) hS171
        obtain ⟨rfl, rfl, rfl, rfl⟩ := pr4 (sm k79)
        exact jn78 _ _ ⟨_, _, (Gr.tr g121 (Gr.tr g144 (Gr.tr (Gr.new (Sta.freeAt (l1 := [(p35, .lst us36), (p18, .lst (x12.map V.int))]) hS145)) (Gr.tr g154 (Gr.tr (Gr.new (Sta.freeAt (l1 := []) hS155)) (Gr.tr g170 (Gr.new (Sta.freeAt (l1 := []) hS171)))))))), hS172, _, _, _, _, _, _, rfl, rfl, (Dt.gr (Gr.tr g154 (Gr.tr (Gr.new (Sta.freeAt (l1 := []) hS155)) (Gr.tr g170 (Gr.new (Sta.freeAt (l1 := []) hS171))))) (Dt.lst (.inl (.inl upd_same)) (Dts.gr (Gr.new (Sta.freeAt (l1 := [(p35, .lst us36), (p18, .lst (x12.map V.int))]) hS145)) (Dts.of_ints _)))), (Dt.lst (.inl (.inl upd_same)) (Dts.gr (Gr.new (Sta.freeAt (l1 := []) hS171)) (Dts.of_ints _))), (Dt.gr (Gr.tr g170 (Gr.new (Sta.freeAt (l1 := []) hS171))) (Dt.lst (.inl (.inl upd_same)) (Dts.gr (Gr.new (Sta.freeAt (l1 := []) hS155)) (Dts.gr (Gr.tr g39 (Gr.tr g46 (Gr.tr g59 (Gr.tr g70 (Gr.tr g121 (Gr.tr g144 (Gr.tr (Gr.new (Sta.freeAt (l1 := [(p35, .lst us36), (p18, .lst (x12.map V.int))]) hS145)) g154))))))) hu37))))⟩
      · rw [if_neg (bf hc)] at k79
        have hS177 := Sta.frozeAt (l1 := [(p35, .lst us36)]) hS176
        obtain ⟨x178, k179, k79⟩ := bnd k79
        refine s_if (b := (decide (x178 = (4 : Int)))) hS177 (t_test (K := K) (d_eqI (d_ix (e := eI) (d_var rfl (Dt.gr (Gr.tr g59 (Gr.tr g70 (Gr.tr g121 (Gr.tr g144 (Gr.tr (Gr.new (Sta.freeAt (l1 := [(p35, .lst us36), (p18, .lst (x12.map V.int))]) hS145)) (Gr.tr g175 (Gr.new (Sta.freeAt (l1 := [(p35, .lst us36)]) hS176)))))))) hv49)) d_int k179) d_int)) (fun hc F180 H181 g182 hS183 => ?_) (fun hc F193 H194 g195 hS196 => ?_)
        · rw [if_pos hc] at k79
          have hS184 := Sta.frozeAt (l1 := []) hS183
          obtain ⟨x185, k186, k79⟩ := bnd k79
          obtain ⟨x187, k188, k79⟩ := bnd k79
          refine s_setV (K := K) (d := eI x187) (i := 7) (σ' := [some a0, some (.int cell_here_2), some v48, some (.int x55), some (.int x66), some (.ref p9), some (.ref p18), some (.int x187), some (.ref p35), none, none, none]) (fun _ _ h => Dt.toInt h) hS184 (d_ix (e := eI) (d_lst (a_cons d_int (a_cons d_int (a_cons d_int (a_cons d_int a_nil)))) (Nat.le_of_ble_eq_true rfl)) (d_modC (d_ix (e := eI) (d_var rfl (Dt.gr (Gr.tr g59 (Gr.tr g70 (Gr.tr g121 (Gr.tr g144 (Gr.tr (Gr.new (Sta.freeAt (l1 := [(p35, .lst us36), (p18, .lst (x12.map V.int))]) hS145)) (Gr.tr g175 (Gr.tr (Gr.new (Sta.freeAt (l1 := [(p35, .lst us36)]) hS176)) (Gr.tr g182 (Gr.new (Sta.freeAt (l1 := []) hS183)))))))))) hv49)) d_int k186) d_int (by decide)) k188) rfl (fun F189 H190 g191 hS192 => ?_)
          obtain ⟨rfl, rfl, rfl, rfl⟩ := pr4 (sm k79)
          exact jn78 _ _ ⟨_, _, (Gr.tr g121 (Gr.tr g144 (Gr.tr (Gr.new (Sta.freeAt (l1 := [(p35, .lst us36), (p18, .lst (x12.map V.int))]) hS145)) (Gr.tr g175 (Gr.tr (Gr.new (Sta.freeAt (l1 := [(p35, .lst us36)]) hS176)) (Gr.tr g182 (Gr.tr (Gr.new (Sta.freeAt (l1 := []) hS183)) g191))))))), hS192, _, _, _, _, _, _, rfl, rfl, (Dt.gr (Gr.tr g175 (Gr.tr (Gr.new (Sta.freeAt (l1 := [(p35, .lst us36)]) hS176)) (Gr.tr g182 (Gr.tr (Gr.new (Sta.freeAt (l1 := []) hS183)) g191)))) (Dt.lst (.inl (.inl upd_same)) (Dts.gr (Gr.new (Sta.freeAt (l1 := [(p35, .lst us36), (p18, .lst (x12.map V.int))]) hS145)) (Dts.of_ints _)))), (Dt.gr (Gr.tr g182 (Gr.tr (Gr.new (Sta.freeAt (l1 := []) hS183)) g191)) (Dt.lst (.inl (.inl upd_same)) (Dts.gr (Gr.new (Sta.freeAt (l1 := [(p35, .lst us36)]) hS176)) (Dts.of_ints _)))), (Dt.gr g191 (Dt.lst (.inl (.inl upd_same)) (Dts.gr (Gr.new (Sta.freeAt (l1 := []) hS183)) (Dts.gr (Gr.tr g39 (Gr.tr g46 (Gr.tr g59 (Gr.tr g70 (Gr.tr g121 (Gr.tr g144 (Gr.tr (Gr.new (Sta.freeAt (l1 := [(p35, .lst us36), (p18, .lst (x12.map V.int))]) hS145)) (Gr.tr g175 (Gr.tr (Gr.new (Sta.freeAt (l1 := [(p35, .lst us36)]) hS176)) g182))))))))) hu37))))⟩
        · rw [if_neg (bf hc)] at k79
          obtain ⟨x200, k201, k79⟩ := bnd k79
          obtain ⟨x204, k205, k79⟩ := bnd k79
          refine s_if (b := x204) hS196 (t_lendX (l1 := []) (m1 := []) (fun F197 g198 hn199 => (t_andM (r := x204) (t_test (K := K) (d_inTI (xs := ([(5 : Int), (6 : Int)] : (List Int))) (d_ix (e := eI) (d_var rfl (Dt.gr (Gr.tr g59 (Gr.tr g70 (Gr.tr g121 (Gr.tr g144 (Gr.tr (Gr.new (Sta.freeAt (l1 := [(p35, .lst us36), (p18, .lst (x12.map V.int))]) hS145)) (Gr.tr g175 (Gr.tr (Gr.new (Sta.freeAt (l1 := [(p35, .lst us36)]) hS176)) (Gr.tr g195 (Gr.tr g198 (Gr.new hn199)))))))))) hv49)) d_int k201) (d_tup (a_cons d_int (a_cons d_int a_nil)) (Nat.le_of_ble_eq_true rfl)))) (fun hc => by rw [if_pos hc] at k205; obtain ⟨x202, k203, k205⟩ := bnd k205; obtain rfl := sm k205; exact (t_test (K := K) (d_neTM (EqE.l (EqE.t3 eqE_S eqE_I eqE_I)) (d_var rfl (lent_l hn199 (Dts.gr g198 (Dts.gr (Gr.tr g39 (Gr.tr g46 (Gr.tr g59 (Gr.tr g70 (Gr.tr g121 (Gr.tr g144 (Gr.tr (Gr.new (Sta.freeAt (l1 := [(p35, .lst us36), (p18, .lst (x12.map V.int))]) hS145)) (Gr.tr g175 (Gr.tr (Gr.new (Sta.freeAt (l1 := [(p35, .lst us36)]) hS176)) g195))))))))) hu37)))) (d_lst a_nil (Nat.le_of_ble_eq_true rfl)) k203))) (fun hc => by rw [if_neg (bf hc)] at k205; exact (sm k205).symm)))) (fun hc F206 H207 g208 hS209 => ?_) (fun hc F253 H254 g255 hS256 => ?_)
          · rw [if_pos hc] at k79
            obtain ⟨x213, k214, k79⟩ := bnd k79
            obtain ⟨x215, k216, k79⟩ := bnd k79
            obtain ⟨x217, k218, k79⟩ := bnd k79
            refine s_asg (K := K) (d := (eT3 eS eI eI) x217) hS209 (d_lendO (l1 := []) (m1 := []) (nt_l _) ((nl_T3 nl_S nl_I nl_I) _) (fun F210 g211 hn212 => (d_ix (e := (eT3 eS eI eI)) (d_var rfl (lent_l hn212 (Dts.gr g211 (Dts.gr (Gr.tr g39 (Gr.tr g46 (Gr.tr g59 (Gr.tr g70 (Gr.tr g121 (Gr.tr g144 (Gr.tr (Gr.new (Sta.freeAt (l1 := [(p35, .lst us36), (p18, .lst (x12.map V.int))]) hS145)) (Gr.tr g175 (Gr.tr (Gr.new (Sta.freeAt (l1 := [(p35, .lst us36)]) hS176)) (Gr.tr g195 g208)))))))))) hu37)))) (d_mod (d_ix (e := eI) (d_var rfl (Dt.gr (Gr.tr g59 (Gr.tr g70 (Gr.tr g121 (Gr.tr g144 (Gr.tr (Gr.new (Sta.freeAt (l1 := [(p35, .lst us36), (p18, .lst (x12.map V.int))]) hS145)) (Gr.tr g175 (Gr.tr (Gr.new (Sta.freeAt (l1 := [(p35, .lst us36)]) hS176)) (Gr.tr g195 (Gr.tr g208 (Gr.tr g211 (Gr.new hn212))))))))))) hv49)) d_int k214) (d_len (e := (eT3 eS eI eI)) (a_cons (d_var rfl (lent_l hn212 (Dts.gr g211 (Dts.gr (Gr.tr g39 (Gr.tr g46 (Gr.tr g59 (Gr.tr g70 (Gr.tr g121 (Gr.tr g144 (Gr.tr (Gr.new (Sta.freeAt (l1 := [(p35, .lst us36), (p18, .lst (x12.map V.int))]) hS145)) (Gr.tr g175 (Gr.tr (Gr.new (Sta.freeAt (l1 := [(p35, .lst us36)]) hS176)) (Gr.tr g195 g208)))))))))) hu37)))) a_nil)) k216) k218))) (fun v223 F219 H220 g221 hS222 hv224 => ?_)
            obtain ⟨p225, w227, w228, w229, rfl, hT226, hw230, hw231, hw232⟩ := u3 hv224
            obtain rfl := Dt.toStr hw230
            obtain rfl := Dt.toInt hw231
            obtain rfl := Dt.toInt hw232
            refine tg (σ' := [some a0, some (.int cell_here_2), some v48, some (.int x55), some (.int x66), some (.ref p9), some (.ref p18), some (.int x21), some (.ref p35), some (.str x217.1), some (.int x217.2.1), some (.int x217.2.2)]) (fun Q hq => ⟨p225, [_, _, _], rfl, gr_T hS222.fr hT226, rfl, _, _, rfl, _, _, rfl, _, _, rfl, rfl, hq⟩) ?_
            obtain ⟨x233, k234, k79⟩ := bnd k79
            obtain ⟨x235, k236, k79⟩ := bnd k79
            obtain ⟨x240, k241, k79⟩ := bnd k79
            obtain ⟨x242, k243, k79⟩ := bnd k79
            obtain ⟨boxes_here_244, k245, k79⟩ := bnd k79
            refine s_itemGV (K := K) (k1 := []) (m1 := []) (x := x235) (l1 := []) (p := p35) (en := (eT3 eS eI eI)) hS222 (Dts.gr (Gr.tr g39 (Gr.tr g46 (Gr.tr g59 (Gr.tr g70 (Gr.tr g121 (Gr.tr g144 (Gr.tr (Gr.new (Sta.freeAt (l1 := [(p35, .lst us36), (p18, .lst (x12.map V.int))]) hS145)) (Gr.tr g175 (Gr.tr (Gr.new (Sta.freeAt (l1 := [(p35, .lst us36)]) hS176)) (Gr.tr g195 (Gr.tr g208 g221))))))))))) hu37) (vp_var rfl) (d_ix (e := (eT3 eS eI eI)) (d_lst (a_cons (d_tup (a_cons (d_var rfl (.str _)) (a_cons (d_var rfl (.int _)) (a_cons (d_var rfl (.int _)) a_nil))) (Nat.le_of_ble_eq_true rfl)) (a_cons (d_tup (a_cons (d_var rfl (.str _)) (a_cons (d_var rfl (.int _)) (a_cons (d_var rfl (.int _)) a_nil))) (Nat.le_of_ble_eq_true rfl)) a_nil)) (Nat.le_of_ble_eq_true rfl)) (d_sub (d_ix (e := eI) (d_var rfl (Dt.gr (Gr.tr g59 (Gr.tr g70 (Gr.tr g121 (Gr.tr g144 (Gr.tr (Gr.new (Sta.freeAt (l1 := [(p35, .lst us36), (p18, .lst (x12.map V.int))]) hS145)) (Gr.tr g175 (Gr.tr (Gr.new (Sta.freeAt (l1 := [(p35, .lst us36)]) hS176)) (Gr.tr g195 (Gr.tr g208 g221))))))))) hv49)) d_int k234) d_int) k236) (d_lendX (l1 := []) (m1 := []) (fun _ _ h => Dt.toInt h) (fun _ => (.int _)) (fun F237 g238 hn239 => (d_mod (d_ix (e := eI) (d_var rfl (Dt.gr (Gr.tr g59 (Gr.tr g70 (Gr.tr g121 (Gr.tr g144 (Gr.tr (Gr.new (Sta.freeAt (l1 := [(p35, .lst us36), (p18, .lst (x12.map V.int))]) hS145)) (Gr.tr g175 (Gr.tr (Gr.new (Sta.freeAt (l1 := [(p35, .lst us36)]) hS176)) (Gr.tr g195 (Gr.tr g208 (Gr.tr g221 (Gr.tr g238 (Gr.new hn239)))))))))))) hv49)) d_int k241) (d_len (e := (eT3 eS eI eI)) (a_cons (d_var rfl (lent_l hn239 (Dts.gr g238 (Dts.gr (Gr.tr g39 (Gr.tr g46 (Gr.tr g59 (Gr.tr g70 (Gr.tr g121 (Gr.tr g144 (Gr.tr (Gr.new (Sta.freeAt (l1 := [(p35, .lst us36), (p18, .lst (x12.map V.int))]) hS145)) (Gr.tr g175 (Gr.tr (Gr.new (Sta.freeAt (l1 := [(p35, .lst us36)]) hS176)) (Gr.tr g195 (Gr.tr g208 g221))))))))))) hu37)))) a_nil)) k243))) k245 (fun us250 F246 H247 g248 hS249 hu251 => ?_)
            have hS252 := Sta.frozeAt (l1 := []) hS249
            obtain ⟨rfl, rfl, rfl, rfl⟩ := pr4 (sm k79)
            exact jn78 _ _ ⟨_, _, (Gr.tr g121 (Gr.tr g144 (Gr.tr (Gr.new (Sta.freeAt (l1 := [(p35, .lst us36), (p18, .lst (x12.map V.int))]) hS145)) (Gr.tr g175 (Gr.tr (Gr.new (Sta.freeAt (l1 := [(p35, .lst us36)]) hS176)) (Gr.tr g195 (Gr.tr g208 (Gr.tr g221 (Gr.tr g248 (Gr.new (Sta.freeAt (l1 := []) hS249))))))))))), hS252, _, _, _, _, _, _, rfl, rfl, (Dt.gr (Gr.tr g175 (Gr.tr (Gr.new (Sta.freeAt (l1 := [(p35, .lst us36)]) hS176)) (Gr.tr g195 (Gr.tr g208 (Gr.tr g221 (Gr.tr g248 (Gr.new (Sta.freeAt (l1 := []) hS249)))))))) (Dt.lst (.inl (.inl upd_same)) (Dts.gr (Gr.new (Sta.freeAt (l1 := [(p35, .lst us36), (p18, .lst (x12.map V.int))]) hS145)) (Dts.of_ints _)))), (Dt.gr (Gr.tr g195 (Gr.tr g208 (Gr.tr g221 (Gr.tr g248 (Gr.new (Sta.freeAt (l1 := []) hS249)))))) (Dt.lst (.inl (.inl upd_same)) (Dts.gr (Gr.new (Sta.freeAt (l1 := [(p35, .lst us36)]) hS176)) (Dts.of_ints _)))), (Dt.lst (.inl (.inl upd_same)) (Dts.gr (Gr.new (Sta.freeAt (l1 := []) hS249)) hu251))⟩
          · rw [if_neg (bf hc)] at k79
            obtain ⟨x257, k258, k79⟩ := bnd k79
            refine s_if (b := (decide (x257 = (7 : Int)))) hS256 (t_test (K := K) (d_eqI (d_ix (e := eI) (d_var rfl (Dt.gr (Gr.tr g59 (Gr.tr g70 (Gr.tr g121 (Gr.tr g144 (Gr.tr (Gr.new (Sta.freeAt (l1 := [(p35, .lst us36), (p18, .lst (x12.map V.int))]) hS145)) (Gr.tr g175 (Gr.tr (Gr.new (Sta.freeAt (l1 := [(p35, .lst us36)]) hS176)) (Gr.tr g195 g255)))))))) hv49)) d_int k258) d_int)) (fun hc F259 H260 g261 hS262 => ?_) (fun hc F272 H273 g274 hS275 => ?_)
            · rw [if_pos hc] at k79
              have hS263 := Sta.frozeAt (l1 := []) hS262
              obtain ⟨x264, k265, k79⟩ := bnd k79
              refine s_set (K := K) (d := (eL (eT3 eS eI eI)) x264) (i := 8) (σ' := fun v270 => [some a0, some (.int cell_here_2), some v48, some (.int x55), some (.int x66), some (.ref p9), some (.ref p18), some (.int x21), some v270, none, none, none]) hS263 (EvC.dd (c_cat (en := (eT3 eS eI eI)) (d_var rfl (Dt.lst (.inl (.inl upd_same)) (Dts.gr (Gr.new (Sta.freeAt (l1 := []) hS262)) (Dts.gr (Gr.tr g39 (Gr.tr g46 (Gr.tr g59 (Gr.tr g70 (Gr.tr g121 (Gr.tr g144 (Gr.tr (Gr.new (Sta.freeAt (l1 := [(p35, .lst us36), (p18, .lst (x12.map V.int))]) hS145)) (Gr.tr g175 (Gr.tr (Gr.new (Sta.freeAt (l1 := [(p35, .lst us36)]) hS176)) (Gr.tr g195 (Gr.tr g255 g261))))))))))) hu37)))) (d_lst (a_cons (d_tup (a_cons d_str (a_cons (d_var rfl (.int _)) (a_cons (d_var rfl (.int _)) a_nil))) (Nat.le_of_ble_eq_true rfl)) a_nil) (Nat.le_of_ble_eq_true rfl)) k265)) (fun _ => rfl) (fun v270 F266 H267 g268 hS269 hv271 => ?_)
              obtain ⟨rfl, rfl, rfl, rfl⟩ := pr4 (sm k79)
              exact jn78 _ _ ⟨_, _, (Gr.tr g121 (Gr.tr g144 (Gr.tr (Gr.new (Sta.freeAt (l1 := [(p35, .lst us36), (p18, .lst (x12.map V.int))]) hS145)) (Gr.tr g175 (Gr.tr (Gr.new (Sta.freeAt (l1 := [(p35, .lst us36)]) hS176)) (Gr.tr g195 (Gr.tr g255 (Gr.tr g261 (Gr.tr (Gr.new (Sta.freeAt (l1 := []) hS262)) g268))))))))), hS269, _, _, _, _, _, _, rfl, rfl, (Dt.gr (Gr.tr g175 (Gr.tr (Gr.new (Sta.freeAt (l1 := [(p35, .lst us36)]) hS176)) (Gr.tr g195 (Gr.tr g255 (Gr.tr g261 (Gr.tr (Gr.new (Sta.freeAt (l1 := []) hS262)) g268)))))) (Dt.lst (.inl (.inl upd_same)) (Dts.gr (Gr.new (Sta.freeAt (l1 := [(p35, .lst us36), (p18, .lst (x12.map V.int))]) hS145)) (Dts.of_ints _)))), (Dt.gr (Gr.tr g195 (Gr.tr g255 (Gr.tr g261 (Gr.tr (Gr.new (Sta.freeAt (l1 := []) hS262)) g268)))) (Dt.lst (.inl (.inl upd_same)) (Dts.gr (Gr.new (Sta.freeAt (l1 := [(p35, .lst us36)]) hS176)) (Dts.of_ints _)))), hv271⟩
            · rw [if_neg (bf hc)] at k79
              obtain ⟨x276, k277, k79⟩ := bnd k79
              refine s_if (b := (decide (x276 = (8 : Int)))) hS275 (t_test (K := K) (d_eqI (d_ix (e := eI) (d_var rfl (Dt.gr (Gr.tr g59 (Gr.tr g70 (Gr.tr g121 (Gr.tr g144 (Gr.tr (Gr.new (Sta.freeAt (l1 := [(p35, .lst us36), (p18, .lst (x12.map V.int))]) hS145)) (Gr.tr g175 (Gr.tr (Gr.new (Sta.freeAt (l1 := [(p35, .lst us36)]) hS176)) (Gr.tr g195 (Gr.tr g255 g274))))))))) hv49)) d_int k277) d_int)) (fun hc F278 H279 g280 hS281 => ?_) (fun hc F291 H292 g293 hS294 => ?_)
              · rw [if_pos hc] at k79
                have hS282 := Sta.frozeAt (l1 := []) hS281
                obtain ⟨x283, k284, k79⟩ := bnd k79
                refine s_set (K := K) (d := (eL (eT3 eS eI eI)) x283) (i := 8) (σ' := fun v289 => [some a0, some (.int cell_here_2), some v48, some (.int x55), some (.int x66), some (.ref p9), some (.ref p18), some (.int x21), some v289, none, none, none]) hS282 (EvC.dd (c_cat (en := (eT3 eS eI eI)) (d_lst (a_cons (d_tup (a_cons d_str (a_cons (d_var rfl (.int _)) (a_cons (d_var rfl (.int _)) a_nil))) (Nat.le_of_ble_eq_true rfl)) (a_cons (d_tup (a_cons d_str (a_cons (d_var rfl (.int _)) (a_cons (d_var rfl (.int _)) a_nil))) (Nat.le_of_ble_eq_true rfl)) a_nil)) (Nat.le_of_ble_eq_true rfl)) (d_var rfl (Dt.lst (.inl (.inl upd_same)) (Dts.gr (Gr.new (Sta.freeAt (l1 := []) hS281)) (Dts.gr (Gr.tr g39 (Gr.tr g46 (Gr.tr g59 (Gr.tr g70 (Gr.tr g121 (Gr.tr g144 (Gr.tr (Gr.new (Sta.freeAt (l1 := [(p35, .lst us36), (p18, .lst (x12.map V.int))]) hS145)) (Gr.tr g175 (Gr.tr (Gr.new (Sta.freeAt (l1 := [(p35, .lst us36)]) hS176)) (Gr.tr g195 (Gr.tr g255 (Gr.tr g274 g280)))))))))))) hu37)))) k284)) (fun _ => rfl) (fun v289 F285 H286 g287 hS288 hv290 => ?_)
                obtain ⟨rfl, rfl, rfl, rfl⟩ := pr4 (sm k79)
                exact jn78 _ _ ⟨_, _, (Gr.tr g121 (Gr.tr g144 (Gr.tr (Gr.new (Sta.freeAt (l1 := [(p35, .lst us36), (p18, .lst (x12.map V.int))]) hS145)) (Gr.tr g175 (Gr.tr (Gr.new (Sta.freeAt (l1 := [(p35, .lst us36)]) hS176)) (Gr.tr g195 (Gr.tr g255 (Gr.tr g274 (Gr.tr g280 (Gr.tr (Gr.new (Sta.freeAt (l1 := []) hS281)) g287)))))))))), hS288, _, _, _, _, _, _, rfl, rfl, (Dt.gr (Gr.tr g175 (Gr.tr (Gr.new (Sta.freeAt (l1 := [(p35, .lst us36)]) hS176)) (Gr.tr g195 (Gr.tr g255 (Gr.tr g274 (Gr.tr g280 (Gr.tr (Gr.new (Sta.freeAt (l1 := []) hS281)) g287))))))) (Dt.lst (.inl (.inl upd_same)) (Dts.gr (Gr.new (Sta.freeAt (l1 := [(p35, .lst us36), (p18, .lst (x12.map V.int))]) hS145)) (Dts.of_ints _)))), (Dt.gr (Gr.tr g195 (Gr.tr g255 (Gr.tr g274 (Gr.tr g280 (Gr.tr (Gr.new (Sta.freeAt (l1 := []) hS281)) g287))))) (Dt.lst (.inl (.inl upd_same)) (Dts.gr (Gr.new (Sta.freeAt (l1 := [(p35, .lst us36)]) hS176)) (Dts.of_ints _)))), hv290⟩
              · rw [if_neg (bf hc)] at k79
                obtain ⟨x295, k296, k79⟩ := bnd k79
                refine s_if (b := (decide (x295 = (9 : Int)))) hS294 (t_test (K := K) (d_eqI (d_ix (e := eI) (d_var rfl (Dt.gr (Gr.tr g59 (Gr.tr g70 (Gr.tr g121 (Gr.tr g144 (Gr.tr (Gr.new (Sta.freeAt (l1 := [(p35, .lst us36), (p18, .lst (x12.map V.int))]) hS145)) (Gr.tr g175 (Gr.tr (Gr.new (Sta.freeAt (l1 := [(p35, .lst us36)]) hS176)) (Gr.tr g195 (Gr.tr g255 (Gr.tr g274 g293)))))))))) hv49)) d_int k296) d_int)) (fun hc F297 H298 g299 hS300 => ?_) (fun hc F326 H327 g328 hS329 => ?_)
                · rw [if_pos hc] at k79
                  have hS301 := Sta.frozeAt (l1 := []) hS300
                  obtain ⟨x302, k303, k79⟩ := bnd k79
                  obtain ⟨x304, k305, k79⟩ := bnd k79
                  obtain ⟨x306, k307, k79⟩ := bnd k79
                  obtain ⟨x308, k309, k79⟩ := bnd k79
                  obtain ⟨x310, k311, k79⟩ := bnd k79
                  obtain ⟨x318, k319, k79⟩ := bnd k79
                  refine s_asg (K := K) (d := (eL (eL eI)) x310) hS301 (d_ix (e := (eL (eL eI))) (d_lst (a_cons (d_lst (a_cons (EvC.dd (c_cat (en := eI) (d_var rfl (Dt.gr (Gr.tr g175 (Gr.tr (Gr.new (Sta.freeAt (l1 := [(p35, .lst us36)]) hS176)) (Gr.tr g195 (Gr.tr g255 (Gr.tr g274 (Gr.tr g293 (Gr.tr g299 (Gr.new (Sta.freeAt (l1 := []) hS300))))))))) (Dt.lst (.inl (.inl upd_same)) (Dts.gr (Gr.new (Sta.freeAt (l1 := [(p35, .lst us36), (p18, .lst (x12.map V.int))]) hS145)) (Dts.of_ints _))))) (d_lst (a_cons d_int a_nil) (Nat.le_of_ble_eq_true rfl)) k303)) (a_cons (EvC.dd (c_cat (en := eI) (d_var rfl (Dt.gr (Gr.tr g195 (Gr.tr g255 (Gr.tr g274 (Gr.tr g293 (Gr.tr g299 (Gr.new (Sta.freeAt (l1 := []) hS300))))))) (Dt.lst (.inl (.inl upd_same)) (Dts.gr (Gr.new (Sta.freeAt (l1 := [(p35, .lst us36)]) hS176)) (Dts.of_ints _))))) (d_lst (a_cons d_int a_nil) (Nat.le_of_ble_eq_true rfl)) k305)) a_nil)) (Nat.le_of_ble_eq_true rfl)) (a_cons (d_lst (a_cons (d_sl (d_var rfl (Dt.gr (Gr.tr g175 (Gr.tr (Gr.new (Sta.freeAt (l1 := [(p35, .lst us36)]) hS176)) (Gr.tr g195 (Gr.tr g255 (Gr.tr g274 (Gr.tr g293 (Gr.tr g299 (Gr.new (Sta.freeAt (l1 := []) hS300))))))))) (Dt.lst (.inl (.inl upd_same)) (Dts.gr (Gr.new (Sta.freeAt (l1 := [(p35, .lst us36), (p18, .lst (x12.map V.int))]) hS145)) (Dts.of_ints _))))) o_none (o_some (K := K) (d_neg d_int))) (a_cons (d_sl (d_var rfl (Dt.gr (Gr.tr g195 (Gr.tr g255 (Gr.tr g274 (Gr.tr g293 (Gr.tr g299 (Gr.new (Sta.freeAt (l1 := []) hS300))))))) (Dt.lst (.inl (.inl upd_same)) (Dts.gr (Gr.new (Sta.freeAt (l1 := [(p35, .lst us36)]) hS176)) (Dts.of_ints _))))) o_none (o_some (K := K) (d_neg d_int))) a_nil)) (Nat.le_of_ble_eq_true rfl)) (a_cons (d_lst (a_cons (d_var rfl (Dt.gr (Gr.tr g175 (Gr.tr (Gr.new (Sta.freeAt (l1 := [(p35, .lst us36)]) hS176)) (Gr.tr g195 (Gr.tr g255 (Gr.tr g274 (Gr.tr g293 (Gr.tr g299 (Gr.new (Sta.freeAt (l1 := []) hS300))))))))) (Dt.lst (.inl (.inl upd_same)) (Dts.gr (Gr.new (Sta.freeAt (l1 := [(p35, .lst us36), (p18, .lst (x12.map V.int))]) hS145)) (Dts.of_ints _))))) (a_cons (EvC.dd (c_cat (en := eI) (d_var rfl (Dt.gr (Gr.tr g195 (Gr.tr g255 (Gr.tr g274 (Gr.tr g293 (Gr.tr g299 (Gr.new (Sta.freeAt (l1 := []) hS300))))))) (Dt.lst (.inl (.inl upd_same)) (Dts.gr (Gr.new (Sta.freeAt (l1 := [(p35, .lst us36)]) hS176)) (Dts.of_ints _))))) (d_lst (a_cons d_int a_nil) (Nat.le_of_ble_eq_true rfl)) k307)) a_nil)) (Nat.le_of_ble_eq_true rfl)) a_nil))) (Nat.le_of_ble_eq_true rfl)) (d_modC (d_ix (e := eI) (d_var rfl (Dt.gr (Gr.tr g59 (Gr.tr g70 (Gr.tr g121 (Gr.tr g144 (Gr.tr (Gr.new (Sta.freeAt (l1 := [(p35, .lst us36), (p18, .lst (x12.map V.int))]) hS145)) (Gr.tr g175 (Gr.tr (Gr.new (Sta.freeAt (l1 := [(p35, .lst us36)]) hS176)) (Gr.tr g195 (Gr.tr g255 (Gr.tr g274 (Gr.tr g293 (Gr.tr g299 (Gr.new (Sta.freeAt (l1 := []) hS300)))))))))))))) hv49)) d_int k309) d_int (by decide)) k311) (fun v316 F312 H313 g314 hS315 hv317 => ?_)
                  rw [tup2M_eq k319] at hv317
                  obtain ⟨p320, w322, w323, rfl, hT321, hw324, hw325⟩ := ul2 hv317
                  refine tg (σ' := [some a0, some (.int cell_here_2), some v48, some (.int x55), some (.int x66), some w322, some w323, some (.int x21), some (.ref p35), none, none, none]) (fun Q hq => ⟨p320, [_, _], rfl, gr_L hS315.fr hT321, rfl, _, _, rfl, _, _, rfl, rfl, hq⟩) ?_
                  obtain ⟨rfl, rfl, rfl, rfl⟩ := pr4 (sm k79)
                  exact jn78 _ _ ⟨_, _, (Gr.tr g121 (Gr.tr g144 (Gr.tr (Gr.new (Sta.freeAt (l1 := [(p35, .lst us36), (p18, .lst (x12.map V.int))]) hS145)) (Gr.tr g175 (Gr.tr (Gr.new (Sta.freeAt (l1 := [(p35, .lst us36)]) hS176)) (Gr.tr g195 (Gr.tr g255 (Gr.tr g274 (Gr.tr g293 (Gr.tr g299 (Gr.tr (Gr.new (Sta.freeAt (l1 := []) hS300)) g314))))))))))), hS315, _, _, _, _, _, _, rfl, rfl, hw324, hw325, (Dt.gr g314 (Dt.lst (.inl (.inl upd_same)) (Dts.gr (Gr.new (Sta.freeAt (l1 := []) hS300)) (Dts.gr (Gr.tr g39 (Gr.tr g46 (Gr.tr g59 (Gr.tr g70 (Gr.tr g121 (Gr.tr g144 (Gr.tr (Gr.new (Sta.freeAt (l1 := [(p35, .lst us36), (p18, .lst (x12.map V.int))]) hS145)) (Gr.tr g175 (Gr.tr (Gr.new (Sta.freeAt (l1 := [(p35, .lst us36)]) hS176)) (Gr.tr g195 (Gr.tr g255 (Gr.tr g274 (Gr.tr g293 g299))))))))))))) hu37))))⟩
                · rw [if_neg (bf hc)] at k79
                  obtain ⟨x333, k334, k79⟩ := bnd k79
                  obtain ⟨x337, k338, k79⟩ := bnd k79
                  refine s_if (b := x337) hS329 (t_lendX (l1 := []) (m1 := []) (fun F330 g331 hn332 => (t_andM (r := x337) (t_test (K := K) (d_eqI (d_ix (e := eI) (d_var rfl (Dt.gr (Gr.tr g59 (Gr.tr g70 (Gr.tr g121 (Gr.tr g144 (Gr.tr (Gr.new (Sta.freeAt (l1 := [(p35, .lst us36), (p18, .lst (x12.map V.int))]) hS145)) (Gr.tr g175 (Gr.tr (Gr.new (Sta.freeAt (l1 := [(p35, .lst us36)]) hS176)) (Gr.tr g195 (Gr.tr g255 (Gr.tr g274 (Gr.tr g293 (Gr.tr g328 (Gr.tr g331 (Gr.new hn332)))))))))))))) hv49)) d_int k334) d_int)) (fun hc => by rw [if_pos hc] at k338; obtain ⟨x335, k336, k338⟩ := bnd k338; obtain rfl := sm k338; exact (t_test (K := K) (d_neTM (EqE.l (EqE.t3 eqE_S eqE_I eqE_I)) (d_var rfl (lent_l hn332 (Dts.gr g331 (Dts.gr (Gr.tr g39 (Gr.tr g46 (Gr.tr g59 (Gr.tr g70 (Gr.tr g121 (Gr.tr g144 (Gr.tr (Gr.new (Sta.freeAt (l1 := [(p35, .lst us36), (p18, .lst (x12.map V.int))]) hS145)) (Gr.tr g175 (Gr.tr (Gr.new (Sta.freeAt (l1 := [(p35, .lst us36)]) hS176)) (Gr.tr g195 (Gr.tr g255 (Gr.tr g274 (Gr.tr g293 g328))))))))))))) hu37)))) (d_lst a_nil (Nat.le_of_ble_eq_true rfl)) k336))) (fun hc => by rw [if_neg (bf hc)] at k338; exact (sm k338).symm)))) (fun hc F339 H340 g341 hS342 => ?_) (fun hc F361 H362 g363 hS364 => ?_)
                  · rw [if_pos hc] at k79
                    obtain ⟨x346, k347, k79⟩ := bnd k79
                    obtain ⟨x348, k349, k79⟩ := bnd k79
                    obtain ⟨x350, k351, k79⟩ := bnd k79
                    obtain ⟨boxes_here_352, k353, k79⟩ := bnd k79
                    refine s_appGV (K := K) (k1 := []) (x := (x350.1, x55, x66)) (l1 := []) (p := p35) (en := (eT3 eS eI eI)) hS342 (Dts.gr (Gr.tr g39 (Gr.tr g46 (Gr.tr g59 (Gr.tr g70 (Gr.tr g121 (Gr.tr g144 (Gr.tr (Gr.new (Sta.freeAt (l1 := [(p35, .lst us36), (p18, .lst (x12.map V.int))]) hS145)) (Gr.tr g175 (Gr.tr (Gr.new (Sta.freeAt (l1 := [(p35, .lst us36)]) hS176)) (Gr.tr g195 (Gr.tr g255 (Gr.tr g274 (Gr.tr g293 (Gr.tr g328 g341)))))))))))))) hu37) (vp_var rfl) (d_lendO (l1 := []) (m1 := []) (nt_l _) ((nl_T3 nl_S nl_I nl_I) _) (fun F343 g344 hn345 => (d_tup (a_cons (d_ixT (d_ix (e := (eT3 eS eI eI)) (d_var rfl (lent_l hn345 (Dts.gr g344 (Dts.gr (Gr.tr g39 (Gr.tr g46 (Gr.tr g59 (Gr.tr g70 (Gr.tr g121 (Gr.tr g144 (Gr.tr (Gr.new (Sta.freeAt (l1 := [(p35, .lst us36), (p18, .lst (x12.map V.int))]) hS145)) (Gr.tr g175 (Gr.tr (Gr.new (Sta.freeAt (l1 := [(p35, .lst us36)]) hS176)) (Gr.tr g195 (Gr.tr g255 (Gr.tr g274 (Gr.tr g293 (Gr.tr g328 g341)))))))))))))) hu37)))) (d_mod (d_ix (e := eI) (d_var rfl (Dt.gr (Gr.tr g59 (Gr.tr g70 (Gr.tr g121 (Gr.tr g144 (Gr.tr (Gr.new (Sta.freeAt (l1 := [(p35, .lst us36), (p18, .lst (x12.map V.int))]) hS145)) (Gr.tr g175 (Gr.tr (Gr.new (Sta.freeAt (l1 := [(p35, .lst us36)]) hS176)) (Gr.tr g195 (Gr.tr g255 (Gr.tr g274 (Gr.tr g293 (Gr.tr g328 (Gr.tr g341 (Gr.tr g344 (Gr.new hn345))))))))))))))) hv49)) d_int k347) (d_len (e := (eT3 eS eI eI)) (a_cons (d_var rfl (lent_l hn345 (Dts.gr g344 (Dts.gr (Gr.tr g39 (Gr.tr g46 (Gr.tr g59 (Gr.tr g70 (Gr.tr g121 (Gr.tr g144 (Gr.tr (Gr.new (Sta.freeAt (l1 := [(p35, .lst us36), (p18, .lst (x12.map V.int))]) hS145)) (Gr.tr g175 (Gr.tr (Gr.new (Sta.freeAt (l1 := [(p35, .lst us36)]) hS176)) (Gr.tr g195 (Gr.tr g255 (Gr.tr g274 (Gr.tr g293 (Gr.tr g328 g341)))))))))))))) hu37)))) a_nil)) k349) k351) d_int rfl) (a_cons (d_var rfl (.int _)) (a_cons (d_var rfl (.int _)) a_nil))) (Nat.le_of_ble_eq_true rfl)))) k353 (fun us358 F354 H355 g356 hS357 hu359 => ?_)
                    have hS360 := Sta.frozeAt (l1 := []) hS357
                    obtain ⟨rfl, rfl, rfl, rfl⟩ := pr4 (sm k79)
                    exact jn78 _ _ ⟨_, _, (Gr.tr g121 (Gr.tr g144 (Gr.tr (Gr.new (Sta.freeAt (l1 := [(p35, .lst us36), (p18, .lst (x12.map V.int))]) hS145)) (Gr.tr g175 (Gr.tr (Gr.new (Sta.freeAt (l1 := [(p35, .lst us36)]) hS176)) (Gr.tr g195 (Gr.tr g255 (Gr.tr g274 (Gr.tr g293 (Gr.tr g328 (Gr.tr g341 (Gr.tr g356 (Gr.new (Sta.freeAt (l1 := []) hS357)))))))))))))), hS360, _, _, _, _, _, _, rfl, rfl, (Dt.gr (Gr.tr g175 (Gr.tr (Gr.new (Sta.freeAt (l1 := [(p35, .lst us36)]) hS176)) (Gr.tr g195 (Gr.tr g255 (Gr.tr g274 (Gr.tr g293 (Gr.tr g328 (Gr.tr g341 (Gr.tr g356 (Gr.new (Sta.freeAt (l1 := []) hS357))))))))))) (Dt.lst (.inl (.inl upd_same)) (Dts.gr (Gr.new (Sta.freeAt (l1 := [(p35, .lst us36), (p18, .lst (x12.map V.int))]) hS145)) (Dts.of_ints _)))), (Dt.gr (Gr.tr g195 (Gr.tr g255 (Gr.tr g274 (Gr.tr g293 (Gr.tr g328 (Gr.tr g341 (Gr.tr g356 (Gr.new (Sta.freeAt (l1 := []) hS357))))))))) (Dt.lst (.inl (.inl upd_same)) (Dts.gr (Gr.new (Sta.freeAt (l1 := [(p35, .lst us36)]) hS176)) (Dts.of_ints _)))), (Dt.lst (.inl (.inl upd_same)) (Dts.gr (Gr.new (Sta.freeAt (l1 := []) hS357)) hu359))⟩
                  · rw [if_neg (bf hc)] at k79
                    refine nxt ?_
                    have hS365 := Sta.frozeAt (l1 := []) hS364
                    obtain ⟨rfl, rfl, rfl, rfl⟩ := pr4 (sm k79)
                    exact jn78 _ _ ⟨_, _, (Gr.tr g121 (Gr.tr g144 (Gr.tr (Gr.new (Sta.freeAt (l1 := [(p35, .lst us36), (p18, .lst (x12.map V.int))]) hS145)) (Gr.tr g175 (Gr.tr (Gr.new (Sta.freeAt (l1 := [(p35, .lst us36)]) hS176)) (Gr.tr g195 (Gr.tr g255 (Gr.tr g274 (Gr.tr g293 (Gr.tr g328 (Gr.tr g363 (Gr.new (Sta.freeAt (l1 := []) hS364))))))))))))), hS365, _, _, _, _, _, _, rfl, rfl, (Dt.gr (Gr.tr g175 (Gr.tr (Gr.new (Sta.freeAt (l1 := [(p35, .lst us36)]) hS176)) (Gr.tr g195 (Gr.tr g255 (Gr.tr g274 (Gr.tr g293 (Gr.tr g328 (Gr.tr g363 (Gr.new (Sta.freeAt (l1 := []) hS364)))))))))) (Dt.lst (.inl (.inl upd_same)) (Dts.gr (Gr.new (Sta.freeAt (l1 := [(p35, .lst us36), (p18, .lst (x12.map V.int))]) hS145)) (Dts.of_ints _)))), (Dt.gr (Gr.tr g195 (Gr.tr g255 (Gr.tr g274 (Gr.tr g293 (Gr.tr g328 (Gr.tr g363 (Gr.new (Sta.freeAt (l1 := []) hS364)))))))) (Dt.lst (.inl (.inl upd_same)) (Dts.gr (Gr.new (Sta.freeAt (l1 := [(p35, .lst us36)]) hS176)) (Dts.of_ints _)))), (Dt.lst (.inl (.inl upd_same)) (Dts.gr (Gr.new (Sta.freeAt (l1 := []) hS364)) (Dts.gr (Gr.tr g39 (Gr.tr g46 (Gr.tr g59 (Gr.tr g70 (Gr.tr g121 (Gr.tr g144 (Gr.tr (Gr.new (Sta.freeAt (l1 := [(p35, .lst us36), (p18, .lst (x12.map V.int))]) hS145)) (Gr.tr g175 (Gr.tr (Gr.new (Sta.freeAt (l1 := [(p35, .lst us36)]) hS176)) (Gr.tr g195 (Gr.tr g255 (Gr.tr g274 (Gr.tr g293 (Gr.tr g328 g363)))))))))))))) hu37)))⟩
theorem sc_turned : FnScope N_turned ["_law_store_here", "_law_cell_here"] (defScope s_turned) := ⟨rfl, rfl, rfl, by decide +kernel, rfl, by decide +kernel, by decide +kernel⟩
theorem ok_turned {P : Program} {w : World} {K : PySem.W.Frag} {mg : Str → Option Value} {base : Heap} (hF : Df K mg "_law_turned" s_turned) (m_len : mg "len" = none) (m_list : mg "list" = none) (o_draws : Ok P w K mg base 1 "_law_draws" ["_law_cell_here", "_law_k", "_law_sizes"] (sp_draws K)) : Ok P w K mg base 2 "_law_turned" ["_law_store_here", "_law_cell_here"] (sp_turned K) := by
  obtain ⟨⟨_, G_draws, bd_draws, _⟩, kp_draws, gm_draws⟩ := o_draws
  obtain ⟨⟨fd, F⟩, gm⟩ := hF
  refine ⟨⟨fd, F.ok sc_turned (fun vs H Q E h => ?_) (fun cdv A outer s H vs Q E hr h => ⟨t_turned K, PSs.nox ?_, w_turned vs H Q E h⟩), F.bindsN fun _ _ _ _ _ _ us hl => match us, hl with | [_, _], _ => rfl, lk_of F⟩, F.kp, gm⟩
  · obtain ⟨F0, cs, x, y, h, _⟩ := h; exact Dts.len h
  · exact (pss_cons (ps_asg (pe_tup (pa_cons (pe_callTy cr_list (by rfl) m_list (by decide +kernel) (pa_cons (pe_ix ix_tup (pv 0) pe_int (fun _ _ => rfl)) pa_nil)) (pa_cons (pe_callTy cr_list (by rfl) m_list (by decide +kernel) (pa_cons (pe_ix ix_tup (pv 0) pe_int (fun _ _ => rfl)) pa_nil)) (pa_cons (pe_ix ix_tup (pv 0) pe_int (fun _ _ => rfl)) (pa_cons (pe_callTy cr_list (by rfl) m_list (by decide +kernel) (pa_cons (pe_ix ix_tup (pv 0) pe_int (fun _ _ => rfl)) pa_nil)) pa_nil))))) (pg_tup rfl (pgs_cons (pg_name (i := 5) sc_turned.nd rfl (Or.inl rfl)) (pgs_cons (pg_name (i := 6) sc_turned.nd rfl (Or.inl rfl)) (pgs_cons (pg_name (i := 7) sc_turned.nd rfl (Or.inl rfl)) (pgs_cons (pg_name (i := 8) sc_turned.nd rfl (Or.inl rfl)) pgs_nil)))))) (pss_cons (ps_set (i := 2) sc_turned.nd rfl (Or.inl rfl) (pe_call G_draws (hr.mono (by decide)) (by rfl) gm_draws kp_draws bd_draws .nil pass0 (pa_cons (pv 1) (pa_cons pe_int (pa_cons (pe_lst (pa_cons pe_int (pa_cons pe_int (pa_cons pe_int (pa_cons pe_int (pa_cons pe_int pa_nil)))))) pa_nil))))) (pss_cons (ps_set (i := 3) sc_turned.nd rfl (Or.inl rfl) (pe_op op_mod (pe_ix ix_list (pv 2) pe_int (fun _ _ => rfl)) (pe_callB cr_lenL (by rfl) m_len PySem.boot_len (pa_cons (pv 5) pa_nil)))) (pss_cons (ps_set (i := 4) sc_turned.nd rfl (Or.inl rfl) (pe_op op_mod (pe_ix ix_list (pv 2) pe_int (fun _ _ => rfl)) (pe_callB cr_lenL (by rfl) m_len PySem.boot_len (pa_cons (pv 5) pa_nil)))) (pss_cons (ps_if (pt_cmpR op_eq (pe_ix ix_list (pv 2) pe_int (fun _ _ => rfl)) pe_int (nomark _)) (pss_one (ps_asg (pe_op op_sub (pe_ix ix_list (pv 5) (pv 3) (fun _ _ => rfl)) pe_int) (pg_sub (pv 5) (pv 3) set_list))) (pss_one (ps_if (pt_cmpR op_eq (pe_ix ix_list (pv 2) pe_int (fun _ _ => rfl)) pe_int (nomark _)) (pss_one (ps_asg (pe_ix ix_list (pe_lst (pa_cons pe_int (pa_cons pe_int (pa_cons pe_int (pa_cons pe_int pa_nil))))) (pe_op op_mod (pe_ix ix_list (pv 2) pe_int (fun _ _ => rfl)) pe_int) (fun _ _ => rfl)) (pg_sub (pv 5) (pv 3) set_list))) (pss_one (ps_if (PW.pt (pw_and (pt_cmpR op_eq (pe_ix ix_list (pv 2) pe_int (fun _ _ => rfl)) pe_int (nomark _)) (pw_and1 (pt_cmpR (op_neD hr.units) (pv 6) (pe_lst pa_nil) (nomark _))))) (pss_one (ps_asg (pe_ix ix_list (pe_lst (pa_cons pe_int (pa_cons pe_int (pa_cons (pe_op op_pow pe_int pe_int) (pa_cons (pe_op op_add (pe_op op_pow pe_int pe_int) pe_int) pa_nil))))) (pe_op op_mod (pe_ix ix_list (pv 2) pe_int (fun _ _ => rfl)) pe_int) (fun _ _ => rfl)) (pg_sub (pv 6) (pe_op op_mod (pv 3) (pe_callB cr_lenL (by rfl) m_len PySem.boot_len (pa_cons (pv 6) pa_nil))) set_list))) (pss_one (ps_if (pt_cmpR op_eq (pe_ix ix_list (pv 2) pe_int (fun _ _ => rfl)) pe_int (nomark _)) (pss_one (ps_set (i := 7) sc_turned.nd rfl (Or.inl rfl) (pe_ix ix_list (pe_lst (pa_cons pe_int (pa_cons pe_int (pa_cons pe_int (pa_cons pe_int pa_nil))))) (pe_op op_mod (pe_ix ix_list (pv 2) pe_int (fun _ _ => rfl)) pe_int) (fun _ _ => rfl)))) (pss_one (ps_if (PW.pt (pw_and (pt_cmpR op_in_seq (pe_ix ix_list (pv 2) pe_int (fun _ _ => rfl)) (pe_tup (pa_cons pe_int (pa_cons pe_int pa_nil))) (by rfl)) (pw_and1 (pt_cmpR (op_neD hr.units) (pv 8) (pe_lst pa_nil) (nomark _))))) (pss_cons (ps_asg (pe_ix ix_list (pv 8) (pe_op op_mod (pe_ix ix_list (pv 2) pe_int (fun _ _ => rfl)) (pe_callB cr_lenL (by rfl) m_len PySem.boot_len (pa_cons (pv 8) pa_nil))) (fun _ _ => rfl)) (pg_tup rfl (pgs_cons (pg_name (i := 9) sc_turned.nd rfl (Or.inl rfl)) (pgs_cons (pg_name (i := 10) sc_turned.nd rfl (Or.inl rfl)) (pgs_cons (pg_name (i := 11) sc_turned.nd rfl (Or.inl rfl)) pgs_nil))))) (pss_one (ps_asg (pe_ix ix_list (pe_lst (pa_cons (pe_tup (pa_cons (pv 9) (pa_cons (pv 3) (pa_cons (pv 11) pa_nil)))) (pa_cons (pe_tup (pa_cons (pv 9) (pa_cons (pv 10) (pa_cons (pv 3) pa_nil)))) pa_nil))) (pe_op op_sub (pe_ix ix_list (pv 2) pe_int (fun _ _ => rfl)) pe_int) (fun _ _ => rfl)) (pg_sub (pv 8) (pe_op op_mod (pe_ix ix_list (pv 2) pe_int (fun _ _ => rfl)) (pe_callB cr_lenL (by rfl) m_len PySem.boot_len (pa_cons (pv 8) pa_nil))) set_list)))) (pss_one (ps_if (pt_cmpR op_eq (pe_ix ix_list (pv 2) pe_int (fun _ _ => rfl)) pe_int (nomark _)) (pss_one (ps_set (i := 8) sc_turned.nd rfl (Or.inl rfl) (pe_op op_catS (pv 8) (pe_lst (pa_cons (pe_tup (pa_cons pe_str (pa_cons (pv 3) (pa_cons (pv 4) pa_nil)))) pa_nil))))) (pss_one (ps_if (pt_cmpR op_eq (pe_ix ix_list (pv 2) pe_int (fun _ _ => rfl)) pe_int (nomark _)) (pss_one (ps_set (i := 8) sc_turned.nd rfl (Or.inl rfl) (pe_op op_catS (pe_lst (pa_cons (pe_tup (pa_cons pe_str (pa_cons (pv 3) (pa_cons (pv 4) pa_nil)))) (pa_cons (pe_tup (pa_cons pe_str (pa_cons (pv 4) (pa_cons (pv 3) pa_nil)))) pa_nil))) (pv 8)))) (pss_one (ps_if (pt_cmpR op_eq (pe_ix ix_list (pv 2) pe_int (fun _ _ => rfl)) pe_int (nomark _)) (pss_one (ps_asg (pe_ix ix_list (pe_lst (pa_cons (pe_lst (pa_cons (pe_op op_catS (pv 5) (pe_lst (pa_cons pe_int pa_nil))) (pa_cons (pe_op op_catS (pv 6) (pe_lst (pa_cons pe_int pa_nil))) pa_nil))) (pa_cons (pe_lst (pa_cons (pe_slice sl_list (pv 5) po_none (po_some (pe_un un_neg pe_int))) (pa_cons (pe_slice sl_list (pv 6) po_none (po_some (pe_un un_neg pe_int))) pa_nil))) (pa_cons (pe_lst (pa_cons (pv 5) (pa_cons (pe_op op_catS (pv 6) (pe_lst (pa_cons pe_int pa_nil))) pa_nil))) pa_nil)))) (pe_op op_mod (pe_ix ix_list (pv 2) pe_int (fun _ _ => rfl)) pe_int) (fun _ _ => rfl)) (pg_lst rfl (pgs_cons (pg_name (i := 5) sc_turned.nd rfl (Or.inl rfl)) (pgs_cons (pg_name (i := 6) sc_turned.nd rfl (Or.inl rfl)) pgs_nil))))) (pss_one (ps_if (PW.pt (pw_and (pt_cmpR op_eq (pe_ix ix_list (pv 2) pe_int (fun _ _ => rfl)) pe_int (nomark _)) (pw_and1 (pt_cmpR (op_neD hr.units) (pv 8) (pe_lst pa_nil) (nomark _))))) (pss_one (ps_expr (pe_bm PySem.F.plainAttrs_list PySem.F.slot_list_append PySem.F.type_list_append mt_append (pv 8) (pa_cons (pe_tup (pa_cons (pe_ix ix_tup (pe_ix ix_list (pv 8) (pe_op op_mod (pe_ix ix_list (pv 2) pe_int (fun _ _ => rfl)) (pe_callB cr_lenL (by rfl) m_len PySem.boot_len (pa_cons (pv 8) pa_nil))) (fun _ _ => rfl)) pe_int (fun _ _ => rfl)) (pa_cons (pv 3) (pa_cons (pv 4) pa_nil)))) pa_nil)))) pss_nil))))))))))))))))) (pss_one (ps_ret (pe_tup (pa_cons (pv 5) (pa_cons (pv 6) (pa_cons (pv 7) (pa_cons (pv 8) pa_nil))))))))))))
abbrev s_wrong : Stmt := (top 45)
def f_wrong_b170 (boxes_here_14 : (List (Str × Int × Int))) : Unit → (Int × Int) → Option (Fl Unit (Option Str)) := fun _ (bay_173, room_174) => (((filC (fun box_201 => (decide (box_201.2.1 = bay_173))) (fun box_201 => box_201) boxes_here_14)).bind fun x212 => ((if (decide (room_174 < (x212.length : Int))) = true then some true else (((filC (fun box_214 => (decide (box_214.2.2 = bay_173))) (fun box_214 => box_214) boxes_here_14)).bind fun x225 => some (decide (room_174 < (x225.length : Int)))))).bind fun x227 => (if x227 = true then some (Fl.rt (some ("boxes" : Str))) else some (Fl.nx ())))
def f_wrong : ((List Int) × (List Int) × Int × (List (Str × Int × Int))) → Option (Option Str) := fun store_here_1 => (letM store_here_1.1 fun rooms_8 => letM store_here_1.2.1 fun gaps_10 => letM store_here_1.2.2.1 fun most_12 => letM store_here_1.2.2.2 fun boxes_here_14 => (((if (!decide ((2 : Int) ≤ (rooms_8.length : Int) ∧ (rooms_8.length : Int) < (17 : Int))) = true then some true else (((minL rooms_8)).bind fun x26 => ((if (decide (x26 < (1 : Int))) = true then some true else (((maxL rooms_8)).bind fun x28 => some (decide ((40 : Int) < x28))))).bind fun x30 => some x30))).bind fun x32 => (if x32 = true then some (some ("rooms" : Str)) else (((if (!decide ((gaps_10.length : Int) = ((rooms_8.length : Int) - (1 : Int)))) = true then some true else (((minL gaps_10)).bind fun x48 => ((if (decide (x48 < (1 : Int))) = true then some true else (((maxL gaps_10)).bind fun x50 => some (decide ((1000000000 : Int) < x50))))).bind fun x52 => some x52))).bind fun x54 => (if x54 = true then some (some ("gaps" : Str)) else (if ((decide (most_12 < (1 : Int))) || (decide ((20 : Int) < most_12))) = true then some (some ("most" : Str)) else (((mapC (fun box_84 => box_84.1) boxes_here_14)).bind fun x95 => (((mapC (fun box_103 => box_103.2.1) boxes_here_14)).bind fun x114 => ((mapC (fun box_116 => box_116.2.2) boxes_here_14)).bind fun x127 => ((catM x114 x127)).bind fun x129 => (((if (decide ((60 : Int) < (boxes_here_14.length : Int))) = true then some true else (((setLenM x95)).bind fun x137 => ((if (!decide (x137 = (x95.length : Int))) = true then some true else (((filC (fun bay_139 => (!decide ((0 : Int) ≤ bay_139 ∧ bay_139 < (rooms_8.length : Int)))) (fun bay_139 => bay_139) x129)).bind fun x150 => some (!decide (x150 = ([] : (List Int))))))).bind fun x152 => some x152))).bind fun x154 => (if x154 = true then some (some ("boxes" : Str)) else (forF (f_wrong_b170 boxes_here_14) (enumM rooms_8) ()).bind fun r171 => match r171 with | .nx _ => some (none : Option Str) | .br _ => none | .rt z259 => some z259))))))))))
abbrev A_wrong : ((List Int) × (List Int) × Int × (List (Str × Int × Int))) → List PyData := fun x => [(eT4 (eL eI) (eL eI) eI (eL (eT3 eS eI eI))) x]
abbrev N_wrong : List Str := ["_law_store_here", "_law_names_here", "_law_bays", "_law_rooms", "_law_gaps", "_law_most", "_law_boxes_here", "_law_bay", "_law_room", "_law_box"]
abbrev sp_wrong (K : PySem.W.Frag) : Sp := spP K A_wrong (eO eS) f_wrong
def t_wrong (K : PySem.W.Frag) : TS := (tSeq (tAsg (tVar 0) (gTup K 4 (gCons (gName 3) (gCons (gName 4) (gCons (gName 5) (gCons (gName 6) gNil)))))) (tSeq (tIfS (tOr (tTest (tOp rNinRng (tCB (rLenL K) (tCons (tVar 3) tNil)) (tCB rRange2 (tCons (tC (.int 2)) (tCons (tC (.int 17)) tNil))))) (tOr (tTest (tOp (rI0 fun i j => .bl (decide (i < j))) (tCB (rMin K) (tCons (tVar 3) tNil)) (tC (.int 1)))) (tTest (tOp (rI0 fun i j => .bl (decide (j < i))) (tCB (rMax K) (tCons (tVar 3) tNil)) (tC (.int 40)))))) (tRet (tC (.str "rooms"))) tNext) (tSeq (tIfS (tOr (tTest (tOp rNe (tCB (rLenL K) (tCons (tVar 4) tNil)) (tOp (rI0 fun i j => .int (i - j)) (tCB (rLenL K) (tCons (tVar 3) tNil)) (tC (.int 1))))) (tOr (tTest (tOp (rI0 fun i j => .bl (decide (i < j))) (tCB (rMin K) (tCons (tVar 4) tNil)) (tC (.int 1)))) (tTest (tOp (rI0 fun i j => .bl (decide (j < i))) (tCB (rMax K) (tCons (tVar 4) tNil)) (tOp (rI CPow fun i j => .int (i ^ j.toNat)) (tC (.int 10)) (tC (.int 9))))))) (tRet (tC (.str "gaps"))) tNext) (tSeq (tIfS (tOr (tTest (tOp (rI0 fun i j => .bl (decide (i < j))) (tVar 5) (tC (.int 1)))) (tTest (tOp (rI0 fun i j => .bl (decide (j < i))) (tVar 5) (tC (.int 20))))) (tRet (tC (.str "most"))) tNext) (tSeq (tAsg (tLc (iList K (tVar 6)) (gName 9) tYes (tOp (rIxT K) (tVar 9) (tC (.int 0))) [9]) (gName 1)) (tSeq (tAsg (tOp (rCatS K) (tLc (iList K (tVar 6)) (gName 9) tYes (tOp (rIxT K) (tVar 9) (tC (.int 1))) [9]) (tLc (iList K (tVar 6)) (gName 9) tYes (tOp (rIxT K) (tVar 9) (tC (.int 2))) [9])) (gName 2)) (tSeq (tIfS (tOr (tTest (tOp (rI0 fun i j => .bl (decide (j < i))) (tCB (rLenL K) (tCons (tVar 6) tNil)) (tC (.int 60)))) (tOr (tTest (tOp rNe (tLenSetS K (tVar 1)) (tCB (rLenL K) (tCons (tVar 1) tNil)))) (tTest (tOp (rNeD K) (tLc (iList K (tVar 2)) (gName 7) (tTest (tOp rNinRng (tVar 7) (tCB rRange1 (tCons (tCB (rLenL K) (tCons (tVar 3) tNil)) tNil)))) (tVar 7) [7]) (tLst tNil))))) (tRet (tC (.str "boxes"))) tNext) (tSeq (tFor (iEnum K (tCons (tVar 3) tNil)) (gTup K 2 (gCons (gName 7) (gCons (gName 8) gNil))) (tIfS (tOr (tTest (tOp (rI0 fun i j => .bl (decide (j < i))) (tCB (rLenL K) (tCons (tLc (iList K (tVar 6)) (gName 9) (tTest (tOp rEq (tOp (rIxT K) (tVar 9) (tC (.int 1))) (tVar 7))) (tVar 9) [9]) tNil)) (tVar 8))) (tTest (tOp (rI0 fun i j => .bl (decide (j < i))) (tCB (rLenL K) (tCons (tLc (iList K (tVar 6)) (gName 9) (tTest (tOp rEq (tOp (rIxT K) (tVar 9) (tC (.int 2))) (tVar 7))) (tVar 9) [9]) tNil)) (tVar 8)))) (tRet (tC (.str "boxes"))) tNext)) (tRet (tC .non))))))))))
theorem w_wrong {K : PySem.W.Frag} (vs : List V) (H : Hp) (Q : VK) (E : XK) (h : sp_wrong K vs H Q E) : t_wrong K { nx := fun _ H' => Q .non H', rt := Q } (start N_wrong vs) H := by
  obtain ⟨F0, cs, store_here_1, y, h, hS0, m, q⟩ := h
  obtain ⟨a0, _, rfl, ha0, h⟩ := Dts.hd h
  obtain rfl := Dts.no h
  unfold f_wrong at m
  try dsimp only at m
  unfold t_wrong
  refine go (σ' := [some a0, none, none, none, none, none, none, none, none, none]) rfl ?_
  refine s_asg (K := K) (d := (eT4 (eL eI) (eL eI) eI (eL (eT3 eS eI eI))) store_here_1) hS0 (d_var rfl ha0) (fun v6 F2 H3 g4 hS5 hv7 => ?_)
  obtain ⟨rooms_8, k9, m⟩ := lt m
  obtain ⟨gaps_10, k11, m⟩ := lt m
  obtain ⟨most_12, k13, m⟩ := lt m
  obtain ⟨boxes_here_14, k15, m⟩ := lt m
  obtain ⟨p16, w18, w19, w20, w21, rfl, hT17, hw22, hw23, hw24, hw25⟩ := u4 hv7
  rw [k9] at hw22
  rw [k11] at hw23
  rw [k13] at hw24
  obtain rfl := Dt.toInt hw24
  rw [k15] at hw25
  refine tg (σ' := [some a0, none, none, some w18, some w19, some (.int most_12), some w21, none, none, none]) (fun Q hq => ⟨p16, [_, _, _, _], rfl, gr_T hS5.fr hT17, rfl, _, _, rfl, _, _, rfl, _, _, rfl, _, _, rfl, rfl, hq⟩) ?_
  obtain ⟨x32, k33, m⟩ := bnd m
  refine s_if (b := x32) hS5 (t_orM (r := x32) (t_test (K := K) (d_ninRng (d_len (e := eI) (a_cons (d_var rfl hw22) a_nil)) (a_cons d_int (a_cons d_int a_nil)))) (fun hc => by rw [if_neg (bf hc)] at k33; obtain ⟨x26, k27, k33⟩ := bnd k33; obtain ⟨x30, k31, k33⟩ := bnd k33; obtain rfl := sm k33; exact (t_orM (r := x30) (t_test (K := K) (d_lt (d_minL (a_cons (d_var rfl hw22) a_nil) k27) d_int)) (fun hc => by rw [if_neg (bf hc)] at k31; obtain ⟨x28, k29, k31⟩ := bnd k31; obtain rfl := sm k31; exact (t_test (K := K) (d_gt (d_maxL (a_cons (d_var rfl hw22) a_nil) k29) d_int))) (fun hc => by rw [if_pos hc] at k31; exact (sm k31).symm))) (fun hc => by rw [if_pos hc] at k33; exact (sm k33).symm)) (fun hc F34 H35 g36 hS37 => ?_) (fun hc F44 H45 g46 hS47 => ?_)
  · rw [if_pos hc] at m
    refine s_ret (K := K) (d := (eO eS) (some ("rooms" : Str))) hS37 d_str (fun v42 F38 H39 g40 hS41 hv43 => ?_)
    obtain rfl := sm m
    exact q _ _ _ (Gr.tr g4 (Gr.tr g36 g40)) hS41 hv43
  · rw [if_neg (bf hc)] at m
    refine nxt ?_
    obtain ⟨x54, k55, m⟩ := bnd m
    refine s_if (b := x54) hS47 (t_orM (r := x54) (t_test (K := K) (d_neI (d_len (e := eI) (a_cons (d_var rfl (Dt.gr g46 hw23)) a_nil)) (d_sub (d_len (e := eI) (a_cons (d_var rfl (Dt.gr g46 hw22)) a_nil)) d_int))) (fun hc => by rw [if_neg (bf hc)] at k55; obtain ⟨x48, k49, k55⟩ := bnd k55; obtain ⟨x52, k53, k55⟩ := bnd k55; obtain rfl := sm k55; exact (t_orM (r := x52) (t_test (K := K) (d_lt (d_minL (a_cons (d_var rfl (Dt.gr g46 hw23)) a_nil) k49) d_int)) (fun hc => by rw [if_neg (bf hc)] at k53; obtain ⟨x50, k51, k53⟩ := bnd k53; obtain rfl := sm k53; exact (t_test (K := K) (d_gt (d_maxL (a_cons (d_var rfl (Dt.gr g46 hw23)) a_nil) k51) (d_is (e := PyData.int 1000000000) (d_powC d_int d_int ⟨by decide, by decide, by decide⟩) (congrArg PyData.int (by decide)))))) (fun hc => by rw [if_pos hc] at k53; exact (sm k53).symm))) (fun hc => by rw [if_pos hc] at k55; exact (sm k55).symm)) (fun hc F56 H57 g58 hS59 => ?_) (fun hc F66 H67 g68 hS69 => ?_)
    · rw [if_pos hc] at m
      refine s_ret (K := K) (d := (eO eS) (some ("gaps" : Str))) hS59 d_str (fun v64 F60 H61 g62 hS63 hv65 => ?_)
      obtain rfl := sm m
      exact q _ _ _ (Gr.tr g4 (Gr.tr g46 (Gr.tr g58 g62))) hS63 hv65
    · rw [if_neg (bf hc)] at m
      refine nxt ?_
      refine s_if (b := ((decide (most_12 < (1 : Int))) || (decide ((20 : Int) < most_12)))) hS69 (t_orP (t_test (K := K) (d_lt (d_var rfl (.int _)) d_int)) (fun hc => (t_test (K := K) (d_gt (d_var rfl (.int _)) d_int)))) (fun hc F70 H71 g72 hS73 => ?_) (fun hc F80 H81 g82 hS83 => ?_)
      · rw [if_pos hc] at m
        refine s_ret (K := K) (d := (eO eS) (some ("most" : Str))) hS73 d_str (fun v78 F74 H75 g76 hS77 hv79 => ?_)
        obtain rfl := sm m
        exact q _ _ _ (Gr.tr g4 (Gr.tr g46 (Gr.tr g68 (Gr.tr g72 g76)))) hS77 hv79
      · rw [if_neg (bf hc)] at m
        refine nxt ?_
        obtain ⟨x95, k96, m⟩ := bnd m
        refine s_set (K := K) (d := (eL eS) x95) (i := 1) (σ' := fun v101 => [some a0, some v101, none, some w18, some w19, some (.int most_12), some w21, none, none, none]) hS83 (EvC.dd (c_mapC (K := K) (f := (fun box_84 => box_84.1)) (em := eS) (i_list (en := (eT3 eS eI eI)) (d_var rfl (Dt.gr (Gr.tr g46 (Gr.tr g68 g82)) hw25))) k96 (fun box_84 o91 v92 F85 p86 us87 g88 hv89 ho90 => by obtain rfl := sm ho90; exact ⟨[some a0, none, none, some w18, some w19, some (.int most_12), some w21, none, none, some v92], fun H94 Q hS93 hq => (fun Q hq => hq) Q hq, rfl, t_yes, fun y hy => by obtain rfl := sm hy; exact (d_ixT (d_var rfl hv89) d_int rfl)⟩))) (fun _ => rfl) (fun v101 F97 H98 g99 hS100 hv102 => ?_)
        obtain ⟨x114, k115, m⟩ := bnd m
        obtain ⟨x127, k128, m⟩ := bnd m
        obtain ⟨x129, k130, m⟩ := bnd m
        refine s_set (K := K) (d := (eL eI) x129) (i := 2) (σ' := fun v135 => [some a0, some v101, some v135, some w18, some w19, some (.int most_12), some w21, none, none, none]) hS100 (EvC.dd (c_cat (en := eI) (EvC.dd (c_mapC (K := K) (f := (fun box_103 => box_103.2.1)) (em := eI) (i_list (en := (eT3 eS eI eI)) (d_var rfl (Dt.gr (Gr.tr g46 (Gr.tr g68 (Gr.tr g82 g99))) hw25))) k115 (fun box_103 o110 v111 F104 p105 us106 g107 hv108 ho109 => by obtain rfl := sm ho109; exact ⟨[some a0, some v101, none, some w18, some w19, some (.int most_12), some w21, none, none, some v111], fun H113 Q hS112 hq => (fun Q hq => hq) Q hq, rfl, t_yes, fun y hy => by obtain rfl := sm hy; exact (d_ixT (d_var rfl hv108) d_int rfl)⟩))) (EvC.dd (c_mapC (K := K) (f := (fun box_116 => box_116.2.2)) (em := eI) (i_list (en := (eT3 eS eI eI)) (d_var rfl (Dt.gr (Gr.tr g46 (Gr.tr g68 (Gr.tr g82 g99))) hw25))) k128 (fun box_116 o123 v124 F117 p118 us119 g120 hv121 ho122 => by obtain rfl := sm ho122; exact ⟨[some a0, some v101, none, some w18, some w19, some (.int most_12), some w21, none, none, some v124], fun H126 Q hS125 hq => (fun Q hq => hq) Q hq, rfl, t_yes, fun y hy => by obtain rfl := sm hy; exact (d_ixT (d_var rfl hv121) d_int rfl)⟩))) k130)) (fun _ => rfl) (fun v135 F131 H132 g133 hS134 hv136 => ?_)
        obtain ⟨x154, k155, m⟩ := bnd m
        refine s_if (b := x154) hS134 (t_orM (r := x154) (t_test (K := K) (d_gt (d_len (e := (eT3 eS eI eI)) (a_cons (d_var rfl (Dt.gr (Gr.tr g46 (Gr.tr g68 (Gr.tr g82 (Gr.tr g99 g133)))) hw25)) a_nil)) d_int)) (fun hc => by rw [if_neg (bf hc)] at k155; obtain ⟨x137, k138, k155⟩ := bnd k155; obtain ⟨x152, k153, k155⟩ := bnd k155; obtain rfl := sm k155; exact (t_orM (r := x152) (t_test (K := K) (d_neI (d_setLen (d_var rfl (Dt.gr g133 hv102)) k138) (d_len (e := eS) (a_cons (d_var rfl (Dt.gr g133 hv102)) a_nil)))) (fun hc => by rw [if_neg (bf hc)] at k153; obtain ⟨x150, k151, k153⟩ := bnd k153; obtain rfl := sm k153; exact (t_test (K := K) (d_neT (e := (eL eI)) (EqE.l eqE_I) (ShE.l sh_I) (by decide) (EvC.dd (c_filC (K := K) (p := (fun bay_139 => (!decide ((0 : Int) ≤ bay_139 ∧ bay_139 < (rooms_8.length : Int))))) (f := (fun bay_139 => bay_139)) (em := eI) (i_list (en := eI) (d_var rfl hv136)) k151 (fun bay_139 o146 v147 F140 p141 us142 g143 hv144 ho145 => by obtain rfl := Dt.toInt hv144; obtain rfl := sm ho145; refine ⟨[some a0, some v101, some v135, some w18, some w19, some (.int most_12), some w21, some (.int bay_139), none, none], fun H149 Q hS148 hq => (fun Q hq => hq) Q hq, rfl, ?_, ?_⟩; (rw [isS]; exact (t_test (K := K) (d_ninRng1 (d_var rfl (.int _)) (a_cons (d_len (e := eI) (a_cons (d_var rfl (Dt.gr (Gr.tr g46 (Gr.tr g68 (Gr.tr g82 (Gr.tr g99 (Gr.tr g133 g143))))) hw22)) a_nil)) a_nil)))); (intro y hy; obtain rfl := isSm hy; exact (d_var rfl (.int _)))))) (d_lst a_nil (Nat.le_of_ble_eq_true rfl))))) (fun hc => by rw [if_pos hc] at k153; exact (sm k153).symm))) (fun hc => by rw [if_pos hc] at k155; exact (sm k155).symm)) (fun hc F156 H157 g158 hS159 => ?_) (fun hc F166 H167 g168 hS169 => ?_)
        · rw [if_pos hc] at m
          refine s_ret (K := K) (d := (eO eS) (some ("boxes" : Str))) hS159 d_str (fun v164 F160 H161 g162 hS163 hv165 => ?_)
          obtain rfl := sm m
          exact q _ _ _ (Gr.tr g4 (Gr.tr g46 (Gr.tr g68 (Gr.tr g82 (Gr.tr g99 (Gr.tr g133 (Gr.tr g158 g162))))))) hS163 hv165
        · rw [if_neg (bf hc)] at m
          refine nxt ?_
          obtain ⟨r171, k172, m⟩ := bnd m
          refine s_forF (K := K) (xs := (enumM rooms_8)) (en := (eT2 eI eI)) (body := (f_wrong_b170 boxes_here_14)) (s0 := ()) (r := r171) (fun (a : Unit) F σ c => ∃ (j7 : Option V) (j8 : Option V) (j9 : Option V), σ = [some a0, some v101, some v135, some w18, some w19, some (.int most_12), some w21, j7, j8, j9] ∧ cs = c) hS169 (i_enum (en := eI) (a_cons (d_var rfl (Dt.gr (Gr.tr g46 (Gr.tr g68 (Gr.tr g82 (Gr.tr g99 (Gr.tr g133 g168))))) hw22)) a_nil)) (fun _ _ => ⟨_, _, _, rfl, rfl⟩) k172 ?_ ?_
          · rintro ⟨⟩ F244 σ249 c248 H245 hz260 g246 hS247 ⟨u250, u251, u252, rfl, rfl⟩
            rcases hz260.symm with rfl | rfl
            · cases (show (none : Option _) = some _ from m)
            try dsimp only at m
            refine s_ret (K := K) (d := (eO eS) (none : Option Str)) hS247 d_non (fun v257 F253 H254 g255 hS256 hv258 => ?_)
            obtain rfl := sm m
            exact q _ _ _ (Gr.tr g4 (Gr.tr g46 (Gr.tr g68 (Gr.tr g82 (Gr.tr g99 (Gr.tr g133 (Gr.tr g168 (Gr.tr g246 g255)))))))) hS256 hv258
          · rintro ⟨bay_173, room_174⟩ ⟨⟩ b183 F175 F176 σ189 c190 H177 v182 N184 B185 g178 ⟨u192, u193, u194, rfl, rfl⟩ g179 hS180 hv181 m191 hN186 hB187 hR188
            obtain ⟨p195, w197, w198, rfl, hT196, hw199, hw200⟩ := u2 hv181
            obtain rfl := Dt.toInt hw199
            obtain rfl := Dt.toInt hw200
            refine tg (σ' := [some a0, some v101, some v135, some w18, some w19, some (.int most_12), some w21, some (.int bay_173), some (.int room_174), u194]) (fun Q hq => ⟨p195, [_, _], rfl, gr_T hS180.fr hT196, rfl, _, _, rfl, _, _, rfl, rfl, hq⟩) ?_
            unfold f_wrong_b170 at m191
            try dsimp only at m191
            obtain ⟨x212, k213, m191⟩ := bnd m191
            obtain ⟨x227, k228, m191⟩ := bnd m191
            refine s_if (b := x227) hS180 (t_orM (r := x227) (t_test (K := K) (d_gt (d_len (e := (eT3 eS eI eI)) (a_cons (EvC.dd (c_filC (K := K) (p := (fun box_201 => (decide (box_201.2.1 = bay_173)))) (f := (fun box_201 => box_201)) (em := (eT3 eS eI eI)) (i_list (en := (eT3 eS eI eI)) (d_var rfl (Dt.gr (Gr.tr g46 (Gr.tr g68 (Gr.tr g82 (Gr.tr g99 (Gr.tr g133 (Gr.tr g168 (Gr.tr g178 g179))))))) hw25))) k213 (fun box_201 o208 v209 F202 p203 us204 g205 hv206 ho207 => by obtain rfl := sm ho207; refine ⟨[some a0, some v101, some v135, some w18, some w19, some (.int most_12), some w21, some (.int bay_173), some (.int room_174), some v209], fun H211 Q hS210 hq => (fun Q hq => hq) Q hq, rfl, ?_, ?_⟩; (rw [isS]; exact (t_test (K := K) (d_eqI (d_ixT (d_var rfl hv206) d_int rfl) (d_var rfl (.int _))))); (intro y hy; obtain rfl := isSm hy; exact (d_var rfl hv206))))) a_nil)) (d_var rfl (.int _)))) (fun hc => by rw [if_neg (bf hc)] at k228; obtain ⟨x225, k226, k228⟩ := bnd k228; obtain rfl := sm k228; exact (t_test (K := K) (d_gt (d_len (e := (eT3 eS eI eI)) (a_cons (EvC.dd (c_filC (K := K) (p := (fun box_214 => (decide (box_214.2.2 = bay_173)))) (f := (fun box_214 => box_214)) (em := (eT3 eS eI eI)) (i_list (en := (eT3 eS eI eI)) (d_var rfl (Dt.gr (Gr.tr g46 (Gr.tr g68 (Gr.tr g82 (Gr.tr g99 (Gr.tr g133 (Gr.tr g168 (Gr.tr g178 g179))))))) hw25))) k226 (fun box_214 o221 v222 F215 p216 us217 g218 hv219 ho220 => by obtain rfl := sm ho220; refine ⟨[some a0, some v101, some v135, some w18, some w19, some (.int most_12), some w21, some (.int bay_173), some (.int room_174), some v222], fun H224 Q hS223 hq => (fun Q hq => hq) Q hq, rfl, ?_, ?_⟩; (rw [isS]; exact (t_test (K := K) (d_eqI (d_ixT (d_var rfl hv219) d_int rfl) (d_var rfl (.int _))))); (intro y hy; obtain rfl := isSm hy; exact (d_var rfl hv219))))) a_nil)) (d_var rfl (.int _))))) (fun hc => by rw [if_pos hc] at k228; exact (sm k228).symm)) (fun hc F229 H230 g231 hS232 => ?_) (fun hc F240 H241 g242 hS243 => ?_)
            · rw [if_pos hc] at m191
              refine s_ret (K := K) (d := (eO eS) (some ("boxes" : Str))) hS232 d_str (fun v237 F233 H234 g235 hS236 hv238 => ?_)
              obtain rfl := sm m191
              have hr239 := hR188 _ rfl
              subst hr239
              obtain rfl := sm m
              exact q _ _ _ (Gr.tr g4 (Gr.tr g46 (Gr.tr g68 (Gr.tr g82 (Gr.tr g99 (Gr.tr g133 (Gr.tr g168 (Gr.tr g178 (Gr.tr g179 (Gr.tr g231 g235)))))))))) hS236 hv238
            · rw [if_neg (bf hc)] at m191
              refine nxt ?_
              obtain rfl := sm m191
              exact hN186 _ _ _ _ _ rfl g242 hS243 ⟨_, _, _, rfl, rfl⟩
theorem sc_wrong : FnScope N_wrong ["_law_store_here"] (defScope s_wrong) := ⟨rfl, rfl, rfl, by decide +kernel, rfl, by decide +kernel, by decide +kernel⟩
theorem ok_wrong {P : Program} {w : World} {K : PySem.W.Frag} {mg : Str → Option Value} {base : Heap} (hF : Df K mg "_law_wrong" s_wrong) (m_enumerate : mg "enumerate" = none) (m_len : mg "len" = none) (m_max : mg "max" = none) (m_min : mg "min" = none) (m_range : mg "range" = none) (m_set : mg "set" = none) : Ok P w K mg base 1 "_law_wrong" ["_law_store_here"] (sp_wrong K) := by
  obtain ⟨⟨fd, F⟩, gm⟩ := hF
  refine ⟨⟨fd, F.ok sc_wrong (fun vs H Q E h => ?_) (fun cdv A outer s H vs Q E hr h => ⟨t_wrong K, PSs.nox ?_, w_wrong vs H Q E h⟩), F.bindsN fun _ _ _ _ _ _ us hl => match us, hl with | [_], _ => rfl, lk_of F⟩, F.kp, gm⟩
  · obtain ⟨F0, cs, x, y, h, _⟩ := h; exact Dts.len h
  · exact (pss_cons (ps_asg (pv 0) (pg_tup rfl (pgs_cons (pg_name (i := 3) sc_wrong.nd rfl (Or.inr rfl)) (pgs_cons (pg_name (i := 4) sc_wrong.nd rfl (Or.inl rfl)) (pgs_cons (pg_name (i := 5) sc_wrong.nd rfl (Or.inl rfl)) (pgs_cons (pg_name (i := 6) sc_wrong.nd rfl (Or.inl rfl)) pgs_nil)))))) (pss_cons (ps_if (PW.pt (pw_or (pt_cmpR op_ninRng (pe_callB cr_lenL (by rfl) m_len PySem.boot_len (pa_cons (pv 3) pa_nil)) (pe_callTy cr_range2' (by rfl) m_range (by decide +kernel) (pa_cons pe_int (pa_cons pe_int pa_nil))) (by rfl)) (pw_or (pt_cmpR op_lt (pe_callB (cr_min rfl) (by rfl) m_min (by decide +kernel) (pa_cons (pv 3) pa_nil)) pe_int (nomark _)) (pw_or1 (pt_cmpR op_gt (pe_callB (cr_max rfl) (by rfl) m_max (by decide +kernel) (pa_cons (pv 3) pa_nil)) pe_int (nomark _)))))) (pss_one (ps_ret pe_str)) pss_nil) (pss_cons (ps_if (PW.pt (pw_or (pt_cmpR op_ne (pe_callB cr_lenL (by rfl) m_len PySem.boot_len (pa_cons (pv 4) pa_nil)) (pe_op op_sub (pe_callB cr_lenL (by rfl) m_len PySem.boot_len (pa_cons (pv 3) pa_nil)) pe_int) (nomark _)) (pw_or (pt_cmpR op_lt (pe_callB (cr_min rfl) (by rfl) m_min (by decide +kernel) (pa_cons (pv 4) pa_nil)) pe_int (nomark _)) (pw_or1 (pt_cmpR op_gt (pe_callB (cr_max rfl) (by rfl) m_max (by decide +kernel) (pa_cons (pv 4) pa_nil)) (pe_op op_pow pe_int pe_int) (nomark _)))))) (pss_one (ps_ret pe_str)) pss_nil) (pss_cons (ps_if (PW.pt (pw_or (pt_cmpR op_lt (pv 5) pe_int (nomark _)) (pw_or1 (pt_cmpR op_gt (pv 5) pe_int (nomark _))))) (pss_one (ps_ret pe_str)) pss_nil) (pss_cons (ps_setLc (i := 1) (own := [("_law_box", 9)]) (g := (gName 9)) (tt := tYes) (te := (tOp (rIxT K) (tVar 9) (tC (.int 0)))) (by rfl) sc_wrong.nd rfl rfl (sw_true rfl rfl rfl (by decide +kernel)) (pi_list (pv 6)) (blkOk_by (own := [("_law_box", 9)]) (N := N_wrong) (sc := defScope s_wrong) (by decide +kernel)) (fun _ _ _ _ _ => (pg_name (i := 9) sc_wrong.nd rfl (Or.inl rfl))) (fun _ _ _ _ _ => pts_nil) (fun _ _ _ _ _ => (pe_ix ix_tup (pv 9) pe_int (fun _ _ => rfl)))) (pss_cons (ps_set (i := 2) sc_wrong.nd rfl (Or.inl rfl) (pe_op op_catS (pe_lc (own := [("_law_box", 9)]) (g := (gName 9)) (tt := tYes) (te := (tOp (rIxT K) (tVar 9) (tC (.int 1)))) (by rfl) sc_wrong.nd (pi_list (pv 6)) (blkOk_by (own := [("_law_box", 9)]) (N := N_wrong) (sc := defScope s_wrong) (by decide +kernel)) (fun _ _ _ _ _ => (pg_name (i := 9) sc_wrong.nd rfl (Or.inl rfl))) (fun _ _ _ _ _ => pts_nil) (fun _ _ _ _ _ => (pe_ix ix_tup (pv 9) pe_int (fun _ _ => rfl)))) (pe_lc (own := [("_law_box", 9)]) (g := (gName 9)) (tt := tYes) (te := (tOp (rIxT K) (tVar 9) (tC (.int 2)))) (by rfl) sc_wrong.nd (pi_list (pv 6)) (blkOk_by (own := [("_law_box", 9)]) (N := N_wrong) (sc := defScope s_wrong) (by decide +kernel)) (fun _ _ _ _ _ => (pg_name (i := 9) sc_wrong.nd rfl (Or.inl rfl))) (fun _ _ _ _ _ => pts_nil) (fun _ _ _ _ _ => (pe_ix ix_tup (pv 9) pe_int (fun _ _ => rfl)))))) (pss_cons (ps_if (PW.pt (pw_or (pt_cmpR op_gt (pe_callB cr_lenL (by rfl) m_len PySem.boot_len (pa_cons (pv 6) pa_nil)) pe_int (nomark _)) (pw_or (pt_cmpR op_ne (pe_lenSetS rfl (by rfl) m_len (by rfl) m_set (pv 1)) (pe_callB cr_lenL (by rfl) m_len PySem.boot_len (pa_cons (pv 1) pa_nil)) (nomark _)) (pw_or1 (pt_cmpR (op_neD hr.units) (pe_lc (own := [("_law_bay", 7)]) (g := (gName 7)) (tt := (tTest (tOp rNinRng (tVar 7) (tCB rRange1 (tCons (tCB (rLenL K) (tCons (tVar 3) tNil)) tNil))))) (te := (tVar 7)) (by rfl) sc_wrong.nd (pi_list (pv 2)) (blkOk_by (own := [("_law_bay", 7)]) (N := N_wrong) (sc := defScope s_wrong) (by decide +kernel)) (fun _ _ _ _ _ => (pg_name (i := 7) sc_wrong.nd rfl (Or.inl rfl))) (fun _ _ _ _ _ => (pts_one (pt_cmpR op_ninRng (pv 7) (pe_callTy cr_range1' (by rfl) m_range (by decide +kernel) (pa_cons (pe_callB cr_lenL (by rfl) m_len PySem.boot_len (pa_cons (pv 3) pa_nil)) pa_nil)) (by rfl)))) (fun _ _ _ _ _ => (pv 7))) (pe_lst pa_nil) (nomark _)))))) (pss_one (ps_ret pe_str)) pss_nil) (pss_cons (ps_for PassesOwn.never rfl (pi_enum (by rfl) m_enumerate (pa_cons (pv 3) pa_nil)) (pg_tup rfl (pgs_cons (pg_name (i := 7) sc_wrong.nd rfl (Or.inr rfl)) (pgs_cons (pg_name (i := 8) sc_wrong.nd rfl (Or.inl rfl)) pgs_nil))) (pss_one (ps_if (PW.pt (pw_or (pt_cmpR op_gt (pe_callB cr_lenL (by rfl) m_len PySem.boot_len (pa_cons (pe_lc (own := [("_law_box", 9)]) (g := (gName 9)) (tt := (tTest (tOp rEq (tOp (rIxT K) (tVar 9) (tC (.int 1))) (tVar 7)))) (te := (tVar 9)) (by rfl) sc_wrong.nd (pi_list (pv 6)) (blkOk_by (own := [("_law_box", 9)]) (N := N_wrong) (sc := defScope s_wrong) (by decide +kernel)) (fun _ _ _ _ _ => (pg_name (i := 9) sc_wrong.nd rfl (Or.inl rfl))) (fun _ _ _ _ _ => (pts_one (pt_cmpR op_eq (pe_ix ix_tup (pv 9) pe_int (fun _ _ => rfl)) (pv 7) (nomark _)))) (fun _ _ _ _ _ => (pv 9))) pa_nil)) (pv 8) (nomark _)) (pw_or1 (pt_cmpR op_gt (pe_callB cr_lenL (by rfl) m_len PySem.boot_len (pa_cons (pe_lc (own := [("_law_box", 9)]) (g := (gName 9)) (tt := (tTest (tOp rEq (tOp (rIxT K) (tVar 9) (tC (.int 2))) (tVar 7)))) (te := (tVar 9)) (by rfl) sc_wrong.nd (pi_list (pv 6)) (blkOk_by (own := [("_law_box", 9)]) (N := N_wrong) (sc := defScope s_wrong) (by decide +kernel)) (fun _ _ _ _ _ => (pg_name (i := 9) sc_wrong.nd rfl (Or.inl rfl))) (fun _ _ _ _ _ => (pts_one (pt_cmpR op_eq (pe_ix ix_tup (pv 9) pe_int (fun _ _ => rfl)) (pv 7) (nomark _)))) (fun _ _ _ _ _ => (pv 9))) pa_nil)) (pv 8) (nomark _))))) (pss_one (ps_ret pe_str)) pss_nil))) (pss_one (ps_ret pe_non))))))))))
abbrev s_class : Stmt := (top 46)
def f_class : (Option Xe) → Option Bool := fun kept_1 => (if ((!(isX kept_1 "NoStore")) || (!(kept_1).isSome)) = true then some false else (letM (anyX kept_1 ["NoText", "NoBay", "NoBox", "NoRoom", "NoFork", "NoWants", "NoAisle"]) fun others_20 => some ((!others_20) && (!(anyX kept_1 ["NoOrders", "NoRow", "NoPlan", "NoPaper", "TooMany", "Unknown"])))))
abbrev N_class : List Str := ["_law_kept", "_law_others"]
abbrev sp_class (K : PySem.W.Frag) : Sp := spX K xcl eB f_class
def t_class (K : PySem.W.Frag) : TS := (tSeq (tIfS (tOr (tNot (tB (tCB (rIsiX K) (tCons (tVar 0) (tCons (tC (.ref (He.ga K "NoStore"))) tNil))))) (tNot (tB (tCB (rIsiX K) (tCons (tVar 0) (tCons (tC (.ty "ValueError")) tNil)))))) (tRet (tC (.bl false))) tNext) (tSeq (tAsg (tCB (rIsiXT K) (tCons (tVar 0) (tCons (tTup (tCons (tC (.ref (He.ga K "NoText"))) (tCons (tC (.ref (He.ga K "NoBay"))) (tCons (tC (.ref (He.ga K "NoBox"))) (tCons (tC (.ref (He.ga K "NoRoom"))) (tCons (tC (.ref (He.ga K "NoFork"))) (tCons (tC (.ref (He.ga K "NoWants"))) (tCons (tC (.ref (He.ga K "NoAisle"))) tNil)))))))) tNil))) (gName 1)) (tRet (tAndV (tNotV (tVar 1)) (tNotV (tCB (rIsiXT K) (tCons (tVar 0) (tCons (tTup (tCons (tC (.ref (He.ga K "NoOrders"))) (tCons (tC (.ref (He.ga K "NoRow"))) (tCons (tC (.ref (He.ga K "NoPlan"))) (tCons (tC (.ref (He.ga K "NoPaper"))) (tCons (tC (.ref (He.ga K "TooMany"))) (tCons (tC (.ref (He.ga K "Unknown"))) tNil))))))) tNil))))))))
theorem w_class {K : PySem.W.Frag} (XC : XFc K xcl xts) (vs : List V) (H : Hp) (Q : VK) (E : XK) (h : sp_class K vs H Q E) : t_class K { nx := fun _ H' => Q .non H', rt := Q } (start N_class vs) H := by
  obtain ⟨F0, cs, a0, kept_1, y, rfl, ha0, hS0, m, q⟩ := h
  unfold f_class at m
  try dsimp only at m
  unfold t_class
  refine go (σ' := [some a0, none]) rfl ?_
  refine s_if (b := ((!(isX kept_1 "NoStore")) || (!(kept_1).isSome))) hS0 (t_orP (t_not (t_B (K := K) (d_isiX XC (i := 0) (d := "NoStore") rfl ha0 (by decide)))) (fun hc => (t_not (t_B (K := K) (d_isiXV XC (i := 0) rfl ha0))))) (fun hc F2 H3 g4 hS5 => ?_) (fun hc F12 H13 g14 hS15 => ?_)
  · rw [if_pos hc] at m
    refine s_ret (K := K) (d := eB false) hS5 d_bl (fun v10 F6 H7 g8 hS9 hv11 => ?_)
    obtain rfl := sm m
    exact q _ _ _ (Gr.tr g4 g8) hS9 hv11
  · rw [if_neg (bf hc)] at m
    refine nxt ?_
    obtain ⟨others_20, k21, m⟩ := lt m
    refine s_setV (K := K) (d := eB others_20) (i := 1) (σ' := [some a0, some (.bl others_20)]) (fun _ _ h => Dt.toBl h) hS15 (d_is (d_isiXT (ds := ["NoText", "NoBay", "NoBox", "NoRoom", "NoFork", "NoWants", "NoAisle"]) XC (i := 0) rfl (Xv.gr g14 ha0) (by decide) (by decide) (fun _ _ q => q)) (congrArg eB k21)) rfl (fun F16 H17 g18 hS19 => ?_)
    refine s_ret (K := K) (d := eB ((!others_20) && (!(anyX kept_1 ["NoOrders", "NoRow", "NoPlan", "NoPaper", "TooMany", "Unknown"])))) hS19 (d_andP (d_notV (d_var rfl (.bl _))) (fun hc => (d_notV (d_isiXT (ds := ["NoOrders", "NoRow", "NoPlan", "NoPaper", "TooMany", "Unknown"]) XC (i := 0) rfl (Xv.gr (Gr.tr g14 g18) ha0) (by decide) (by decide) (fun _ _ q => q))))) (fun v26 F22 H23 g24 hS25 hv27 => ?_)
    obtain rfl := sm m
    exact q _ _ _ (Gr.tr g14 (Gr.tr g18 g24)) hS25 hv27
theorem sc_class : FnScope N_class ["_law_kept"] (defScope s_class) := ⟨rfl, rfl, rfl, by decide +kernel, rfl, by decide +kernel, by decide +kernel⟩
theorem ok_class {P : Program} {w : World} {K : PySem.W.Frag} {mg : Str → Option Value} {base : Heap} (hF : Df K mg "_law_class" s_class) (m_ValueError : mg "ValueError" = none) (m_isinstance : mg "isinstance" = none) (XC : XFc K xcl xts) (g_CartError : mg "CartError" = some (.ref (He.ga K "CartError"))) (g_NoAisle : mg "NoAisle" = some (.ref (He.ga K "NoAisle"))) (g_NoBay : mg "NoBay" = some (.ref (He.ga K "NoBay"))) (g_NoBox : mg "NoBox" = some (.ref (He.ga K "NoBox"))) (g_NoFork : mg "NoFork" = some (.ref (He.ga K "NoFork"))) (g_NoOrders : mg "NoOrders" = some (.ref (He.ga K "NoOrders"))) (g_NoPaper : mg "NoPaper" = some (.ref (He.ga K "NoPaper"))) (g_NoPlan : mg "NoPlan" = some (.ref (He.ga K "NoPlan"))) (g_NoRoom : mg "NoRoom" = some (.ref (He.ga K "NoRoom"))) (g_NoRow : mg "NoRow" = some (.ref (He.ga K "NoRow"))) (g_NoStore : mg "NoStore" = some (.ref (He.ga K "NoStore"))) (g_NoText : mg "NoText" = some (.ref (He.ga K "NoText"))) (g_NoWants : mg "NoWants" = some (.ref (He.ga K "NoWants"))) (g_TooMany : mg "TooMany" = some (.ref (He.ga K "TooMany"))) (g_Unknown : mg "Unknown" = some (.ref (He.ga K "Unknown"))) : Ok P w K mg base 1 "_law_class" ["_law_kept"] (sp_class K) := by
  obtain ⟨⟨fd, F⟩, gm⟩ := hF
  refine ⟨⟨fd, F.ok sc_class (fun vs H Q E h => ?_) (fun cdv A outer s H vs Q E hr h => ⟨t_class K, PSs.nox ?_, w_class XC vs H Q E h⟩), F.bindsN fun _ _ _ _ _ _ us hl => match us, hl with | [_], _ => rfl, lk_of F⟩, F.kp, gm⟩
  · obtain ⟨F0, cs, v, o, y, rfl, _⟩ := h; rfl
  · exact (pss_cons (ps_if (PW.pt (pw_or (pt_not (pt_val (pe_callB cr_isiX (by rfl) m_isinstance (by decide +kernel) (pa_cons (pv 0) (pa_cons (pe_glob (by rfl) g_NoStore rfl) pa_nil))))) (pw_or1 (pt_not (pt_val (pe_callB cr_isiX (by rfl) m_isinstance (by decide +kernel) (pa_cons (pv 0) (pa_cons (pe_bltn (v := .ty "ValueError") (by rfl) m_ValueError (by decide +kernel) rfl) pa_nil)))))))) (pss_one (ps_ret pe_bl)) pss_nil) (pss_cons (ps_set (i := 1) sc_class.nd rfl (Or.inl rfl) (pe_callB cr_isiXT (by rfl) m_isinstance (by decide +kernel) (pa_cons (pv 0) (pa_cons (pe_tup (pa_cons (pe_glob (by rfl) g_NoText rfl) (pa_cons (pe_glob (by rfl) g_NoBay rfl) (pa_cons (pe_glob (by rfl) g_NoBox rfl) (pa_cons (pe_glob (by rfl) g_NoRoom rfl) (pa_cons (pe_glob (by rfl) g_NoFork rfl) (pa_cons (pe_glob (by rfl) g_NoWants rfl) (pa_cons (pe_glob (by rfl) g_NoAisle rfl) pa_nil)))))))) pa_nil)))) (pss_one (ps_ret (pe_and (pe_not (pv 1)) (pe_one (pe_not (pe_callB cr_isiXT (by rfl) m_isinstance (by decide +kernel) (pa_cons (pv 0) (pa_cons (pe_tup (pa_cons (pe_glob (by rfl) g_NoOrders rfl) (pa_cons (pe_glob (by rfl) g_NoRow rfl) (pa_cons (pe_glob (by rfl) g_NoPlan rfl) (pa_cons (pe_glob (by rfl) g_NoPaper rfl) (pa_cons (pe_glob (by rfl) g_TooMany rfl) (pa_cons (pe_glob (by rfl) g_Unknown rfl) pa_nil))))))) pa_nil))))))))))
abbrev s_is_whole : Stmt := (top 19)
def f_is_whole : Int → Option Bool := fun thing_1 => some (true && (!false))
abbrev A_is_whole : Int → List PyData := fun x => [eI x]
abbrev N_is_whole : List Str := ["thing"]
abbrev sp_is_whole (K : PySem.W.Frag) : Sp := spP K A_is_whole eB f_is_whole
def t_is_whole (K : PySem.W.Frag) : TS := (tRet (tAndV (tCB (rIsi K) (tCons (tVar 0) (tCons (tC (.ty "int")) tNil))) (tNotV (tCB (rIsi K) (tCons (tVar 0) (tCons (tC (.ty "bool")) tNil))))))
theorem w_is_whole {K : PySem.W.Frag} (vs : List V) (H : Hp) (Q : VK) (E : XK) (h : sp_is_whole K vs H Q E) : t_is_whole K { nx := fun _ H' => Q .non H', rt := Q } (start N_is_whole vs) H := by
  obtain ⟨F0, cs, thing_1, y, h, hS0, m, q⟩ := h
  obtain ⟨a0, _, rfl, ha0, h⟩ := Dts.hd h
  obtain rfl := Dts.no h
  obtain rfl := Dt.toInt ha0
  unfold f_is_whole at m
  try dsimp only at m
  unfold t_is_whole
  refine go (σ' := [some (.int thing_1)]) rfl ?_
  refine s_ret (K := K) (d := eB (true && (!false))) hS0 (d_andP (d_is (e := PyData.bool true) (d_isiD (c := "int") (by decide) (d_var rfl (.int _))) (congrArg PyData.bool (by rfl))) (fun hc => (d_notV (d_is (e := PyData.bool false) (d_isiD (c := "bool") (by decide) (d_var rfl (.int _))) (congrArg PyData.bool (by rfl)))))) (fun v6 F2 H3 g4 hS5 hv7 => ?_)
  obtain rfl := sm m
  exact q _ _ _ g4 hS5 hv7
theorem sc_is_whole : FnScope N_is_whole ["thing"] (defScope s_is_whole) := ⟨rfl, rfl, rfl, by decide +kernel, rfl, by decide +kernel, by decide +kernel⟩
theorem ok_is_whole {P : Program} {w : World} {K : PySem.W.Frag} {mg : Str → Option Value} {base : Heap} (hF : Df K mg "is_whole" s_is_whole) (m_bool : mg "bool" = none) (m_int : mg "int" = none) (m_isinstance : mg "isinstance" = none) : Ok P w K mg base 1 "is_whole" ["thing"] (sp_is_whole K) := by
  obtain ⟨⟨fd, F⟩, gm⟩ := hF
  refine ⟨⟨fd, F.ok sc_is_whole (fun vs H Q E h => ?_) (fun cdv A outer s H vs Q E hr h => ⟨t_is_whole K, PSs.nox ?_, w_is_whole vs H Q E h⟩), F.bindsN fun _ _ _ _ _ _ us hl => match us, hl with | [_], _ => rfl, lk_of F⟩, F.kp, gm⟩
  · obtain ⟨F0, cs, x, y, h, _⟩ := h; exact Dts.len h
  · exact (pss_one (ps_ret (pe_and (pe_callB call_isi (by rfl) m_isinstance (by decide +kernel) (pa_cons (pv 0) (pa_cons (pe_bltn (v := .ty "int") (by rfl) m_int (by decide +kernel) rfl) pa_nil))) (pe_one (pe_not (pe_callB call_isi (by rfl) m_isinstance (by decide +kernel) (pa_cons (pv 0) (pa_cons (pe_bltn (v := .ty "bool") (by rfl) m_bool (by decide +kernel) rfl) pa_nil))))))))
abbrev s_is_within : Stmt := (top 20)
def f_is_within : (Int × Int × Int) → Option Bool := fun (thing_1, least_2, greatest_3) => (((f_is_whole thing_1)).bind fun x4 => some (x4 && (decide (least_2 ≤ thing_1) && decide (thing_1 ≤ greatest_3))))
abbrev A_is_within : (Int × Int × Int) → List PyData := fun x => [eI x.1, eI x.2.1, eI x.2.2]
abbrev N_is_within : List Str := ["thing", "least", "greatest"]
abbrev sp_is_within (K : PySem.W.Frag) : Sp := spP K A_is_within eB f_is_within
def t_is_within (K : PySem.W.Frag) : TS := (tRet (tAndV (tCall (sp_is_whole K) [] E0 (tCons (tVar 0) tNil)) (tChain (rI0 fun i j => .bl (decide (i ≤ j))) (rI0 fun i j => .bl (decide (i ≤ j))) (tVar 1) (tVar 0) (tVar 2))))
theorem w_is_within {K : PySem.W.Frag} (vs : List V) (H : Hp) (Q : VK) (E : XK) (h : sp_is_within K vs H Q E) : t_is_within K { nx := fun _ H' => Q .non H', rt := Q } (start N_is_within vs) H := by
  obtain ⟨F0, cs, ⟨thing_1, least_2, greatest_3⟩, y, h, hS0, m, q⟩ := h
  obtain ⟨a0, _, rfl, ha0, h⟩ := Dts.hd h
  obtain ⟨a1, _, rfl, ha1, h⟩ := Dts.hd h
  obtain ⟨a2, _, rfl, ha2, h⟩ := Dts.hd h
  obtain rfl := Dts.no h
  obtain rfl := Dt.toInt ha0
  obtain rfl := Dt.toInt ha1
  obtain rfl := Dt.toInt ha2
  unfold f_is_within at m
  try dsimp only at m
  unfold t_is_within
  refine go (σ' := [some (.int thing_1), some (.int least_2), some (.int greatest_3)]) rfl ?_
  obtain ⟨x4, k5, m⟩ := bnd m
  refine s_ret (K := K) (d := eB (x4 && (decide (least_2 ≤ thing_1) && decide (thing_1 ≤ greatest_3)))) hS0 (d_andP (d_call (A := A_is_whole) (B := eB) (x := thing_1) (a_cons (d_var rfl (.int _)) a_nil) k5) (fun hc => (d_chain (d_var rfl (.int _)) (d_var rfl (.int _)) (d_var rfl (.int _))))) (fun v10 F6 H7 g8 hS9 hv11 => ?_)
  obtain rfl := sm m
  exact q _ _ _ g8 hS9 hv11
theorem sc_is_within : FnScope N_is_within ["thing", "least", "greatest"] (defScope s_is_within) := ⟨rfl, rfl, rfl, by decide +kernel, rfl, by decide +kernel, by decide +kernel⟩
theorem ok_is_within {P : Program} {w : World} {K : PySem.W.Frag} {mg : Str → Option Value} {base : Heap} (hF : Df K mg "is_within" s_is_within) (o_is_whole : Ok P w K mg base 1 "is_whole" ["thing"] (sp_is_whole K)) : Ok P w K mg base 2 "is_within" ["thing", "least", "greatest"] (sp_is_within K) := by
  obtain ⟨⟨_, G_is_whole, bd_is_whole, _⟩, kp_is_whole, gm_is_whole⟩ := o_is_whole
  obtain ⟨⟨fd, F⟩, gm⟩ := hF
  refine ⟨⟨fd, F.ok sc_is_within (fun vs H Q E h => ?_) (fun cdv A outer s H vs Q E hr h => ⟨t_is_within K, PSs.nox ?_, w_is_within vs H Q E h⟩), F.bindsN fun _ _ _ _ _ _ us hl => match us, hl with | [_, _, _], _ => rfl, lk_of F⟩, F.kp, gm⟩
  · obtain ⟨F0, cs, x, y, h, _⟩ := h; exact Dts.len h
  · exact (pss_one (ps_ret (pe_and (pe_call G_is_whole (hr.mono (by decide)) (by rfl) gm_is_whole kp_is_whole bd_is_whole .nil pass0 (pa_cons (pv 0) pa_nil)) (pe_one (pe_chain op_le op_le (pv 1) (pv 0) (pv 2))))))
abbrev s_has_names_twice : Stmt := (top 31)
def f_has_names_twice : (List (Str × Int × Int)) → Option Bool := fun boxes_1 => (((mapC (fun box_2 => box_2.1) boxes_1)).bind fun x13 => ((setLenM x13)).bind fun x15 => some (!decide (x15 = (boxes_1.length : Int))))
abbrev A_has_names_twice : (List (Str × Int × Int)) → List PyData := fun x => [(eL (eT3 eS eI eI)) x]
abbrev N_has_names_twice : List Str := ["boxes", "box"]
abbrev sp_has_names_twice (K : PySem.W.Frag) : Sp := spP K A_has_names_twice eB f_has_names_twice
def t_has_names_twice (K : PySem.W.Frag) : TS := (tRet (tOp rNe (tLenSetS K (tLc (iList K (tVar 0)) (gName 1) tYes (tOp (rIxT K) (tVar 1) (tC (.int 0))) [1])) (tCB (rLenL K) (tCons (tVar 0) tNil))))
theorem w_has_names_twice {K : PySem.W.Frag} (vs : List V) (H : Hp) (Q : VK) (E : XK) (h : sp_has_names_twice K vs H Q E) : t_has_names_twice K { nx := fun _ H' => Q .non H', rt := Q } (start N_has_names_twice vs) H := by
  obtain ⟨F0, cs, boxes_1, y, h, hS0, m, q⟩ := h
  obtain ⟨a0, _, rfl, ha0, h⟩ := Dts.hd h
  obtain rfl := Dts.no h
  unfold f_has_names_twice at m
  try dsimp only at m
  unfold t_has_names_twice
  refine go (σ' := [some a0, none]) rfl ?_
  obtain ⟨x13, k14, m⟩ := bnd m
  obtain ⟨x15, k16, m⟩ := bnd m
  refine s_ret (K := K) (d := eB (!decide (x15 = (boxes_1.length : Int)))) hS0 (d_neI (d_setLen (EvC.dd (c_mapC (K := K) (f := (fun box_2 => box_2.1)) (em := eS) (i_list (en := (eT3 eS eI eI)) (d_var rfl ha0)) k14 (fun box_2 o9 v10 F3 p4 us5 g6 hv7 ho8 => by obtain rfl := sm ho8; exact ⟨[some a0, some v10], fun H12 Q hS11 hq => (fun Q hq => hq) Q hq, rfl, t_yes, fun y hy => by obtain rfl := sm hy; exact (d_ixT (d_var rfl hv7) d_int rfl)⟩))) k16) (d_len (e := (eT3 eS eI eI)) (a_cons (d_var rfl ha0) a_nil))) (fun v21 F17 H18 g19 hS20 hv22 => ?_)
  obtain rfl := sm m
  exact q _ _ _ g19 hS20 hv22
theorem sc_has_names_twice : FnScope N_has_names_twice ["boxes"] (defScope s_has_names_twice) := ⟨rfl, rfl, rfl, by decide +kernel, rfl, by decide +kernel, by decide +kernel⟩
theorem ok_has_names_twice {P : Program} {w : World} {K : PySem.W.Frag} {mg : Str → Option Value} {base : Heap} (hF : Df K mg "has_names_twice" s_has_names_twice) (m_len : mg "len" = none) (m_set : mg "set" = none) : Ok P w K mg base 1 "has_names_twice" ["boxes"] (sp_has_names_twice K) := by
  obtain ⟨⟨fd, F⟩, gm⟩ := hF
  refine ⟨⟨fd, F.ok sc_has_names_twice (fun vs H Q E h => ?_) (fun cdv A outer s H vs Q E hr h => ⟨t_has_names_twice K, PSs.nox ?_, w_has_names_twice vs H Q E h⟩), F.bindsN fun _ _ _ _ _ _ us hl => match us, hl with | [_], _ => rfl, lk_of F⟩, F.kp, gm⟩
  · obtain ⟨F0, cs, x, y, h, _⟩ := h; exact Dts.len h
  · exact (pss_one (ps_ret (pe_cmpR op_ne (pe_lenSetS rfl (by rfl) m_len (by rfl) m_set (pe_lc (own := [("box", 1)]) (g := (gName 1)) (tt := tYes) (te := (tOp (rIxT K) (tVar 1) (tC (.int 0)))) (by rfl) sc_has_names_twice.nd (pi_list (pv 0)) (blkOk_by (own := [("box", 1)]) (N := N_has_names_twice) (sc := defScope s_has_names_twice) (by decide +kernel)) (fun _ _ _ _ _ => (pg_name (i := 1) sc_has_names_twice.nd rfl (Or.inl rfl))) (fun _ _ _ _ _ => pts_nil) (fun _ _ _ _ _ => (pe_ix ix_tup (pv 1) pe_int (fun _ _ => rfl))))) (pe_callB cr_lenL (by rfl) m_len PySem.boot_len (pa_cons (pv 0) pa_nil)) (nomark _))))
abbrev s_has_room : Stmt := (top 32)
def f_has_room_b4 (boxes_2 : (List (Str × Int × Int))) (place_3 : Int) : Unit → (Int × Int) → Option (Fl Unit Bool) := fun _ (bay_7, room_8) => (((lcC (fun box_35 => (((atI [eS box_35.1, eI box_35.2.1, eI box_35.2.2] place_3)).bind fun x46 => ((eqDM x46 (eI bay_7))).bind fun x48 => if (x48) = true then (some (some box_35)) else some none)) boxes_2)).bind fun x50 => (if (decide (room_8 < (x50.length : Int))) = true then some (Fl.rt false) else some (Fl.nx ())))
def f_has_room : ((List Int) × (List (Str × Int × Int)) × Int) → Option Bool := fun (rooms_1, boxes_2, place_3) => (forF (f_has_room_b4 boxes_2 place_3) (enumM rooms_1) ()).bind fun r5 => match r5 with | .nx _ => some true | .br _ => none | .rt z82 => some z82
abbrev A_has_room : ((List Int) × (List (Str × Int × Int)) × Int) → List PyData := fun x => [(eL eI) x.1, (eL (eT3 eS eI eI)) x.2.1, eI x.2.2]
abbrev N_has_room : List Str := ["rooms", "boxes", "place", "bay", "room", "box"]
abbrev sp_has_room (K : PySem.W.Frag) : Sp := spP K A_has_room eB f_has_room
def t_has_room (K : PySem.W.Frag) : TS := (tSeq (tFor (iEnum K (tCons (tVar 0) tNil)) (gTup K 2 (gCons (gName 3) (gCons (gName 4) gNil))) (tIfS (tTest (tOp (rI0 fun i j => .bl (decide (j < i))) (tCB (rLenL K) (tCons (tLc (iList K (tVar 1)) (gName 5) (tTest (tOp (rEqD K) (tOp (rIxT K) (tVar 5) (tVar 2)) (tVar 3))) (tVar 5) [5]) tNil)) (tVar 4))) (tRet (tC (.bl false))) tNext)) (tRet (tC (.bl true))))
theorem w_has_room {K : PySem.W.Frag} (vs : List V) (H : Hp) (Q : VK) (E : XK) (h : sp_has_room K vs H Q E) : t_has_room K { nx := fun _ H' => Q .non H', rt := Q } (start N_has_room vs) H := by
  obtain ⟨F0, cs, ⟨rooms_1, boxes_2, place_3⟩, y, h, hS0, m, q⟩ := h
  obtain ⟨a0, _, rfl, ha0, h⟩ := Dts.hd h
  obtain ⟨a1, _, rfl, ha1, h⟩ := Dts.hd h
  obtain ⟨a2, _, rfl, ha2, h⟩ := Dts.hd h
  obtain rfl := Dts.no h
  obtain rfl := Dt.toInt ha2
  unfold f_has_room at m
  try dsimp only at m
  unfold t_has_room
  refine go (σ' := [some a0, some a1, some (.int place_3), none, none, none]) rfl ?_
  obtain ⟨r5, k6, m⟩ := bnd m
  refine s_forF (K := K) (xs := (enumM rooms_1)) (en := (eT2 eI eI)) (body := (f_has_room_b4 boxes_2 place_3)) (s0 := ()) (r := r5) (fun (a : Unit) F σ c => ∃ (j3 : Option V) (j4 : Option V) (j5 : Option V), σ = [some a0, some a1, some (.int place_3), j3, j4, j5] ∧ cs = c) hS0 (i_enum (en := eI) (a_cons (d_var rfl ha0) a_nil)) (fun _ _ => ⟨_, _, _, rfl, rfl⟩) k6 ?_ ?_
  · rintro ⟨⟩ F67 σ72 c71 H68 hz83 g69 hS70 ⟨u73, u74, u75, rfl, rfl⟩
    rcases hz83.symm with rfl | rfl
    · cases (show (none : Option _) = some _ from m)
    try dsimp only at m
    refine s_ret (K := K) (d := eB true) hS70 d_bl (fun v80 F76 H77 g78 hS79 hv81 => ?_)
    obtain rfl := sm m
    exact q _ _ _ (Gr.tr g69 g78) hS79 hv81
  · rintro ⟨bay_7, room_8⟩ ⟨⟩ b17 F9 F10 σ23 c24 H11 v16 N18 B19 g12 ⟨u26, u27, u28, rfl, rfl⟩ g13 hS14 hv15 m25 hN20 hB21 hR22
    obtain ⟨p29, w31, w32, rfl, hT30, hw33, hw34⟩ := u2 hv15
    obtain rfl := Dt.toInt hw33
    obtain rfl := Dt.toInt hw34
    refine tg (σ' := [some a0, some a1, some (.int place_3), some (.int bay_7), some (.int room_8), u28]) (fun Q hq => ⟨p29, [_, _], rfl, gr_T hS14.fr hT30, rfl, _, _, rfl, _, _, rfl, rfl, hq⟩) ?_
    unfold f_has_room_b4 at m25
    try dsimp only at m25
    obtain ⟨x50, k51, m25⟩ := bnd m25
    refine s_if (b := (decide (room_8 < (x50.length : Int)))) hS14 (t_test (K := K) (d_gt (d_len (e := (eT3 eS eI eI)) (a_cons (EvC.dd (c_lcC (K := K) (f := (fun box_35 => (((atI [eS box_35.1, eI box_35.2.1, eI box_35.2.2] place_3)).bind fun x46 => ((eqDM x46 (eI bay_7))).bind fun x48 => if (x48) = true then (some (some box_35)) else some none))) (em := (eT3 eS eI eI)) (i_list (en := (eT3 eS eI eI)) (d_var rfl (Dt.gr (Gr.tr g12 g13) ha1))) k51 (fun box_35 o42 v43 F36 p37 us38 g39 hv40 ho41 => by obtain ⟨x46, k47, ho41⟩ := bnd ho41; obtain ⟨x48, k49, ho41⟩ := bnd ho41; by_cases hc : (x48) = true; (rw [if_pos hc] at ho41; obtain rfl := sm ho41; refine ⟨[some a0, some a1, some (.int place_3), some (.int bay_7), some (.int room_8), some v43], fun H45 Q hS44 hq => (fun Q hq => hq) Q hq, rfl, ?_, ?_⟩; (rw [show (some box_35).isSome = (x48) from hc.symm]; exact (t_test (K := K) (d_eqDM (d_ixT (d_var rfl hv40) (d_var rfl (.int _)) k47) (d_var rfl (.int _)) k49))); (intro y hy; obtain rfl := sm hy; exact (d_var rfl hv40))); (rw [if_neg hc] at ho41; obtain rfl := sm ho41; refine ⟨[some a0, some a1, some (.int place_3), some (.int bay_7), some (.int room_8), some v43], fun H45 Q hS44 hq => (fun Q hq => hq) Q hq, rfl, ?_, ?_⟩; (rw [show (none : Option (Str × Int × Int)).isSome = (x48) from (bt hc).symm]; exact (t_test (K := K) (d_eqDM (d_ixT (d_var rfl hv40) (d_var rfl (.int _)) k47) (d_var rfl (.int _)) k49))); (intro y hy; cases hy))))) a_nil)) (d_var rfl (.int _)))) (fun hc F52 H53 g54 hS55 => ?_) (fun hc F63 H64 g65 hS66 => ?_)
    · rw [if_pos hc] at m25
      refine s_ret (K := K) (d := eB false) hS55 d_bl (fun v60 F56 H57 g58 hS59 hv61 => ?_)
      obtain rfl := sm m25
      have hr62 := hR22 _ rfl
      subst hr62
      obtain rfl := sm m
      exact q _ _ _ (Gr.tr g12 (Gr.tr g13 (Gr.tr g54 g58))) hS59 hv61
    · rw [if_neg (bf hc)] at m25
      refine nxt ?_
      obtain rfl := sm m25
      exact hN20 _ _ _ _ _ rfl g65 hS66 ⟨_, _, _, rfl, rfl⟩
theorem sc_has_room : FnScope N_has_room ["rooms", "boxes", "place"] (defScope s_has_room) := ⟨rfl, rfl, rfl, by decide +kernel, rfl, by decide +kernel, by decide +kernel⟩
theorem ok_has_room {P : Program} {w : World} {K : PySem.W.Frag} {mg : Str → Option Value} {base : Heap} (hF : Df K mg "has_room" s_has_room) (m_enumerate : mg "enumerate" = none) (m_len : mg "len" = none) : Ok P w K mg base 1 "has_room" ["rooms", "boxes", "place"] (sp_has_room K) := by
  obtain ⟨⟨fd, F⟩, gm⟩ := hF
  refine ⟨⟨fd, F.ok sc_has_room (fun vs H Q E h => ?_) (fun cdv A outer s H vs Q E hr h => ⟨t_has_room K, PSs.nox ?_, w_has_room vs H Q E h⟩), F.bindsN fun _ _ _ _ _ _ us hl => match us, hl with | [_, _, _], _ => rfl, lk_of F⟩, F.kp, gm⟩
  · obtain ⟨F0, cs, x, y, h, _⟩ := h; exact Dts.len h
  · exact (pss_cons (ps_for PassesOwn.never rfl (pi_enum (by rfl) m_enumerate (pa_cons (pv 0) pa_nil)) (pg_tup rfl (pgs_cons (pg_name (i := 3) sc_has_room.nd rfl (Or.inr rfl)) (pgs_cons (pg_name (i := 4) sc_has_room.nd rfl (Or.inl rfl)) pgs_nil))) (pss_one (ps_if (pt_cmpR op_gt (pe_callB cr_lenL (by rfl) m_len PySem.boot_len (pa_cons (pe_lc (own := [("box", 5)]) (g := (gName 5)) (tt := (tTest (tOp (rEqD K) (tOp (rIxT K) (tVar 5) (tVar 2)) (tVar 3)))) (te := (tVar 5)) (by rfl) sc_has_room.nd (pi_list (pv 1)) (blkOk_by (own := [("box", 5)]) (N := N_has_room) (sc := defScope s_has_room) (by decide +kernel)) (fun _ _ _ _ _ => (pg_name (i := 5) sc_has_room.nd rfl (Or.inl rfl))) (fun _ _ _ _ _ => (pts_one (pt_cmpR (op_eqD hr.units) (pe_ix ix_tup (pv 5) (pv 2) (fun _ _ => rfl)) (pv 3) (nomark _)))) (fun _ _ _ _ _ => (pv 5))) pa_nil)) (pv 4) (nomark _)) (pss_one (ps_ret pe_bl)) pss_nil))) (pss_one (ps_ret pe_bl)))
abbrev s_is_name : Stmt := (top 21)
def f_is_name : Str → Option Bool := fun thing_1 => (((if (!true) = true then some true else (((lenS thing_1)).bind fun x2 => some (!(decide ((1 : Int) ≤ x2) && decide (x2 ≤ (8 : Int))))))).bind fun x4 => (if x4 = true then some false else (((mapC (fun sign_20 => (inS sign_20 ("abcdefghijklmnopqrstuvwxyz" : Str))) (signs thing_1))).bind fun x31 => some ((x31).all id))))
abbrev A_is_name : Str → List PyData := fun x => [eS x]
abbrev N_is_name : List Str := ["thing", "sign"]
abbrev sp_is_name (K : PySem.W.Frag) : Sp := spP K A_is_name eB f_is_name
def t_is_name (K : PySem.W.Frag) : TS := (tSeq (tIfS (tOr (tNot (tB (tCB (rIsi K) (tCons (tVar 0) (tCons (tC (.ty "str")) tNil))))) (tNot (tTest (tChain (rI0 fun i j => .bl (decide (i ≤ j))) (rI0 fun i j => .bl (decide (i ≤ j))) (tC (.int 1)) (tCB rLenS (tCons (tVar 0) tNil)) (tC (.int 8)))))) (tRet (tC (.bl false))) tNext) (tRet (tCB (rAll K) (tCons (tLc (iStr (tVar 0)) (gName 1) tYes (tOp rInS (tVar 1) (tC (.str "abcdefghijklmnopqrstuvwxyz"))) [1]) tNil))))
theorem w_is_name {K : PySem.W.Frag} (vs : List V) (H : Hp) (Q : VK) (E : XK) (h : sp_is_name K vs H Q E) : t_is_name K { nx := fun _ H' => Q .non H', rt := Q } (start N_is_name vs) H := by
  obtain ⟨F0, cs, thing_1, y, h, hS0, m, q⟩ := h
  obtain ⟨a0, _, rfl, ha0, h⟩ := Dts.hd h
  obtain rfl := Dts.no h
  obtain rfl := Dt.toStr ha0
  unfold f_is_name at m
  try dsimp only at m
  unfold t_is_name
  refine go (σ' := [some (.str thing_1), none]) rfl ?_
  obtain ⟨x4, k5, m⟩ := bnd m
  refine s_if (b := x4) hS0 (t_orM (r := x4) (t_not (t_B (K := K) (d_is (e := PyData.bool true) (d_isiD (c := "str") (by decide) (d_var rfl (.str _))) (congrArg PyData.bool (by rfl))))) (fun hc => by rw [if_neg (bf hc)] at k5; obtain ⟨x2, k3, k5⟩ := bnd k5; obtain rfl := sm k5; exact (t_not (t_test (K := K) (d_chain d_int (d_lenS (a_cons (d_var rfl (.str _)) a_nil) k3) d_int)))) (fun hc => by rw [if_pos hc] at k5; exact (sm k5).symm)) (fun hc F6 H7 g8 hS9 => ?_) (fun hc F16 H17 g18 hS19 => ?_)
  · rw [if_pos hc] at m
    refine s_ret (K := K) (d := eB false) hS9 d_bl (fun v14 F10 H11 g12 hS13 hv15 => ?_)
    obtain rfl := sm m
    exact q _ _ _ (Gr.tr g8 g12) hS13 hv15
  · rw [if_neg (bf hc)] at m
    refine nxt ?_
    obtain ⟨x31, k32, m⟩ := bnd m
    refine s_ret (K := K) (d := eB ((x31).all id)) hS19 (d_all (a_cons (EvC.dd (c_mapC (K := K) (f := (fun sign_20 => (inS sign_20 ("abcdefghijklmnopqrstuvwxyz" : Str)))) (em := eB) (i_str (d_var rfl (.str _))) k32 (fun sign_20 o27 v28 F21 p22 us23 g24 hv25 ho26 => by obtain rfl := Dt.toStr hv25; obtain rfl := sm ho26; exact ⟨[some (.str thing_1), some (.str sign_20)], fun H30 Q hS29 hq => (fun Q hq => hq) Q hq, rfl, t_yes, fun y hy => by obtain rfl := sm hy; exact (d_inS (d_var rfl (.str _)) d_str)⟩))) a_nil)) (fun v37 F33 H34 g35 hS36 hv38 => ?_)
    obtain rfl := sm m
    exact q _ _ _ (Gr.tr g18 g35) hS36 hv38
theorem sc_is_name : FnScope N_is_name ["thing"] (defScope s_is_name) := ⟨rfl, rfl, rfl, by decide +kernel, rfl, by decide +kernel, by decide +kernel⟩
theorem ok_is_name {P : Program} {w : World} {K : PySem.W.Frag} {mg : Str → Option Value} {base : Heap} (hF : Df K mg "is_name" s_is_name) (m_all : mg "all" = none) (m_isinstance : mg "isinstance" = none) (m_len : mg "len" = none) (m_str : mg "str" = none) (c_LETTERS : ∃ t, mg "LETTERS" = some (.str "abcdefghijklmnopqrstuvwxyz" t)) (c_LONGEST : ∃ t, mg "LONGEST" = some (.int 8 t)) : Ok P w K mg base 1 "is_name" ["thing"] (sp_is_name K) := by
  obtain ⟨_, c_LETTERS⟩ := c_LETTERS
  obtain ⟨_, c_LONGEST⟩ := c_LONGEST
  obtain ⟨⟨fd, F⟩, gm⟩ := hF
  refine ⟨⟨fd, F.ok sc_is_name (fun vs H Q E h => ?_) (fun cdv A outer s H vs Q E hr h => ⟨t_is_name K, PSs.nox ?_, w_is_name vs H Q E h⟩), F.bindsN fun _ _ _ _ _ _ us hl => match us, hl with | [_], _ => rfl, lk_of F⟩, F.kp, gm⟩
  · obtain ⟨F0, cs, x, y, h, _⟩ := h; exact Dts.len h
  · exact (pss_cons (ps_if (PW.pt (pw_or (pt_not (pt_val (pe_callB call_isi (by rfl) m_isinstance (by decide +kernel) (pa_cons (pv 0) (pa_cons (pe_bltn (v := .ty "str") (by rfl) m_str (by decide +kernel) rfl) pa_nil))))) (pw_or1 (pt_not (pt_chain op_le op_le pe_int (pe_callB cr_lenS (by rfl) m_len PySem.boot_len (pa_cons (pv 0) pa_nil)) (pe_glob (v := .int 8) (by rfl) c_LONGEST ⟨_, rfl⟩)))))) (pss_one (ps_ret pe_bl)) pss_nil) (pss_one (ps_ret (pe_callB (cr_all rfl) (by rfl) m_all (by decide +kernel) (pa_cons (pe_lc (own := [("sign", 1)]) (g := (gName 1)) (tt := tYes) (te := (tOp rInS (tVar 1) (tC (.str "abcdefghijklmnopqrstuvwxyz")))) (by rfl) sc_is_name.nd (pi_str (pv 0)) (blkOk_by (own := [("sign", 1)]) (N := N_is_name) (sc := defScope s_is_name) (by decide +kernel)) (fun _ _ _ _ _ => (pg_name (i := 1) sc_is_name.nd rfl (Or.inl rfl))) (fun _ _ _ _ _ => pts_nil) (fun _ _ _ _ _ => (pe_cmpR op_inR (pv 1) (pe_glob (v := .str "abcdefghijklmnopqrstuvwxyz") (by rfl) c_LETTERS ⟨_, rfl⟩) (by rfl)))) pa_nil)))))
abbrev s_is_box : Stmt := (top 30)
def f_is_box : ((Str × Int × Int) × Int) → Option Bool := fun (thing_1, many_2) => (((if (!true) = true then some true else (((if (!decide ((3 : Int) = (3 : Int))) = true then some true else (((f_is_name thing_1.1)).bind fun x3 => some (!x3)))).bind fun x5 => some x5))).bind fun x7 => (if x7 = true then some false else (((f_is_within (thing_1.2.1, (0 : Int), (many_2 - (1 : Int))))).bind fun x23 => ((if x23 = true then (((f_is_within (thing_1.2.2, (0 : Int), (many_2 - (1 : Int))))).bind fun x25 => some x25) else some false)).bind fun x27 => some x27)))
abbrev A_is_box : ((Str × Int × Int) × Int) → List PyData := fun x => [(eT3 eS eI eI) x.1, eI x.2]
abbrev N_is_box : List Str := ["thing", "many"]
abbrev sp_is_box (K : PySem.W.Frag) : Sp := spP K A_is_box eB f_is_box
def t_is_box (K : PySem.W.Frag) : TS := (tSeq (tIfS (tOr (tNot (tB (tCB (rIsi K) (tCons (tVar 0) (tCons (tC (.ty "tuple")) tNil))))) (tOr (tTest (tOp rNe (tCB (rLenL K) (tCons (tVar 0) tNil)) (tC (.int 3)))) (tNot (tB (tCall (sp_is_name K) [] E0 (tCons (tOp (rIxT K) (tVar 0) (tC (.int 0))) tNil)))))) (tRet (tC (.bl false))) tNext) (tRet (tAndV (tCall (sp_is_within K) [] E0 (tCons (tOp (rIxT K) (tVar 0) (tC (.int 1))) (tCons (tC (.int 0)) (tCons (tOp (rI0 fun i j => .int (i - j)) (tVar 1) (tC (.int 1))) tNil)))) (tCall (sp_is_within K) [] E0 (tCons (tOp (rIxT K) (tVar 0) (tC (.int 2))) (tCons (tC (.int 0)) (tCons (tOp (rI0 fun i j => .int (i - j)) (tVar 1) (tC (.int 1))) tNil)))))))
theorem w_is_box {K : PySem.W.Frag} (vs : List V) (H : Hp) (Q : VK) (E : XK) (h : sp_is_box K vs H Q E) : t_is_box K { nx := fun _ H' => Q .non H', rt := Q } (start N_is_box vs) H := by
  obtain ⟨F0, cs, ⟨thing_1, many_2⟩, y, h, hS0, m, q⟩ := h
  obtain ⟨a0, _, rfl, ha0, h⟩ := Dts.hd h
  obtain ⟨a1, _, rfl, ha1, h⟩ := Dts.hd h
  obtain rfl := Dts.no h
  obtain rfl := Dt.toInt ha1
  unfold f_is_box at m
  try dsimp only at m
  unfold t_is_box
  refine go (σ' := [some a0, some (.int many_2)]) rfl ?_
  obtain ⟨x7, k8, m⟩ := bnd m
  refine s_if (b := x7) hS0 (t_orM (r := x7) (t_not (t_B (K := K) (d_is (e := PyData.bool true) (d_isiD (c := "tuple") (by decide) (d_var rfl ha0)) (congrArg PyData.bool (by rfl))))) (fun hc => by rw [if_neg (bf hc)] at k8; obtain ⟨x5, k6, k8⟩ := bnd k8; obtain rfl := sm k8; exact (t_orM (r := x5) (t_test (K := K) (d_neI (d_is (e := PyData.int 3) (d_lenT (a_cons (d_var rfl ha0) a_nil)) (congrArg PyData.int (by rfl))) d_int)) (fun hc => by rw [if_neg (bf hc)] at k6; obtain ⟨x3, k4, k6⟩ := bnd k6; obtain rfl := sm k6; exact (t_not (t_B (K := K) (d_call (A := A_is_name) (B := eB) (x := thing_1.1) (a_cons (d_ixT (d_var rfl ha0) d_int rfl) a_nil) k4)))) (fun hc => by rw [if_pos hc] at k6; exact (sm k6).symm))) (fun hc => by rw [if_pos hc] at k8; exact (sm k8).symm)) (fun hc F9 H10 g11 hS12 => ?_) (fun hc F19 H20 g21 hS22 => ?_)
  · rw [if_pos hc] at m
    refine s_ret (K := K) (d := eB false) hS12 d_bl (fun v17 F13 H14 g15 hS16 hv18 => ?_)
    obtain rfl := sm m
    exact q _ _ _ (Gr.tr g11 g15) hS16 hv18
  · rw [if_neg (bf hc)] at m
    refine nxt ?_
    obtain ⟨x23, k24, m⟩ := bnd m
    obtain ⟨x27, k28, m⟩ := bnd m
    refine s_ret (K := K) (d := eB x27) hS22 (d_andM (r := x27) (d_call (A := A_is_within) (B := eB) (x := (thing_1.2.1, (0 : Int), (many_2 - (1 : Int)))) (a_cons (d_ixT (d_var rfl (Dt.gr g21 ha0)) d_int rfl) (a_cons d_int (a_cons (d_sub (d_var rfl (.int _)) d_int) a_nil))) k24) (fun hc => by rw [if_pos hc] at k28; obtain ⟨x25, k26, k28⟩ := bnd k28; obtain rfl := sm k28; exact (d_call (A := A_is_within) (B := eB) (x := (thing_1.2.2, (0 : Int), (many_2 - (1 : Int)))) (a_cons (d_ixT (d_var rfl (Dt.gr g21 ha0)) d_int rfl) (a_cons d_int (a_cons (d_sub (d_var rfl (.int _)) d_int) a_nil))) k26)) (fun hc => by rw [if_neg (bf hc)] at k28; exact (sm k28).symm)) (fun v33 F29 H30 g31 hS32 hv34 => ?_)
    obtain rfl := sm m
    exact q _ _ _ (Gr.tr g21 g31) hS32 hv34
theorem sc_is_box : FnScope N_is_box ["thing", "many"] (defScope s_is_box) := ⟨rfl, rfl, rfl, by decide +kernel, rfl, by decide +kernel, by decide +kernel⟩
theorem ok_is_box {P : Program} {w : World} {K : PySem.W.Frag} {mg : Str → Option Value} {base : Heap} (hF : Df K mg "is_box" s_is_box) (m_isinstance : mg "isinstance" = none) (m_len : mg "len" = none) (m_tuple : mg "tuple" = none) (o_is_within : Ok P w K mg base 2 "is_within" ["thing", "least", "greatest"] (sp_is_within K)) (o_is_name : Ok P w K mg base 1 "is_name" ["thing"] (sp_is_name K)) : Ok P w K mg base 3 "is_box" ["thing", "many"] (sp_is_box K) := by
  obtain ⟨⟨_, G_is_within, bd_is_within, _⟩, kp_is_within, gm_is_within⟩ := o_is_within
  obtain ⟨⟨_, G_is_name, bd_is_name, _⟩, kp_is_name, gm_is_name⟩ := o_is_name
  obtain ⟨⟨fd, F⟩, gm⟩ := hF
  refine ⟨⟨fd, F.ok sc_is_box (fun vs H Q E h => ?_) (fun cdv A outer s H vs Q E hr h => ⟨t_is_box K, PSs.nox ?_, w_is_box vs H Q E h⟩), F.bindsN fun _ _ _ _ _ _ us hl => match us, hl with | [_, _], _ => rfl, lk_of F⟩, F.kp, gm⟩
  · obtain ⟨F0, cs, x, y, h, _⟩ := h; exact Dts.len h
  · exact (pss_cons (ps_if (PW.pt (pw_or (pt_not (pt_val (pe_callB call_isi (by rfl) m_isinstance (by decide +kernel) (pa_cons (pv 0) (pa_cons (pe_bltn (v := .ty "tuple") (by rfl) m_tuple (by decide +kernel) rfl) pa_nil))))) (pw_or (pt_cmpR op_ne (pe_callB cr_lenL (by rfl) m_len PySem.boot_len (pa_cons (pv 0) pa_nil)) pe_int (nomark _)) (pw_or1 (pt_not (pt_val (pe_call G_is_name (hr.mono (by decide)) (by rfl) gm_is_name kp_is_name bd_is_name .nil pass0 (pa_cons (pe_ix ix_tup (pv 0) pe_int (fun _ _ => rfl)) pa_nil)))))))) (pss_one (ps_ret pe_bl)) pss_nil) (pss_one (ps_ret (pe_and (pe_call G_is_within (hr.mono (by decide)) (by rfl) gm_is_within kp_is_within bd_is_within .nil pass0 (pa_cons (pe_ix ix_tup (pv 0) pe_int (fun _ _ => rfl)) (pa_cons pe_int (pa_cons (pe_op op_sub (pv 1) pe_int) pa_nil)))) (pe_one (pe_call G_is_within (hr.mono (by decide)) (by rfl) gm_is_within kp_is_within bd_is_within .nil pass0 (pa_cons (pe_ix ix_tup (pv 0) pe_int (fun _ _ => rfl)) (pa_cons pe_int (pa_cons (pe_op op_sub (pv 1) pe_int) pa_nil)))))))))
abbrev s_are_boxes : Stmt := (top 33)
def f_are_boxes : ((List Int) × (List (Str × Int × Int))) → Option Bool := fun (rooms_1, thing_2) => (if ((!true) || (decide ((60 : Int) < (thing_2.length : Int)))) = true then some false else (((lcC (fun one_17 => (((f_is_box (one_17, (rooms_1.length : Int)))).bind fun x28 => some (some x28))) thing_2)).bind fun x30 => ((if (!((x30).all id)) = true then some true else (((f_has_names_twice thing_2)).bind fun x32 => some x32))).bind fun x34 => (if x34 = true then some false else (((f_has_room (rooms_1, thing_2, (1 : Int)))).bind fun x50 => ((if x50 = true then (((f_has_room (rooms_1, thing_2, (2 : Int)))).bind fun x52 => some x52) else some false)).bind fun x54 => some x54))))
abbrev A_are_boxes : ((List Int) × (List (Str × Int × Int))) → List PyData := fun x => [(eL eI) x.1, (eL (eT3 eS eI eI)) x.2]
abbrev N_are_boxes : List Str := ["rooms", "thing", "one"]
abbrev sp_are_boxes (K : PySem.W.Frag) : Sp := spP K A_are_boxes eB f_are_boxes
def t_are_boxes (K : PySem.W.Frag) : TS := (tSeq (tIfS (tOr (tNot (tB (tCB (rIsi K) (tCons (tVar 1) (tCons (tC (.ty "list")) tNil))))) (tTest (tOp (rI0 fun i j => .bl (decide (j < i))) (tCB (rLenL K) (tCons (tVar 1) tNil)) (tC (.int 60))))) (tRet (tC (.bl false))) tNext) (tSeq (tIfS (tOr (tNot (tB (tCB (rAll K) (tCons (tLc (iList K (tVar 1)) (gName 2) tYes (tCall (sp_is_box K) [] E0 (tCons (tVar 2) (tCons (tCB (rLenL K) (tCons (tVar 0) tNil)) tNil))) [2]) tNil)))) (tB (tCall (sp_has_names_twice K) [] E0 (tCons (tVar 1) tNil)))) (tRet (tC (.bl false))) tNext) (tRet (tAndV (tCall (sp_has_room K) [] E0 (tCons (tVar 0) (tCons (tVar 1) (tCons (tC (.int 1)) tNil)))) (tCall (sp_has_room K) [] E0 (tCons (tVar 0) (tCons (tVar 1) (tCons (tC (.int 2)) tNil))))))))
theorem w_are_boxes {K : PySem.W.Frag} (vs : List V) (H : Hp) (Q : VK) (E : XK) (h : sp_are_boxes K vs H Q E) : t_are_boxes K { nx := fun _ H' => Q .non H', rt := Q } (start N_are_boxes vs) H := by
  obtain ⟨F0, cs, ⟨rooms_1, thing_2⟩, y, h, hS0, m, q⟩ := h
  obtain ⟨a0, _, rfl, ha0, h⟩ := Dts.hd h
  obtain ⟨a1, _, rfl, ha1, h⟩ := Dts.hd h
  obtain rfl := Dts.no h
  unfold f_are_boxes at m
  try dsimp only at m
  unfold t_are_boxes
  refine go (σ' := [some a0, some a1, none]) rfl ?_
  refine s_if (b := ((!true) || (decide ((60 : Int) < (thing_2.length : Int))))) hS0 (t_orP (t_not (t_B (K := K) (d_is (e := PyData.bool true) (d_isiD (c := "list") (by decide) (d_var rfl ha1)) (congrArg PyData.bool (by rfl))))) (fun hc => (t_test (K := K) (d_gt (d_len (e := (eT3 eS eI eI)) (a_cons (d_var rfl ha1) a_nil)) d_int)))) (fun hc F3 H4 g5 hS6 => ?_) (fun hc F13 H14 g15 hS16 => ?_)
  · rw [if_pos hc] at m
    refine s_ret (K := K) (d := eB false) hS6 d_bl (fun v11 F7 H8 g9 hS10 hv12 => ?_)
    obtain rfl := sm m
    exact q _ _ _ (Gr.tr g5 g9) hS10 hv12
  · rw [if_neg (bf hc)] at m
    refine nxt ?_
    obtain ⟨x30, k31, m⟩ := bnd m
    obtain ⟨x34, k35, m⟩ := bnd m
    refine s_if (b := x34) hS16 (t_orM (r := x34) (t_not (t_B (K := K) (d_all (a_cons (EvC.dd (c_lcC (K := K) (f := (fun one_17 => (((f_is_box (one_17, (rooms_1.length : Int)))).bind fun x28 => some (some x28)))) (em := eB) (i_list (en := (eT3 eS eI eI)) (d_var rfl (Dt.gr g15 ha1))) k31 (fun one_17 o24 v25 F18 p19 us20 g21 hv22 ho23 => by obtain ⟨x28, k29, ho23⟩ := bnd ho23; obtain rfl := sm ho23; exact ⟨[some a0, some a1, some v25], fun H27 Q hS26 hq => (fun Q hq => hq) Q hq, rfl, t_yes, fun y hy => by obtain rfl := sm hy; exact (d_call (A := A_is_box) (B := eB) (x := (one_17, (rooms_1.length : Int))) (a_cons (d_var rfl hv22) (a_cons (d_len (e := eI) (a_cons (d_var rfl (Dt.gr (Gr.tr g15 g21) ha0)) a_nil)) a_nil)) k29)⟩))) a_nil)))) (fun hc => by rw [if_neg (bf hc)] at k35; obtain ⟨x32, k33, k35⟩ := bnd k35; obtain rfl := sm k35; exact (t_B (K := K) (d_call (A := A_has_names_twice) (B := eB) (x := thing_2) (a_cons (d_var rfl (Dt.gr g15 ha1)) a_nil) k33))) (fun hc => by rw [if_pos hc] at k35; exact (sm k35).symm)) (fun hc F36 H37 g38 hS39 => ?_) (fun hc F46 H47 g48 hS49 => ?_)
    · rw [if_pos hc] at m
      refine s_ret (K := K) (d := eB false) hS39 d_bl (fun v44 F40 H41 g42 hS43 hv45 => ?_)
      obtain rfl := sm m
      exact q _ _ _ (Gr.tr g15 (Gr.tr g38 g42)) hS43 hv45
    · rw [if_neg (bf hc)] at m
      refine nxt ?_
      obtain ⟨x50, k51, m⟩ := bnd m
      obtain ⟨x54, k55, m⟩ := bnd m
      refine s_ret (K := K) (d := eB x54) hS49 (d_andM (r := x54) (d_call (A := A_has_room) (B := eB) (x := (rooms_1, thing_2, (1 : Int))) (a_cons (d_var rfl (Dt.gr (Gr.tr g15 g48) ha0)) (a_cons (d_var rfl (Dt.gr (Gr.tr g15 g48) ha1)) (a_cons d_int a_nil))) k51) (fun hc => by rw [if_pos hc] at k55; obtain ⟨x52, k53, k55⟩ := bnd k55; obtain rfl := sm k55; exact (d_call (A := A_has_room) (B := eB) (x := (rooms_1, thing_2, (2 : Int))) (a_cons (d_var rfl (Dt.gr (Gr.tr g15 g48) ha0)) (a_cons (d_var rfl (Dt.gr (Gr.tr g15 g48) ha1)) (a_cons d_int a_nil))) k53)) (fun hc => by rw [if_neg (bf hc)] at k55; exact (sm k55).symm)) (fun v60 F56 H57 g58 hS59 hv61 => ?_)
      obtain rfl := sm m
      exact q _ _ _ (Gr.tr g15 (Gr.tr g48 g58)) hS59 hv61
theorem sc_are_boxes : FnScope N_are_boxes ["rooms", "thing"] (defScope s_are_boxes) := ⟨rfl, rfl, rfl, by decide +kernel, rfl, by decide +kernel, by decide +kernel⟩
theorem ok_are_boxes {P : Program} {w : World} {K : PySem.W.Frag} {mg : Str → Option Value} {base : Heap} (hF : Df K mg "are_boxes" s_are_boxes) (m_all : mg "all" = none) (m_isinstance : mg "isinstance" = none) (m_len : mg "len" = none) (m_list : mg "list" = none) (c_MOST_BOXES : ∃ t, mg "MOST_BOXES" = some (.int 60 t)) (o_has_room : Ok P w K mg base 1 "has_room" ["rooms", "boxes", "place"] (sp_has_room K)) (o_is_box : Ok P w K mg base 3 "is_box" ["thing", "many"] (sp_is_box K)) (o_has_names_twice : Ok P w K mg base 1 "has_names_twice" ["boxes"] (sp_has_names_twice K)) : Ok P w K mg base 4 "are_boxes" ["rooms", "thing"] (sp_are_boxes K) := by
  obtain ⟨_, c_MOST_BOXES⟩ := c_MOST_BOXES
  obtain ⟨⟨_, G_has_room, bd_has_room, _⟩, kp_has_room, gm_has_room⟩ := o_has_room
  obtain ⟨⟨_, G_is_box, bd_is_box, _⟩, kp_is_box, gm_is_box⟩ := o_is_box
  obtain ⟨⟨_, G_has_names_twice, bd_has_names_twice, _⟩, kp_has_names_twice, gm_has_names_twice⟩ := o_has_names_twice
  obtain ⟨⟨fd, F⟩, gm⟩ := hF
  refine ⟨⟨fd, F.ok sc_are_boxes (fun vs H Q E h => ?_) (fun cdv A outer s H vs Q E hr h => ⟨t_are_boxes K, PSs.nox ?_, w_are_boxes vs H Q E h⟩), F.bindsN fun _ _ _ _ _ _ us hl => match us, hl with | [_, _], _ => rfl, lk_of F⟩, F.kp, gm⟩
  · obtain ⟨F0, cs, x, y, h, _⟩ := h; exact Dts.len h
  · exact (pss_cons (ps_if (PW.pt (pw_or (pt_not (pt_val (pe_callB call_isi (by rfl) m_isinstance (by decide +kernel) (pa_cons (pv 1) (pa_cons (pe_bltn (v := .ty "list") (by rfl) m_list (by decide +kernel) rfl) pa_nil))))) (pw_or1 (pt_cmpR op_gt (pe_callB cr_lenL (by rfl) m_len PySem.boot_len (pa_cons (pv 1) pa_nil)) (pe_glob (v := .int 60) (by rfl) c_MOST_BOXES ⟨_, rfl⟩) (nomark _))))) (pss_one (ps_ret pe_bl)) pss_nil) (pss_cons (ps_if (PW.pt (pw_or (pt_not (pt_val (pe_callB (cr_all rfl) (by rfl) m_all (by decide +kernel) (pa_cons (pe_lc (own := [("one", 2)]) (g := (gName 2)) (tt := tYes) (te := (tCall (sp_is_box K) [] E0 (tCons (tVar 2) (tCons (tCB (rLenL K) (tCons (tVar 0) tNil)) tNil)))) (by rfl) sc_are_boxes.nd (pi_list (pv 1)) (blkOk_by (own := [("one", 2)]) (N := N_are_boxes) (sc := defScope s_are_boxes) (by decide +kernel)) (fun _ _ _ _ _ => (pg_name (i := 2) sc_are_boxes.nd rfl (Or.inl rfl))) (fun _ _ _ _ _ => pts_nil) (fun _ _ _ _ _ => (pe_call G_is_box (hr.mono (by decide)) (by rfl) gm_is_box kp_is_box bd_is_box .nil pass0 (pa_cons (pv 2) (pa_cons (pe_callB cr_lenL (by rfl) m_len PySem.boot_len (pa_cons (pv 0) pa_nil)) pa_nil))))) pa_nil)))) (pw_or1 (pt_val (pe_call G_has_names_twice (hr.mono (by decide)) (by rfl) gm_has_names_twice kp_has_names_twice bd_has_names_twice .nil pass0 (pa_cons (pv 1) pa_nil)))))) (pss_one (ps_ret pe_bl)) pss_nil) (pss_one (ps_ret (pe_and (pe_call G_has_room (hr.mono (by decide)) (by rfl) gm_has_room kp_has_room bd_has_room .nil pass0 (pa_cons (pv 0) (pa_cons (pv 1) (pa_cons pe_int pa_nil)))) (pe_one (pe_call G_has_room (hr.mono (by decide)) (by rfl) gm_has_room kp_has_room bd_has_room .nil pass0 (pa_cons (pv 0) (pa_cons (pv 1) (pa_cons pe_int pa_nil))))))))))
abbrev s_are_within : Stmt := (top 29)
def f_are_within : ((List Int) × Int × Int) → Option Bool := fun (thing_1, least_2, greatest_3) => (((if true = true then (((lcC (fun one_4 => (((f_is_within (one_4, least_2, greatest_3))).bind fun x15 => some (some x15))) thing_1)).bind fun x17 => some ((x17).all id)) else some false)).bind fun x19 => some x19)
abbrev A_are_within : ((List Int) × Int × Int) → List PyData := fun x => [(eL eI) x.1, eI x.2.1, eI x.2.2]
abbrev N_are_within : List Str := ["thing", "least", "greatest", "one"]
abbrev sp_are_within (K : PySem.W.Frag) : Sp := spP K A_are_within eB f_are_within
def t_are_within (K : PySem.W.Frag) : TS := (tRet (tAndV (tCB (rIsi K) (tCons (tVar 0) (tCons (tC (.ty "list")) tNil))) (tCB (rAll K) (tCons (tLc (iList K (tVar 0)) (gName 3) tYes (tCall (sp_is_within K) [] E0 (tCons (tVar 3) (tCons (tVar 1) (tCons (tVar 2) tNil)))) [3]) tNil))))
theorem w_are_within {K : PySem.W.Frag} (vs : List V) (H : Hp) (Q : VK) (E : XK) (h : sp_are_within K vs H Q E) : t_are_within K { nx := fun _ H' => Q .non H', rt := Q } (start N_are_within vs) H := by
  obtain ⟨F0, cs, ⟨thing_1, least_2, greatest_3⟩, y, h, hS0, m, q⟩ := h
  obtain ⟨a0, _, rfl, ha0, h⟩ := Dts.hd h
  obtain ⟨a1, _, rfl, ha1, h⟩ := Dts.hd h
  obtain ⟨a2, _, rfl, ha2, h⟩ := Dts.hd h
  obtain rfl := Dts.no h
  obtain rfl := Dt.toInt ha1
  obtain rfl := Dt.toInt ha2
  unfold f_are_within at m
  try dsimp only at m
  unfold t_are_within
  refine go (σ' := [some a0, some (.int least_2), some (.int greatest_3), none]) rfl ?_
  obtain ⟨x19, k20, m⟩ := bnd m
  refine s_ret (K := K) (d := eB x19) hS0 (d_andM (r := x19) (d_is (e := PyData.bool true) (d_isiD (c := "list") (by decide) (d_var rfl ha0)) (congrArg PyData.bool (by rfl))) (fun hc => by rw [if_pos hc] at k20; obtain ⟨x17, k18, k20⟩ := bnd k20; obtain rfl := sm k20; exact (d_all (a_cons (EvC.dd (c_lcC (K := K) (f := (fun one_4 => (((f_is_within (one_4, least_2, greatest_3))).bind fun x15 => some (some x15)))) (em := eB) (i_list (en := eI) (d_var rfl ha0)) k18 (fun one_4 o11 v12 F5 p6 us7 g8 hv9 ho10 => by obtain rfl := Dt.toInt hv9; obtain ⟨x15, k16, ho10⟩ := bnd ho10; obtain rfl := sm ho10; exact ⟨[some a0, some (.int least_2), some (.int greatest_3), some (.int one_4)], fun H14 Q hS13 hq => (fun Q hq => hq) Q hq, rfl, t_yes, fun y hy => by obtain rfl := sm hy; exact (d_call (A := A_is_within) (B := eB) (x := (one_4, least_2, greatest_3)) (a_cons (d_var rfl (.int _)) (a_cons (d_var rfl (.int _)) (a_cons (d_var rfl (.int _)) a_nil))) k16)⟩))) a_nil))) (fun hc => by rw [if_neg (bf hc)] at k20; exact (sm k20).symm)) (fun v25 F21 H22 g23 hS24 hv26 => ?_)
  obtain rfl := sm m
  exact q _ _ _ g23 hS24 hv26
theorem sc_are_within : FnScope N_are_within ["thing", "least", "greatest"] (defScope s_are_within) := ⟨rfl, rfl, rfl, by decide +kernel, rfl, by decide +kernel, by decide +kernel⟩
theorem ok_are_within {P : Program} {w : World} {K : PySem.W.Frag} {mg : Str → Option Value} {base : Heap} (hF : Df K mg "are_within" s_are_within) (m_all : mg "all" = none) (m_isinstance : mg "isinstance" = none) (m_list : mg "list" = none) (o_is_within : Ok P w K mg base 2 "is_within" ["thing", "least", "greatest"] (sp_is_within K)) : Ok P w K mg base 3 "are_within" ["thing", "least", "greatest"] (sp_are_within K) := by
  obtain ⟨⟨_, G_is_within, bd_is_within, _⟩, kp_is_within, gm_is_within⟩ := o_is_within
  obtain ⟨⟨fd, F⟩, gm⟩ := hF
  refine ⟨⟨fd, F.ok sc_are_within (fun vs H Q E h => ?_) (fun cdv A outer s H vs Q E hr h => ⟨t_are_within K, PSs.nox ?_, w_are_within vs H Q E h⟩), F.bindsN fun _ _ _ _ _ _ us hl => match us, hl with | [_, _, _], _ => rfl, lk_of F⟩, F.kp, gm⟩
  · obtain ⟨F0, cs, x, y, h, _⟩ := h; exact Dts.len h
  · exact (pss_one (ps_ret (pe_and (pe_callB call_isi (by rfl) m_isinstance (by decide +kernel) (pa_cons (pv 0) (pa_cons (pe_bltn (v := .ty "list") (by rfl) m_list (by decide +kernel) rfl) pa_nil))) (pe_one (pe_callB (cr_all rfl) (by rfl) m_all (by decide +kernel) (pa_cons (pe_lc (own := [("one", 3)]) (g := (gName 3)) (tt := tYes) (te := (tCall (sp_is_within K) [] E0 (tCons (tVar 3) (tCons (tVar 1) (tCons (tVar 2) tNil))))) (by rfl) sc_are_within.nd (pi_list (pv 0)) (blkOk_by (own := [("one", 3)]) (N := N_are_within) (sc := defScope s_are_within) (by decide +kernel)) (fun _ _ _ _ _ => (pg_name (i := 3) sc_are_within.nd rfl (Or.inl rfl))) (fun _ _ _ _ _ => pts_nil) (fun _ _ _ _ _ => (pe_call G_is_within (hr.mono (by decide)) (by rfl) gm_is_within kp_is_within bd_is_within .nil pass0 (pa_cons (pv 3) (pa_cons (pv 1) (pa_cons (pv 2) pa_nil)))))) pa_nil))))))
abbrev s_look_at_store : Stmt := (top 34)
def f_look_at_store : ((List Int) × (List Int) × Int × (List (Str × Int × Int))) → Option (Rs Unit) := fun thing_1 => (if ((!true) || (!decide ((4 : Int) = (4 : Int)))) = true then some (Rs.ex ("NoStore", (eS ("store" : Str)))) else (letM thing_1.1 fun rooms_22 => letM thing_1.2.1 fun gaps_24 => letM thing_1.2.2.1 fun most_26 => letM thing_1.2.2.2 fun boxes_28 => (((f_are_within (rooms_22, (1 : Int), (40 : Int)))).bind fun x40 => (if ((!x40) || (!(decide ((2 : Int) ≤ (rooms_22.length : Int)) && decide ((rooms_22.length : Int) ≤ (16 : Int))))) = true then some (Rs.ex ("NoStore", (eS ("rooms" : Str)))) else (((f_are_within (gaps_24, (1 : Int), (1000000000 : Int)))).bind fun x56 => (if ((!x56) || (!decide ((gaps_24.length : Int) = ((rooms_22.length : Int) - (1 : Int))))) = true then some (Rs.ex ("NoStore", (eS ("gaps" : Str)))) else (((f_is_within (most_26, (1 : Int), (20 : Int)))).bind fun x72 => (if (!x72) = true then some (Rs.ex ("NoStore", (eS ("most" : Str)))) else (((f_are_boxes (rooms_22, boxes_28))).bind fun x88 => (if (!x88) = true then some (Rs.ex ("NoStore", (eS ("boxes" : Str)))) else some (Rs.ok ())))))))))))
abbrev A_look_at_store : ((List Int) × (List Int) × Int × (List (Str × Int × Int))) → List PyData := fun x => [(eT4 (eL eI) (eL eI) eI (eL (eT3 eS eI eI))) x]
abbrev N_look_at_store : List Str := ["thing", "rooms", "gaps", "most", "boxes"]
abbrev sp_look_at_store (K : PySem.W.Frag) : Sp := spPX K A_look_at_store eN f_look_at_store
def t_look_at_store (K : PySem.W.Frag) (E : XK) : TS := (tSeq (tIfS (tOr (tNot (tB (tCB (rIsi K) (tCons (tVar 0) (tCons (tC (.ty "tuple")) tNil))))) (tTest (tOp rNe (tCB (rLenL K) (tCons (tVar 0) tNil)) (tC (.int 4))))) (tRaiseF K (WX0 E) "NoStore" "part" (tC (.str "store"))) tNext) (tSeq (tAsg (tVar 0) (gTup K 4 (gCons (gName 1) (gCons (gName 2) (gCons (gName 3) (gCons (gName 4) gNil)))))) (tSeq (tIfS (tOr (tNot (tB (tCall (sp_are_within K) [] E0 (tCons (tVar 1) (tCons (tC (.int 1)) (tCons (tC (.int 40)) tNil)))))) (tNot (tTest (tChain (rI0 fun i j => .bl (decide (i ≤ j))) (rI0 fun i j => .bl (decide (i ≤ j))) (tC (.int 2)) (tCB (rLenL K) (tCons (tVar 1) tNil)) (tC (.int 16)))))) (tRaiseF K (WX0 E) "NoStore" "part" (tC (.str "rooms"))) tNext) (tSeq (tIfS (tOr (tNot (tB (tCall (sp_are_within K) [] E0 (tCons (tVar 2) (tCons (tC (.int 1)) (tCons (tC (.int 1000000000)) tNil)))))) (tTest (tOp rNe (tCB (rLenL K) (tCons (tVar 2) tNil)) (tOp (rI0 fun i j => .int (i - j)) (tCB (rLenL K) (tCons (tVar 1) tNil)) (tC (.int 1)))))) (tRaiseF K (WX0 E) "NoStore" "part" (tC (.str "gaps"))) tNext) (tSeq (tIfS (tNot (tB (tCall (sp_is_within K) [] E0 (tCons (tVar 3) (tCons (tC (.int 1)) (tCons (tC (.int 20)) tNil)))))) (tRaiseF K (WX0 E) "NoStore" "part" (tC (.str "most"))) tNext) (tIfS (tNot (tB (tCall (sp_are_boxes K) [] E0 (tCons (tVar 1) (tCons (tVar 4) tNil))))) (tRaiseF K (WX0 E) "NoStore" "part" (tC (.str "boxes"))) tNext))))))
theorem w_look_at_store {K : PySem.W.Frag} (vs : List V) (H : Hp) (Q : VK) (E : XK) (h : sp_look_at_store K vs H Q E) : t_look_at_store K E { nx := fun _ H' => Q .non H', rt := Q } (start N_look_at_store vs) H := by
  obtain ⟨F0, cs, thing_1, y, h, hS0, m, q, qx⟩ := h
  obtain ⟨a0, _, rfl, ha0, h⟩ := Dts.hd h
  obtain rfl := Dts.no h
  unfold f_look_at_store at m
  try dsimp only at m
  unfold t_look_at_store
  refine go (σ' := [some a0, none, none, none, none]) rfl ?_
  refine s_if (b := ((!true) || (!decide ((4 : Int) = (4 : Int))))) hS0 (t_orP (t_not (t_B (K := K) (d_is (e := PyData.bool true) (d_isiD (c := "tuple") (by decide) (d_var rfl ha0)) (congrArg PyData.bool (by rfl))))) (fun hc => (t_test (K := K) (d_neI (d_is (e := PyData.int 4) (d_lenT (a_cons (d_var rfl ha0) a_nil)) (congrArg PyData.int (by rfl))) d_int)))) (fun hc F2 H3 g4 hS5 => ?_) (fun hc F12 H13 g14 hS15 => ?_)
  · rw [if_pos hc] at m
    refine s_raiseF (d := (eS ("store" : Str))) (x := "NoStore") (f := "part") hS5 d_str (by decide) (by decide) (fun dd10 F6 H7 g8 hS9 xd11 => ?_)
    obtain rfl := sm m
    exact qx _ rfl _ _ _ (Gr.tr g4 g8) hS9 xd11
  · rw [if_neg (bf hc)] at m
    refine nxt ?_
    refine s_asg (K := K) (d := (eT4 (eL eI) (eL eI) eI (eL (eT3 eS eI eI))) thing_1) hS15 (d_var rfl (Dt.gr g14 ha0)) (fun v20 F16 H17 g18 hS19 hv21 => ?_)
    obtain ⟨rooms_22, k23, m⟩ := lt m
    obtain ⟨gaps_24, k25, m⟩ := lt m
    obtain ⟨most_26, k27, m⟩ := lt m
    obtain ⟨boxes_28, k29, m⟩ := lt m
    obtain ⟨p30, w32, w33, w34, w35, rfl, hT31, hw36, hw37, hw38, hw39⟩ := u4 hv21
    rw [k23] at hw36
    rw [k25] at hw37
    rw [k27] at hw38
    obtain rfl := Dt.toInt hw38
    rw [k29] at hw39
    refine tg (σ' := [some a0, some w32, some w33, some (.int most_26), some w35]) (fun Q hq => ⟨p30, [_, _, _, _], rfl, gr_T hS19.fr hT31, rfl, _, _, rfl, _, _, rfl, _, _, rfl, _, _, rfl, rfl, hq⟩) ?_
    obtain ⟨x40, k41, m⟩ := bnd m
    refine s_if (b := ((!x40) || (!(decide ((2 : Int) ≤ (rooms_22.length : Int)) && decide ((rooms_22.length : Int) ≤ (16 : Int)))))) hS19 (t_orP (t_not (t_B (K := K) (d_call (A := A_are_within) (B := eB) (x := (rooms_22, (1 : Int), (40 : Int))) (a_cons (d_var rfl hw36) (a_cons d_int (a_cons d_int a_nil))) k41))) (fun hc => (t_not (t_test (K := K) (d_chain d_int (d_len (e := eI) (a_cons (d_var rfl hw36) a_nil)) d_int))))) (fun hc F42 H43 g44 hS45 => ?_) (fun hc F52 H53 g54 hS55 => ?_)
    · rw [if_pos hc] at m
      refine s_raiseF (d := (eS ("rooms" : Str))) (x := "NoStore") (f := "part") hS45 d_str (by decide) (by decide) (fun dd50 F46 H47 g48 hS49 xd51 => ?_)
      obtain rfl := sm m
      exact qx _ rfl _ _ _ (Gr.tr g14 (Gr.tr g18 (Gr.tr g44 g48))) hS49 xd51
    · rw [if_neg (bf hc)] at m
      refine nxt ?_
      obtain ⟨x56, k57, m⟩ := bnd m
      refine s_if (b := ((!x56) || (!decide ((gaps_24.length : Int) = ((rooms_22.length : Int) - (1 : Int)))))) hS55 (t_orP (t_not (t_B (K := K) (d_call (A := A_are_within) (B := eB) (x := (gaps_24, (1 : Int), (1000000000 : Int))) (a_cons (d_var rfl (Dt.gr g54 hw37)) (a_cons d_int (a_cons d_int a_nil))) k57))) (fun hc => (t_test (K := K) (d_neI (d_len (e := eI) (a_cons (d_var rfl (Dt.gr g54 hw37)) a_nil)) (d_sub (d_len (e := eI) (a_cons (d_var rfl (Dt.gr g54 hw36)) a_nil)) d_int))))) (fun hc F58 H59 g60 hS61 => ?_) (fun hc F68 H69 g70 hS71 => ?_)
      · rw [if_pos hc] at m
        refine s_raiseF (d := (eS ("gaps" : Str))) (x := "NoStore") (f := "part") hS61 d_str (by decide) (by decide) (fun dd66 F62 H63 g64 hS65 xd67 => ?_)
        obtain rfl := sm m
        exact qx _ rfl _ _ _ (Gr.tr g14 (Gr.tr g18 (Gr.tr g54 (Gr.tr g60 g64)))) hS65 xd67
      · rw [if_neg (bf hc)] at m
        refine nxt ?_
        obtain ⟨x72, k73, m⟩ := bnd m
        refine s_if (b := (!x72)) hS71 (t_not (t_B (K := K) (d_call (A := A_is_within) (B := eB) (x := (most_26, (1 : Int), (20 : Int))) (a_cons (d_var rfl (.int _)) (a_cons d_int (a_cons d_int a_nil))) k73))) (fun hc F74 H75 g76 hS77 => ?_) (fun hc F84 H85 g86 hS87 => ?_)
        · rw [if_pos hc] at m
          refine s_raiseF (d := (eS ("most" : Str))) (x := "NoStore") (f := "part") hS77 d_str (by decide) (by decide) (fun dd82 F78 H79 g80 hS81 xd83 => ?_)
          obtain rfl := sm m
          exact qx _ rfl _ _ _ (Gr.tr g14 (Gr.tr g18 (Gr.tr g54 (Gr.tr g70 (Gr.tr g76 g80))))) hS81 xd83
        · rw [if_neg (bf hc)] at m
          refine nxt ?_
          obtain ⟨x88, k89, m⟩ := bnd m
          refine s_if (b := (!x88)) hS87 (t_not (t_B (K := K) (d_call (A := A_are_boxes) (B := eB) (x := (rooms_22, boxes_28)) (a_cons (d_var rfl (Dt.gr (Gr.tr g54 (Gr.tr g70 g86)) hw36)) (a_cons (d_var rfl (Dt.gr (Gr.tr g54 (Gr.tr g70 g86)) hw39)) a_nil)) k89))) (fun hc F90 H91 g92 hS93 => ?_) (fun hc F100 H101 g102 hS103 => ?_)
          · rw [if_pos hc] at m
            refine s_raiseF (d := (eS ("boxes" : Str))) (x := "NoStore") (f := "part") hS93 d_str (by decide) (by decide) (fun dd98 F94 H95 g96 hS97 xd99 => ?_)
            obtain rfl := sm m
            exact qx _ rfl _ _ _ (Gr.tr g14 (Gr.tr g18 (Gr.tr g54 (Gr.tr g70 (Gr.tr g86 (Gr.tr g92 g96)))))) hS97 xd99
          · rw [if_neg (bf hc)] at m
            refine nxt ?_
            obtain rfl := sm m
            exact q _ rfl _ _ _ (Gr.tr g14 (Gr.tr g18 (Gr.tr g54 (Gr.tr g70 (Gr.tr g86 g102))))) hS103 Dt.non
theorem sc_look_at_store : FnScope N_look_at_store ["thing"] (defScope s_look_at_store) := ⟨rfl, rfl, rfl, by decide +kernel, rfl, by decide +kernel, by decide +kernel⟩
theorem ok_look_at_store {P : Program} {w : World} {K : PySem.W.Frag} {mg : Str → Option Value} {base : Heap} (hF : Df K mg "look_at_store" s_look_at_store) (m_isinstance : mg "isinstance" = none) (m_len : mg "len" = none) (m_tuple : mg "tuple" = none) (c_FARTHEST : ∃ t, mg "FARTHEST" = some (.int 1000000000 t)) (c_FEWEST_BAYS : ∃ t, mg "FEWEST_BAYS" = some (.int 2 t)) (c_MOST_BAYS : ∃ t, mg "MOST_BAYS" = some (.int 16 t)) (c_MOST_LOAD : ∃ t, mg "MOST_LOAD" = some (.int 20 t)) (c_MOST_ROOM : ∃ t, mg "MOST_ROOM" = some (.int 40 t)) (o_are_boxes : Ok P w K mg base 4 "are_boxes" ["rooms", "thing"] (sp_are_boxes K)) (o_is_within : Ok P w K mg base 2 "is_within" ["thing", "least", "greatest"] (sp_is_within K)) (o_are_within : Ok P w K mg base 3 "are_within" ["thing", "least", "greatest"] (sp_are_within K)) (i_NoStore : OkI P w K mg base "NoStore" "part") : OkX P w K mg base 5 "look_at_store" ["thing"] (sp_look_at_store K) := by
  obtain ⟨_, c_FARTHEST⟩ := c_FARTHEST
  obtain ⟨_, c_FEWEST_BAYS⟩ := c_FEWEST_BAYS
  obtain ⟨_, c_MOST_BAYS⟩ := c_MOST_BAYS
  obtain ⟨_, c_MOST_LOAD⟩ := c_MOST_LOAD
  obtain ⟨_, c_MOST_ROOM⟩ := c_MOST_ROOM
  obtain ⟨⟨_, G_are_boxes, bd_are_boxes, _⟩, kp_are_boxes, gm_are_boxes⟩ := o_are_boxes
  obtain ⟨⟨_, G_is_within, bd_is_within, _⟩, kp_is_within, gm_is_within⟩ := o_is_within
  obtain ⟨⟨_, G_are_within, bd_are_within, _⟩, kp_are_within, gm_are_within⟩ := o_are_within
  obtain ⟨⟨fd, F⟩, gm⟩ := hF
  refine ⟨⟨fd, F.ok sc_look_at_store (fun vs H Q E h => ?_) (fun cdv A outer s H vs Q E hr h => ⟨t_look_at_store K E, ?_, w_look_at_store vs H Q E h⟩), F.bindsN fun _ _ _ _ _ _ us hl => match us, hl with | [_], _ => rfl, lk_of F⟩, F.kp, gm⟩
  · obtain ⟨F0, cs, x, y, h, _⟩ := h; exact Dts.len h
  · refine pss_tk (W := WX0 E) (takes_of (E := E) rfl rfl rfl rfl) fun tkE => ?_
    exact (pss_cons (ps_if (PW.pt (pw_or (pt_not (pt_val (pe_callB call_isi (by rfl) m_isinstance (by decide +kernel) (pa_cons (pv 0) (pa_cons (pe_bltn (v := .ty "tuple") (by rfl) m_tuple (by decide +kernel) rfl) pa_nil))))) (pw_or1 (pt_cmpR op_ne (pe_callB cr_lenL (by rfl) m_len PySem.boot_len (pa_cons (pv 0) pa_nil)) pe_int (nomark _))))) (pss_one (ps_raiseF rfl tkE i_NoStore (hr.mono (by decide)) (by rfl) pe_str)) pss_nil) (pss_cons (ps_asg (pv 0) (pg_tup rfl (pgs_cons (pg_name (i := 1) sc_look_at_store.nd rfl (Or.inl rfl)) (pgs_cons (pg_name (i := 2) sc_look_at_store.nd rfl (Or.inl rfl)) (pgs_cons (pg_name (i := 3) sc_look_at_store.nd rfl (Or.inl rfl)) (pgs_cons (pg_name (i := 4) sc_look_at_store.nd rfl (Or.inl rfl)) pgs_nil)))))) (pss_cons (ps_if (PW.pt (pw_or (pt_not (pt_val (pe_call G_are_within (hr.mono (by decide)) (by rfl) gm_are_within kp_are_within bd_are_within .nil pass0 (pa_cons (pv 1) (pa_cons pe_int (pa_cons (pe_glob (v := .int 40) (by rfl) c_MOST_ROOM ⟨_, rfl⟩) pa_nil)))))) (pw_or1 (pt_not (pt_chain op_le op_le (pe_glob (v := .int 2) (by rfl) c_FEWEST_BAYS ⟨_, rfl⟩) (pe_callB cr_lenL (by rfl) m_len PySem.boot_len (pa_cons (pv 1) pa_nil)) (pe_glob (v := .int 16) (by rfl) c_MOST_BAYS ⟨_, rfl⟩)))))) (pss_one (ps_raiseF rfl tkE i_NoStore (hr.mono (by decide)) (by rfl) pe_str)) pss_nil) (pss_cons (ps_if (PW.pt (pw_or (pt_not (pt_val (pe_call G_are_within (hr.mono (by decide)) (by rfl) gm_are_within kp_are_within bd_are_within .nil pass0 (pa_cons (pv 2) (pa_cons pe_int (pa_cons (pe_glob (v := .int 1000000000) (by rfl) c_FARTHEST ⟨_, rfl⟩) pa_nil)))))) (pw_or1 (pt_cmpR op_ne (pe_callB cr_lenL (by rfl) m_len PySem.boot_len (pa_cons (pv 2) pa_nil)) (pe_op op_sub (pe_callB cr_lenL (by rfl) m_len PySem.boot_len (pa_cons (pv 1) pa_nil)) pe_int) (nomark _))))) (pss_one (ps_raiseF rfl tkE i_NoStore (hr.mono (by decide)) (by rfl) pe_str)) pss_nil) (pss_cons (ps_if (pt_not (pt_val (pe_call G_is_within (hr.mono (by decide)) (by rfl) gm_is_within kp_is_within bd_is_within .nil pass0 (pa_cons (pv 3) (pa_cons pe_int (pa_cons (pe_glob (v := .int 20) (by rfl) c_MOST_LOAD ⟨_, rfl⟩) pa_nil)))))) (pss_one (ps_raiseF rfl tkE i_NoStore (hr.mono (by decide)) (by rfl) pe_str)) pss_nil) (pss_one (ps_if (pt_not (pt_val (pe_call G_are_boxes (hr.mono (by decide)) (by rfl) gm_are_boxes kp_are_boxes bd_are_boxes .nil pass0 (pa_cons (pv 1) (pa_cons (pv 4) pa_nil))))) (pss_one (ps_raiseF rfl tkE i_NoStore (hr.mono (by decide)) (by rfl) pe_str)) pss_nil)))))))
abbrev s_numbers_text : Stmt := (top 36)
def f_numbers_text : (List Int) → Option Str := fun numbers_1 => (((lcC (fun number_2 => (((strM number_2)).bind fun x13 => some (some x13))) numbers_1)).bind fun x15 => ((joinM (" " : Str) x15)).bind fun x17 => some x17)
abbrev A_numbers_text : (List Int) → List PyData := fun x => [(eL eI) x]
abbrev N_numbers_text : List Str := ["numbers", "number"]
abbrev sp_numbers_text (K : PySem.W.Frag) : Sp := spP K A_numbers_text eS f_numbers_text
def t_numbers_text (K : PySem.W.Frag) : TS := (tRet (tM1 (rJoin K) (tC (.str " ")) (tLc (iList K (tVar 0)) (gName 1) tYes (tCB rStrI (tCons (tVar 1) tNil)) [1])))
theorem w_numbers_text {K : PySem.W.Frag} (vs : List V) (H : Hp) (Q : VK) (E : XK) (h : sp_numbers_text K vs H Q E) : t_numbers_text K { nx := fun _ H' => Q .non H', rt := Q } (start N_numbers_text vs) H := by
  obtain ⟨F0, cs, numbers_1, y, h, hS0, m, q⟩ := h
  obtain ⟨a0, _, rfl, ha0, h⟩ := Dts.hd h
  obtain rfl := Dts.no h
  unfold f_numbers_text at m
  try dsimp only at m
  unfold t_numbers_text
  refine go (σ' := [some a0, none]) rfl ?_
  obtain ⟨x15, k16, m⟩ := bnd m
  obtain ⟨x17, k18, m⟩ := bnd m
  refine s_ret (K := K) (d := eS x17) hS0 (d_join d_str (EvC.dd (c_lcC (K := K) (f := (fun number_2 => (((strM number_2)).bind fun x13 => some (some x13)))) (em := eS) (i_list (en := eI) (d_var rfl ha0)) k16 (fun number_2 o9 v10 F3 p4 us5 g6 hv7 ho8 => by obtain rfl := Dt.toInt hv7; obtain ⟨x13, k14, ho8⟩ := bnd ho8; obtain rfl := sm ho8; exact ⟨[some a0, some (.int number_2)], fun H12 Q hS11 hq => (fun Q hq => hq) Q hq, rfl, t_yes, fun y hy => by obtain rfl := sm hy; exact (d_strI (a_cons (d_var rfl (.int _)) a_nil) k14)⟩))) k18) (fun v23 F19 H20 g21 hS22 hv24 => ?_)
  obtain rfl := sm m
  exact q _ _ _ g21 hS22 hv24
theorem sc_numbers_text : FnScope N_numbers_text ["numbers"] (defScope s_numbers_text) := ⟨rfl, rfl, rfl, by decide +kernel, rfl, by decide +kernel, by decide +kernel⟩
theorem ok_numbers_text {P : Program} {w : World} {K : PySem.W.Frag} {mg : Str → Option Value} {base : Heap} (hF : Df K mg "numbers_text" s_numbers_text) (m_str : mg "str" = none) : Ok P w K mg base 1 "numbers_text" ["numbers"] (sp_numbers_text K) := by
  obtain ⟨⟨fd, F⟩, gm⟩ := hF
  refine ⟨⟨fd, F.ok sc_numbers_text (fun vs H Q E h => ?_) (fun cdv A outer s H vs Q E hr h => ⟨t_numbers_text K, PSs.nox ?_, w_numbers_text vs H Q E h⟩), F.bindsN fun _ _ _ _ _ _ us hl => match us, hl with | [_], _ => rfl, lk_of F⟩, F.kp, gm⟩
  · obtain ⟨F0, cs, x, y, h, _⟩ := h; exact Dts.len h
  · exact (pss_one (ps_ret (pe_join pe_str (pe_lc (own := [("number", 1)]) (g := (gName 1)) (tt := tYes) (te := (tCB rStrI (tCons (tVar 1) tNil))) (by rfl) sc_numbers_text.nd (pi_list (pv 0)) (blkOk_by (own := [("number", 1)]) (N := N_numbers_text) (sc := defScope s_numbers_text) (by decide +kernel)) (fun _ _ _ _ _ => (pg_name (i := 1) sc_numbers_text.nd rfl (Or.inl rfl))) (fun _ _ _ _ _ => pts_nil) (fun _ _ _ _ _ => (pe_callTy cr_str (by rfl) m_str (by decide +kernel) (pa_cons (pv 1) pa_nil)))))))
abbrev s_show_store : Stmt := (top 37)
def f_show_store : ((List Int) × (List Int) × Int × (List (Str × Int × Int))) → Option (Rs Str) := fun store_1 => (((f_look_at_store store_1)).bind fun x2 => (match x2 with | .ok y12 => (((lcC (fun (name_34, at_35, to_36) => (((lenS name_34)).bind fun x55 => ((strM at_35)).bind fun x57 => ((strM to_36)).bind fun x59 => ((scatM Str.empty name_34)).bind fun x61 => ((scatM x61 (" " : Str))).bind fun x63 => ((scatM x63 x57)).bind fun x65 => ((scatM x65 (" " : Str))).bind fun x67 => ((scatM x67 x59)).bind fun x69 => some (some x69))) store_1.2.2.2)).bind fun x71 => ((catM ([("boxes" : Str)] : (List Str)) x71)).bind fun x73 => (((f_numbers_text store_1.1)).bind fun x81 => ((scatM ("rooms " : Str) x81)).bind fun x83 => ((f_numbers_text store_1.2.1)).bind fun x85 => ((scatM ("gaps " : Str) x85)).bind fun x87 => ((strM store_1.2.2.1)).bind fun x89 => ((scatM Str.empty ("most " : Str))).bind fun x91 => ((scatM x91 x89)).bind fun x93 => ((joinM (" " : Str) x73)).bind fun x95 => letM ([x83, x87, x93, x95] : (List Str)) fun parts_101 => (((joinM ("; " : Str) parts_101)).bind fun x105 => some (Rs.ok x105)))) | .ex c13 => some (Rs.ex c13)))
abbrev A_show_store : ((List Int) × (List Int) × Int × (List (Str × Int × Int))) → List PyData := fun x => [(eT4 (eL eI) (eL eI) eI (eL (eT3 eS eI eI))) x]
abbrev N_show_store : List Str := ["store", "words", "parts", "rooms", "gaps", "most", "boxes", "name", "at", "to"]
abbrev sp_show_store (K : PySem.W.Frag) : Sp := spPX K A_show_store eS f_show_store
def t_show_store (K : PySem.W.Frag) (E : XK) : TS := (tSeq (tDrop (tCallS (sp_look_at_store K) (WE (WX0 E)) (tCons (tVar 0) tNil))) (tSeq (tAsg (tVar 0) (gTup K 4 (gCons (gName 3) (gCons (gName 4) (gCons (gName 5) (gCons (gName 6) gNil)))))) (tSeq (tAsg (tOp (rCatS K) (tLst (tCons (tC (.str "boxes")) tNil)) (tLc (iList K (tVar 6)) (gTup K 3 (gCons (gName 7) (gCons (gName 8) (gCons (gName 9) gNil)))) tYes (fun σ H Q => tJs [(tFmt (tVar 7)), (tC (.str " ")), (tFmt (tVar 8)), (tC (.str " ")), (tFmt (tVar 9))] Str.empty σ H fun out H1 => Q (.str out) H1) [7, 8, 9])) (gName 1)) (tSeq (tAsg (tLst (tCons (tOp rScat (tC (.str "rooms ")) (tCall (sp_numbers_text K) [] E0 (tCons (tVar 3) tNil))) (tCons (tOp rScat (tC (.str "gaps ")) (tCall (sp_numbers_text K) [] E0 (tCons (tVar 4) tNil))) (tCons (fun σ H Q => tJs [(tC (.str "most ")), (tFmt (tVar 5))] Str.empty σ H fun out H1 => Q (.str out) H1) (tCons (tM1 (rJoin K) (tC (.str " ")) (tVar 1)) tNil))))) (gName 2)) (tRet (tM1 (rJoin K) (tC (.str "; ")) (tVar 2)))))))
theorem w_show_store {K : PySem.W.Frag} (vs : List V) (H : Hp) (Q : VK) (E : XK) (h : sp_show_store K vs H Q E) : t_show_store K E { nx := fun _ H' => Q .non H', rt := Q } (start N_show_store vs) H := by
  obtain ⟨F0, cs, store_1, y, h, hS0, m, q, qx⟩ := h
  obtain ⟨a0, _, rfl, ha0, h⟩ := Dts.hd h
  obtain rfl := Dts.no h
  unfold f_show_store at m
  try dsimp only at m
  unfold t_show_store
  refine go (σ' := [some a0, none, none, none, none, none, none, none, none, none]) rfl ?_
  obtain ⟨x2, k3, m⟩ := bnd m
  refine s_dropX (B := eN) hS0 (x_call (A := A_look_at_store) (x := store_1) (a_cons (d_var rfl ha0) a_nil) k3) (fun y12 hy14 F4 H5 g6 hS7 => ?_) (fun c13 hc15 dd16 F8 H9 g10 hS11 xd17 => ?_)
  · subst hy14
    try dsimp only at m
    refine s_asg (K := K) (d := (eT4 (eL eI) (eL eI) eI (eL (eT3 eS eI eI))) store_1) hS7 (d_var rfl (Dt.gr g6 ha0)) (fun v22 F18 H19 g20 hS21 hv23 => ?_)
    obtain ⟨p24, w26, w27, w28, w29, rfl, hT25, hw30, hw31, hw32, hw33⟩ := u4 hv23
    obtain rfl := Dt.toInt hw32
    refine tg (σ' := [some a0, none, none, some w26, some w27, some (.int store_1.2.2.1), some w29, none, none, none]) (fun Q hq => ⟨p24, [_, _, _, _], rfl, gr_T hS21.fr hT25, rfl, _, _, rfl, _, _, rfl, _, _, rfl, _, _, rfl, rfl, hq⟩) ?_
    obtain ⟨x71, k72, m⟩ := bnd m
    obtain ⟨x73, k74, m⟩ := bnd m
    refine s_set (K := K) (d := (eL eS) x73) (i := 1) (σ' := fun v79 => [some a0, some v79, none, some w26, some w27, some (.int store_1.2.2.1), some w29, none, none, none]) hS21 (EvC.dd (c_cat (en := eS) (d_lst (a_cons d_str a_nil) (Nat.le_of_ble_eq_true rfl)) (EvC.dd (c_lcC (K := K) (f := (fun (name_34, at_35, to_36) => (((lenS name_34)).bind fun x55 => ((strM at_35)).bind fun x57 => ((strM to_36)).bind fun x59 => ((scatM Str.empty name_34)).bind fun x61 => ((scatM x61 (" " : Str))).bind fun x63 => ((scatM x63 x57)).bind fun x65 => ((scatM x65 (" " : Str))).bind fun x67 => ((scatM x67 x59)).bind fun x69 => some (some x69)))) (em := eS) (i_list (en := (eT3 eS eI eI)) (d_var rfl hw33)) k72 (fun ⟨name_34, at_35, to_36⟩ o43 v44 F37 p38 us39 g40 hv41 ho42 => by obtain ⟨p47, w49, w50, w51, rfl, hT48, hw52, hw53, hw54⟩ := u3 hv41; obtain rfl := Dt.toStr hw52; obtain rfl := Dt.toInt hw53; obtain rfl := Dt.toInt hw54; obtain ⟨x55, k56, ho42⟩ := bnd ho42; obtain ⟨x57, k58, ho42⟩ := bnd ho42; obtain ⟨x59, k60, ho42⟩ := bnd ho42; obtain ⟨x61, k62, ho42⟩ := bnd ho42; obtain ⟨x63, k64, ho42⟩ := bnd ho42; obtain ⟨x65, k66, ho42⟩ := bnd ho42; obtain ⟨x67, k68, ho42⟩ := bnd ho42; obtain ⟨x69, k70, ho42⟩ := bnd ho42; obtain rfl := sm ho42; exact ⟨[some a0, none, none, some w26, some w27, some (.int store_1.2.2.1), some w29, some (.str name_34), some (.int at_35), some (.int to_36)], fun H46 Q hS45 hq => (fun Q hq => ⟨p47, [_, _, _], rfl, gr_T hS45.fr hT48, rfl, _, _, rfl, _, _, rfl, _, _, rfl, rfl, hq⟩) Q hq, rfl, t_yes, fun y hy => by obtain rfl := sm hy; exact (d_fstr (j_cons (d_fmtS (d_var rfl (.str _)) k56) k62 (j_cons d_str k64 (j_cons (d_fmtI (d_var rfl (.int _)) k58) k66 (j_cons d_str k68 (j_cons (d_fmtI (d_var rfl (.int _)) k60) k70 j_nil))))))⟩))) k74)) (fun _ => rfl) (fun v79 F75 H76 g77 hS78 hv80 => ?_)
    obtain ⟨x81, k82, m⟩ := bnd m
    obtain ⟨x83, k84, m⟩ := bnd m
    obtain ⟨x85, k86, m⟩ := bnd m
    obtain ⟨x87, k88, m⟩ := bnd m
    obtain ⟨x89, k90, m⟩ := bnd m
    obtain ⟨x91, k92, m⟩ := bnd m
    obtain ⟨x93, k94, m⟩ := bnd m
    obtain ⟨x95, k96, m⟩ := bnd m
    obtain ⟨parts_101, k102, m⟩ := lt m
    refine s_set (K := K) (d := (eL eS) parts_101) (i := 2) (σ' := fun v103 => [some a0, some v79, some v103, some w26, some w27, some (.int store_1.2.2.1), some w29, none, none, none]) hS78 (d_is (d_lst (a_cons (d_scat d_str (d_call (A := A_numbers_text) (B := eS) (x := store_1.1) (a_cons (d_var rfl (Dt.gr g77 hw30)) a_nil) k82) k84) (a_cons (d_scat d_str (d_call (A := A_numbers_text) (B := eS) (x := store_1.2.1) (a_cons (d_var rfl (Dt.gr g77 hw31)) a_nil) k86) k88) (a_cons (d_fstr (j_cons d_str k92 (j_cons (d_fmtI (d_var rfl (.int _)) k90) k94 j_nil))) (a_cons (d_join d_str (d_var rfl hv80) k96) a_nil)))) (Nat.le_of_ble_eq_true rfl)) (congrArg (eL eS) k102)) (fun _ => rfl) (fun v103 F97 H98 g99 hS100 hv104 => ?_)
    obtain ⟨x105, k106, m⟩ := bnd m
    refine s_ret (K := K) (d := eS x105) hS100 (d_join d_str (d_var rfl hv104) k106) (fun v111 F107 H108 g109 hS110 hv112 => ?_)
    obtain rfl := sm m
    exact q _ rfl _ _ _ (Gr.tr g6 (Gr.tr g20 (Gr.tr g77 (Gr.tr g99 g109)))) hS110 hv112
  · subst hc15
    try dsimp only at m
    obtain rfl := sm m
    exact qx _ rfl _ _ _ g10 hS11 xd17
theorem sc_show_store : FnScope N_show_store ["store"] (defScope s_show_store) := ⟨rfl, rfl, rfl, by decide +kernel, rfl, by decide +kernel, by decide +kernel⟩
theorem ok_show_store {P : Program} {w : World} {K : PySem.W.Frag} {mg : Str → Option Value} {base : Heap} (hF : Df K mg "show_store" s_show_store) (o_numbers_text : Ok P w K mg base 1 "numbers_text" ["numbers"] (sp_numbers_text K)) (o_look_at_store : OkX P w K mg base 5 "look_at_store" ["thing"] (sp_look_at_store K)) : OkX P w K mg base 6 "show_store" ["store"] (sp_show_store K) := by
  obtain ⟨⟨_, G_numbers_text, bd_numbers_text, _⟩, kp_numbers_text, gm_numbers_text⟩ := o_numbers_text
  obtain ⟨⟨_, G_look_at_store, bd_look_at_store, _⟩, kp_look_at_store, gm_look_at_store⟩ := o_look_at_store
  obtain ⟨⟨fd, F⟩, gm⟩ := hF
  refine ⟨⟨fd, F.ok sc_show_store (fun vs H Q E h => ?_) (fun cdv A outer s H vs Q E hr h => ⟨t_show_store K E, ?_, w_show_store vs H Q E h⟩), F.bindsN fun _ _ _ _ _ _ us hl => match us, hl with | [_], _ => rfl, lk_of F⟩, F.kp, gm⟩
  · obtain ⟨F0, cs, x, y, h, _⟩ := h; exact Dts.len h
  · refine pss_tk (W := WX0 E) (takes_of (E := E) rfl rfl rfl rfl) fun tkE => ?_
    exact (pss_cons (ps_expr (pe_callS (E := WE (WX0 E)) G_look_at_store (hr.mono (by decide)) (by rfl) gm_look_at_store kp_look_at_store bd_look_at_store (fun σ => passAt tkE σ) (pa_cons (pv 0) pa_nil))) (pss_cons (ps_asg (pv 0) (pg_tup rfl (pgs_cons (pg_name (i := 3) sc_show_store.nd rfl (Or.inl rfl)) (pgs_cons (pg_name (i := 4) sc_show_store.nd rfl (Or.inl rfl)) (pgs_cons (pg_name (i := 5) sc_show_store.nd rfl (Or.inl rfl)) (pgs_cons (pg_name (i := 6) sc_show_store.nd rfl (Or.inl rfl)) pgs_nil)))))) (pss_cons (ps_set (i := 1) sc_show_store.nd rfl (Or.inl rfl) (pe_op op_catS (pe_lst (pa_cons pe_str pa_nil)) (pe_lc (own := [("name", 7), ("at", 8), ("to", 9)]) (g := (gTup K 3 (gCons (gName 7) (gCons (gName 8) (gCons (gName 9) gNil))))) (tt := tYes) (te := (fun σ H Q => tJs [(tFmt (tVar 7)), (tC (.str " ")), (tFmt (tVar 8)), (tC (.str " ")), (tFmt (tVar 9))] Str.empty σ H fun out H1 => Q (.str out) H1)) (by rfl) sc_show_store.nd (pi_list (pv 6)) (blkOk_by (own := [("name", 7), ("at", 8), ("to", 9)]) (N := N_show_store) (sc := defScope s_show_store) (by decide +kernel)) (fun _ _ _ _ _ => (pg_tup rfl (pgs_cons (pg_name (i := 7) sc_show_store.nd rfl (Or.inl rfl)) (pgs_cons (pg_name (i := 8) sc_show_store.nd rfl (Or.inl rfl)) (pgs_cons (pg_name (i := 9) sc_show_store.nd rfl (Or.inl rfl)) pgs_nil))))) (fun _ _ _ _ _ => pts_nil) (fun _ _ _ _ _ => (pe_joined (PJ.cons (pe_fmt (pv 7)) (PJ.cons pe_str (PJ.cons (pe_fmt (pv 8)) (PJ.cons pe_str (PJ.cons (pe_fmt (pv 9)) PJ.nil)))))))))) (pss_cons (ps_set (i := 2) sc_show_store.nd rfl (Or.inl rfl) (pe_lst (pa_cons (pe_op op_scatR pe_str (pe_call G_numbers_text (hr.mono (by decide)) (by rfl) gm_numbers_text kp_numbers_text bd_numbers_text .nil pass0 (pa_cons (pv 3) pa_nil))) (pa_cons (pe_op op_scatR pe_str (pe_call G_numbers_text (hr.mono (by decide)) (by rfl) gm_numbers_text kp_numbers_text bd_numbers_text .nil pass0 (pa_cons (pv 4) pa_nil))) (pa_cons (pe_joined (PJ.cons pe_str (PJ.cons (pe_fmt (pv 5)) PJ.nil))) (pa_cons (pe_join pe_str (pv 1)) pa_nil)))))) (pss_one (ps_ret (pe_join pe_str (pv 2))))))))
abbrev s_part : Stmt := (top 47)
def f_part_k16 : (Option Xe) → Option PyData := fun kept_7 => (((f_class kept_7)).bind fun x20 => (if (!x20) = true then some (eS ("none" : Str)) else (((partM "part" kept_7)).bind fun x36 => some x36)))
def f_part : (((List Int) × (List Int) × Int × (List (Str × Int × Int))) × Int) → Option PyData := fun (thing_1, way_2) => (((andXM (Rs.ok (decide (way_2 = (0 : Int)))) (fun _ => (((f_look_at_store thing_1)).bind fun x44 => some (Rs.map (fun _ => true) x44))))).bind fun x47 => ((orXM x47 (fun _ => (((andXM (Rs.ok (decide (way_2 = (1 : Int)))) (fun _ => (((f_show_store thing_1)).bind fun x49 => some (Rs.map (fun y => isiD "str" (eS y)) x49))))).bind fun x52 => some x52)))).bind fun x55 => letM x55 fun r57 => (match r57 with | .ok true => some (eN ()) | .ok false => f_part_k16 (none : Option Xe) | .ex c75 => (if (c75).1 ∈ xcl then f_part_k16 (some c75) else none)))
abbrev A_part : (((List Int) × (List Int) × Int × (List (Str × Int × Int))) × Int) → List PyData := fun x => [(eT4 (eL eI) (eL eI) eI (eL (eT3 eS eI eI))) x.1, eI x.2]
abbrev N_part : List Str := ["_law_thing", "_law_way", "_law_kept", "e"]
abbrev sp_part (K : PySem.W.Frag) : Sp := spP K A_part eD f_part
def t_part (K : PySem.W.Frag) : TS := (tSeq (tAsg (tC .non) (gName 2)) (tSeq (tTryK K 3 2 WF0 (fun W => (tIfS (tOr (tAnd (tTest (tOp rEq (tVar 1) (tC (.int 0)))) (tTest (tOp rIsN (tCallS (sp_look_at_store K) (WE W) (tCons (tVar 0) tNil)) (tC .non)))) (tAnd (tTest (tOp rEq (tVar 1) (tC (.int 1)))) (tB (tCB (rIsi K) (tCons (tCallS (sp_show_store K) (WE W) (tCons (tVar 0) tNil)) (tCons (tC (.ty "str")) tNil)))))) (tRet (tC .non)) tNext))) (tSeq (tIfS (tNot (tB (tCall (sp_class K) [] E0 (tCons (tVar 2) tNil)))) (tRet (tC (.str "none"))) tNext) (tRet (tXat K "part" (tVar 2))))))
theorem w_part {K : PySem.W.Frag} (XC : XFc K xcl xts) (vs : List V) (H : Hp) (Q : VK) (E : XK) (h : sp_part K vs H Q E) : t_part K { nx := fun _ H' => Q .non H', rt := Q } (start N_part vs) H := by
  obtain ⟨F0, cs, ⟨thing_1, way_2⟩, y, h, hS0, m, q⟩ := h
  obtain ⟨a0, _, rfl, ha0, h⟩ := Dts.hd h
  obtain ⟨a1, _, rfl, ha1, h⟩ := Dts.hd h
  obtain rfl := Dts.no h
  obtain rfl := Dt.toInt ha1
  unfold f_part at m
  try dsimp only at m
  unfold t_part
  refine go (σ' := [some a0, some (.int way_2), none, none]) rfl ?_
  refine s_setV (K := K) (d := PyData.none) (i := 2) (σ' := [some a0, some (.int way_2), some .non, none]) (fun _ _ h => Dt.toNon h) hS0 d_non rfl (fun F3 H4 g5 hS6 => ?_)
  refine s_tryJ (fun σ H => ∃ (kept_7 : (Option Xe)) (F : Hp) (c : Cs), f_part_k16 kept_7 = some y ∧ Gr F3 F ∧ Sta F c H ∧ ∃ (j2 : V) (j3 : Option V), σ = [some a0, some (.int way_2), some j2, j3] ∧ cs = c ∧ Xv K xcl F j2 kept_7) ?_ (fun jn8 => ?_)
  · rintro σ15 H11 ⟨kept_7, F10, c14, m, g12, hS13, v17, u18, rfl, rfl, h19⟩
    unfold f_part_k16 at m
    try dsimp only at m
    obtain ⟨x20, k21, m⟩ := bnd m
    refine s_if (b := (!x20)) hS13 (t_not (t_B (K := K) (d_callX1 (i := 2) rfl h19 k21))) (fun hc F22 H23 g24 hS25 => ?_) (fun hc F32 H33 g34 hS35 => ?_)
    · rw [if_pos hc] at m
      refine s_ret (K := K) (d := eD (eS ("none" : Str))) hS25 d_str (fun v30 F26 H27 g28 hS29 hv31 => ?_)
      obtain rfl := sm m
      exact q _ _ _ (Gr.tr g5 (Gr.tr g12 (Gr.tr g24 g28))) hS29 hv31
    · rw [if_neg (bf hc)] at m
      refine nxt ?_
      obtain ⟨x36, k37, m⟩ := bnd m
      refine s_ret (K := K) (d := eD x36) hS35 (d_xat XC (i := 2) rfl (Xv.gr g34 h19) k37) (fun v42 F38 H39 g40 hS41 hv43 => ?_)
      obtain rfl := sm m
      exact q _ _ _ (Gr.tr g5 (Gr.tr g12 (Gr.tr g34 g40))) hS41 hv43
  · obtain ⟨x47, k48, m⟩ := bnd m
    obtain ⟨x55, k56, m⟩ := bnd m
    obtain ⟨r57, k58, m⟩ := lt m
    refine s_ifX hS6 (tx_or (tx_and (tx_of (t_test (K := K) (d_eqI (d_var rfl (.int _)) d_int))) k48 (fun _ k46 => by obtain ⟨x44, k45, k46⟩ := bnd k46; obtain rfl := sm k46; exact (tx_test (x_isN (x_call (A := A_look_at_store) (B := eN) (x := thing_1) (a_cons (d_var rfl (Dt.gr g5 ha0)) a_nil) k45))))) k56 (fun _ k54 => by obtain ⟨x52, k53, k54⟩ := bnd k54; obtain rfl := sm k54; exact (tx_and (tx_of (t_test (K := K) (d_eqI (d_var rfl (.int _)) d_int))) k53 (fun _ k51 => by obtain ⟨x49, k50, k51⟩ := bnd k51; obtain rfl := sm k51; exact (tx_v (x_isi (c := "str") (by decide) (x_call (A := A_show_store) (B := eS) (x := thing_1) (a_cons (d_var rfl (Dt.gr g5 ha0)) a_nil) k50))))))) k58 (fun hb63 F59 H60 g61 hS62 => ?_) (fun hb74 F70 H71 g72 hS73 => ?_) (fun c75 hc76 dd77 F79 H80 g81 hS82 xd78 => ?_)
    · rw [hb63] at m
      try dsimp only at m
      refine s_ret (K := K) (d := eD (eN ())) hS62 d_non (fun v68 F64 H65 g66 hS67 hv69 => ?_)
      obtain rfl := sm m
      exact q _ _ _ (Gr.tr g5 (Gr.tr g61 g66)) hS67 hv69
    · rw [hb74] at m
      try dsimp only at m
      refine nxt ?_
      exact jn8 _ _ ⟨_, _, _, m, g72, hS73, _, _, rfl, rfl, (Xv.gr g72 (show Xv K xcl _ V.non none from rfl))⟩
    · rw [hc76] at m
      try dsimp only at m
      by_cases hcl89 : (c75).1 ∈ xcl
      case neg => rw [if_neg hcl89] at m; cases m
      rw [if_pos hcl89] at m
      refine s_catch (σ' := fun a83 => [some a0, some (.int way_2), some (.ref a83), none]) XC hcl89 hS82 xd78 (fun _ => rfl) (fun _ => rfl) (fun a83 F84 H85 g86 hS87 ha88 => ?_)
      exact jn8 _ _ ⟨_, _, _, m, (Gr.tr g81 g86), hS87, _, _, rfl, rfl, ha88⟩
theorem sc_part : FnScope N_part ["_law_thing", "_law_way"] (defScope s_part) := ⟨rfl, rfl, rfl, by decide +kernel, rfl, by decide +kernel, by decide +kernel⟩
theorem ok_part {P : Program} {w : World} {K : PySem.W.Frag} {mg : Str → Option Value} {base : Heap} (hF : Df K mg "_law_part" s_part) (m_isinstance : mg "isinstance" = none) (m_str : mg "str" = none) (o_class : Ok P w K mg base 1 "_law_class" ["_law_kept"] (sp_class K)) (o_look_at_store : OkX P w K mg base 5 "look_at_store" ["thing"] (sp_look_at_store K)) (o_show_store : OkX P w K mg base 6 "show_store" ["store"] (sp_show_store K)) (XC : XFc K xcl xts) (g_CartError : mg "CartError" = some (.ref (He.ga K "CartError"))) : Ok P w K mg base 7 "_law_part" ["_law_thing", "_law_way"] (sp_part K) := by
  obtain ⟨⟨_, G_class, bd_class, _⟩, kp_class, gm_class⟩ := o_class
  obtain ⟨⟨_, G_look_at_store, bd_look_at_store, _⟩, kp_look_at_store, gm_look_at_store⟩ := o_look_at_store
  obtain ⟨⟨_, G_show_store, bd_show_store, _⟩, kp_show_store, gm_show_store⟩ := o_show_store
  obtain ⟨⟨fd, F⟩, gm⟩ := hF
  refine ⟨⟨fd, F.ok sc_part (fun vs H Q E h => ?_) (fun cdv A outer s H vs Q E hr h => ⟨t_part K, PSs.nox ?_, w_part XC vs H Q E h⟩), F.bindsN fun _ _ _ _ _ _ us hl => match us, hl with | [_, _], _ => rfl, lk_of F⟩, F.kp, gm⟩
  · obtain ⟨F0, cs, x, y, h, _⟩ := h; exact Dts.len h
  · exact (pss_cons (ps_set (i := 2) sc_part.nd rfl (Or.inl rfl) pe_non) (pss_cons (ps_try_keep (i := 3) rfl rfl rfl sc_part.nd rfl rfl ⟨by rfl, by decide, .inl g_CartError⟩ takesF (fun W pn xe tkE po => (pss_one (ps_if (PW.pt (pw_or (PW.pt (pw_and (pt_cmpR op_eq (pv 1) pe_int (nomark _)) (pw_and1 (pt_cmpR op_isNR (pe_callS (E := WE W) G_look_at_store (hr.mono (by decide)) (by rfl) gm_look_at_store kp_look_at_store bd_look_at_store (fun σ => passAt tkE σ) (pa_cons (pv 0) pa_nil)) pe_non (nomark _))))) (pw_or1 (PW.pt (pw_and (pt_cmpR op_eq (pv 1) pe_int (nomark _)) (pw_and1 (pt_val (pe_callB call_isi (by rfl) m_isinstance (by decide +kernel) (pa_cons (pe_callS (E := WE W) G_show_store (hr.mono (by decide)) (by rfl) gm_show_store kp_show_store bd_show_store (fun σ => passAt tkE σ) (pa_cons (pv 0) pa_nil)) (pa_cons (pe_bltn (v := .ty "str") (by rfl) m_str (by decide +kernel) rfl) pa_nil)))))))))) (pss_one (ps_ret pe_non)) pss_nil))) (fun a oe cls d pn _ _ => pss_one (ps_set (i := 2) sc_part.nd rfl (Or.inl rfl) (pv 3)))) (pss_cons (ps_if (pt_not (pt_val (pe_call G_class (hr.mono (by decide)) (by rfl) gm_class kp_class bd_class .nil pass0 (pa_cons (pv 2) pa_nil)))) (pss_one (ps_ret pe_str)) pss_nil) (pss_one (ps_ret (pe_xat (pv 2)))))))
abbrev s_law : Stmt := (top 48)
def f_law_b12 (x2 : ((List Int) × (List Int) × Int × (List (Str × Int × Int)))) : Unit → (Int × Int) → Option (Fl Unit Bool) := fun _ (k_15, cell_here_16) => (((f_turned (x2, cell_here_16))).bind fun x45 => ((if (decide ((k_15 % (2 : Int)) = (1 : Int))) = true then (((f_turned (x45, ((cell_here_16 / (3 : Int)) + k_15)))).bind fun x113 => some x113) else some x45)).bind fun made_53 => (letM (made_53.1, made_53.2.1, made_53.2.2.1, made_53.2.2.2) fun kept_70 => (((f_wrong made_53)).bind fun x74 => (((f_part (made_53, (0 : Int)))).bind fun x80 => ((eqDM x80 ((eO eS) x74))).bind fun x82 => ((if (!x82) = true then some true else (((f_part (made_53, (1 : Int)))).bind fun x84 => ((eqDM x84 ((eO eS) x74))).bind fun x86 => ((if (!x86) = true then some true else (((eqTM (eT4 (eL eI) (eL eI) eI (eL (eT3 eS eI eI))) made_53 kept_70)).bind fun x88 => some (!x88)))).bind fun x90 => some x90))).bind fun x92 => (if x92 = true then some (Fl.rt false) else some (Fl.nx ()))))))
def f_law : (List Int) → Option Bool := fun script_1 => (((f_store script_1)).bind fun x2 => (((catM ([(0 : Int)] : (List Int)) (cutL script_1 none (some (63 : Int))))).bind fun x10 => (forF (f_law_b12 x2) (enumM x10) ()).bind fun r13 => match r13 with | .nx _ => some true | .br _ => none | .rt z142 => some z142))
abbrev A_law : (List Int) → List PyData := fun x => [(eL eI) x]
abbrev N_law : List Str := ["_law_script", "_law_store_here", "_law_k", "_law_cell_here", "_law_made", "_law_kept", "_law_due"]
abbrev sp_law (K : PySem.W.Frag) : Sp := spP K A_law eB f_law
def t_law (K : PySem.W.Frag) : TS := (tSeq (tAsg (tCall (sp_store K) [] E0 (tCons (tVar 0) tNil)) (gName 1)) (tSeq (tFor (iEnum K (tCons (tOp (rCatS K) (tLst (tCons (tC (.int 0)) tNil)) (tSl (rSlL K) (tVar 0) tNoPart (tPart (tC (.int 63))))) tNil)) (gTup K 2 (gCons (gName 2) (gCons (gName 3) gNil))) (tSeq (tAsg (tCall (sp_turned K) [] E0 (tCons (tVar 1) (tCons (tVar 3) tNil))) (gName 4)) (tSeq (tIfS (tTest (tOp rEq (tOp (rI (fun _ j => 0 < j) fun i j => .int (i % j)) (tVar 2) (tC (.int 2))) (tC (.int 1)))) (tAsg (tCall (sp_turned K) [] E0 (tCons (tVar 4) (tCons (tOp (rI0 fun i j => .int (i + j)) (tOp (rI CDiv fun i j => .int (i / j)) (tVar 3) (tC (.int 3))) (tVar 2)) tNil))) (gName 4)) tNext) (tSeq (tAsg (tTup (tCons (tCB (rListS K) (tCons (tOp (rIxT K) (tVar 4) (tC (.int 0))) tNil)) (tCons (tCB (rListS K) (tCons (tOp (rIxT K) (tVar 4) (tC (.int 1))) tNil)) (tCons (tOp (rIxT K) (tVar 4) (tC (.int 2))) (tCons (tCB (rListS K) (tCons (tOp (rIxT K) (tVar 4) (tC (.int 3))) tNil)) tNil))))) (gName 5)) (tSeq (tAsg (tCall (sp_wrong K) [] E0 (tCons (tVar 4) tNil)) (gName 6)) (tIfS (tOr (tTest (tOp (rNeD K) (tCall (sp_part K) [] E0 (tCons (tVar 4) (tCons (tC (.int 0)) tNil))) (tVar 6))) (tOr (tTest (tOp (rNeD K) (tCall (sp_part K) [] E0 (tCons (tVar 4) (tCons (tC (.int 1)) tNil))) (tVar 6))) (tTest (tOp (rNeD K) (tVar 4) (tVar 5))))) (tRet (tC (.bl false))) tNext)))))) (tRet (tC (.bl true)))))
theorem w_law {K : PySem.W.Frag} (vs : List V) (H : Hp) (Q : VK) (E : XK) (h : sp_law K vs H Q E) : t_law K { nx := fun _ H' => Q .non H', rt := Q } (start N_law vs) H := by
  obtain ⟨F0, cs, script_1, y, h, hS0, m, q⟩ := h
  obtain ⟨a0, _, rfl, ha0, h⟩ := Dts.hd h
  obtain rfl := Dts.no h
  unfold f_law at m
  try dsimp only at m
  unfold t_law
  refine go (σ' := [some a0, none, none, none, none, none, none]) rfl ?_
  obtain ⟨x2, k3, m⟩ := bnd m
  refine s_set (K := K) (d := (eT4 (eL eI) (eL eI) eI (eL (eT3 eS eI eI))) x2) (i := 1) (σ' := fun v8 => [some a0, some v8, none, none, none, none, none]) hS0 (d_call (A := A_store) (B := (eT4 (eL eI) (eL eI) eI (eL (eT3 eS eI eI)))) (x := script_1) (a_cons (d_var rfl ha0) a_nil) k3) (fun _ => rfl) (fun v8 F4 H5 g6 hS7 hv9 => ?_)
  obtain ⟨x10, k11, m⟩ := bnd m
  obtain ⟨r13, k14, m⟩ := bnd m
  refine s_forF (K := K) (xs := (enumM x10)) (en := (eT2 eI eI)) (body := (f_law_b12 x2)) (s0 := ()) (r := r13) (fun (a : Unit) F σ c => ∃ (j2 : Option V) (j3 : Option V) (j4 : Option V) (j5 : Option V) (j6 : Option V), σ = [some a0, some v8, j2, j3, j4, j5, j6] ∧ cs = c) hS7 (i_enum (en := eI) (a_cons (EvC.dd (c_cat (en := eI) (d_lst (a_cons d_int a_nil) (Nat.le_of_ble_eq_true rfl)) (d_sl (d_var rfl (Dt.gr g6 ha0)) o_none (o_some (K := K) d_int)) k11)) a_nil)) (fun _ _ => ⟨_, _, _, _, _, rfl, rfl⟩) k14 ?_ ?_
  · rintro ⟨⟩ F125 σ130 c129 H126 hz143 g127 hS128 ⟨u131, u132, u133, u134, u135, rfl, rfl⟩
    rcases hz143.symm with rfl | rfl
    · cases (show (none : Option _) = some _ from m)
    try dsimp only at m
    refine s_ret (K := K) (d := eB true) hS128 d_bl (fun v140 F136 H137 g138 hS139 hv141 => ?_)
    obtain rfl := sm m
    exact q _ _ _ (Gr.tr g6 (Gr.tr g127 g138)) hS139 hv141
  · rintro ⟨k_15, cell_here_16⟩ ⟨⟩ b25 F17 F18 σ31 c32 H19 v24 N26 B27 g20 ⟨u34, u35, u36, u37, u38, rfl, rfl⟩ g21 hS22 hv23 m33 hN28 hB29 hR30
    obtain ⟨p39, w41, w42, rfl, hT40, hw43, hw44⟩ := u2 hv23
    obtain rfl := Dt.toInt hw43
    obtain rfl := Dt.toInt hw44
    refine tg (σ' := [some a0, some v8, some (.int k_15), some (.int cell_here_16), u36, u37, u38]) (fun Q hq => ⟨p39, [_, _], rfl, gr_T hS22.fr hT40, rfl, _, _, rfl, _, _, rfl, rfl, hq⟩) ?_
    unfold f_law_b12 at m33
    try dsimp only at m33
    obtain ⟨x45, k46, m33⟩ := bnd m33
    refine s_set (K := K) (d := (eT4 (eL eI) (eL eI) eI (eL (eT3 eS eI eI))) x45) (i := 4) (σ' := fun v51 => [some a0, some v8, some (.int k_15), some (.int cell_here_16), some v51, u37, u38]) hS22 (d_call (A := A_turned) (B := (eT4 (eL eI) (eL eI) eI (eL (eT3 eS eI eI)))) (x := (x2, cell_here_16)) (a_cons (d_var rfl (Dt.gr (Gr.tr g20 g21) hv9)) (a_cons (d_var rfl (.int _)) a_nil)) k46) (fun _ => rfl) (fun v51 F47 H48 g49 hS50 hv52 => ?_)
    obtain ⟨made_53, k55, m33⟩ := bnd m33
    refine s_ifJ (b := (decide ((k_15 % (2 : Int)) = (1 : Int)))) (fun σ H => ∃ (F : Hp) (c : Cs), Gr F47 F ∧ Sta F c H ∧ ∃ (j4 : V) (j5 : Option V) (j6 : Option V), σ = [some a0, some v8, some (.int k_15), some (.int cell_here_16), some j4, j5, j6] ∧ cs = c ∧ Dt K F j4 ((eT4 (eL eI) (eL eI) eI (eL (eT3 eS eI eI))) made_53)) hS50 (t_test (K := K) (d_eqI (d_modC (d_var rfl (.int _)) d_int (by decide)) d_int)) ?_ (fun jn54 hc F109 H110 g111 hS112 => ?_) (fun jn54 hc F121 H122 g123 hS124 => ?_)
    · rintro σ61 H57 ⟨F56, c60, g58, hS59, v62, u63, u64, rfl, rfl, h65⟩
      obtain ⟨kept_70, k71, m33⟩ := lt m33
      refine s_set (K := K) (d := (eT4 (eL eI) (eL eI) eI (eL (eT3 eS eI eI))) kept_70) (i := 5) (σ' := fun v72 => [some a0, some v8, some (.int k_15), some (.int cell_here_16), some v62, some v72, u64]) hS59 (d_is (d_tup (a_cons (d_listL (a_cons (d_ixT (d_var rfl h65) d_int rfl) a_nil)) (a_cons (d_listL (a_cons (d_ixT (d_var rfl h65) d_int rfl) a_nil)) (a_cons (d_ixT (d_var rfl h65) d_int rfl) (a_cons (d_listL (a_cons (d_ixT (d_var rfl h65) d_int rfl) a_nil)) a_nil)))) (Nat.le_of_ble_eq_true rfl)) (congrArg (eT4 (eL eI) (eL eI) eI (eL (eT3 eS eI eI))) k71)) (fun _ => rfl) (fun v72 F66 H67 g68 hS69 hv73 => ?_)
      obtain ⟨x74, k75, m33⟩ := bnd m33
      refine s_setV (K := K) (d := (eO eS) x74) (i := 6) (σ' := [some a0, some v8, some (.int k_15), some (.int cell_here_16), some v62, some v72, some (oV V.str x74)]) (fun _ _ h => dt_toS h) hS69 (d_call (A := A_wrong) (B := (eO eS)) (x := made_53) (a_cons (d_var rfl (Dt.gr g68 h65)) a_nil) k75) rfl (fun F76 H77 g78 hS79 => ?_)
      obtain ⟨x80, k81, m33⟩ := bnd m33
      obtain ⟨x82, k83, m33⟩ := bnd m33
      obtain ⟨x92, k93, m33⟩ := bnd m33
      refine s_if (b := x92) hS79 (t_orM (r := x92) (t_test (K := K) (d_neDM (d_call (A := A_part) (B := eD) (x := (made_53, (0 : Int))) (a_cons (d_var rfl (Dt.gr (Gr.tr g68 g78) h65)) (a_cons d_int a_nil)) k81) (d_var rfl (dt_oS _)) k83)) (fun hc => by rw [if_neg (bf hc)] at k93; obtain ⟨x84, k85, k93⟩ := bnd k93; obtain ⟨x86, k87, k93⟩ := bnd k93; obtain ⟨x90, k91, k93⟩ := bnd k93; obtain rfl := sm k93; exact (t_orM (r := x90) (t_test (K := K) (d_neDM (d_call (A := A_part) (B := eD) (x := (made_53, (1 : Int))) (a_cons (d_var rfl (Dt.gr (Gr.tr g68 g78) h65)) (a_cons d_int a_nil)) k85) (d_var rfl (dt_oS _)) k87)) (fun hc => by rw [if_neg (bf hc)] at k91; obtain ⟨x88, k89, k91⟩ := bnd k91; obtain rfl := sm k91; exact (t_test (K := K) (d_neTM (EqE.t4 (EqE.l eqE_I) (EqE.l eqE_I) eqE_I (EqE.l (EqE.t3 eqE_S eqE_I eqE_I))) (d_var rfl (Dt.gr (Gr.tr g68 g78) h65)) (d_var rfl (Dt.gr g78 hv73)) k89))) (fun hc => by rw [if_pos hc] at k91; exact (sm k91).symm))) (fun hc => by rw [if_pos hc] at k93; exact (sm k93).symm)) (fun hc F94 H95 g96 hS97 => ?_) (fun hc F105 H106 g107 hS108 => ?_)
      · rw [if_pos hc] at m33
        refine s_ret (K := K) (d := eB false) hS97 d_bl (fun v102 F98 H99 g100 hS101 hv103 => ?_)
        obtain rfl := sm m33
        have hr104 := hR30 _ rfl
        subst hr104
        obtain rfl := sm m
        exact q _ _ _ (Gr.tr g6 (Gr.tr g20 (Gr.tr g21 (Gr.tr g49 (Gr.tr g58 (Gr.tr g68 (Gr.tr g78 (Gr.tr g96 g100)))))))) hS101 hv103
      · rw [if_neg (bf hc)] at m33
        refine nxt ?_
        obtain rfl := sm m33
        exact hN28 _ _ _ _ _ rfl (Gr.tr g49 (Gr.tr g58 (Gr.tr g68 (Gr.tr g78 g107)))) hS108 ⟨_, _, _, _, _, rfl, rfl⟩
    · rw [if_pos hc] at k55
      obtain ⟨x113, k114, k55⟩ := bnd k55
      refine s_set (K := K) (d := (eT4 (eL eI) (eL eI) eI (eL (eT3 eS eI eI))) x113) (i := 4) (σ' := fun v119 => [some a0, some v8, some (.int k_15), some (.int cell_here_16), some v119, u37, u38]) hS112 (d_call (A := A_turned) (B := (eT4 (eL eI) (eL eI) eI (eL (eT3 eS eI eI)))) (x := (x45, ((cell_here_16 / (3 : Int)) + k_15))) (a_cons (d_var rfl (Dt.gr g111 hv52)) (a_cons (d_add (d_fdivC (d_var rfl (.int _)) d_int ⟨by decide, by decide⟩) (d_var rfl (.int _))) a_nil)) k114) (fun _ => rfl) (fun v119 F115 H116 g117 hS118 hv120 => ?_)
      obtain rfl := sm k55
      exact jn54 _ _ ⟨_, _, (Gr.tr g111 g117), hS118, _, _, _, rfl, rfl, hv120⟩
    · rw [if_neg (bf hc)] at k55
      refine nxt ?_
      obtain rfl := sm k55
      exact jn54 _ _ ⟨_, _, g123, hS124, _, _, _, rfl, rfl, (Dt.gr g123 hv52)⟩
theorem sc_law : FnScope N_law ["_law_script"] (defScope s_law) := ⟨rfl, rfl, rfl, by decide +kernel, rfl, by decide +kernel, by decide +kernel⟩
theorem ok_law {P : Program} {w : World} {K : PySem.W.Frag} {mg : Str → Option Value} {base : Heap} (hF : Df K mg "law" s_law) (m_enumerate : mg "enumerate" = none) (m_list : mg "list" = none) (o_part : Ok P w K mg base 7 "_law_part" ["_law_thing", "_law_way"] (sp_part K)) (o_wrong : Ok P w K mg base 1 "_law_wrong" ["_law_store_here"] (sp_wrong K)) (o_turned : Ok P w K mg base 2 "_law_turned" ["_law_store_here", "_law_cell_here"] (sp_turned K)) (o_store : Ok P w K mg base 4 "_law_store" ["_law_script"] (sp_store K)) : Ok P w K mg base 8 "law" ["_law_script"] (sp_law K) := by
  obtain ⟨⟨_, G_part, bd_part, _⟩, kp_part, gm_part⟩ := o_part
  obtain ⟨⟨_, G_wrong, bd_wrong, _⟩, kp_wrong, gm_wrong⟩ := o_wrong
  obtain ⟨⟨_, G_turned, bd_turned, _⟩, kp_turned, gm_turned⟩ := o_turned
  obtain ⟨⟨_, G_store, bd_store, _⟩, kp_store, gm_store⟩ := o_store
  obtain ⟨⟨fd, F⟩, gm⟩ := hF
  refine ⟨⟨fd, F.ok sc_law (fun vs H Q E h => ?_) (fun cdv A outer s H vs Q E hr h => ⟨t_law K, PSs.nox ?_, w_law vs H Q E h⟩), F.bindsN fun _ _ _ _ _ _ us hl => match us, hl with | [_], _ => rfl, lk_of F⟩, F.kp, gm⟩
  · obtain ⟨F0, cs, x, y, h, _⟩ := h; exact Dts.len h
  · exact (pss_cons (ps_set (i := 1) sc_law.nd rfl (Or.inl rfl) (pe_call G_store (hr.mono (by decide)) (by rfl) gm_store kp_store bd_store .nil pass0 (pa_cons (pv 0) pa_nil))) (pss_cons (ps_for PassesOwn.never rfl (pi_enum (by rfl) m_enumerate (pa_cons (pe_op op_catS (pe_lst (pa_cons pe_int pa_nil)) (pe_slice sl_list (pv 0) po_none (po_some pe_int))) pa_nil)) (pg_tup rfl (pgs_cons (pg_name (i := 2) sc_law.nd rfl (Or.inl rfl)) (pgs_cons (pg_name (i := 3) sc_law.nd rfl (Or.inl rfl)) pgs_nil))) (pss_cons (ps_set (i := 4) sc_law.nd rfl (Or.inl rfl) (pe_call G_turned (hr.mono (by decide)) (by rfl) gm_turned kp_turned bd_turned .nil pass0 (pa_cons (pv 1) (pa_cons (pv 3) pa_nil)))) (pss_cons (ps_if (pt_cmpR op_eq (pe_op op_mod (pv 2) pe_int) pe_int (nomark _)) (pss_one (ps_set (i := 4) sc_law.nd rfl (Or.inl rfl) (pe_call G_turned (hr.mono (by decide)) (by rfl) gm_turned kp_turned bd_turned .nil pass0 (pa_cons (pv 4) (pa_cons (pe_op op_add (pe_op op_fdiv (pv 3) pe_int) (pv 2)) pa_nil))))) pss_nil) (pss_cons (ps_set (i := 5) sc_law.nd rfl (Or.inl rfl) (pe_tup (pa_cons (pe_callTy cr_list (by rfl) m_list (by decide +kernel) (pa_cons (pe_ix ix_tup (pv 4) pe_int (fun _ _ => rfl)) pa_nil)) (pa_cons (pe_callTy cr_list (by rfl) m_list (by decide +kernel) (pa_cons (pe_ix ix_tup (pv 4) pe_int (fun _ _ => rfl)) pa_nil)) (pa_cons (pe_ix ix_tup (pv 4) pe_int (fun _ _ => rfl)) (pa_cons (pe_callTy cr_list (by rfl) m_list (by decide +kernel) (pa_cons (pe_ix ix_tup (pv 4) pe_int (fun _ _ => rfl)) pa_nil)) pa_nil)))))) (pss_cons (ps_set (i := 6) sc_law.nd rfl (Or.inl rfl) (pe_call G_wrong (hr.mono (by decide)) (by rfl) gm_wrong kp_wrong bd_wrong .nil pass0 (pa_cons (pv 4) pa_nil))) (pss_one (ps_if (PW.pt (pw_or (pt_cmpR (op_neD hr.units) (pe_call G_part (hr.mono (by decide)) (by rfl) gm_part kp_part bd_part .nil pass0 (pa_cons (pv 4) (pa_cons pe_int pa_nil))) (pv 6) (nomark _)) (pw_or (pt_cmpR (op_neD hr.units) (pe_call G_part (hr.mono (by decide)) (by rfl) gm_part kp_part bd_part .nil pass0 (pa_cons (pv 4) (pa_cons pe_int pa_nil))) (pv 6) (nomark _)) (pw_or1 (pt_cmpR (op_neD hr.units) (pv 4) (pv 5) (nomark _)))))) (pss_one (ps_ret pe_bl)) pss_nil))))))) (pss_one (ps_ret pe_bl))))
end Bw


namespace Bw
open PySem L2
theorem letM_eq {α β : Type} (x : α) (f : α → β) : letM x f = f x := Eq.trans rfl rfl
/-- step over a bind by the answer's equation (no unfolding left to the kernel) -/
theorem bo {α β : Type} {a : Option α} {x : α} (h : a = some x) (f : α → Option β) : a.bind f = f x := by subst h; rfl
/-! plain facts about what may fail -/
theorem atI_nn {α : Type} (xs : List α) (i : Nat) (h : i < xs.length) : atI xs (i : Int) = some xs[i] := by
  unfold atI ixN
  have h0 : (0 : Int) ≤ (i : Int) := by omega
  have h1 : (i : Int) < (xs.length : Int) := by omega
  rw [if_pos h0, if_pos h1]
  show xs[(i : Int).toNat]? = _
  rw [Int.toNat_natCast]
  exact List.getElem?_eq_getElem h
theorem atI_int {α : Type} (xs : List α) (i : Int) (h0 : 0 ≤ i) (h : i < xs.length) : ∃ x, atI xs i = some x ∧ xs[i.toNat]? = some x := by
  obtain ⟨n, rfl⟩ : ∃ n : Nat, i = n := ⟨i.toNat, by omega⟩
  have hn : n < xs.length := by omega
  refine ⟨xs[n], atI_nn xs n hn, ?_⟩
  rw [Int.toNat_natCast]
  exact List.getElem?_eq_getElem hn
theorem atI_mem {α : Type} {xs : List α} {i : Int} {x : α} (h : atI xs i = some x) : x ∈ xs := by
  unfold atI at h
  cases e : ixN xs.length i with
  | none => rw [e] at h; cases h
  | some j => rw [e] at h; exact List.mem_of_getElem? h
theorem appM_ok {α : Type} {xs : List α} {x : α} (h : xs.length < 100000) : appM xs x = some (xs ++ [x]) := by unfold appM; rw [if_pos h]
theorem catM_ok {α : Type} {xs ys : List α} (h : xs.length + ys.length ≤ 100000) : catM xs ys = some (xs ++ ys) := by unfold catM; rw [if_pos h]
theorem flat_one {α : Type} (x : α) : ∀ n : Nat, (List.replicate n [x]).flatten = List.replicate n x
  | 0 => rfl
  | n + 1 => by rw [List.replicate_succ, List.flatten_cons, flat_one x n]; rfl
theorem repM_one {α : Type} {x : α} {k : Int} (h0 : -(2 ^ 63) ≤ k) (h : k ≤ 100000) : repM [x] k = some (List.replicate k.toNat x) := by
  unfold repM
  rw [if_pos ⟨h0, by omega, by simp only [List.length_singleton]; omega⟩, flat_one]
theorem mulM_ok {a b : Int} (h1 : -(2 ^ 64) < a) (h2 : a < 2 ^ 64) : mulM a b = some (a * b) := by unfold mulM; rw [if_pos (.inl ⟨h1, h2⟩)]
theorem modM_ok {a b : Int} (h : 0 < b) : modM a b = some (a % b) := by unfold modM; rw [if_pos h]
theorem fdivM_ok {a b : Int} (h : 0 < b) (h2 : b < 1073741824) : fdivM a b = some (a / b) := by unfold fdivM; rw [if_pos ⟨h, h2⟩]
theorem rngM_ok {a b : Int} (h1 : -100000 ≤ a) (h2 : a ≤ 100000) (h3 : -100000 ≤ b) (h4 : b ≤ 100000) : rngM a b = some (rngL a b) := by unfold rngM; rw [if_pos ⟨by omega, by omega, by omega, by omega⟩]
theorem mapC_ok {α β : Type} {f : α → β} {xs : List α} (h : xs.length ≤ 100000) : mapC f xs = some (xs.map f) := by unfold mapC; rw [if_pos h]
theorem filC_ok {α β : Type} {p : α → Bool} {f : α → β} {xs : List α} (h : xs.length ≤ 100000) : filC p f xs = some ((xs.filter p).map f) := by unfold filC; rw [if_pos h]
theorem lcC_ok {α β : Type} {f : α → Option (Option β)} {xs : List α} (h : xs.length ≤ 100000) : lcC f xs = lcM f xs := by unfold lcC; rw [if_pos h]
theorem lcM_all {α β : Type} {f : α → Option (Option β)} {g : α → β} : ∀ {xs : List α}, (∀ x ∈ xs, f x = some (some (g x))) → lcM f xs = some (xs.map g)
  | [], _ => rfl
  | x :: xs, h => by
    show (f x).bind _ = _
    rw [h x List.mem_cons_self, lcM_all fun y hy => h y (List.mem_cons_of_mem _ hy)]
    rfl
theorem lcM_fil {α β : Type} {f : α → Option (Option β)} {p : α → Bool} {g : α → β} : ∀ {xs : List α}, (∀ x ∈ xs, f x = some (if p x = true then some (g x) else none)) → lcM f xs = some ((xs.filter p).map g)
  | [], _ => rfl
  | x :: xs, h => by
    show (f x).bind _ = _
    rw [h x List.mem_cons_self, lcM_fil fun y hy => h y (List.mem_cons_of_mem _ hy), List.filter_cons]
    cases p x <;> rfl
/-- a loop whose every turn goes on keeps what it keeps -/
theorem foldlM_inv {α S : Type} {body : S → α → Option S} (J : Nat → S → Prop) : ∀ (xs : List α) (i : Nat) (s : S), J i s → (∀ (k : Nat) (x : α) (s : S), xs[k]? = some x → J (i + k) s → ∃ t, body s x = some t ∧ J (i + k + 1) t) → ∃ r, xs.foldlM body s = some r ∧ J (i + xs.length) r
  | [], i, s, h, _ => ⟨s, rfl, h⟩
  | x :: xs, i, s, h, hb => by
    obtain ⟨t, h1, h2⟩ := hb 0 x s rfl h
    obtain ⟨r, h3, h4⟩ := foldlM_inv J xs (i + 1) t h2 fun k y u hy hu => by
      have e : i + 1 + k = i + (k + 1) := by omega
      rw [e] at hu ⊢
      exact hb (k + 1) y u (by simpa using hy) hu
    refine ⟨r, ?_, ?_⟩
    · rw [List.foldlM_cons, h1]; exact h3
    · have e : i + (x :: xs).length = i + 1 + xs.length := by rw [List.length_cons]; omega
      rw [e]; exact h4
theorem forF_nx {α S R : Type} {body : S → α → Option (Fl S R)} (J : S → Prop) : ∀ (xs : List α) (s : S), J s → (∀ x ∈ xs, ∀ s, J s → ∃ t, body s x = some (.nx t) ∧ J t) → ∃ r, forF body xs s = some (.nx r) ∧ J r
  | [], s, h, _ => ⟨s, rfl, h⟩
  | x :: xs, s, h, hb => by
    obtain ⟨t, h1, h2⟩ := hb x List.mem_cons_self s h
    obtain ⟨r, h3, h4⟩ := forF_nx J xs t h2 fun y hy => hb y (List.mem_cons_of_mem _ hy)
    refine ⟨r, ?_, h4⟩
    show (body s x).bind _ = _
    rw [h1]; exact h3
theorem enumM_get {α : Type} {xs : List α} {k : Nat} {p : Int × α} (h : (enumM xs)[k]? = some p) : ∃ x, xs[k]? = some x ∧ p = ((k : Int), x) := by
  unfold enumM at h
  rw [List.getElem?_mapIdx] at h
  cases e : xs[k]? with
  | none => rw [e] at h; cases h
  | some x => rw [e] at h; cases h; exact ⟨x, rfl, rfl⟩
theorem enumM_len {α : Type} (xs : List α) : (enumM xs).length = xs.length := by simp [enumM]
theorem rngL_len (a b : Int) : (rngL a b).length = (b - a).toNat := by simp [rngL]
theorem rngL_get {a b : Int} {k : Nat} {x : Int} (h : (rngL a b)[k]? = some x) : x = a + (k : Int) ∧ k < (b - a).toNat := by
  unfold rngL at h
  rw [List.getElem?_map] at h
  cases e : (List.range (b - a).toNat)[k]? with
  | none => rw [e] at h; cases h
  | some j =>
    rw [e] at h
    obtain ⟨h1, h2⟩ := List.getElem?_eq_some_iff.mp e
    rw [List.getElem_range] at h2
    cases h
    subst h2
    exact ⟨rfl, by simpa using h1⟩
/-- each thing below its size -/
inductive Bel : List Int → List Int → Prop
  | nil : Bel [] []
  | cons {x s : Int} {xs ss : List Int} : 0 ≤ x → x < s → Bel xs ss → Bel (x :: xs) (s :: ss)
theorem Bel.len : ∀ {xs ss : List Int}, Bel xs ss → xs.length = ss.length
  | _, _, .nil => rfl
  | _, _, .cons _ _ h => by rw [List.length_cons, List.length_cons, h.len]
theorem Bel.snoc : ∀ {xs ss : List Int} {x s : Int}, Bel xs ss → 0 ≤ x → x < s → Bel (xs ++ [x]) (ss ++ [s])
  | _, _, _, _, .nil, h1, h2 => .cons h1 h2 .nil
  | _, _, _, _, .cons a b h, h1, h2 => .cons a b (h.snoc h1 h2)
theorem Bel.get : ∀ {xs ss : List Int} {k : Nat} {s : Int}, Bel xs ss → ss[k]? = some s → ∃ x, xs[k]? = some x ∧ 0 ≤ x ∧ x < s
  | _, _, _, _, .nil, e => by simp at e
  | _, _, 0, _, .cons a b h, e => by simp at e; subst e; exact ⟨_, rfl, a, b⟩
  | _, _, k + 1, s, .cons a b h, e => by
    obtain ⟨x, h1, h2⟩ := h.get (k := k) (s := s) (by simpa using e)
    exact ⟨x, by simpa using h1, h2⟩
theorem Bel.at {xs ss : List Int} {k : Nat} {s : Int} (h : Bel xs ss) (e : ss[k]? = some s) : ∃ x, atI xs (k : Int) = some x ∧ 0 ≤ x ∧ x < s := by
  obtain ⟨x, h1, h2, h3⟩ := h.get e
  obtain ⟨hk, h4⟩ := List.getElem?_eq_some_iff.mp h1
  exact ⟨x, by rw [atI_nn xs k hk, h4], h2, h3⟩
theorem Bel.rep : ∀ {xs : List Int} {n : Nat} {s : Int}, Bel xs (List.replicate n s) → xs.length = n ∧ ∀ x ∈ xs, 0 ≤ x ∧ x < s
  | _, 0, _, h => by cases h; exact ⟨rfl, fun x hx => by cases hx⟩
  | _, n + 1, s, h => by
    rw [List.replicate_succ] at h
    cases h with
    | cons a b h =>
      obtain ⟨h1, h2⟩ := h.rep
      refine ⟨by rw [List.length_cons, h1], fun x hx => ?_⟩
      rcases List.mem_cons.mp hx with rfl | hx
      · exact ⟨a, b⟩
      · exact h2 x hx
theorem absI_nn (c : Int) : 0 ≤ absI c := by unfold absI; split <;> omega
end Bw

namespace Bw
open PySem L2
/-! what is told, and what is true of it -/
def Rt {α : Type} (o : Option α) (P : α → Prop) : Prop := ∃ x, o = some x ∧ P x
theorem Rt.mono {α : Type} {o : Option α} {P Q : α → Prop} (h : Rt o P) (k : ∀ x, P x → Q x) : Rt o Q := let ⟨x, h1, h2⟩ := h; ⟨x, h1, k x h2⟩
theorem Rt.mo {α : Type} {o : Option α} {P Q : α → Prop} (h : Rt o P) (k : ∀ x, o = some x → P x → Q x) : Rt o Q := let ⟨x, h1, h2⟩ := h; ⟨x, h1, k x h1 h2⟩
theorem Rt.eq {α : Type} {o : Option α} {y : α} (h : Rt o fun x => x = y) : o = some y := let ⟨x, h1, h2⟩ := h; h2 ▸ h1
theorem rt_of {α : Type} {o : Option α} {x : α} {P : α → Prop} (h : o = some x) (p : P x) : Rt o P := ⟨x, h, p⟩
theorem rt_some {α : Type} {x : α} {P : α → Prop} : Rt (some x) P ↔ P x := ⟨fun ⟨y, h1, h2⟩ => (Option.some.inj h1) ▸ h2, fun h => ⟨x, rfl, h⟩⟩
theorem rt_bind {α β : Type} {a : Option α} {f : α → Option β} {P : β → Prop} : Rt (a.bind f) P ↔ Rt a fun x => Rt (f x) P := by
  constructor
  · rintro ⟨y, h1, h2⟩
    obtain ⟨x, h3, h4⟩ := bnd h1
    exact ⟨x, h3, y, h4, h2⟩
  · rintro ⟨x, h3, y, h4, h2⟩
    exact ⟨y, by rw [h3]; exact h4, h2⟩
theorem rt_let {α β : Type} {x : α} {f : α → Option β} {P : β → Prop} : Rt (letM x f) P ↔ Rt (f x) P := Iff.rfl
theorem rt_ite {α : Type} {c : Prop} [Decidable c] {a b : Option α} {P : α → Prop} : Rt (if c then a else b) P ↔ (c → Rt a P) ∧ (¬ c → Rt b P) := by
  by_cases h : c
  · rw [if_pos h]; exact ⟨fun k => ⟨fun _ => k, fun z => absurd h z⟩, fun k => k.1 h⟩
  · rw [if_neg h]; exact ⟨fun k => ⟨fun z => absurd z h, fun _ => k⟩, fun k => k.2 h⟩
theorem rt_pos {α : Type} {c : Prop} [Decidable c] {a b : Option α} {P : α → Prop} (h : c) (k : Rt a P) : Rt (if c then a else b) P := by rw [if_pos h]; exact k
theorem rt_neg {α : Type} {c : Prop} [Decidable c] {a b : Option α} {P : α → Prop} (h : ¬ c) (k : Rt b P) : Rt (if c then a else b) P := by rw [if_neg h]; exact k
theorem rt_if {α : Type} {c : Prop} [Decidable c] {x : α} {P : Prop} [Decidable P] {Q : α → Prop} {o : Prop} (h : o) : o := h
theorem rt_g {α : Type} {p : Prop} [Decidable p] {x : α} {P : α → Prop} : Rt (if p then some x else none) P ↔ p ∧ P x := by
  by_cases h : p
  · rw [if_pos h, rt_some]; exact ⟨fun k => ⟨h, k⟩, fun k => k.2⟩
  · rw [if_neg h]; exact ⟨fun ⟨_, z, _⟩ => (nomatch z), fun k => absurd k.1 h⟩
theorem rt_app {α : Type} {xs : List α} {x : α} {P : List α → Prop} : Rt (appM xs x) P ↔ xs.length < 100000 ∧ P (xs ++ [x]) := by unfold appM; exact rt_g
theorem rt_cat {α : Type} {xs ys : List α} {P : List α → Prop} : Rt (catM xs ys) P ↔ xs.length + ys.length ≤ 100000 ∧ P (xs ++ ys) := by unfold catM; exact rt_g
theorem rt_mul {a b : Int} {P : Int → Prop} : Rt (mulM a b) P ↔ ((-(2 ^ 64) < a ∧ a < 2 ^ 64) ∨ (-(2 ^ 64) < b ∧ b < 2 ^ 64)) ∧ P (a * b) := by unfold mulM; exact rt_g
theorem rt_mod {a b : Int} {P : Int → Prop} : Rt (modM a b) P ↔ 0 < b ∧ P (a % b) := by unfold modM; exact rt_g
theorem rt_fdiv {a b : Int} {P : Int → Prop} : Rt (fdivM a b) P ↔ (0 < b ∧ b < 1073741824) ∧ P (a / b) := by unfold fdivM; exact rt_g
theorem rt_rng {a b : Int} {P : List Int → Prop} : Rt (rngM a b) P ↔ (-(2 ^ 62) ≤ a ∧ a < 2 ^ 62 ∧ -(2 ^ 62) ≤ b ∧ b < 2 ^ 62) ∧ P (rngL a b) := by unfold rngM; exact rt_g
theorem rt_scat {x y : Str} {P : Str → Prop} : Rt (scatM x y) P ↔ x.length + y.length ≤ 100000 ∧ P (x ++ y) := by unfold scatM; exact rt_g
theorem rt_lenS {x : Str} {P : Int → Prop} : Rt (lenS x) P ↔ x.length ≤ 100000 ∧ P (x.length : Int) := by unfold lenS; exact rt_g
theorem rt_str {x : Int} {P : Str → Prop} : Rt (strM x) P ↔ x.natAbs.log2 < 1920 ∧ P (toString x) := by unfold strM; exact rt_g
theorem rt_join {x : Str} {xs : List Str} {P : Str → Prop} : Rt (joinM x xs) P ↔ ((xs.map (·.length)).sum + x.length * xs.length) ≤ 100000 ∧ P (Txt.join x xs) := by unfold joinM; exact rt_g
theorem rt_mapC {α β : Type} {f : α → β} {xs : List α} {P : List β → Prop} : Rt (mapC f xs) P ↔ xs.length ≤ 100000 ∧ P (xs.map f) := by unfold mapC; exact rt_g
theorem rt_filC {α β : Type} {p : α → Bool} {f : α → β} {xs : List α} {P : List β → Prop} : Rt (filC p f xs) P ↔ xs.length ≤ 100000 ∧ P ((xs.filter p).map f) := by unfold filC; exact rt_g
theorem rt_lcC {α β : Type} {f : α → Option (Option β)} {xs : List α} {P : List β → Prop} : Rt (lcC f xs) P ↔ xs.length ≤ 100000 ∧ Rt (lcM f xs) P := by
  unfold lcC
  by_cases h : xs.length ≤ 100000
  · rw [if_pos h]; exact ⟨fun k => ⟨h, k⟩, fun k => k.2⟩
  · rw [if_neg h]; exact ⟨fun ⟨_, z, _⟩ => (nomatch z), fun k => absurd k.1 h⟩
theorem rt_rep {α : Type} {xs : List α} {k : Int} {P : List α → Prop} : Rt (repM xs k) P ↔ (-(2 ^ 63) ≤ k ∧ k < 2 ^ 63 ∧ xs.length * k.toNat ≤ 100000) ∧ P (List.replicate k.toNat xs).flatten := by unfold repM; exact rt_g
theorem rt_at {α : Type} {xs : List α} {i : Int} {P : α → Prop} (h0 : 0 ≤ i) (h : i < xs.length) (k : ∀ x, xs[i.toNat]? = some x → P x) : Rt (atI xs i) P := by
  obtain ⟨x, h1, h2⟩ := atI_int xs i h0 h
  exact ⟨x, h1, k x h2⟩
theorem rt_lc {α β : Type} {f : α → Option (Option β)} {R : α → β → Prop} : ∀ {xs : List α} {P : List β → Prop}, (∀ x ∈ xs, Rt (f x) fun o => ∃ y, o = some y ∧ R x y) → (∀ ys : List β, ys.length = xs.length → (∀ (i : Nat) x y, xs[i]? = some x → ys[i]? = some y → R x y) → P ys) → Rt (lcM f xs) P
  | [], P, _, k => ⟨[], rfl, k [] rfl fun i x y h => by simp at h⟩
  | x :: xs, P, h, k => by
    obtain ⟨o, h1, y, rfl, h2⟩ := h x List.mem_cons_self
    obtain ⟨ys, h3, h4, h5⟩ := rt_lc (xs := xs) (P := fun ys => ys.length = xs.length ∧ ∀ (i : Nat) x y, xs[i]? = some x → ys[i]? = some y → R x y) (fun z hz => h z (List.mem_cons_of_mem _ hz)) fun ys a b => ⟨a, b⟩
    refine ⟨y :: ys, ?_, k _ (by simp [h4]) fun i x' y' hx hy => ?_⟩
    · show (f x).bind _ = _
      rw [h1]
      show (lcM f xs).bind _ = _
      rw [h3]; rfl
    · cases i with
      | zero => simp at hx hy; subst hx; subst hy; exact h2
      | succ i => exact h5 i x' y' (by simpa using hx) (by simpa using hy)
/-- a loop by what it keeps: the turns so far -/
theorem rt_fold {α S : Type} {body : S → α → Option S} {xs : List α} {s : S} {P : S → Prop} (J : Nat → S → Prop) (h0 : J 0 s) (hb : ∀ (k : Nat) x s, xs[k]? = some x → J k s → Rt (body s x) (J (k + 1))) (hd : ∀ s, J xs.length s → P s) : Rt (xs.foldlM body s) P := by
  obtain ⟨r, h1, h2⟩ := foldlM_inv (body := body) J xs 0 s h0 fun k x t hx ht => by
    rw [Nat.zero_add] at ht ⊢
    exact hb k x t hx ht
  exact ⟨r, h1, hd r (by rwa [Nat.zero_add] at h2)⟩
/-- a loop that goes through -/
theorem rt_for {α S R : Type} {body : S → α → Option (Fl S R)} {xs : List α} {s : S} {P : Fl S R → Prop} (J : S → Prop) (h0 : J s) (hb : ∀ x ∈ xs, ∀ s, J s → Rt (body s x) fun f => ∃ t, f = .nx t ∧ J t) (hd : ∀ s, J s → P (.nx s)) : Rt (forF body xs s) P := by
  obtain ⟨r, h1, h2⟩ := forF_nx (body := body) J xs s h0 fun x hx t ht => by
    obtain ⟨f, h1, u, rfl, h2⟩ := hb x hx t ht
    exact ⟨u, h1, h2⟩
  exact ⟨_, h1, hd r h2⟩
end Bw

namespace Bw
open PySem L2 TL
/-! good stores -/
abbrev Bx := Str × Int × Int
abbrev Sto := List Int × List Int × Int × List Bx
theorem popM_ok {α : Type} {xs : List α} (i : Nat) (h : i < xs.length) (hl : xs.length < 1000000) : popM xs (i : Int) = some (xs[i], xs.eraseIdx i) := by
  unfold popM
  rw [if_pos ⟨by omega, by omega⟩]
  have e : seqIndex? (i : Int) xs.length = some i := by
    unfold seqIndex?
    have h0 : ¬ ((i : Int) < 0) := by omega
    simp only [if_neg h0, Int.toNat_natCast]
    rw [if_pos]
    simp; omega
  rw [bo e, List.getElem?_eq_getElem h]
  rfl
theorem erase_perm {α : Type} : ∀ (xs : List α) (i : Nat) (h : i < xs.length), xs.Perm (xs[i] :: xs.eraseIdx i)
  | x :: xs, 0, _ => .refl _
  | x :: xs, i + 1, h => by
    have h' : i < xs.length := by simpa using h
    exact ((erase_perm xs i h').cons x).trans (.swap _ _ _)
theorem remM_ok {xs : List Int} {x : Int} (h : x ∈ xs) : remM xs x = some (xs.erase x) := by
  unfold remM inL
  rw [if_pos]
  exact List.any_eq_true.mpr ⟨x, h, by simp⟩
theorem fold_arr (c : Nat) : ∀ (n : Nat) (a : Array Nat), ((List.replicate n #[c]).foldl (· ++ ·) a).toList = a.toList ++ List.replicate n c
  | 0, a => by simp
  | n + 1, a => by
    rw [List.replicate_succ, List.foldl_cons, fold_arr c n, List.replicate_succ]
    simp
theorem tl_mul1 (x : Str) (c : Nat) (hx : tl x = [c]) (n : Int) : tl (Txt.mul x n) = List.replicate n.toNat c := by
  have e : x = ⟨#[c]⟩ := ext_tl hx
  subst e
  unfold Txt.mul
  split
  · rename_i h
    have : n.toNat = 0 := by omega
    rw [this]; rfl
  · split
    · rename_i h1 h2
      simp [Str.length] at h2
      subst h2
      rfl
    · show ((List.replicate n.toNat #[c]).foldl (· ++ ·) #[]).toList = _
      rw [fold_arr]; rfl
theorem srepM_ok (x : Str) (c : Nat) (hx : tl x = [c]) (n : Int) (h0 : 0 ≤ n) (h : n ≤ 100) : srepM x n = some ⟨(List.replicate n.toNat c).toArray⟩ := by
  unfold srepM
  have hl : x.length = 1 := by rw [len_tl, hx]; rfl
  rw [if_pos ⟨by omega, by omega, by rw [hl]; omega⟩]
  exact congrArg some (ext_tl (by rw [tl_mul1 x c hx]))
theorem scatM_ok (x y : Str) (h : (tl x).length + (tl y).length ≤ 100000) : scatM x y = some ⟨(tl x ++ tl y).toArray⟩ := by
  unfold scatM
  rw [len_tl, len_tl, if_pos h]
  exact congrArg some (ext_tl (by rw [tl_append]))
abbrev abc : Str := "abcdefghijklmnopqrstuvwxyz"
theorem abc_ix : ∀ i : Fin 26, ixS abc ((i.val : Nat) : Int) = some ⟨#[97 + i.val]⟩ := by decide +kernel
theorem abc_at (i : Int) (h0 : 0 ≤ i) (h : i < 26) : ixS abc i = some ⟨#[97 + i.toNat]⟩ := by
  have := abc_ix ⟨i.toNat, by omega⟩
  simp only at this
  rw [← this]
  congr 1
  omega
def NmOk (s : Str) : Prop := 1 ≤ (tl s).length ∧ (tl s).length ≤ 8 ∧ ∀ c ∈ tl s, 97 ≤ c ∧ c ≤ 122
structure BxOk (rooms : List Int) (bs : List Bx) : Prop where
  len : bs.length ≤ 60
  nm : ∀ x ∈ bs, NmOk x.1
  nd : (bs.map (·.1)).Nodup
  ba : ∀ x ∈ bs, 0 ≤ x.2.1 ∧ x.2.1 < rooms.length
  bt : ∀ x ∈ bs, 0 ≤ x.2.2 ∧ x.2.2 < rooms.length
  ra : ∀ (b : Nat) (r : Int), rooms[b]? = some r → (bs.countP fun x => decide (x.2.1 = (b : Int))) ≤ r.toNat
  rt : ∀ (b : Nat) (r : Int), rooms[b]? = some r → (bs.countP fun x => decide (x.2.2 = (b : Int))) ≤ r.toNat
structure SOk (s : Sto) : Prop where
  n2 : 2 ≤ s.1.length
  n16 : s.1.length ≤ 16
  rm : ∀ r ∈ s.1, 1 ≤ r ∧ r ≤ 40
  gl : s.2.1.length + 1 = s.1.length
  gm : ∀ g ∈ s.2.1, 1 ≤ g ∧ g ≤ 1000000000
  mo : 1 ≤ s.2.2.1 ∧ s.2.2.1 ≤ 20
  bx : BxOk s.1 s.2.2.2
/-! equal to its copy -/
def Shp (n : Nat) (d : PyData) : Prop := d.canLay0 = true ∧ d.depth ≤ n
theorem Shp.mono {n m : Nat} {d : PyData} (h : Shp n d) (hm : n ≤ m) : Shp m d := ⟨h.1, Nat.le_trans h.2 hm⟩
theorem shp_int (i : Int) : Shp 0 (.int i) := ⟨rfl, Nat.le_refl _⟩
theorem shp_all {n : Nat} : ∀ {xs : List PyData}, (∀ x ∈ xs, Shp n x) → PyData.canLayAll0 xs = true ∧ PyData.depthAll xs ≤ n
  | [], _ => ⟨rfl, Nat.zero_le _⟩
  | x :: xs, h => by
    obtain ⟨a, b⟩ := shp_all fun y hy => h y (List.mem_cons_of_mem _ hy)
    obtain ⟨c, d⟩ := h x List.mem_cons_self
    unfold PyData.canLayAll0 PyData.depthAll
    rw [a, c]
    exact ⟨rfl, Nat.max_le.mpr ⟨d, b⟩⟩
theorem shp_list {n : Nat} {xs : List PyData} (h : ∀ x ∈ xs, Shp n x) : Shp (n + 1) (.list xs) := by
  obtain ⟨a, b⟩ := shp_all h
  exact ⟨by unfold PyData.canLay0; exact a, by unfold PyData.depth; omega⟩
theorem shp_tup {n : Nat} {xs : List PyData} (h : ∀ x ∈ xs, Shp n x) : Shp (n + 1) (.tuple xs) := by
  obtain ⟨a, b⟩ := shp_all h
  exact ⟨by unfold PyData.canLay0; exact a, by unfold PyData.depth; omega⟩
theorem shp_str {s : Str} (h : ∀ c ∈ tl s, c < 0x110000) : Shp 0 (.str s) := by
  refine ⟨?_, Nat.le_refl _⟩
  unfold PyData.canLay0 PyData.strOk
  rw [Array.all_eq_true']
  intro c hc
  exact decide_eq_true (h c (Array.mem_def.mp hc))
theorem shp_ints (xs : List Int) : Shp 1 (eL eI xs) := shp_list fun x hx => by
  obtain ⟨i, _, rfl⟩ := List.mem_map.mp hx
  exact shp_int i
theorem shp_box {x : Bx} (h : NmOk x.1) : Shp 1 (eT3 eS eI eI x) := shp_tup fun y hy => by
  have hs : Shp 0 (eS x.1) := shp_str fun c hc => by have := h.2.2 c hc; omega
  simp only [List.mem_cons, List.not_mem_nil, or_false] at hy
  rcases hy with rfl | rfl | rfl
  · exact hs
  · exact shp_int _
  · exact shp_int _
theorem shp_boxes {bs : List Bx} (h : ∀ x ∈ bs, NmOk x.1) : Shp 2 (eL (eT3 eS eI eI) bs) := shp_list fun x hx => by
  obtain ⟨y, hy, rfl⟩ := List.mem_map.mp hx
  exact shp_box (h y hy)
theorem shp_store {s : Sto} (h : SOk s) : Shp 3 (eT4 (eL eI) (eL eI) eI (eL (eT3 eS eI eI)) s) := shp_tup fun y hy => by
  simp only [List.mem_cons, List.not_mem_nil, or_false] at hy
  rcases hy with rfl | rfl | rfl | rfl
  · exact (shp_ints _).mono (by decide)
  · exact (shp_ints _).mono (by decide)
  · exact (shp_int _).mono (by decide)
  · exact shp_boxes h.bx.nm
theorem Shp.ok {n : Nat} {d : PyData} (h : Shp n d) (hn : n ≤ 64) : SeqAt.shaped d = true := by
  unfold SeqAt.shaped
  rw [h.1, decide_eq_true (Nat.le_trans h.2 hn)]; rfl
theorem eqT_self {α : Type} [DecidableEq α] {e : α → PyData} {x : α} {n : Nat} (h : Shp n (e x)) (hn : n ≤ 64) : eqTM e x x = some true := by
  unfold eqTM
  rw [if_pos ⟨h.ok hn, h.ok hn⟩, decide_eq_true rfl]
theorem setM_ok {α : Type} {xs : List α} {i : Int} (x : α) (h0 : 0 ≤ i) (h : i < xs.length) : setM xs i x = some (xs.set i.toNat x) := by
  unfold setM ixN
  rw [if_pos h0, if_pos h]
  rfl
theorem cut_take {α : Type} (xs : List α) (i : Int) (h0 : 0 ≤ i) : cutL xs none (some i) = xs.take i.toNat := by
  obtain ⟨k, rfl⟩ : ∃ k : Nat, i = k := ⟨i.toNat, by omega⟩
  unfold cutL
  rw [HT.sIx_none, HT.sIx_nat, Int.toNat_natCast, List.drop_zero, Nat.sub_zero]
  by_cases h : k ≤ xs.length
  · rw [Nat.min_eq_left h]
  · rw [Nat.min_eq_right (by omega), List.take_of_length_le (Nat.le_refl _), List.take_of_length_le (by omega)]
theorem bx_take {rooms : List Int} {bs : List Bx} (h : BxOk rooms bs) (n : Nat) : BxOk rooms (bs.take n) := by
  have sub := List.take_sublist n bs
  refine ⟨Nat.le_trans sub.length_le h.len, fun x hx => h.nm x (sub.mem hx), h.nd.sublist (sub.map _), fun x hx => h.ba x (sub.mem hx), fun x hx => h.bt x (sub.mem hx), fun b r e => Nat.le_trans (sub.countP_le) (h.ra b r e), fun b r e => Nat.le_trans (sub.countP_le) (h.rt b r e)⟩
theorem bx_room {rooms rooms' : List Int} {bs : List Bx} (h : BxOk rooms bs) (hl : rooms'.length = rooms.length) (hg : ∀ (b : Nat) (r' : Int), rooms'[b]? = some r' → ∃ r, rooms[b]? = some r ∧ r ≤ r') : BxOk rooms' bs := by
  refine ⟨h.len, h.nm, h.nd, by rw [hl]; exact h.ba, by rw [hl]; exact h.bt, fun b r' e => ?_, fun b r' e => ?_⟩
  · obtain ⟨r, e1, e2⟩ := hg b r' e
    have := h.ra b r e1; omega
  · obtain ⟨r, e1, e2⟩ := hg b r' e
    have := h.rt b r e1; omega
end Bw

namespace Bw
open PySem L2 TL
/-! a good store is looked at and nothing is said -/
theorem whole_ok (x : Int) : f_is_whole x = some true := rfl
theorem within_eq (x a b : Int) : f_is_within (x, a, b) = some (decide (a ≤ x) && decide (x ≤ b)) := by
  unfold f_is_within
  dsimp only
  rw [bo (whole_ok x), Bool.true_and]
theorem within_ok {x a b : Int} (h1 : a ≤ x) (h2 : x ≤ b) : f_is_within (x, a, b) = some true := by rw [within_eq, decide_eq_true h1, decide_eq_true h2]; rfl
theorem all_id : ∀ {α : Type} (xs : List α), (xs.map fun _ => true).all id = true
  | _, [] => rfl
  | _, _ :: xs => by rw [List.map_cons, List.all_cons, all_id xs]; rfl
theorem inS_abc {c : Nat} (h1 : 97 ≤ c) (h2 : c ≤ 122) : inS ⟨#[c]⟩ "abcdefghijklmnopqrstuvwxyz" = true := by
  have h : ∀ i : Fin 26, 97 + i.val ∈ tl ("abcdefghijklmnopqrstuvwxyz" : Str) := by decide +kernel
  unfold inS
  rw [PySem.StrLaws.found_one, decide_eq_true_eq]
  have := h ⟨c - 97, by omega⟩
  have e : 97 + (c - 97) = c := by omega
  simpa [e] using this
theorem is_name_ok {s : Str} (h : NmOk s) : f_is_name s = some true := by
  obtain ⟨h1, h2, h3⟩ := h
  unfold f_is_name
  have hl : lenS s = some ((tl s).length : Int) := by unfold lenS; rw [len_tl, if_pos (by omega)]
  have e : mapC (fun sign_20 => inS sign_20 ("abcdefghijklmnopqrstuvwxyz" : Str)) (signs s) = some ((signs s).map fun _ => true) := by
    rw [mapC_ok (by simp [signs]; have := len_tl s; simp [tl, Str.length] at *; omega)]
    refine congrArg some (List.map_congr_left fun x hx => ?_)
    obtain ⟨c, hc, rfl⟩ := List.mem_map.mp hx
    exact inS_abc (h3 c hc).1 (h3 c hc).2
  rw [if_neg (by decide), bo hl]
  have g : (!(decide ((1 : Int) ≤ ((tl s).length : Int)) && decide (((tl s).length : Int) ≤ 8))) = false := by
    rw [decide_eq_true (by omega), decide_eq_true (by omega)]; rfl
  rw [g, bo rfl, if_neg (by decide), bo e, all_id]
end Bw

namespace Bw
open PySem L2 TL
/-! a good store is looked at and nothing is said -/
theorem are_within_ok {xs : List Int} {a b : Int} (hl : xs.length ≤ 1000) (h : ∀ x ∈ xs, a ≤ x ∧ x ≤ b) : f_are_within (xs, a, b) = some true := by
  unfold f_are_within
  dsimp only
  have e : lcC (fun one_4 => (f_is_within (one_4, a, b)).bind fun x15 => some (some x15)) xs = some (xs.map fun _ => true) := by
    rw [lcC_ok (by omega)]
    exact lcM_all fun x hx => by rw [bo (within_ok (h x hx).1 (h x hx).2)]
  rw [if_pos rfl, bo e, all_id, bo rfl]
theorem is_box_ok {x : Bx} {n : Int} (h : NmOk x.1) (ha : 0 ≤ x.2.1 ∧ x.2.1 < n) (ht : 0 ≤ x.2.2 ∧ x.2.2 < n) : f_is_box (x, n) = some true := by
  unfold f_is_box
  dsimp only
  rw [if_neg (by decide), if_neg (by decide), bo (is_name_ok h)]
  rw [show ((some (!true)).bind fun x5 => some x5) = some false from rfl, bo rfl, if_neg (by decide), bo (within_ok ha.1 (by omega)), if_pos rfl, bo (within_ok ht.1 (by omega)), bo rfl]
theorem dups_nodup : ∀ (xs acc : List Str), (∀ x ∈ xs, x ∉ acc) → xs.Nodup → (dups acc xs).length = acc.length + xs.length
  | [], acc, _, _ => rfl
  | x :: xs, acc, h, hn => by
    have h1 : acc.any (· == x) = false := by
      rw [List.any_eq_false]
      intro y hy e
      have : y = x := by simpa using e
      exact h x List.mem_cons_self (this ▸ hy)
    unfold dups
    rw [h1]
    obtain ⟨n1, n2⟩ := List.nodup_cons.mp hn
    show (dups (acc ++ [x]) xs).length = _
    rw [dups_nodup xs (acc ++ [x]) (fun y hy hm => by
      rcases List.mem_append.mp hm with hm | hm
      · exact h y (List.mem_cons_of_mem _ hy) hm
      · have := List.mem_singleton.mp hm; subst this; exact n1 hy) n2]
    simp only [List.length_append, List.length_cons, List.length_nil]
    omega
theorem names_twice_ok {bs : List Bx} (hl : bs.length ≤ 60) (hn : (bs.map (·.1)).Nodup) : f_has_names_twice bs = some false := by
  unfold f_has_names_twice
  have e : setLenM (bs.map fun b => b.1) = some (bs.length : Int) := by
    unfold setLenM
    rw [if_pos (by rw [List.length_map]; omega), dups_nodup _ _ (fun _ _ h => by cases h) hn, List.length_map, List.length_nil, Nat.zero_add]
  rw [bo (mapC_ok (by omega)), bo e, decide_eq_true rfl]
  rfl
theorem eqD_int (a b : Int) : eqDM (.int a) (.int b) = some (decide (a = b)) := by
  unfold eqDM
  rw [if_pos ⟨rfl, rfl⟩]
  refine congrArg some ?_
  show (a == b) = decide (a = b)
  rfl
theorem has_room_ok {rooms : List Int} {bs : List Bx} {place : Int} {g : Bx → Int} (hl : bs.length ≤ 60) (hg : ∀ x : Bx, atI [eS x.1, eI x.2.1, eI x.2.2] place = some (eI (g x))) (h : ∀ (b : Nat) (r : Int), rooms[b]? = some r → 0 ≤ r ∧ (bs.countP fun x => decide (g x = (b : Int))) ≤ r.toNat) : f_has_room (rooms, bs, place) = some true := by
  unfold f_has_room
  dsimp only
  obtain ⟨r, e, _⟩ := forF_nx (body := f_has_room_b4 bs place) (fun _ => True) (enumM rooms) () trivial (by
    intro x hx s _
    obtain ⟨k, hk⟩ := List.mem_iff_getElem?.mp hx
    obtain ⟨room, hr, rfl⟩ := enumM_get hk
    obtain ⟨h0, h1⟩ := h k room hr
    unfold f_has_room_b4
    dsimp only
    have e : lcC (fun (box_35 : Bx) => (((atI [eS box_35.1, eI box_35.2.1, eI box_35.2.2] place)).bind fun x46 => ((eqDM x46 (eI (k : Int)))).bind fun x48 => if (x48) = true then (some (some box_35)) else some none)) bs = some ((bs.filter fun x => decide (g x = (k : Int))).map fun x => x) := by
      rw [lcC_ok (by omega)]
      refine lcM_fil fun x hx => ?_
      rw [bo (hg x), bo (eqD_int _ _)]
      split <;> rfl
    rw [bo e, if_neg]
    · exact ⟨(), rfl, trivial⟩
    · rw [List.map_id', ← List.countP_eq_length_filter, decide_eq_true_eq]
      omega)
  rw [bo e]
theorem are_boxes_ok {rooms : List Int} {bs : List Bx} (hr : ∀ r ∈ rooms, 1 ≤ r ∧ r ≤ 40) (h : BxOk rooms bs) : f_are_boxes (rooms, bs) = some true := by
  unfold f_are_boxes
  dsimp only
  have hl := h.len
  have e : lcC (fun (one_17 : Bx) => (((f_is_box (one_17, (rooms.length : Int)))).bind fun x28 => some (some x28))) bs = some (bs.map fun _ => true) := by
    rw [lcC_ok (by omega)]
    exact lcM_all fun x hx => by rw [bo (is_box_ok (h.nm x hx) (h.ba x hx) (h.bt x hx))]
  have g1 : ((!true) || decide ((60 : Int) < (bs.length : Int))) = false := by rw [decide_eq_false (by omega)]; rfl
  have pos : ∀ (b : Nat) (r : Int), rooms[b]? = some r → 0 ≤ r := fun b r e => by have := hr r (List.mem_of_getElem? e); omega
  rw [g1, if_neg (by decide), bo e, all_id, if_neg (by decide), bo (names_twice_ok hl h.nd), bo rfl, if_neg (by decide)]
  rw [bo (has_room_ok (g := fun x => x.2.1) hl (fun _ => rfl) fun b r e => ⟨pos b r e, h.ra b r e⟩), if_pos rfl, bo (has_room_ok (g := fun x => x.2.2) hl (fun _ => rfl) fun b r e => ⟨pos b r e, h.rt b r e⟩), bo rfl]
end Bw

namespace Bw
open PySem L2 TL
theorem look_ok {s : Sto} (h : SOk s) : f_look_at_store s = some (.ok ()) := by
  obtain ⟨rooms, gaps, most, bs⟩ := s
  obtain ⟨h1, h2, h3, h4, h5, h6, h7⟩ := h
  dsimp only at h1 h2 h3 h4 h5 h6 h7
  unfold f_look_at_store
  dsimp only
  rw [if_neg (by decide)]
  simp only [letM_eq]
  rw [bo (are_within_ok (by omega) h3)]
  rw [show ((!true) || !(decide ((2 : Int) ≤ (rooms.length : Int)) && decide ((rooms.length : Int) ≤ 16))) = false by rw [decide_eq_true (by omega), decide_eq_true (by omega)]; rfl]
  rw [if_neg (by decide), bo (are_within_ok (by omega) h5)]
  rw [show ((!true) || !decide ((gaps.length : Int) = (rooms.length : Int) - 1)) = false by rw [decide_eq_true (by omega)]; rfl]
  rw [if_neg (by decide), bo (within_ok h6.1 h6.2), if_neg (by decide), bo (are_boxes_ok h3 h7), if_neg (by decide)]
end Bw

namespace Bw
open PySem L2 TL
theorem cell_ok (s : List Int) (k : Int) (h : 0 ≤ k) : ∃ c, f_cell (s, k) = some c := by
  unfold f_cell
  dsimp only
  by_cases q : k < (s.length : Int)
  · rw [if_pos (decide_eq_true q)]
    obtain ⟨x, h1, _⟩ := atI_int s k h q
    rw [h1]
    exact ⟨x, rfl⟩
  · rw [if_neg (by simpa using q)]
    exact ⟨0, rfl⟩
end Bw

namespace Bw
open PySem L2
/-! the law's draws: each below its size -/
def SzOk (ss : List Int) : Prop := ∀ s ∈ ss, 0 < s ∧ s < 1073741824
theorem draws_turn (k : Int) (great : Bool) (number mixed : Int) (found : List Int) (turn size : Int) (hn : 0 ≤ number) (hm : 0 ≤ mixed) (hm2 : mixed < 2147483629) (hs : 0 < size) (hs2 : size < 1073741824) (hf : found.length < 100000) :
    ∃ number' mixed' x, f_draws_b31 k great (number, mixed, found) (turn, size) = some (number', mixed', found ++ [x]) ∧ 0 ≤ number' ∧ 0 ≤ mixed' ∧ mixed' < 2147483629 ∧ 0 ≤ x ∧ x < size := by
  unfold f_draws_b31
  dsimp only
  by_cases g : great = true
  · rw [if_pos g, modM_ok hs]
    dsimp only [Option.bind_some]
    rw [appM_ok hf]
    dsimp only [Option.bind_some]
    rw [fdivM_ok hs hs2]
    exact ⟨number / size, mixed, number % size, rfl, Int.ediv_nonneg hn (Int.le_of_lt hs), hm, hm2, Int.emod_nonneg _ (by omega), Int.emod_lt_of_pos _ hs⟩
  · rw [if_neg g, mulM_ok (by omega) (by omega)]
    dsimp only [Option.bind_some, letM]
    rw [modM_ok hs]
    dsimp only [Option.bind_some]
    rw [appM_ok hf]
    refine ⟨number, _, _, rfl, hn, Int.emod_nonneg _ (by decide), ?_, Int.emod_nonneg _ (by omega), Int.emod_lt_of_pos _ hs⟩
    have := Int.emod_lt_of_pos (mixed * mixed + 104729 * (k + turn) + 11) (show (0 : Int) < 2147483587 by decide)
    omega
theorem draws_ok (c k : Int) (ss : List Int) (h : SzOk ss) (hl : ss.length ≤ 1000) : ∃ r, f_draws (c, k, ss) = some r ∧ Bel r ss := by
  unfold f_draws
  dsimp only [letM]
  generalize hg : decide ((1000000000000000000 : Int) ≤ absI c) = great
  have hm := Int.emod_nonneg ((absI c % 1000000007 + 7919 * k + 1) * 48271) (show (2147483629 : Int) ≠ 0 by decide)
  have hm2 := Int.emod_lt_of_pos ((absI c % 1000000007 + 7919 * k + 1) * 48271) (show (0 : Int) < 2147483629 by decide)
  generalize (absI c % 1000000007 + 7919 * k + 1) * 48271 % 2147483629 = mixed at hm hm2 ⊢
  have step : ∀ (i : Nat) (x : Int × Int) (s : Int × Int × List Int), (enumM ss)[i]? = some x → (0 ≤ s.1 ∧ 0 ≤ s.2.1 ∧ s.2.1 < 2147483629 ∧ Bel s.2.2 (ss.take (0 + i))) → ∃ t, f_draws_b31 k great s x = some t ∧ (0 ≤ t.1 ∧ 0 ≤ t.2.1 ∧ t.2.1 < 2147483629 ∧ Bel t.2.2 (ss.take (0 + i + 1))) := by
    rintro i ⟨t, s⟩ ⟨n, m, f⟩ hi ⟨h1, h2, h3, h4⟩
    obtain ⟨s', hs, e⟩ := enumM_get hi
    cases e
    rw [Nat.zero_add] at h4 ⊢
    have hlt := (List.getElem?_eq_some_iff.mp hs).1
    have hfl : f.length < 100000 := by
      have := h4.len
      rw [List.length_take] at this
      have e : f.length = min i ss.length := this
      omega
    obtain ⟨p1, p2⟩ := h s (List.mem_of_getElem? hs)
    obtain ⟨n', m', x, e1, e2, e3, e4, e5, e6⟩ := draws_turn k great n m f (i : Int) s h1 h2 h3 p1 p2 hfl
    refine ⟨_, e1, e2, e3, e4, ?_⟩
    rw [List.take_add_one, hs]
    exact h4.snoc e5 e6
  obtain ⟨⟨n, m, f⟩, h1, h2⟩ := foldlM_inv (body := f_draws_b31 k great) (fun i (s : Int × Int × List Int) => 0 ≤ s.1 ∧ 0 ≤ s.2.1 ∧ s.2.1 < 2147483629 ∧ Bel s.2.2 (ss.take i)) (enumM ss) 0 (absI c, mixed, []) ⟨absI_nn c, hm, hm2, .nil⟩ step
  rw [h1]
  obtain ⟨_, _, _, hb⟩ := h2
  rw [enumM_len, Nat.zero_add, List.take_length] at hb
  exact ⟨f, rfl, hb⟩
end Bw

namespace Bw
open PySem L2 TL
/-! the law's names -/
def gnm (r1 m a b : Nat) : List Nat := List.replicate r1 120 ++ [97 + a, 97 + b] ++ List.replicate m 113
def gn (r1 m a b : Nat) : Str := ⟨(gnm r1 m a b).toArray⟩
def nmv (ws : List Str) (r1 r2 r3 : Int) (k : Nat) : Str := if h : k < ws.length then ws[k] else gn r1.toNat (minI r2 (6 - r1)).toNat ((r3 + k) % 26).toNat ((k : Int) / 26).toNat
theorem rep_at {x : Str} {m k : Nat} {ws : List Str} (h : k < m) : atI (ws ++ List.replicate m x) (k : Int) = some (if h : k < ws.length then ws[k] else x) := by
  have hk : k < (ws ++ List.replicate m x).length := by rw [List.length_append, List.length_replicate]; omega
  rw [atI_nn _ k hk, List.getElem_append]
  split
  · rfl
  · rw [List.getElem_replicate]
theorem names_turn (m k : Nat) (row : List Int) (ws found : List Str) (r1 r2 r3 : Int) (h1 : atI row 1 = some r1) (h2 : atI row 2 = some r2) (h3 : atI row 3 = some r3) (p1 : 0 ≤ r1) (q1 : r1 < 4) (p2 : 0 ≤ r2) (q2 : r2 < 5) (p3 : 0 ≤ r3) (q3 : r3 < 26)
    (hk : k < m) (hm : m ≤ 60) (hw : ws.length ≤ 1000) (hf : found.length < 1000) : f_names_b53 (m : Int) row abc ws found (k : Int) = some (found ++ [nmv ws r1 r2 r3 k]) := by
  unfold f_names_b53
  have hb : 0 ≤ ((k : Int) / 26) ∧ ((k : Int) / 26) < 26 := by omega
  have ha : 0 ≤ ((r3 + (k : Int)) % 26) ∧ ((r3 + (k : Int)) % 26) < 26 := by omega
  have hmin : 0 ≤ minI r2 (6 - r1) ∧ minI r2 (6 - r1) ≤ 5 := by unfold minI; split <;> omega
  rw [bo h3, bo (abc_at _ ha.1 ha.2), bo (abc_at _ hb.1 hb.2), bo (scatM_ok _ _ (by simp [tl])), bo h1, bo (srepM_ok "x" 120 (by decide) r1 p1 (by omega)), bo (scatM_ok _ _ (by simp [tl]; omega)), bo h2, bo h1, bo (srepM_ok "q" 113 (by decide) _ hmin.1 (by omega)), bo (scatM_ok _ _ (by simp [tl]; omega))]
  rw [bo (repM_one (by omega) (by omega)), bo (catM_ok (by rw [List.length_replicate]; omega))]
  rw [Int.toNat_natCast]
  rw [bo (rep_at hk), bo (appM_ok (by omega)), nmv]
  congr 4
abbrev wds : List Str := ["rooms", "gaps", "most", "boxes", "go", "swap", "box", "room", "swaps", "a", "b"]
def WsOk (ws : List Str) : Prop := ws.length ≤ 11 ∧ ws.Nodup ∧ ∀ w ∈ ws, NmOk w ∧ ((tl w).length < 2 ∨ (∀ c, (tl w).getLast? = some c → c ≠ 97 ∧ c ≠ 98 ∧ c ≠ 99 ∧ c ≠ 113))
theorem wds_ok : WsOk wds := by
  refine ⟨by decide, by decide +kernel, ?_⟩
  have h : ∀ w ∈ wds, (1 ≤ (tl w).length ∧ (tl w).length ≤ 8 ∧ (tl w).all (fun c => decide (97 ≤ c ∧ c ≤ 122)) = true) ∧ ((tl w).length < 2 ∨ ((tl w).getLast?.all fun c => decide (c ≠ 97 ∧ c ≠ 98 ∧ c ≠ 99 ∧ c ≠ 113)) = true) := by decide +kernel
  intro w hw
  obtain ⟨⟨a, b, c⟩, d⟩ := h w hw
  refine ⟨⟨a, b, fun x hx => of_decide_eq_true (List.all_eq_true.mp c x hx)⟩, ?_⟩
  rcases d with d | d
  · exact .inl d
  · refine .inr fun c hc => ?_
    rw [hc] at d
    exact of_decide_eq_true d
theorem nil_ok : WsOk [] := ⟨by decide, by decide, fun w hw => by cases hw⟩
theorem gnm_len (r1 m a b : Nat) : (gnm r1 m a b).length = r1 + 2 + m := by simp [gnm]; omega
theorem gnm_last (r1 m a b : Nat) (hb : b < 3) : ∃ c, (gnm r1 m a b).getLast? = some c ∧ (c = 97 ∨ c = 98 ∨ c = 99 ∨ c = 113) := by
  unfold gnm
  cases m with
  | zero =>
    refine ⟨97 + b, by simp, by omega⟩
  | succ m => exact ⟨113, by rw [List.replicate_succ', ← List.append_assoc, List.getLast?_append]; rfl, by omega⟩
theorem nmv_ok (ws : List Str) (hw : WsOk ws) (r1 r2 r3 : Int) (p1 : 0 ≤ r1) (q1 : r1 < 4) (p2 : 0 ≤ r2) (q2 : r2 < 5) (p3 : 0 ≤ r3) (q3 : r3 < 26) (k : Nat) (hk : k < 60) : NmOk (nmv ws r1 r2 r3 k) := by
  unfold nmv
  split
  · exact (hw.2.2 _ (List.getElem_mem _)).1
  · have hmin : 0 ≤ minI r2 (6 - r1) ∧ minI r2 (6 - r1) ≤ 6 - r1 := by unfold minI; split <;> omega
    have hb : 0 ≤ ((k : Int) / 26) ∧ ((k : Int) / 26) < 26 := by omega
    have ha : 0 ≤ ((r3 + (k : Int)) % 26) ∧ ((r3 + (k : Int)) % 26) < 26 := by omega
    refine ⟨?_, ?_, fun c hc => ?_⟩
    · show 1 ≤ (gnm _ _ _ _).length; rw [gnm_len]; omega
    · show (gnm _ _ _ _).length ≤ 8; rw [gnm_len]; omega
    · have hc : c ∈ gnm _ _ _ _ := hc
      unfold gnm at hc
      simp only [List.mem_append, List.mem_replicate, List.mem_cons, List.not_mem_nil, or_false] at hc
      omega
theorem nmv_ne (ws : List Str) (hw : WsOk ws) (r1 r2 r3 : Int) (i j : Nat) (hij : i < j) (hj : j < 60) : nmv ws r1 r2 r3 i ≠ nmv ws r1 r2 r3 j := by
  have word : ∀ (n : Nat) (hn : n < ws.length) (m k : Nat), k < 60 → ws[n] = gn r1.toNat m ((r3 + k) % 26).toNat ((k : Int) / 26).toNat → False := by
    intro n hn m k hk e
    have h1 := (hw.2.2 _ (List.getElem_mem hn)).2
    rw [e] at h1
    have e1 : tl (gn r1.toNat m ((r3 + k) % 26).toNat ((k : Int) / 26).toNat) = gnm r1.toNat m ((r3 + k) % 26).toNat ((k : Int) / 26).toNat := rfl
    rw [e1, gnm_len] at h1
    obtain ⟨c, hc, hd⟩ := gnm_last r1.toNat m ((r3 + k) % 26).toNat ((k : Int) / 26).toNat (by omega)
    rcases h1 with h1 | h1
    · omega
    · have := h1 c hc; omega
  unfold nmv
  split
  · split
    · exact List.nodup_iff_pairwise_ne.mp hw.2.1 |> fun p => List.pairwise_iff_getElem.mp p i j _ _ hij
    · rename_i h1 h2
      exact fun e => word i h1 _ j hj e
  · split
    · omega
    · intro e
      have e1 : gnm r1.toNat (minI r2 (6 - r1)).toNat ((r3 + i) % 26).toNat ((i : Int) / 26).toNat = gnm r1.toNat (minI r2 (6 - r1)).toNat ((r3 + j) % 26).toNat ((j : Int) / 26).toNat := congrArg tl e
      unfold gnm at e1
      have e2 := List.append_cancel_left (List.append_cancel_right e1)
      simp only [List.cons.injEq, and_true] at e2
      omega
theorem names_fin (m : Nat) (hm : m ≤ 60) (row : List Int) (r1 r2 r3 : Int) (h1 : atI row 1 = some r1) (h2 : atI row 2 = some r2) (h3 : atI row 3 = some r3) (p1 : 0 ≤ r1) (q1 : r1 < 4) (p2 : 0 ≤ r2) (q2 : r2 < 5) (p3 : 0 ≤ r3) (q3 : r3 < 26) (ws : List Str) (hw : WsOk ws) :
    ∃ l, ((rngM 0 (m : Int)).bind fun x51 => (x51.foldlM (f_names_b53 (m : Int) row abc ws) []).bind fun f => some f) = some l ∧ l.length = m ∧ (∀ s ∈ l, NmOk s) ∧ l.Nodup := by
  rw [bo (rngM_ok (by omega) (by omega) (by omega) (by omega))]
  obtain ⟨r, e1, e2⟩ := foldlM_inv (body := f_names_b53 (m : Int) row abc ws) (fun i (s : List Str) => s = (List.range i).map (nmv ws r1 r2 r3)) (rngL 0 m) 0 [] rfl (by
    intro k x s hx hs
    obtain ⟨hx, hk⟩ := rngL_get hx
    have hx : x = (k : Int) := by omega
    have hk : k < m := by omega
    subst hx
    rw [Nat.zero_add] at hs ⊢
    have hl : s.length = k := by rw [hs]; simp
    refine ⟨_, names_turn m k row ws s r1 r2 r3 h1 h2 h3 p1 q1 p2 q2 p3 q3 hk hm (by have := hw.1; omega) (by omega), ?_⟩
    rw [List.range_succ, List.map_append, hs]
    rfl)
  rw [bo e1]
  rw [rngL_len] at e2
  have em : 0 + ((m : Int) - 0).toNat = m := by omega
  rw [em] at e2
  refine ⟨r, rfl, by rw [e2]; simp, ?_, ?_⟩
  · intro s hs
    rw [e2] at hs
    obtain ⟨k, hk, rfl⟩ := List.mem_map.mp hs
    exact nmv_ok ws hw r1 r2 r3 p1 q1 p2 q2 p3 q3 k (by have := List.mem_range.mp hk; omega)
  · rw [e2, List.nodup_iff_pairwise_ne, List.pairwise_map]
    refine List.Pairwise.imp_of_mem (fun {a b} ha hb hab => ?_) (List.pairwise_lt_range (n := m))
    exact nmv_ne ws hw r1 r2 r3 a b hab (by have := List.mem_range.mp hb; omega)
theorem names_ok (c : Int) (m : Nat) (hm : m ≤ 60) : ∃ l, f_names (c, (m : Int)) = some l ∧ l.length = m ∧ (∀ s ∈ l, NmOk s) ∧ l.Nodup := by
  obtain ⟨row, hr, hB⟩ := draws_ok c 5 [4, 4, 5, 26] (by intro s hs; simp at hs; omega) (by simp)
  obtain ⟨r0, h0, p0, q0⟩ := hB.at (k := 0) (s := 4) rfl
  obtain ⟨r1, h1, p1, q1⟩ := hB.at (k := 1) (s := 4) rfl
  obtain ⟨r2, h2, p2, q2⟩ := hB.at (k := 2) (s := 5) rfl
  obtain ⟨r3, h3, p3, q3⟩ := hB.at (k := 3) (s := 26) rfl
  have h0 : atI row 0 = some r0 := h0
  have fin := names_fin m hm row r1 r2 r3 h1 h2 h3 p1 q1 p2 q2 p3 q3
  unfold f_names
  dsimp only
  rw [bo hr]
  simp only [letM_eq]
  rw [bo h0]
  by_cases q : r0 = 1
  · rw [if_pos (decide_eq_true q), bo rfl]
    exact fin wds wds_ok
  · rw [if_neg (by simpa using q), bo rfl]
    exact fin [] nil_ok
end Bw

namespace Bw
open PySem L2 TL
/-! the law's boxes and stores -/
structure FullOk (rooms : List Int) (n : Nat) (full : List Int) : Prop where
  mem : ∀ x ∈ full, 0 ≤ x ∧ x < n
  cnt : ∀ (b : Nat) (r : Int), rooms[b]? = some r → full.count (b : Int) ≤ r.toNat
  len : full.length ≤ 40 * n
theorem full_ok (rooms : List Int) (hr : ∀ r ∈ rooms, 1 ≤ r ∧ r ≤ 40) (hn : rooms.length ≤ 16) : ∃ full, (enumM rooms).foldlM f_boxes_b13 [] = some full ∧ FullOk rooms rooms.length full := by
  obtain ⟨r, h1, h2⟩ := foldlM_inv (body := f_boxes_b13) (fun i s => FullOk rooms i s) (enumM rooms) 0 [] ⟨fun x hx => (by cases hx), fun b r _ => by simp, by simp⟩ (by
    intro k x s hx hs
    obtain ⟨room, hk, rfl⟩ := enumM_get hx
    rw [Nat.zero_add] at hs ⊢
    have hroom := hr room (List.mem_of_getElem? hk)
    have hkl := (List.getElem?_eq_some_iff.mp hk).1
    unfold f_boxes_b13
    dsimp only
    have hlen := hs.len
    rw [bo (repM_one (by omega) (by omega)), bo (catM_ok (by rw [List.length_replicate]; omega))]
    refine ⟨_, rfl, ?_, ?_, ?_⟩
    · intro x hx
      rcases List.mem_append.mp hx with hx | hx
      · have := hs.mem x hx; omega
      · have := (List.mem_replicate.mp hx).2; omega
    · intro b r hb
      rw [List.count_append, List.count_replicate]
      split
      · rename_i e
        have e : (k : Int) = (b : Int) := by simpa using e
        have e : k = b := by omega
        subst e
        have : s.count (k : Int) = 0 := List.count_eq_zero.mpr fun hm => by have := hs.mem _ hm; omega
        rw [hk] at hb
        cases hb
        omega
      · have := hs.cnt b r hb; omega
    · rw [List.length_append, List.length_replicate]; omega)
  rw [enumM_len, Nat.zero_add] at h2
  exact ⟨r, h1, h2⟩
structure BJ (n L : Nat) (full : List Int) (nms : List Str) (k : Nat) (here there : List Int) (bs : List Bx) : Prop where
  hm : ∀ x ∈ here, 0 ≤ x ∧ x < n
  tm : ∀ x ∈ there, 0 ≤ x ∧ x < n
  hl : here.length + k = L
  tl : there.length + k = L
  bl : bs.length = k
  bn : bs.map (·.1) = nms.take k
  ba : ∀ x ∈ bs, 0 ≤ x.2.1 ∧ x.2.1 < n
  bt : ∀ x ∈ bs, 0 ≤ x.2.2 ∧ x.2.2 < n
  ca : ∀ b : Int, (bs.countP fun x => decide (x.2.1 = b)) + here.count b = full.count b
  ct : ∀ b : Int, (bs.countP fun x => decide (x.2.2 = b)) + there.count b = full.count b
theorem boxes_step {n L : Nat} {full : List Int} {nms : List Str} {k : Nat} {here there : List Int} {bs : List Bx} (J : BJ n L full nms k here there bs) {a t : Int} {here' : List Int} (ha : here.Perm (a :: here')) (ht : t ∈ there) {nm : Str} (hn : nms[k]? = some nm) : BJ n L full nms (k + 1) here' (there.erase t) (bs ++ [(nm, a, t)]) := by
  have hp := List.perm_cons_erase ht
  refine ⟨fun x hx => J.hm x (ha.mem_iff.mpr (List.mem_cons_of_mem _ hx)), fun x hx => J.tm x (List.mem_of_mem_erase hx), ?_, ?_, ?_, ?_, ?_, ?_, ?_, ?_⟩
  · have := J.hl; have := ha.length_eq; rw [List.length_cons] at this; omega
  · have := J.tl; have := hp.length_eq; rw [List.length_cons] at this; omega
  · rw [List.length_append, J.bl]; rfl
  · rw [List.map_append, J.bn, List.take_add_one, hn]; rfl
  · intro x hx
    rcases List.mem_append.mp hx with hx | hx
    · exact J.ba x hx
    · rw [List.mem_singleton.mp hx]; exact J.hm a (ha.mem_iff.mpr List.mem_cons_self)
  · intro x hx
    rcases List.mem_append.mp hx with hx | hx
    · exact J.bt x hx
    · rw [List.mem_singleton.mp hx]; exact J.tm t ht
  · intro b
    have h1 := J.ca b
    have h2 := ha.count_eq b
    rw [List.count_cons] at h2
    rw [List.countP_append, List.countP_singleton]
    by_cases e : a = b
    · subst e; simp at h2 ⊢; omega
    · simp [e] at h2 ⊢; omega
  · intro b
    have h1 := J.ct b
    have h2 := hp.count_eq b
    rw [List.count_cons] at h2
    rw [List.countP_append, List.countP_singleton]
    by_cases e : t = b
    · subst e; simp at h2 ⊢; omega
    · simp [e] at h2 ⊢; omega
theorem boxes_turn {n L : Nat} {full : List Int} {nms : List Str} {k : Nat} {here there : List Int} {bs : List Bx} (sc : List Int) (J : BJ n L full nms k here there bs) (hk : k < L) (hkn : k < nms.length) (hL : L ≤ 1000) :
    ∃ h' t' b', f_boxes_b112 sc nms (here, there, bs) (k : Int) = some (h', t', b') ∧ BJ n L full nms (k + 1) h' t' b' := by
  obtain ⟨c, hc⟩ := cell_ok sc (4 + (k : Int)) (by omega)
  have l1 := J.hl
  have l2 := J.tl
  obtain ⟨row, hr, hB⟩ := draws_ok c (4 + (k : Int)) [(here.length : Int), (there.length : Int), 5] (by intro s hs; simp at hs; omega) (by simp)
  obtain ⟨r0, h0, p0, q0⟩ := hB.at (k := 0) (s := here.length) rfl
  obtain ⟨r1, h1, p1, q1⟩ := hB.at (k := 1) (s := there.length) rfl
  obtain ⟨r2, h2, p2, q2⟩ := hB.at (k := 2) (s := 5) rfl
  have h0 : atI row 0 = some r0 := h0
  have h1 : atI row 1 = some r1 := h1
  have h2 : atI row 2 = some r2 := h2
  obtain ⟨i, rfl⟩ : ∃ i : Nat, r0 = i := ⟨r0.toNat, by omega⟩
  obtain ⟨j, rfl⟩ : ∃ j : Nat, r1 = j := ⟨r1.toNat, by omega⟩
  have hi : i < here.length := by omega
  have hj : j < there.length := by omega
  unfold f_boxes_b112
  dsimp only
  rw [bo hc, bo hr, bo h0, bo (popM_ok i hi (by omega))]
  dsimp only
  rw [bo h1, bo (atI_nn there j hj), bo h2]
  have hperm : here.Perm (here[i] :: here.eraseIdx i) := erase_perm here i hi
  have fin : ∀ t ∈ there, ∃ h' t' b', ((remM there t).bind fun there_196 => (atI nms (k : Int)).bind fun x202 => (appM bs (x202, here[i], t)).bind fun b => some (here.eraseIdx i, there_196, b)) = some (h', t', b') ∧ BJ n L full nms (k + 1) h' t' b' := by
    intro t ht
    have hbl := J.bl
    rw [bo (remM_ok ht), bo (atI_nn nms k hkn), bo (appM_ok (by omega))]
    exact ⟨_, _, _, rfl, boxes_step J hperm ht (List.getElem?_eq_getElem hkn)⟩
  by_cases q : (decide (r2 = 0) && inL here[i] there) = true
  · rw [if_pos q, bo rfl]
    have hin : here[i] ∈ there := by
      have := (Bool.and_eq_true_iff.mp q).2
      obtain ⟨y, hy, e⟩ := List.any_eq_true.mp this
      have : y = here[i] := by simpa using e
      rw [← this]; exact hy
    exact fin _ hin
  · rw [if_neg q, bo rfl]
    exact fin _ (List.getElem_mem hj)
theorem boxes_ok (sc rooms : List Int) (m : Nat) (hm : m ≤ 60) (hr : ∀ r ∈ rooms, 1 ≤ r ∧ r ≤ 40) (hn : rooms.length ≤ 16) : ∃ bs, f_boxes (sc, rooms, (m : Int)) = some bs ∧ BxOk rooms bs := by
  obtain ⟨full, hf, hF⟩ := full_ok rooms hr hn
  obtain ⟨c, hc⟩ := cell_ok sc 3 (by omega)
  obtain ⟨nms, hnm, nl, nok, nnd⟩ := names_ok c m hm
  unfold f_boxes
  dsimp only
  rw [letM_eq, bo hf, bo hc, bo hnm, letM_eq]
  have hmin : minI (m : Int) (full.length : Int) = ((min m full.length : Nat) : Int) := by unfold minI; split <;> omega
  have hfl := hF.len
  rw [hmin, bo (rngM_ok (by omega) (by omega) (by omega) (by omega))]
  obtain ⟨⟨h', t', bs⟩, e1, e2⟩ := foldlM_inv (body := f_boxes_b112 sc nms) (fun i (s : List Int × List Int × List Bx) => BJ rooms.length full.length full nms i s.1 s.2.1 s.2.2) (rngL 0 ((min m full.length : Nat) : Int)) 0 (full, full, []) ⟨hF.mem, hF.mem, by simp, by simp, rfl, rfl, fun x hx => (by cases hx), fun x hx => (by cases hx), fun b => by simp, fun b => by simp⟩ (by
    rintro k x ⟨h, t, b⟩ hx hs
    obtain ⟨hx, hk⟩ := rngL_get hx
    have hx : x = (k : Int) := by omega
    subst hx
    rw [Nat.zero_add] at hs ⊢
    obtain ⟨h', t', b', e, J⟩ := boxes_turn sc hs (by omega) (by omega) (by omega)
    exact ⟨_, e, J⟩)
  rw [bo e1]
  rw [rngL_len, Nat.zero_add] at e2
  have em : (((min m full.length : Nat) : Int) - 0).toNat = min m full.length := by omega
  rw [em] at e2
  dsimp only at e2 ⊢
  refine ⟨bs, rfl, by have := e2.bl; omega, ?_, ?_, e2.ba, e2.bt, ?_, ?_⟩
  · intro x hx
    have : x.1 ∈ bs.map (·.1) := List.mem_map.mpr ⟨x, hx, rfl⟩
    rw [e2.bn] at this
    exact nok _ (List.mem_of_mem_take this)
  · rw [e2.bn]; exact nnd.sublist (List.take_sublist _ _)
  · intro b r hb
    have := e2.ca b; have := hF.cnt b r hb; omega
  · intro b r hb
    have := e2.ct b; have := hF.cnt b r hb; omega
theorem one_plus {xs : List Int} {n : Nat} {s : Int} (h : Bel xs (List.replicate n s)) : (xs.map fun x => 1 + x).length = n ∧ ∀ x ∈ (xs.map fun x => 1 + x), 1 ≤ x ∧ x ≤ s := by
  obtain ⟨h1, h2⟩ := h.rep
  refine ⟨by rw [List.length_map, h1], fun x hx => ?_⟩
  obtain ⟨y, hy, rfl⟩ := List.mem_map.mp hx
  have := h2 y hy
  omega
theorem store_ok (sc : List Int) : ∃ s, f_store sc = some s ∧ SOk s := by
  obtain ⟨c0, hc0⟩ := cell_ok sc 0 (by omega)
  obtain ⟨c1, hc1⟩ := cell_ok sc 1 (by omega)
  obtain ⟨c2, hc2⟩ := cell_ok sc 2 (by omega)
  obtain ⟨row, hr, hB⟩ := draws_ok c0 0 [15, 6, 4, 20, 4, 61, 12] (by intro s hs; simp at hs; omega) (by simp)
  obtain ⟨r0, h0, p0, q0⟩ := hB.at (k := 0) (s := 15) rfl
  obtain ⟨r1, h1, p1, q1⟩ := hB.at (k := 1) (s := 6) rfl
  obtain ⟨r2, h2, p2, q2⟩ := hB.at (k := 2) (s := 4) rfl
  obtain ⟨r3, h3, p3, q3⟩ := hB.at (k := 3) (s := 20) rfl
  obtain ⟨r4, h4, p4, q4⟩ := hB.at (k := 4) (s := 4) rfl
  obtain ⟨r5, h5, p5, q5⟩ := hB.at (k := 5) (s := 61) rfl
  obtain ⟨r6, h6, p6, q6⟩ := hB.at (k := 6) (s := 12) rfl
  have h0 : atI row 0 = some r0 := h0
  have h1 : atI row 1 = some r1 := h1
  have h2 : atI row 2 = some r2 := h2
  have h3 : atI row 3 = some r3 := h3
  have h4 : atI row 4 = some r4 := h4
  have h5 : atI row 5 = some r5 := h5
  have h6 : atI row 6 = some r6 := h6
  have hwide : ∃ w, atI [(1 : Int), 3, 40, 6] r2 = some w ∧ 1 ≤ w ∧ w ≤ 40 := by
    obtain ⟨w, e, _⟩ := atI_int [(1 : Int), 3, 40, 6] r2 p2 q2
    refine ⟨w, e, ?_⟩
    have := atI_mem e
    simp at this
    omega
  have hfar : ∃ w, atI [(5 : Int), 1000000000] (b2I (decide (r4 = 1))) = some w ∧ 1 ≤ w ∧ w ≤ 1000000000 := by
    obtain ⟨w, e, _⟩ := atI_int [(5 : Int), 1000000000] (b2I (decide (r4 = 1))) (by unfold b2I; split <;> omega) (by unfold b2I; simp; split <;> omega)
    refine ⟨w, e, ?_⟩
    have := atI_mem e
    simp at this
    omega
  have hmost : ∃ w, atI [(1 : Int), 2, 3, 1 + r3] r4 = some w ∧ 1 ≤ w ∧ w ≤ 20 := by
    obtain ⟨w, e, _⟩ := atI_int [(1 : Int), 2, 3, 1 + r3] r4 p4 q4
    refine ⟨w, e, ?_⟩
    have := atI_mem e
    simp at this
    omega
  have hbm : ∃ w, atI [r5, r6] (b2I (decide ((1 : Int) < r1))) = some w ∧ 0 ≤ w ∧ w ≤ 60 := by
    obtain ⟨w, e, _⟩ := atI_int [r5, r6] (b2I (decide ((1 : Int) < r1))) (by unfold b2I; split <;> omega) (by unfold b2I; simp; split <;> omega)
    refine ⟨w, e, ?_⟩
    have := atI_mem e
    simp at this
    omega
  obtain ⟨wide, ew, w1, w2⟩ := hwide
  obtain ⟨far, ef, f1, f2⟩ := hfar
  obtain ⟨most, em, m1, m2⟩ := hmost
  obtain ⟨bm, eb, b1, b2⟩ := hbm
  have hmany : ∃ many : Nat, (if decide ((0 : Int) < r1) = true then (atI row 0).bind fun x140 => letM (2 + x140 % 4) fun m => some m else some (2 + r0)) = some (many : Int) ∧ 2 ≤ many ∧ many ≤ 16 := by
    by_cases q : (0 : Int) < r1
    · rw [if_pos (decide_eq_true q), bo h0, letM_eq]
      exact ⟨(2 + r0 % 4).toNat, congrArg some (by omega), by omega, by omega⟩
    · rw [if_neg (by simpa using q)]
      exact ⟨(2 + r0).toNat, congrArg some (by omega), by omega, by omega⟩
  obtain ⟨many, eM, M1, M2⟩ := hmany
  obtain ⟨ra, era, Bra⟩ := draws_ok c1 1 (List.replicate many wide) (by intro s hs; have := (List.mem_replicate.mp hs).2; omega) (by rw [List.length_replicate]; omega)
  obtain ⟨ga, ega, Bga⟩ := draws_ok c2 2 (List.replicate (many - 1) far) (by intro s hs; have := (List.mem_replicate.mp hs).2; omega) (by rw [List.length_replicate]; omega)
  have R := one_plus Bra
  have G := one_plus Bga
  obtain ⟨rl, _⟩ := Bra.rep
  obtain ⟨gl, _⟩ := Bga.rep
  obtain ⟨m, rfl⟩ : ∃ m : Nat, bm = m := ⟨bm.toNat, by omega⟩
  obtain ⟨bs, ebs, B⟩ := boxes_ok sc (ra.map fun x => 1 + x) m (by omega) (fun r hr => by have := R.2 r hr; omega) (by rw [R.1]; omega)
  have e1 : ((many : Int) - 1).toNat = many - 1 := by omega
  unfold f_store
  rw [bo hc0, bo hr, bo h0, letM_eq, bo h1, bo eM, bo h2, bo ew, bo hc1, bo (repM_one (by omega) (by omega)), Int.toNat_natCast, bo era, bo (mapC_ok (by rw [rl]; omega)), bo h4, bo ef, bo hc2, bo (repM_one (by omega) (by omega)), e1, bo ega, bo (mapC_ok (by rw [gl]; omega)), bo h3, bo h4, bo em, bo h5, bo h6, bo h1, bo eb, bo ebs]
  refine ⟨_, rfl, ?_, ?_, ?_, ?_, ?_, ⟨m1, m2⟩, B⟩
  · show 2 ≤ (ra.map fun x => 1 + x).length; rw [R.1]; exact M1
  · show (ra.map fun x => 1 + x).length ≤ 16; rw [R.1]; exact M2
  · intro r hr; have := R.2 r hr; omega
  · show (ga.map fun x => 1 + x).length + 1 = (ra.map fun x => 1 + x).length; rw [R.1, G.1]; omega
  · intro g hg; have := G.2 g hg; omega
end Bw

namespace Bw
open PySem L2 TL
/-! texts: lengths, joins -/
theorem log2_small {n : Nat} (h : n < 2 ^ 64) : n.log2 < 1920 := by
  by_cases h0 : n = 0
  · subst h0; decide
  · exact (Nat.log2_lt h0).mpr (Nat.lt_of_lt_of_le h (Nat.pow_le_pow_right (by decide) (by decide)))
theorem joinL_len (S : List Nat) : ∀ ps : List (List Nat), (joinL S ps).length ≤ (ps.map List.length).sum + S.length * ps.length
  | [] => by simp [joinL]
  | [p] => by simp [joinL]
  | p :: q :: ps => by
    have h := joinL_len S (q :: ps)
    simp only [joinL, List.length_append, List.map_cons, List.sum_cons, List.length_cons, Nat.mul_add, Nat.mul_one] at h ⊢
    omega
theorem join_len (x : Str) (xs : List Str) : (Txt.join x xs).length ≤ (xs.map (·.length)).sum + x.length * xs.length := by
  rw [join_eq, len_tl, tl_join]
  have h := joinL_len (tl x) (xs.map tl)
  rw [List.map_map, List.length_map] at h
  have e : xs.map (·.length) = xs.map (List.length ∘ tl) := List.map_congr_left fun s _ => by rw [len_tl]; rfl
  rw [e, len_tl]
  exact h
theorem sum_le (n : Nat) : ∀ {xs : List Str}, (∀ x ∈ xs, x.length ≤ n) → (xs.map (·.length)).sum ≤ n * xs.length
  | [], _ => by simp
  | x :: xs, h => by
    have h1 := sum_le n fun y hy => h y (List.mem_cons_of_mem _ hy)
    have h2 := h x List.mem_cons_self
    simp only [List.map_cons, List.sum_cons, List.length_cons, Nat.mul_add, Nat.mul_one]
    omega
/-- the text of a number -/
def nt (n : Int) : Str := Str.ofString (toString n)
theorem nt_len {n : Int} (h0 : 0 ≤ n) (h : n ≤ 1000000000) : (nt n).length ≤ 10 := PyProof.Rows.toString_length_le h0 (by decide) (by omega)
theorem strM_ok {n : Int} (h0 : 0 ≤ n) (h : n ≤ 1000000000) : strM n = some (nt n) := by unfold strM; rw [if_pos (log2_small (by omega))]; rfl
theorem scat_ok {x y : Str} (h : x.length + y.length ≤ 100000) : scatM x y = some (x ++ y) := by unfold scatM; rw [if_pos h]
theorem app_len (x y : Str) : (x ++ y).length = x.length + y.length := by rw [len_tl, tl_append, List.length_append, ← len_tl, ← len_tl]
theorem join_ok {x : Str} {xs : List Str} (h : (xs.map (·.length)).sum + x.length * xs.length ≤ 100000) : joinM x xs = some (Txt.join x xs) := by unfold joinM; rw [if_pos h]
theorem join_few {x : Str} {xs : List Str} {n : Nat} (h : ∀ y ∈ xs, y.length ≤ n) (hn : (n + x.length) * xs.length ≤ 100000) : joinM x xs = some (Txt.join x xs) ∧ (Txt.join x xs).length ≤ (n + x.length) * xs.length := by
  have := sum_le n h
  have e : (n + x.length) * xs.length = n * xs.length + x.length * xs.length := Nat.add_mul _ _ _
  exact ⟨join_ok (by omega), Nat.le_trans (join_len x xs) (by omega)⟩
theorem joinL_cons (S p : List Nat) : ∀ ps : List (List Nat), joinL S (p :: ps) = p ++ (ps.map (S ++ ·)).flatten
  | [] => by simp [joinL]
  | q :: ps => by
    show p ++ (S ++ joinL S (q :: ps)) = _
    rw [joinL_cons S q ps]
    simp
theorem tl_join_cons (S x : Str) (xs : List Str) : tl (Txt.join S (x :: xs)) = tl x ++ (xs.map fun y => tl S ++ tl y).flatten := by
  rw [join_eq, tl_join, List.map_cons, joinL_cons, List.map_map]
  rfl
theorem empty_app (x : Str) : Str.empty ++ x = x := ext_tl (by rw [tl_append]; rfl)
/-- " ".join of a word and words is the word, a blank, and the words joined -/
theorem join_front (S x : Str) {xs : List Str} (h : xs ≠ []) : Txt.join S (x :: xs) = x ++ S ++ Txt.join S xs := by
  cases xs with
  | nil => exact absurd rfl h
  | cons y ys =>
    apply ext_tl
    rw [tl_append, tl_append, tl_join_cons, tl_join_cons]
    simp
end Bw

namespace Bw
open PySem L2 TL
/-! the text of a store -/
theorem lc_nums {ns : List Int} (h : ∀ n ∈ ns, 0 ≤ n ∧ n ≤ 1000000000) {f : Int → Option (Option Str)} (hf : ∀ n, f n = (strM n).bind fun t => some (some t)) (hl : ns.length ≤ 1000) : lcC f ns = some (ns.map nt) := by
  rw [lcC_ok (by omega)]
  exact lcM_all fun n hn => by rw [hf, bo (strM_ok (h n hn).1 (h n hn).2)]
def boxT (b : Bx) : Str := b.1 ++ (" " : Str) ++ nt b.2.1 ++ (" " : Str) ++ nt b.2.2
def storeT (s : Sto) : Str := Txt.join "; " [("rooms " : Str) ++ Txt.join " " (s.1.map nt), ("gaps " : Str) ++ Txt.join " " (s.2.1.map nt), ("most " : Str) ++ nt s.2.2.1, Txt.join " " ((["boxes"] : List Str) ++ s.2.2.2.map boxT)]
theorem l_blank : (" " : Str).length = 1 := by decide +kernel
theorem nums_joined {ns : List Int} (h : ∀ n ∈ ns, 0 ≤ n ∧ n ≤ 1000000000) (hl : ns.length ≤ 100) : joinM " " (ns.map nt) = some (Txt.join " " (ns.map nt)) ∧ (Txt.join " " (ns.map nt)).length ≤ 11 * ns.length := by
  obtain ⟨a, b⟩ := join_few (x := " ") (xs := ns.map nt) (n := 10) (fun y hy => by
    obtain ⟨n, hn, rfl⟩ := List.mem_map.mp hy
    exact nt_len (h n hn).1 (h n hn).2) (by rw [l_blank, List.length_map]; omega)
  rw [l_blank, List.length_map] at b
  exact ⟨a, b⟩
theorem boxT_len {rooms : List Int} {bs : List Bx} (h : BxOk rooms bs) (hr : rooms.length ≤ 16) : ∀ b ∈ bs, 0 ≤ b.2.1 ∧ b.2.1 ≤ 1000000000 ∧ 0 ≤ b.2.2 ∧ b.2.2 ≤ 1000000000 ∧ b.1.length ≤ 8 ∧ (boxT b).length ≤ 30 := by
  intro b hb
  have h1 := h.ba b hb
  have h2 := h.bt b hb
  have h3 := (h.nm b hb).2.1
  rw [← len_tl] at h3
  have h4 := nt_len h1.1 (show b.2.1 ≤ 1000000000 by omega)
  have h5 := nt_len h2.1 (show b.2.2 ≤ 1000000000 by omega)
  refine ⟨h1.1, by omega, h2.1, by omega, h3, ?_⟩
  unfold boxT
  rw [app_len, app_len, app_len, app_len, l_blank]
  omega
theorem numbers_text_ok {ns : List Int} (h : ∀ n ∈ ns, 0 ≤ n ∧ n ≤ 1000000000) (hl : ns.length ≤ 100) : f_numbers_text ns = some (Txt.join " " (ns.map nt)) := by
  unfold f_numbers_text
  rw [bo (lc_nums h (fun n => rfl) (by omega)), bo (nums_joined h hl).1]
theorem l_rooms : ("rooms " : Str).length = 6 := by decide +kernel
theorem l_gaps : ("gaps " : Str).length = 5 := by decide +kernel
theorem l_most : ("most " : Str).length = 5 := by decide +kernel
theorem l_boxes : ("boxes" : Str).length = 5 := by decide +kernel
theorem l_semi : ("; " : Str).length = 2 := by decide +kernel
theorem boxes_joined {s : Sto} (h : SOk s) : joinM " " ((["boxes"] : List Str) ++ s.2.2.2.map boxT) = some (Txt.join " " ((["boxes"] : List Str) ++ s.2.2.2.map boxT)) ∧ (Txt.join " " ((["boxes"] : List Str) ++ s.2.2.2.map boxT)).length ≤ 31 * 61 := by
  have hb := boxT_len h.bx h.n16
  have hl := h.bx.len
  obtain ⟨a, b⟩ := join_few (x := " ") (xs := (["boxes"] : List Str) ++ s.2.2.2.map boxT) (n := 30) (fun y hy => by
    rcases List.mem_append.mp hy with hy | hy
    · rw [List.mem_singleton.mp hy, l_boxes]; omega
    · obtain ⟨x, hx, rfl⟩ := List.mem_map.mp hy
      exact (hb x hx).2.2.2.2.2) (by rw [l_blank, List.length_append, List.length_map, List.length_singleton]; omega)
  rw [l_blank, List.length_append, List.length_map, List.length_singleton] at b
  exact ⟨a, by omega⟩
theorem rm_big {s : Sto} (h : SOk s) : ∀ n ∈ s.1, 0 ≤ n ∧ n ≤ 1000000000 := fun n hn => by have := h.rm n hn; omega
theorem gp_big {s : Sto} (h : SOk s) : ∀ n ∈ s.2.1, 0 ≤ n ∧ n ≤ 1000000000 := fun n hn => by have := h.gm n hn; omega
end Bw

namespace Bw
open PySem L2 TL
theorem show_ok {s : Sto} (h : SOk s) : f_show_store s = some (.ok (storeT s)) := by
  have hb := boxT_len h.bx h.n16
  have hl := h.bx.len
  obtain ⟨n1, n2⟩ := nums_joined (rm_big h) (by have := h.n16; omega)
  obtain ⟨g1, g2⟩ := nums_joined (gp_big h) (by have := h.n16; have := h.gl; omega)
  obtain ⟨b1, b2⟩ := boxes_joined h
  have m1 := h.mo
  have m2 := nt_len (n := s.2.2.1) (by omega) (by omega)
  have hn16 := h.n16
  have hgl := h.gl
  unfold f_show_store
  dsimp only
  rw [bo (look_ok h)]
  dsimp only
  rw [bo (show lcC _ s.2.2.2 = some (s.2.2.2.map boxT) from by
    rw [lcC_ok (by omega)]
    exact lcM_all fun b hb' => by
      obtain ⟨x1, x2, x3, x4, x5, x6⟩ := hb b hb'
      obtain ⟨nm, a, t⟩ := b
      dsimp only at x1 x2 x3 x4 x5
      have y1 := nt_len x1 x2
      have y2 := nt_len x3 x4
      dsimp only
      rw [bo (show lenS nm = some _ from by unfold lenS; rw [if_pos (by omega)]), bo (strM_ok x1 x2), bo (strM_ok x3 x4), bo (scat_ok (x := Str.empty) (y := nm) (by rw [show Str.empty.length = 0 from rfl]; omega)), empty_app, bo (scat_ok (by rw [l_blank]; omega)),
        bo (scat_ok (by rw [app_len, l_blank]; omega)), bo (scat_ok (by rw [app_len, app_len, l_blank]; omega)), bo (scat_ok (by rw [app_len, app_len, app_len, l_blank]; omega))]
      rfl), bo (catM_ok (by rw [List.length_map, List.length_singleton]; omega)), bo (numbers_text_ok (rm_big h) (by omega)), bo (scat_ok (by rw [l_rooms]; omega)), bo (numbers_text_ok (gp_big h) (by omega)), bo (scat_ok (by rw [l_gaps]; omega)),
    bo (strM_ok (by omega) (by omega)), bo (scat_ok (x := Str.empty) (y := "most ") (by rw [l_most]; show 0 + 5 ≤ 100000; omega)), empty_app, bo (scat_ok (by rw [l_most]; omega)), bo b1, letM_eq,
    bo (join_ok (x := "; ") (by simp only [List.map_cons, List.map_nil, List.sum_cons, List.sum_nil, List.length_cons, List.length_nil, app_len, l_rooms, l_gaps, l_most, l_semi]; omega))]
  rfl
end Bw

namespace Bw
open PySem L2 TL
/-! what is wrong with a store, told plainly -/
theorem forF_any4 {α R : Type} {body : Unit → α → Option (Fl Unit R)} {p : α → Bool} {z : R} : ∀ {xs : List α}, (∀ x ∈ xs, body () x = some (if p x = true then .rt z else .nx ())) → forF body xs () = some (if xs.any p = true then .rt z else .nx ())
  | [], _ => rfl
  | x :: xs, h => by
    show (body () x).bind _ = _
    rw [h x List.mem_cons_self, List.any_cons]
    cases p x with
    | true => rfl
    | false =>
      show forF body xs () = _
      rw [forF_any4 fun y hy => h y (List.mem_cons_of_mem _ hy)]
      rfl
theorem dups_le4 : ∀ (xs acc : List Str), (dups acc xs).length ≤ acc.length + xs.length
  | [], acc => Nat.le_refl _
  | x :: xs, acc => by
    unfold dups
    split
    · have := dups_le4 xs acc; rw [List.length_cons]; omega
    · have := dups_le4 xs (acc ++ [x]); rw [List.length_cons]; rw [List.length_append, List.length_singleton] at this; omega
theorem dups_eq4 : ∀ (xs acc : List Str), (dups acc xs).length = acc.length + xs.length → xs.Nodup ∧ ∀ x ∈ xs, x ∉ acc
  | [], acc, _ => ⟨List.nodup_nil, fun x hx => by cases hx⟩
  | x :: xs, acc, h => by
    unfold dups at h
    split at h
    · have := dups_le4 xs acc; rw [List.length_cons] at h; omega
    · rename_i hc
      rw [List.length_cons] at h
      obtain ⟨h1, h2⟩ := dups_eq4 xs (acc ++ [x]) (by rw [List.length_append, List.length_singleton]; omega)
      have hx : x ∉ acc := fun z => hc (List.any_eq_true.mpr ⟨x, z, by simp⟩)
      refine ⟨List.nodup_cons.mpr ⟨fun z => h2 x z (List.mem_append_right _ (List.mem_singleton.mpr rfl)), h1⟩, fun y hy => ?_⟩
      rcases List.mem_cons.mp hy with rfl | hy
      · exact hx
      · exact fun z => h2 y hy (List.mem_append_left _ z)
def inB (a b x : Int) : Bool := decide (a ≤ x) && decide (x ≤ b)
def rO (s : Sto) : Bool := s.1.all (inB 1 40) && (decide ((2 : Int) ≤ (s.1.length : Int)) && decide ((s.1.length : Int) ≤ 16))
def gO (s : Sto) : Bool := s.2.1.all (inB 1 1000000000) && decide ((s.2.1.length : Int) = (s.1.length : Int) - 1)
def mO (s : Sto) : Bool := inB 1 20 s.2.2.1
def bayO (n : Int) (x : Bx) : Bool := inB 0 (n - 1) x.2.1 && inB 0 (n - 1) x.2.2
def ndO (bs : List Bx) : Bool := decide (((dups [] (bs.map fun x => x.1)).length : Int) = (bs.length : Int))
def ov (bs : List Bx) (g : Bx → Int) (p : Int × Int) : Bool := decide (p.2 < ((bs.countP fun x => decide (g x = p.1) : Nat) : Int))
def rmO (rooms : List Int) (bs : List Bx) (g : Bx → Int) : Bool := !((enumM rooms).any (ov bs g))
def bO (s : Sto) : Bool := !decide ((60 : Int) < (s.2.2.2.length : Int)) && (s.2.2.2.all (bayO (s.1.length : Int)) && ndO s.2.2.2) && (rmO s.1 s.2.2.2 (fun x => x.2.1) && rmO s.1 s.2.2.2 (fun x => x.2.2))
def wr (s : Sto) : Option Str := if rO s = false then some "rooms" else if gO s = false then some "gaps" else if mO s = false then some "most" else if bO s = false then some "boxes" else none
structure Ml (s : Sto) : Prop where
  rl : s.1.length ≤ 100
  gl : s.2.1.length ≤ 100
  bl : s.2.2.2.length ≤ 100
  nm : ∀ x ∈ s.2.2.2, NmOk x.1
theorem all_mp {α : Type} (p : α → Bool) (xs : List α) : (xs.map p).all id = xs.all p := by rw [List.all_map]; rfl
theorem aw_eq {xs : List Int} (a b : Int) (hl : xs.length ≤ 1000) : f_are_within (xs, a, b) = some (xs.all (inB a b)) := by
  unfold f_are_within
  dsimp only
  have e : lcC (fun one_4 => (f_is_within (one_4, a, b)).bind fun x15 => some (some x15)) xs = some (xs.map (inB a b)) := by
    rw [lcC_ok (by omega)]
    exact lcM_all fun x hx => by rw [bo (within_eq x a b)]; rfl
  rw [if_pos rfl, bo e, all_mp, bo rfl]
theorem box_eq {x : Bx} {n : Int} (h : NmOk x.1) : f_is_box (x, n) = some (bayO n x) := by
  unfold f_is_box bayO
  dsimp only
  rw [if_neg (by decide), if_neg (by decide), bo (is_name_ok h)]
  rw [show ((some (!true)).bind fun x5 => some x5) = some false from rfl, bo rfl, if_neg (by decide), bo (within_eq _ _ _)]
  show ((if inB 0 (n - 1) x.2.1 = true then _ else _) : Option Bool).bind _ = _
  cases inB 0 (n - 1) x.2.1 with
  | true => rw [if_pos rfl, bo (within_eq _ _ _), bo rfl]; rfl
  | false => rw [if_neg (by decide), bo rfl]; rfl
theorem nt_eq {bs : List Bx} (hl : bs.length ≤ 100) : f_has_names_twice bs = some (!ndO bs) := by
  unfold f_has_names_twice ndO
  have e : setLenM (bs.map fun b => b.1) = some ((dups [] (bs.map fun x => x.1)).length : Int) := by
    unfold setLenM
    rw [if_pos (by rw [List.length_map]; omega)]
  rw [bo (mapC_ok (by omega)), bo e]
theorem room_eq {rooms : List Int} {bs : List Bx} {place : Int} {g : Bx → Int} (hl : bs.length ≤ 100) (hg : ∀ x : Bx, atI [eS x.1, eI x.2.1, eI x.2.2] place = some (eI (g x))) : f_has_room (rooms, bs, place) = some (rmO rooms bs g) := by
  unfold f_has_room
  dsimp only
  have e : forF (f_has_room_b4 bs place) (enumM rooms) () = some (if (enumM rooms).any (ov bs g) = true then .rt false else .nx ()) := by
    refine forF_any4 fun p hp => ?_
    obtain ⟨i, r⟩ := p
    unfold f_has_room_b4 ov
    dsimp only
    have e : lcC (fun (box_35 : Bx) => (((atI [eS box_35.1, eI box_35.2.1, eI box_35.2.2] place)).bind fun x46 => ((eqDM x46 (eI i))).bind fun x48 => if (x48) = true then (some (some box_35)) else some none)) bs = some ((bs.filter fun x => decide (g x = i)).map fun x => x) := by
      rw [lcC_ok (by omega)]
      refine lcM_fil fun x hx => ?_
      rw [bo (hg x), bo (eqD_int _ _)]
      split <;> rfl
    rw [bo e, List.map_id', ← List.countP_eq_length_filter]
    split <;> rfl
  rw [bo e]
  unfold rmO
  cases (enumM rooms).any (ov bs g) <;> rfl
theorem boxes_eq {rooms : List Int} {bs : List Bx} (hl : bs.length ≤ 100) (hn : ∀ x ∈ bs, NmOk x.1) {gaps : List Int} {most : Int} : f_are_boxes (rooms, bs) = some (bO (rooms, gaps, most, bs)) := by
  unfold f_are_boxes bO
  dsimp only
  have e : lcC (fun (one_17 : Bx) => (((f_is_box (one_17, (rooms.length : Int)))).bind fun x28 => some (some x28))) bs = some (bs.map (bayO (rooms.length : Int))) := by
    rw [lcC_ok (by omega)]
    exact lcM_all fun x hx => by rw [bo (box_eq (hn x hx))]
  by_cases q : (60 : Int) < (bs.length : Int)
  · rw [decide_eq_true q, if_pos (by decide)]; rfl
  · rw [decide_eq_false q, if_neg (by decide), bo e, all_mp]
    cases bs.all (bayO (rooms.length : Int)) with
    | false => rw [if_pos (by decide), bo rfl, if_pos rfl]; rfl
    | true =>
      rw [if_neg (by decide), bo (nt_eq hl), bo rfl]
      cases ndO bs with
      | false => rw [if_pos (by decide)]; rfl
      | true =>
        rw [if_neg (by decide), bo (room_eq (g := fun x => x.2.1) hl (fun _ => rfl))]
        cases rmO rooms bs fun x => x.2.1 with
        | false => rw [if_neg (by decide), bo rfl]; rfl
        | true => rw [if_pos rfl, bo (room_eq (g := fun x => x.2.2) hl (fun _ => rfl)), bo rfl]; rfl
def toR : Option Str → Rs Unit
  | none => .ok ()
  | some p => .ex ("NoStore", eS p)
theorem look_eq {s : Sto} (h : Ml s) : f_look_at_store s = some (toR (wr s)) := by
  obtain ⟨rooms, gaps, most, bs⟩ := s
  obtain ⟨h1, h2, h3, h4⟩ := h
  dsimp only at h1 h2 h3 h4
  unfold f_look_at_store wr
  dsimp only
  rw [if_neg (by decide)]
  simp only [letM_eq]
  rw [bo (aw_eq 1 40 (by omega))]
  have er : ((!(rooms.all (inB 1 40))) || (!(decide ((2 : Int) ≤ (rooms.length : Int)) && decide ((rooms.length : Int) ≤ (16 : Int))))) = !rO (rooms, gaps, most, bs) := by unfold rO; simp only [Bool.not_and]
  have eg : ((!(gaps.all (inB 1 1000000000))) || (!decide ((gaps.length : Int) = ((rooms.length : Int) - (1 : Int))))) = !gO (rooms, gaps, most, bs) := by unfold gO; dsimp only; rw [Bool.not_and]
  rw [er]
  cases rO (rooms, gaps, most, bs) with
  | false => rw [if_pos (by decide), if_pos rfl]; rfl
  | true =>
    rw [if_neg (show ¬ ((!true) = true) by decide), if_neg (show ¬ (true = false) by decide), bo (aw_eq 1 1000000000 (by omega)), eg]
    cases gO (rooms, gaps, most, bs) with
    | false => rw [if_pos (by decide), if_pos rfl]; rfl
    | true =>
      rw [if_neg (show ¬ ((!true) = true) by decide), if_neg (show ¬ (true = false) by decide), bo (within_eq _ _ _)]
      show (if (!mO (rooms, gaps, most, bs)) = true then _ else _) = _
      cases mO (rooms, gaps, most, bs) with
      | false => rw [if_pos (by decide), if_pos rfl]; rfl
      | true =>
        rw [if_neg (show ¬ ((!true) = true) by decide), if_neg (show ¬ (true = false) by decide), bo (boxes_eq h3 h4 (gaps := gaps) (most := most))]
        cases bO (rooms, gaps, most, bs) with
        | false => rw [if_pos (by decide), if_pos rfl]; rfl
        | true => rw [if_neg (show ¬ ((!true) = true) by decide), if_neg (show ¬ (true = false) by decide)]; rfl
/-! .. and as the law reads it -/
theorem mm {xs : List Int} (a b : Int) (hn : xs ≠ []) : ((minL xs).bind fun x26 => ((if (decide (x26 < a)) = true then some true else ((maxL xs).bind fun x28 => some (decide (b < x28))))).bind fun x30 => some x30) = some (!(xs.all (inB a b))) := by
  cases xs with
  | nil => exact absurd rfl hn
  | cons x xs =>
    obtain ⟨m1, m2, m3⟩ := foldl_min xs x
    obtain ⟨n1, n2, n3⟩ := foldl_max xs x
    rw [bo (show minL (x :: xs) = some (xs.foldl min x) from rfl)]
    by_cases q : xs.foldl min x < a
    · rw [if_pos (decide_eq_true q), bo rfl]
      have : (x :: xs).all (inB a b) = false := by
        rw [List.all_eq_false]
        refine ⟨xs.foldl min x, m1.elim (fun z => by rw [z]; exact List.mem_cons_self) fun z => List.mem_cons_of_mem _ z, ?_⟩
        unfold inB
        rw [decide_eq_false (by omega), Bool.false_and]; decide
      rw [this]; rfl
    · rw [if_neg (by simpa using q), bo (show maxL (x :: xs) = some (xs.foldl max x) from rfl), bo rfl]
      refine congrArg some ?_
      by_cases q2 : b < xs.foldl max x
      · rw [decide_eq_true q2]
        have : (x :: xs).all (inB a b) = false := by
          rw [List.all_eq_false]
          refine ⟨xs.foldl max x, n1.elim (fun z => by rw [z]; exact List.mem_cons_self) fun z => List.mem_cons_of_mem _ z, ?_⟩
          unfold inB
          rw [decide_eq_false (show ¬ xs.foldl max x ≤ b by omega), Bool.and_false]; decide
        rw [this]; rfl
      · rw [decide_eq_false q2]
        have : (x :: xs).all (inB a b) = true := by
          rw [List.all_eq_true]
          intro y hy
          unfold inB
          have : xs.foldl min x ≤ y ∧ y ≤ xs.foldl max x := by
            rcases List.mem_cons.mp hy with rfl | hy
            · exact ⟨m2, n2⟩
            · exact ⟨m3 y hy, n3 y hy⟩
          rw [decide_eq_true (by omega), decide_eq_true (by omega)]; rfl
        rw [this]; rfl
theorem fil_bay (n : Int) (bs : List Bx) : decide ((((bs.map fun x => x.2.1) ++ (bs.map fun x => x.2.2)).filter fun b => !decide ((0 : Int) ≤ b ∧ b < n)).map (fun b => b) = []) = bs.all (bayO n) := by
  rw [Bool.eq_iff_iff, decide_eq_true_eq, List.map_id', List.filter_eq_nil_iff, List.all_eq_true]
  unfold bayO inB
  constructor
  · intro h x hx
    have h1 := h x.2.1 (List.mem_append_left _ (List.mem_map.mpr ⟨x, hx, rfl⟩))
    have h2 := h x.2.2 (List.mem_append_right _ (List.mem_map.mpr ⟨x, hx, rfl⟩))
    simp at h1 h2 ⊢
    omega
  · intro h b hb
    rcases List.mem_append.mp hb with hb | hb
    · obtain ⟨x, hx, rfl⟩ := List.mem_map.mp hb
      have := h x hx
      simp at this ⊢; omega
    · obtain ⟨x, hx, rfl⟩ := List.mem_map.mp hb
      have := h x hx
      simp at this ⊢; omega
theorem wrong_eq {s : Sto} (h : Ml s) : f_wrong s = some (wr s) := by
  obtain ⟨rooms, gaps, most, bs⟩ := s
  obtain ⟨h1, h2, h3, h4⟩ := h
  dsimp only at h1 h2 h3 h4
  unfold f_wrong wr
  dsimp only
  simp only [letM_eq]
  have er : (if (!decide ((2 : Int) ≤ (rooms.length : Int) ∧ (rooms.length : Int) < (17 : Int))) = true then some true else (((minL rooms)).bind fun x26 => ((if (decide (x26 < (1 : Int))) = true then some true else (((maxL rooms)).bind fun x28 => some (decide ((40 : Int) < x28))))).bind fun x30 => some x30)) = some (!rO (rooms, gaps, most, bs)) := by
    by_cases q : (2 : Int) ≤ (rooms.length : Int) ∧ (rooms.length : Int) < 17
    · rw [decide_eq_true q, if_neg (by decide), mm 1 40 (by intro z; rw [z] at q; simp at q)]
      unfold rO
      dsimp only
      rw [decide_eq_true q.1, decide_eq_true (show (rooms.length : Int) ≤ 16 by omega), Bool.and_self, Bool.and_true]
    · rw [decide_eq_false q, if_pos (by decide)]
      unfold rO
      dsimp only
      have : (decide ((2 : Int) ≤ (rooms.length : Int)) && decide ((rooms.length : Int) ≤ 16)) = false := by
        rw [Bool.and_eq_false_iff]
        by_cases q2 : (2 : Int) ≤ (rooms.length : Int)
        · exact .inr (decide_eq_false (by omega))
        · exact .inl (decide_eq_false q2)
      rw [this, Bool.and_false]; rfl
  rw [bo er]
  cases hr : rO (rooms, gaps, most, bs) with
  | false => rw [if_pos (by decide), if_pos rfl]
  | true =>
    have n2 : 2 ≤ rooms.length := by
      unfold rO at hr
      simp at hr
      omega
    rw [if_neg (show ¬ ((!true) = true) by decide), if_neg (show ¬ (true = false) by decide)]
    have eg : (if (!decide ((gaps.length : Int) = ((rooms.length : Int) - (1 : Int)))) = true then some true else (((minL gaps)).bind fun x48 => ((if (decide (x48 < (1 : Int))) = true then some true else (((maxL gaps)).bind fun x50 => some (decide ((1000000000 : Int) < x50))))).bind fun x52 => some x52)) = some (!gO (rooms, gaps, most, bs)) := by
      by_cases q : (gaps.length : Int) = (rooms.length : Int) - 1
      · rw [decide_eq_true q, if_neg (by decide), mm 1 1000000000 (by intro z; rw [z] at q; simp at q; omega)]
        unfold gO
        dsimp only
        rw [decide_eq_true q, Bool.and_true]
      · rw [decide_eq_false q, if_pos (by decide)]
        unfold gO
        dsimp only
        rw [decide_eq_false q, Bool.and_false]; rfl
    rw [bo eg]
    cases gO (rooms, gaps, most, bs) with
    | false => rw [if_pos (by decide), if_pos rfl]
    | true =>
      rw [if_neg (show ¬ ((!true) = true) by decide), if_neg (show ¬ (true = false) by decide)]
      have em : ((decide (most < (1 : Int))) || (decide ((20 : Int) < most))) = !mO (rooms, gaps, most, bs) := by
        unfold mO inB
        dsimp only
        rw [Bool.not_and]
        congr 1
        · by_cases q : most < 1
          · rw [decide_eq_true q, decide_eq_false (by omega)]; rfl
          · rw [decide_eq_false q, decide_eq_true (by omega)]; rfl
        · by_cases q : 20 < most
          · rw [decide_eq_true q, decide_eq_false (by omega)]; rfl
          · rw [decide_eq_false q, decide_eq_true (by omega)]; rfl
      rw [em]
      cases mO (rooms, gaps, most, bs) with
      | false => rw [if_pos (by decide), if_pos rfl]
      | true =>
        rw [if_neg (show ¬ ((!true) = true) by decide), if_neg (show ¬ (true = false) by decide), bo (mapC_ok (by omega)), bo (mapC_ok (by omega)), bo (mapC_ok (by omega)), bo (catM_ok (by rw [List.length_map, List.length_map]; omega))]
        have es : setLenM (bs.map fun box_84 => box_84.1) = some ((dups [] (bs.map fun x => x.1)).length : Int) := by
          unfold setLenM
          rw [if_pos (by rw [List.length_map]; omega)]
        have eb : (if (decide ((60 : Int) < (bs.length : Int))) = true then some true else (((setLenM (bs.map fun box_84 => box_84.1))).bind fun x137 => ((if (!decide (x137 = ((bs.map fun box_84 => box_84.1).length : Int))) = true then some true else (((filC (fun bay_139 => (!decide ((0 : Int) ≤ bay_139 ∧ bay_139 < (rooms.length : Int)))) (fun bay_139 => bay_139) ((bs.map fun box_103 => box_103.2.1) ++ (bs.map fun box_116 => box_116.2.2)))).bind fun x150 => some (!decide (x150 = ([] : (List Int))))))).bind fun x152 => some x152)) = some (!(!decide ((60 : Int) < (bs.length : Int)) && (bs.all (bayO (rooms.length : Int)) && ndO bs))) := by
          by_cases q : (60 : Int) < (bs.length : Int)
          · rw [decide_eq_true q, if_pos rfl]; rfl
          · rw [decide_eq_false q, if_neg (by decide), bo es, List.length_map]
            show ((if (!ndO bs) = true then _ else _) : Option Bool).bind _ = _
            cases ndO bs with
            | false => rw [if_pos (by decide), bo rfl, Bool.and_false]; rfl
            | true =>
              rw [if_neg (by decide), bo (filC_ok (by rw [List.length_append, List.length_map, List.length_map]; omega)), bo rfl, fil_bay]
              cases bs.all (bayO (rooms.length : Int)) <;> rfl
        rw [bo eb]
        unfold bO
        dsimp only
        cases (!decide ((60 : Int) < (bs.length : Int)) && (bs.all (bayO (rooms.length : Int)) && ndO bs)) with
        | false => rw [if_pos (by decide), if_pos (by rfl)]
        | true =>
          rw [if_neg (by decide), Bool.true_and]
          have e : forF (f_wrong_b170 bs) (enumM rooms) () = some (if ((enumM rooms).any fun p => ov bs (fun x => x.2.1) p || ov bs (fun x => x.2.2) p) = true then .rt (some "boxes") else .nx ()) := by
            refine forF_any4 fun p hp => ?_
            obtain ⟨i, r⟩ := p
            unfold f_wrong_b170 ov
            dsimp only
            rw [bo (filC_ok (by omega)), List.map_id', ← List.countP_eq_length_filter]
            by_cases q : r < ((bs.countP fun x => decide (x.2.1 = i) : Nat) : Int)
            · rw [if_pos (decide_eq_true q), bo rfl, if_pos rfl, decide_eq_true q, Bool.true_or, if_pos rfl]
            · rw [if_neg (by simpa using q), bo (filC_ok (by omega)), List.map_id', ← List.countP_eq_length_filter, bo rfl, decide_eq_false q, Bool.false_or]
              split <;> rfl
          rw [bo e]
          have ea : ((enumM rooms).any fun p => ov bs (fun x => x.2.1) p || ov bs (fun x => x.2.2) p) = !(rmO rooms bs (fun x => x.2.1) && rmO rooms bs (fun x => x.2.2)) := by
            unfold rmO
            rw [Bool.not_and, Bool.not_not, Bool.not_not, Bool.eq_iff_iff, Bool.or_eq_true, List.any_eq_true, List.any_eq_true, List.any_eq_true]
            constructor
            · rintro ⟨p, hp, h⟩
              rcases Bool.or_eq_true _ _ ▸ h with h | h
              · exact .inl ⟨p, hp, h⟩
              · exact .inr ⟨p, hp, h⟩
            · rintro (⟨p, hp, h⟩ | ⟨p, hp, h⟩)
              · exact ⟨p, hp, by rw [h]; rfl⟩
              · exact ⟨p, hp, by rw [h, Bool.or_true]⟩
          rw [ea]
          cases (rmO rooms bs (fun x => x.2.1) && rmO rooms bs (fun x => x.2.2)) with
          | false => rfl
          | true => rfl
theorem sok_of {s : Sto} (h : Ml s) (hw : wr s = none) : SOk s := by
  obtain ⟨rooms, gaps, most, bs⟩ := s
  unfold wr at hw
  cases hr : rO (rooms, gaps, most, bs) with
  | false => rw [hr, if_pos rfl] at hw; cases hw
  | true =>
    rw [hr, if_neg (by decide)] at hw
    cases hg : gO (rooms, gaps, most, bs) with
    | false => rw [hg, if_pos rfl] at hw; cases hw
    | true =>
      rw [hg, if_neg (by decide)] at hw
      cases hm : mO (rooms, gaps, most, bs) with
      | false => rw [hm, if_pos rfl] at hw; cases hw
      | true =>
        rw [hm, if_neg (by decide)] at hw
        cases hb : bO (rooms, gaps, most, bs) with
        | false => rw [hb, if_pos rfl] at hw; cases hw
        | true =>
          unfold rO at hr; unfold gO at hg; unfold mO inB at hm; unfold bO at hb
          simp only [Bool.and_eq_true, decide_eq_true_eq, List.all_eq_true, Bool.not_eq_true', decide_eq_false_iff_not] at hr hg hm hb
          obtain ⟨r1, r2, r3⟩ := hr
          obtain ⟨g1, g2⟩ := hg
          obtain ⟨⟨b1, b2, b3⟩, b4, b5⟩ := hb
          have room : ∀ (g : Bx → Int), rmO rooms bs g = true → ∀ (b : Nat) (r : Int), rooms[b]? = some r → (bs.countP fun x => decide (g x = (b : Int))) ≤ r.toNat := fun g hg b r e => by
            unfold rmO at hg
            rw [Bool.not_eq_true', List.any_eq_false] at hg
            have hm : ((b : Int), r) ∈ enumM rooms := by
              refine List.mem_iff_getElem?.mpr ⟨b, ?_⟩
              unfold enumM
              rw [List.getElem?_mapIdx, e]; rfl
            have := hg _ hm
            unfold ov at this
            simp only [decide_eq_true_eq] at this
            omega
          have ib : ∀ x ∈ bs, bayO (rooms.length : Int) x = true := b2
          refine ⟨by dsimp only; omega, by dsimp only; omega, fun r hr => ?_, by dsimp only; omega, fun g hg => ?_, hm, ⟨by dsimp only; omega, h.nm, ?_, fun x hx => ?_, fun x hx => ?_, room _ b4, room _ b5⟩⟩
          · have := r1 r hr; unfold inB at this; simpa using this
          · have := g1 g hg; unfold inB at this; simpa using this
          · unfold ndO at b3
            simp only [decide_eq_true_eq] at b3
            exact (dups_eq4 _ [] (by rw [List.length_map]; simp; omega)).1
          · have := ib x hx; unfold bayO inB at this; simp at this; dsimp only; omega
          · have := ib x hx; unfold bayO inB at this; simp at this; dsimp only; omega
/-! what is told of it -/
theorem class_ok (p : Str) : f_class (some ("NoStore", .str p)) = some true := by
  have h1 : isX (some ("NoStore", .str p)) "NoStore" = true := show subX "NoStore" "NoStore" = true by decide
  have h2 : anyX (some ("NoStore", .str p)) ["NoText", "NoBay", "NoBox", "NoRoom", "NoFork", "NoWants", "NoAisle"] = false := show (["NoText", "NoBay", "NoBox", "NoRoom", "NoFork", "NoWants", "NoAisle"] : List Str).any (fun d => subX "NoStore" d) = false by decide
  have h3 : anyX (some ("NoStore", .str p)) ["NoOrders", "NoRow", "NoPlan", "NoPaper", "TooMany", "Unknown"] = false := show (["NoOrders", "NoRow", "NoPlan", "NoPaper", "TooMany", "Unknown"] : List Str).any (fun d => subX "NoStore" d) = false by decide
  have h0 : (!true || !(some (("NoStore", .str p) : Xe)).isSome) = false := rfl
  unfold f_class
  rw [h1, h0, if_neg (by decide), letM_eq, h2, h3]; rfl
theorem k16_ok (p : Str) : f_part_k16 (some ("NoStore", .str p)) = some (.str p) := by
  have h4 : partM "part" (some ("NoStore", .str p)) = some (.str p) := show (if fld "NoStore" = some "part" then some (PyData.str p) else none) = _ from if_pos (by decide)
  unfold f_part_k16
  rw [bo (class_ok p), if_neg (by decide), bo h4]
theorem inx (p : Str) : (("NoStore", PyData.str p) : Xe).1 ∈ xcl := show ("NoStore" : Str) ∈ xcl by decide
theorem part_eq {s : Sto} (h : Ml s) (way : Int) (hw : way = 0 ∨ way = 1) : f_part (s, way) = some (eO eS (wr s)) := by
  unfold f_part
  dsimp only
  rcases hw with rfl | rfl
  · have e1 : andXM (Rs.ok (decide ((0 : Int) = 0))) (fun _ => (f_look_at_store s).bind fun x44 => some (Rs.map (fun _ => true) x44)) = some (Rs.map (fun _ => true) (toR (wr s))) := by
      show (f_look_at_store s).bind _ = _
      rw [bo (look_eq h)]
    rw [bo e1]
    cases hq : wr s with
    | none =>
      have e2 : ∀ g, orXM (Rs.map (fun _ => true) (toR none)) g = some (.ok true) := fun g => rfl
      rw [bo (e2 _), letM_eq]; rfl
    | some p =>
      have e2 : ∀ g, orXM (Rs.map (fun _ => true) (toR (some p))) g = some (.ex ("NoStore", eS p)) := fun g => rfl
      rw [bo (e2 _), letM_eq]
      dsimp only
      rw [if_pos (inx p), k16_ok]; rfl
  · have e1 : ∀ g, andXM (Rs.ok (decide ((1 : Int) = 0))) g = some (.ok false) := fun g => rfl
    rw [bo (e1 _)]
    cases hq : wr s with
    | none =>
      have e2 : orXM (.ok false) (fun _ => (((andXM (Rs.ok (decide ((1 : Int) = (1 : Int)))) (fun _ => (((f_show_store s)).bind fun x49 => some (Rs.map (fun y => isiD "str" (eS y)) x49))))).bind fun x52 => some x52)) = some (.ok true) := by
        show (Option.bind (Option.bind (f_show_store s) _) _) = _
        rw [bo (show_ok (sok_of h hq))]; rfl
      rw [bo e2, letM_eq]; rfl
    | some p =>
      have es : f_show_store s = some (.ex ("NoStore", eS p)) := by
        unfold f_show_store
        rw [bo (look_eq h), hq]; rfl
      have e2 : orXM (.ok false) (fun _ => (((andXM (Rs.ok (decide ((1 : Int) = (1 : Int)))) (fun _ => (((f_show_store s)).bind fun x49 => some (Rs.map (fun y => isiD "str" (eS y)) x49))))).bind fun x52 => some x52)) = some (.ex ("NoStore", eS p)) := by
        show (Option.bind (Option.bind (f_show_store s) _) _) = _
        rw [bo es]; rfl
      rw [bo e2, letM_eq]
      dsimp only
      rw [if_pos (inx p), k16_ok]; rfl
theorem eqW (s : Sto) : eqDM (eO eS (wr s)) (eO eS (wr s)) = some true := by
  unfold wr
  (repeat' split) <;> decide +kernel
/-! stores turned -/
theorem shp_ml {s : Sto} (h : Ml s) : Shp 3 (eT4 (eL eI) (eL eI) eI (eL (eT3 eS eI eI)) s) := shp_tup fun y hy => by
  simp only [List.mem_cons, List.not_mem_nil, or_false] at hy
  rcases hy with rfl | rfl | rfl | rfl
  · exact (shp_ints _).mono (by decide)
  · exact (shp_ints _).mono (by decide)
  · exact (shp_int _).mono (by decide)
  · exact shp_boxes h.nm
theorem cut_last {α : Type} (xs : List α) : (cutL xs none (some (-1))).length = xs.length - 1 := by
  unfold cutL
  have e : HT.sIx xs.length 0 none = 0 := rfl
  rw [e, List.drop_zero, Nat.sub_zero, List.length_take]
  have : HT.sIx xs.length xs.length (some (-1)) = xs.length - 1 := by
    unfold HT.sIx
    simp
    omega
  rw [this]; omega
theorem eqT_nil {bs : List Bx} (h : ∀ x ∈ bs, NmOk x.1) : eqTM (eL (eT3 eS eI eI)) bs [] = some (decide (bs = [])) := by
  unfold eqTM
  rw [if_pos ⟨(shp_boxes h).ok (by decide), (shp_boxes (bs := []) (fun x hx => by cases hx)).ok (by decide)⟩]
theorem nmzz : NmOk "zz" ∧ NmOk "zy" ∧ NmOk "zx" := by unfold NmOk; decide
theorem pickB {α : Type} {xs : List α} {P : α → Prop} {i : Int} (h0 : 0 ≤ i) (h : i < xs.length) (hP : ∀ x ∈ xs, P x) : ∃ x, atI xs i = some x ∧ P x := by
  obtain ⟨x, e, _⟩ := atI_int xs i h0 h
  exact ⟨x, e, hP x (atI_mem e)⟩
structure Mk4 (lo hi bl : Nat) (s : Sto) : Prop where
  r0 : lo ≤ s.1.length
  r1 : s.1.length ≤ hi
  g1 : s.2.1.length ≤ hi
  bl : s.2.2.2.length ≤ bl
  nm : ∀ x ∈ s.2.2.2, NmOk x.1
theorem turned_ok {lo hi bl : Nat} {s : Sto} (h : Mk4 lo hi bl s) (hlo : 1 ≤ lo) (hhi : hi ≤ 50) (hbl : bl ≤ 80) (c : Int) : Rt (f_turned (s, c)) (Mk4 (lo - 1) (hi + 1) (bl + 2)) := by
  obtain ⟨rooms, gaps, most, bs⟩ := s
  obtain ⟨h1, h2, h3, h4, h5⟩ := h
  dsimp only at h1 h2 h3 h4 h5
  obtain ⟨row, hr, hB⟩ := draws_ok c 8 [11, 16, 16, 61, 9] (by intro s hs; simp at hs; omega) (by simp)
  obtain ⟨r0, a0, p0, q0⟩ := hB.at (k := 0) (s := 11) rfl
  obtain ⟨r1, a1, p1, q1⟩ := hB.at (k := 1) (s := 16) rfl
  obtain ⟨r2, a2, p2, q2⟩ := hB.at (k := 2) (s := 16) rfl
  obtain ⟨r3, a3, p3, q3⟩ := hB.at (k := 3) (s := 61) rfl
  obtain ⟨r4, a4, p4, q4⟩ := hB.at (k := 4) (s := 9) rfl
  have a0 : atI row 0 = some r0 := a0
  have a1 : atI row 1 = some r1 := a1
  have a2 : atI row 2 = some r2 := a2
  have a3 : atI row 3 = some r3 := a3
  have a4 : atI row 4 = some r4 := a4
  have hp : (0 : Int) < (rooms.length : Int) := by omega
  have i0 := Int.emod_nonneg r1 (show (rooms.length : Int) ≠ 0 by omega)
  have i1 := Int.emod_lt_of_pos r1 hp
  generalize hbay : r1 % (rooms.length : Int) = bay at i0 i1
  generalize hoth : r2 % (rooms.length : Int) = oth
  unfold f_turned
  dsimp only
  simp only [letM_eq]
  rw [bo hr, bo a1, bo (modM_ok hp), bo a2, bo (modM_ok hp), hbay, hoth, bo a0]
  have fin : ∀ {m : Int} {rs gs : List Int} {b2 : List Bx}, lo - 1 ≤ rs.length → rs.length ≤ hi + 1 → gs.length ≤ hi + 1 → b2.length ≤ bl + 2 → (∀ x ∈ b2, NmOk x.1) → Rt (some ((rs, gs, m, b2) : Sto)) (Mk4 (lo - 1) (hi + 1) (bl + 2)) := fun k1 k2 k3 k4 k5 => rt_some.mpr ⟨k1, k2, k3, k4, k5⟩
  by_cases c1 : r0 = 1
  · obtain ⟨old, eo, _⟩ := atI_int rooms bay i0 i1
    rw [if_pos (decide_eq_true c1), bo eo, bo (setM_ok _ i0 i1), bo rfl]
    dsimp only
    exact fin (by rw [List.length_set]; omega) (by rw [List.length_set]; omega) (by omega) (by omega) h5
  rw [if_neg (by simpa using c1), bo a0]
  by_cases c2 : r0 = 2
  · obtain ⟨v, ev, _⟩ := pickB (xs := ([40, 41, 0, 1] : List Int)) (P := fun _ => True) (i := r4 % 4) (by omega) (by simp; omega) (fun _ _ => trivial)
    rw [if_pos (decide_eq_true c2), bo a4, bo ev, bo (setM_ok _ i0 i1), bo rfl]
    dsimp only
    exact fin (by rw [List.length_set]; omega) (by rw [List.length_set]; omega) (by omega) (by omega) h5
  rw [if_neg (by simpa using c2), bo a0]
  by_cases c3 : (decide (r0 = 3) && !decide (gaps = [])) = true
  · have gn : gaps ≠ [] := by simp at c3; exact c3.2
    have gp : (0 : Int) < (gaps.length : Int) := by have := List.length_pos_iff.mpr gn; omega
    obtain ⟨v, ev, _⟩ := pickB (xs := ([0, 1, 1000000000, 1000000000 + 1] : List Int)) (P := fun _ => True) (i := r4 % 4) (by omega) (by simp; omega) (fun _ _ => trivial)
    rw [if_pos c3, bo a4, bo ev, bo (modM_ok gp), bo (setM_ok _ (Int.emod_nonneg _ (by omega)) (Int.emod_lt_of_pos _ gp)), bo rfl]
    dsimp only
    exact fin (by omega) (by omega) (by rw [List.length_set]; omega) (by omega) h5
  rw [if_neg c3, bo a0]
  by_cases c4 : r0 = 4
  · obtain ⟨v, ev, _⟩ := pickB (xs := ([0, 1, 20, 21] : List Int)) (P := fun _ => True) (i := r4 % 4) (by omega) (by simp; omega) (fun _ _ => trivial)
    rw [if_pos (decide_eq_true c4), bo a4, bo ev, bo rfl]
    dsimp only
    exact fin (by omega) (by omega) (by omega) (by omega) h5
  rw [if_neg (by simpa using c4), bo a0]
  have e5 : (if (inL r0 ([5, 6] : List Int)) = true then (((eqTM (eL (eT3 eS eI eI)) bs ([] : (List (Str × Int × Int))))).bind fun x202 => some (!x202)) else some false) = some (inL r0 [5, 6] && !decide (bs = [])) := by
    cases inL r0 [5, 6] with
    | true => rw [if_pos rfl, bo (eqT_nil h5)]; rfl
    | false => rw [if_neg (by decide)]; rfl
  rw [bo e5]
  by_cases c5 : (inL r0 [5, 6] && !decide (bs = [])) = true
  · have bn : bs ≠ [] := by simp at c5; exact c5.2
    have r56 : r0 = 5 ∨ r0 = 6 := by
      simp only [Bool.and_eq_true] at c5
      have := c5.1
      unfold inL at this
      simp at this
      omega
    have bp : (0 : Int) < (bs.length : Int) := by have := List.length_pos_iff.mpr bn; omega
    have j0 := Int.emod_nonneg r3 (show (bs.length : Int) ≠ 0 by omega)
    have j1 := Int.emod_lt_of_pos r3 bp
    obtain ⟨x, ex, ex2⟩ := atI_int bs _ j0 j1
    have hx := h5 x (List.mem_of_getElem? ex2)
    obtain ⟨y, ey, hy⟩ := pickB (xs := ([(x.1, bay, x.2.2), (x.1, x.2.1, bay)] : List Bx)) (P := fun y => NmOk y.1) (i := r0 - 5) (by omega) (by simp; omega) (by
      intro y hy
      simp only [List.mem_cons, List.not_mem_nil, or_false] at hy
      rcases hy with rfl | rfl <;> exact hx)
    rw [if_pos c5, bo a3, bo (modM_ok bp), bo ex, bo a0, bo ey, bo a3, bo (modM_ok bp), bo (setM_ok _ j0 j1), bo rfl]
    dsimp only
    refine fin (by omega) (by omega) (by omega) (by rw [List.length_set]; omega) fun z hz => ?_
    rcases List.mem_or_eq_of_mem_set hz with hz | rfl
    · exact h5 z hz
    · exact hy
  rw [if_neg c5, bo a0]
  by_cases c7 : r0 = 7
  · rw [if_pos (decide_eq_true c7), bo (catM_ok (by rw [List.length_singleton]; omega)), bo rfl]
    dsimp only
    refine fin (by omega) (by omega) (by omega) (by rw [List.length_append, List.length_singleton]; omega) fun z hz => ?_
    rcases List.mem_append.mp hz with hz | hz
    · exact h5 z hz
    · rw [List.mem_singleton.mp hz]; exact nmzz.1
  rw [if_neg (by simpa using c7), bo a0]
  by_cases c8 : r0 = 8
  · rw [if_pos (decide_eq_true c8), bo (catM_ok (by simp only [List.length_cons, List.length_nil]; omega)), bo rfl]
    dsimp only
    refine fin (by omega) (by omega) (by omega) (by rw [List.length_append]; simp only [List.length_cons, List.length_nil]; omega) fun z hz => ?_
    rcases List.mem_append.mp hz with hz | hz
    · simp only [List.mem_cons, List.not_mem_nil, or_false] at hz
      rcases hz with rfl | rfl
      · exact nmzz.2.1
      · exact nmzz.2.2
    · exact h5 z hz
  rw [if_neg (by simpa using c8), bo a0]
  by_cases c9 : r0 = 9
  · rw [if_pos (decide_eq_true c9), bo (catM_ok (by rw [List.length_singleton]; omega)), bo (catM_ok (by rw [List.length_singleton]; omega)), bo (catM_ok (by rw [List.length_singleton]; omega)), bo a4]
    obtain ⟨v, ev, a, b, rfl, k1, k2, k3⟩ := pickB (xs := ([([rooms ++ [1], gaps ++ [1]] : List (List Int)), [cutL rooms none (some (-1)), cutL gaps none (some (-1))], [rooms, gaps ++ [1]]] : List (List (List Int)))) (P := fun v => ∃ a b, v = [a, b] ∧ lo - 1 ≤ a.length ∧ a.length ≤ hi + 1 ∧ b.length ≤ hi + 1) (i := r4 % 3) (by omega) (by simp; omega) (by
      intro y hy
      simp only [List.mem_cons, List.not_mem_nil, or_false] at hy
      rcases hy with rfl | rfl | rfl
      · exact ⟨_, _, rfl, by rw [List.length_append]; omega, by rw [List.length_append, List.length_singleton]; omega, by rw [List.length_append, List.length_singleton]; omega⟩
      · exact ⟨_, _, rfl, by rw [cut_last]; omega, by rw [cut_last]; omega, by rw [cut_last]; omega⟩
      · exact ⟨_, _, rfl, by omega, by omega, by rw [List.length_append, List.length_singleton]; omega⟩)
    rw [bo ev, bo (show tup2M [a, b] = some (a, b) from rfl), bo rfl]
    dsimp only
    exact fin k1 k2 k3 (by omega) h5
  rw [if_neg (by simpa using c9), bo a0]
  have e10 : (if (decide (r0 = 10)) = true then (((eqTM (eL (eT3 eS eI eI)) bs ([] : (List (Str × Int × Int))))).bind fun x335 => some (!x335)) else some false) = some (decide (r0 = 10) && !decide (bs = [])) := by
    cases decide (r0 = 10) with
    | true => rw [if_pos rfl, bo (eqT_nil h5)]; rfl
    | false => rw [if_neg (by decide)]; rfl
  rw [bo e10]
  by_cases c10 : (decide (r0 = 10) && !decide (bs = [])) = true
  · have bn : bs ≠ [] := by simp at c10; exact c10.2
    have bp : (0 : Int) < (bs.length : Int) := by have := List.length_pos_iff.mpr bn; omega
    obtain ⟨x, ex, ex2⟩ := atI_int bs _ (Int.emod_nonneg r3 (show (bs.length : Int) ≠ 0 by omega)) (Int.emod_lt_of_pos r3 bp)
    rw [if_pos c10, bo a3, bo (modM_ok bp), bo ex, bo (appM_ok (by omega)), bo rfl]
    dsimp only
    refine fin (by omega) (by omega) (by omega) (by rw [List.length_append, List.length_singleton]; omega) fun z hz => ?_
    rcases List.mem_append.mp hz with hz | hz
    · exact h5 z hz
    · rw [List.mem_singleton.mp hz]; exact h5 x (List.mem_of_getElem? ex2)
  rw [if_neg c10, bo rfl]
  dsimp only
  exact fin (by omega) (by omega) (by omega) (by omega) h5
theorem law_true (ns : List Int) (h : ns.length ≤ 63) : f_law ns = some true := by
  obtain ⟨s, hs, S⟩ := store_ok ns
  have m0 : Mk4 2 16 60 s := ⟨S.n2, S.n16, by have := S.gl; have := S.n16; omega, S.bx.len, S.bx.nm⟩
  unfold f_law
  rw [bo hs, bo (catM_ok (by rw [cut_take _ _ (by decide), List.length_take, List.length_singleton]; omega))]
  refine Rt.eq ?_
  rw [rt_bind]
  refine rt_for (fun _ => True) trivial (fun kc _ u _ => ?_) fun u _ => rt_some.mpr rfl
  obtain ⟨k, c⟩ := kc
  obtain ⟨t1, e1, m1⟩ := turned_ok m0 (by decide) (by decide) (by decide) c
  unfold f_law_b12
  dsimp only
  rw [bo e1]
  have : ∃ made, (if decide (k % 2 = 1) = true then (f_turned (t1, c / 3 + k)).bind fun x113 => some x113 else some t1) = some made ∧ Ml made := by
    by_cases q : k % 2 = 1
    · obtain ⟨t2, e2, m2⟩ := turned_ok m1 (by decide) (by decide) (by decide) (c / 3 + k)
      refine ⟨t2, by rw [if_pos (decide_eq_true q), bo e2], ?_⟩
      have a := m2.r1; have b := m2.g1; have d := m2.bl
      exact ⟨by omega, by omega, by omega, m2.nm⟩
    · refine ⟨t1, by rw [if_neg (by simpa using q)], ?_⟩
      have a := m1.r1; have b := m1.g1; have d := m1.bl
      exact ⟨by omega, by omega, by omega, m1.nm⟩
  obtain ⟨made, em, M⟩ := this
  have eq1 : eqTM (eT4 (eL eI) (eL eI) eI (eL (eT3 eS eI eI))) made (made.1, made.2.1, made.2.2.1, made.2.2.2) = some true := eqT_self (shp_ml M) (by decide)
  rw [bo em, letM_eq, bo (wrong_eq M), bo (part_eq M 0 (.inl rfl)), bo (eqW made), if_neg (by decide), bo (part_eq M 1 (.inr rfl)), bo (eqW made), if_neg (by decide), bo eq1, bo rfl, bo rfl, if_neg (by decide)]
  exact rt_some.mpr ⟨(), rfl, trivial⟩
end Bw

set_option maxHeartbeats 0
namespace Bw
open PySem L2
def de0 : He.DefD := ⟨("is_whole", none), "is_whole", "is_whole", defArgs s_is_whole, defBody s_is_whole, defScope s_is_whole, [], []⟩
def de1 : He.DefD := ⟨("is_within", none), "is_within", "is_within", defArgs s_is_within, defBody s_is_within, defScope s_is_within, [], []⟩
def de2 : He.DefD := ⟨("is_name", none), "is_name", "is_name", defArgs s_is_name, defBody s_is_name, defScope s_is_name, [], []⟩
def de3 : He.DefD := ⟨("are_within", none), "are_within", "are_within", defArgs s_are_within, defBody s_are_within, defScope s_are_within, [], []⟩
def de4 : He.DefD := ⟨("is_box", none), "is_box", "is_box", defArgs s_is_box, defBody s_is_box, defScope s_is_box, [], []⟩
def de5 : He.DefD := ⟨("has_names_twice", none), "has_names_twice", "has_names_twice", defArgs s_has_names_twice, defBody s_has_names_twice, defScope s_has_names_twice, [], []⟩
def de6 : He.DefD := ⟨("has_room", none), "has_room", "has_room", defArgs s_has_room, defBody s_has_room, defScope s_has_room, [], []⟩
def de7 : He.DefD := ⟨("are_boxes", none), "are_boxes", "are_boxes", defArgs s_are_boxes, defBody s_are_boxes, defScope s_are_boxes, [], []⟩
def de8 : He.DefD := ⟨("look_at_store", none), "look_at_store", "look_at_store", defArgs s_look_at_store, defBody s_look_at_store, defScope s_look_at_store, [], []⟩
def de9 : He.DefD := ⟨("numbers_text", none), "numbers_text", "numbers_text", defArgs s_numbers_text, defBody s_numbers_text, defScope s_numbers_text, [], []⟩
def de10 : He.DefD := ⟨("show_store", none), "show_store", "show_store", defArgs s_show_store, defBody s_show_store, defScope s_show_store, [], []⟩
def de11 : He.DefD := ⟨("_law_cell", none), "_law_cell", "_law_cell", defArgs s_cell, defBody s_cell, defScope s_cell, [], []⟩
def de12 : He.DefD := ⟨("_law_draws", none), "_law_draws", "_law_draws", defArgs s_draws, defBody s_draws, defScope s_draws, [], []⟩
def de13 : He.DefD := ⟨("_law_names", none), "_law_names", "_law_names", defArgs s_names, defBody s_names, defScope s_names, [], []⟩
def de14 : He.DefD := ⟨("_law_boxes", none), "_law_boxes", "_law_boxes", defArgs s_boxes, defBody s_boxes, defScope s_boxes, [], []⟩
def de15 : He.DefD := ⟨("_law_store", none), "_law_store", "_law_store", defArgs s_store, defBody s_store, defScope s_store, [], []⟩
def de16 : He.DefD := ⟨("_law_turned", none), "_law_turned", "_law_turned", defArgs s_turned, defBody s_turned, defScope s_turned, [], []⟩
def de17 : He.DefD := ⟨("_law_wrong", none), "_law_wrong", "_law_wrong", defArgs s_wrong, defBody s_wrong, defScope s_wrong, [], []⟩
def de18 : He.DefD := ⟨("_law_class", none), "_law_class", "_law_class", defArgs s_class, defBody s_class, defScope s_class, [], []⟩
def de19 : He.DefD := ⟨("_law_part", none), "_law_part", "_law_part", defArgs s_part, defBody s_part, defScope s_part, [], []⟩
def de20 : He.DefD := ⟨("law", none), "law", "law", defArgs s_law, defBody s_law, defScope s_law, [], []⟩
def de21 : He.DefD := ⟨("NoStore", some "__init__"), "__init__", "NoStore.__init__", defArgs s_NoStore_i, defBody s_NoStore_i, defScope s_NoStore_i, [], []⟩
def fnL : List He.DefD := [de0, de1, de2, de3, de4, de5, de6, de7, de8, de9, de10, de11, de12, de13, de14, de15, de16, de17, de18, de19, de20, de21]
def faL : List He.Fa := [.glo "is_whole", .glo "is_within", .glo "is_name", .glo "are_within", .glo "is_box", .glo "has_names_twice", .glo "has_room", .glo "are_boxes", .glo "look_at_store", .glo "numbers_text", .glo "show_store", .glo "_law_cell", .glo "_law_draws", .glo "_law_names", .glo "_law_boxes", .glo "_law_store", .glo "_law_turned", .glo "_law_wrong", .glo "_law_class", .glo "_law_part", .glo "law", .free "ValueError", .free "abs", .free "all", .free "bool", .free "enumerate", .free "int", .free "isinstance", .free "len", .free "list", .free "max", .free "min", .free "range", .free "set", .free "str", .free "tuple", .int "FARTHEST" 1000000000, .int "FEWEST_BAYS" 2, .str "LETTERS" "abcdefghijklmnopqrstuvwxyz", .int "LONGEST" 8, .int "MOST_BAYS" 16, .int "MOST_BOXES" 60, .int "MOST_LOAD" 20, .int "MOST_ROOM" 40, .glo "CartError", .glo "NoAisle", .glo "NoBay", .glo "NoBox", .glo "NoFork", .glo "NoOrders", .glo "NoPaper", .glo "NoPlan", .glo "NoRoom", .glo "NoRow", .glo "NoStore", .glo "NoText", .glo "NoWants", .glo "TooMany", .glo "Unknown"]
def lo0 : List Str := ["CartError", "NoText", "NoBay", "NoBox", "NoRoom", "NoFork", "NoWants", "NoAisle", "NoOrders", "NoRow", "Unknown", "TooMany", "NoStore", "NoPlan", "NoPaper", "LETTERS", "LONGEST", "is_whole", "is_within", "is_name", "FEWEST_BAYS", "MOST_BAYS", "MOST_ROOM", "FARTHEST", "MOST_LOAD", "MOST_BOXES", "are_within", "is_box", "has_names_twice", "has_room"]
def lo1 : List Str := ["are_boxes", "look_at_store", "numbers_text", "show_store", "_law_cell", "_law_draws", "_law_names", "_law_boxes", "_law_store", "_law_turned", "_law_wrong", "_law_class", "_law_part"]
def looseL : List Str := lo0 ++ lo1
abbrev RowL : PySem.W.OpenRow := PySem.W.OpenLaw.row PySem.Challenge.rw_baycart_k04_rooms_and_bounds
abbrev hkL : PySem.W.Hook := hookB 4 faL fnL (xfcB xcl xts)
def obL (s : PySem.W.SharedT) : He.AlD × Bool := obsB 4 faL fnL (xfcB xcl xts) (HandSHeadRun.getT s)
theorem obL_eq (s : PySem.W.SharedT) : obL s = hkL.obs s.abs := obsB_eq (HandSHeadRun.getT_eq s)
theorem runL (w : World) : HandSHeadRun.RunEq RowL (PySem.W.view RowL.prog [48]) hkL obL 20000 looseL w := by
  intro os
  kernel_rfl
theorem all_ok {P : Program} {w : World} {K : PySem.W.Frag} {h : Heap} {mg : Str → Option Value} {base : Heap} (X : K.In h) (G : h.Ns mainGlobals mg) (c : He.SaysD faL fnL K) (cx : xfcB xcl xts K = true) : Ok P w K mg base 8 "law" ["_law_script"] (sp_law K) := by
  have m_ValueError : mg "ValueError" = none := He.free_ok X G (c.fact 21 (f := .free "ValueError") rfl)
  have m_abs : mg "abs" = none := He.free_ok X G (c.fact 22 (f := .free "abs") rfl)
  have m_all : mg "all" = none := He.free_ok X G (c.fact 23 (f := .free "all") rfl)
  have m_bool : mg "bool" = none := He.free_ok X G (c.fact 24 (f := .free "bool") rfl)
  have m_enumerate : mg "enumerate" = none := He.free_ok X G (c.fact 25 (f := .free "enumerate") rfl)
  have m_int : mg "int" = none := He.free_ok X G (c.fact 26 (f := .free "int") rfl)
  have m_isinstance : mg "isinstance" = none := He.free_ok X G (c.fact 27 (f := .free "isinstance") rfl)
  have m_len : mg "len" = none := He.free_ok X G (c.fact 28 (f := .free "len") rfl)
  have m_list : mg "list" = none := He.free_ok X G (c.fact 29 (f := .free "list") rfl)
  have m_max : mg "max" = none := He.free_ok X G (c.fact 30 (f := .free "max") rfl)
  have m_min : mg "min" = none := He.free_ok X G (c.fact 31 (f := .free "min") rfl)
  have m_range : mg "range" = none := He.free_ok X G (c.fact 32 (f := .free "range") rfl)
  have m_set : mg "set" = none := He.free_ok X G (c.fact 33 (f := .free "set") rfl)
  have m_str : mg "str" = none := He.free_ok X G (c.fact 34 (f := .free "str") rfl)
  have m_tuple : mg "tuple" = none := He.free_ok X G (c.fact 35 (f := .free "tuple") rfl)
  have c_FARTHEST : ∃ t, mg "FARTHEST" = some (.int 1000000000 t) := He.int_ok X G (c.fact 36 (f := .int "FARTHEST" 1000000000) rfl)
  have c_FEWEST_BAYS : ∃ t, mg "FEWEST_BAYS" = some (.int 2 t) := He.int_ok X G (c.fact 37 (f := .int "FEWEST_BAYS" 2) rfl)
  have c_LETTERS : ∃ t, mg "LETTERS" = some (.str "abcdefghijklmnopqrstuvwxyz" t) := He.str_ok X G (c.fact 38 (f := .str "LETTERS" "abcdefghijklmnopqrstuvwxyz") rfl)
  have c_LONGEST : ∃ t, mg "LONGEST" = some (.int 8 t) := He.int_ok X G (c.fact 39 (f := .int "LONGEST" 8) rfl)
  have c_MOST_BAYS : ∃ t, mg "MOST_BAYS" = some (.int 16 t) := He.int_ok X G (c.fact 40 (f := .int "MOST_BAYS" 16) rfl)
  have c_MOST_BOXES : ∃ t, mg "MOST_BOXES" = some (.int 60 t) := He.int_ok X G (c.fact 41 (f := .int "MOST_BOXES" 60) rfl)
  have c_MOST_LOAD : ∃ t, mg "MOST_LOAD" = some (.int 20 t) := He.int_ok X G (c.fact 42 (f := .int "MOST_LOAD" 20) rfl)
  have c_MOST_ROOM : ∃ t, mg "MOST_ROOM" = some (.int 40 t) := He.int_ok X G (c.fact 43 (f := .int "MOST_ROOM" 40) rfl)
  have g_CartError : mg "CartError" = some (.ref (He.ga K "CartError")) := He.glo_ok X G (c.fact 44 (f := .glo "CartError") rfl)
  have g_NoAisle : mg "NoAisle" = some (.ref (He.ga K "NoAisle")) := He.glo_ok X G (c.fact 45 (f := .glo "NoAisle") rfl)
  have g_NoBay : mg "NoBay" = some (.ref (He.ga K "NoBay")) := He.glo_ok X G (c.fact 46 (f := .glo "NoBay") rfl)
  have g_NoBox : mg "NoBox" = some (.ref (He.ga K "NoBox")) := He.glo_ok X G (c.fact 47 (f := .glo "NoBox") rfl)
  have g_NoFork : mg "NoFork" = some (.ref (He.ga K "NoFork")) := He.glo_ok X G (c.fact 48 (f := .glo "NoFork") rfl)
  have g_NoOrders : mg "NoOrders" = some (.ref (He.ga K "NoOrders")) := He.glo_ok X G (c.fact 49 (f := .glo "NoOrders") rfl)
  have g_NoPaper : mg "NoPaper" = some (.ref (He.ga K "NoPaper")) := He.glo_ok X G (c.fact 50 (f := .glo "NoPaper") rfl)
  have g_NoPlan : mg "NoPlan" = some (.ref (He.ga K "NoPlan")) := He.glo_ok X G (c.fact 51 (f := .glo "NoPlan") rfl)
  have g_NoRoom : mg "NoRoom" = some (.ref (He.ga K "NoRoom")) := He.glo_ok X G (c.fact 52 (f := .glo "NoRoom") rfl)
  have g_NoRow : mg "NoRow" = some (.ref (He.ga K "NoRow")) := He.glo_ok X G (c.fact 53 (f := .glo "NoRow") rfl)
  have g_NoStore : mg "NoStore" = some (.ref (He.ga K "NoStore")) := He.glo_ok X G (c.fact 54 (f := .glo "NoStore") rfl)
  have g_NoText : mg "NoText" = some (.ref (He.ga K "NoText")) := He.glo_ok X G (c.fact 55 (f := .glo "NoText") rfl)
  have g_NoWants : mg "NoWants" = some (.ref (He.ga K "NoWants")) := He.glo_ok X G (c.fact 56 (f := .glo "NoWants") rfl)
  have g_TooMany : mg "TooMany" = some (.ref (He.ga K "TooMany")) := He.glo_ok X G (c.fact 57 (f := .glo "TooMany") rfl)
  have g_Unknown : mg "Unknown" = some (.ref (He.ga K "Unknown")) := He.glo_ok X G (c.fact 58 (f := .glo "Unknown") rfl)
  have XC := xfc_of cx
  have i_NoStore : OkI P w K mg base "NoStore" "part" := ok_NoStore_i (c.def_ 21 (d := de21) rfl) g_NoStore g_CartError (ce_of cx) (oxf_of cx (by decide) (by decide))
  have d_is_whole : Df K mg "is_whole" s_is_whole := ⟨c.def_ 0 (d := de0) rfl, He.glo_ok X G (c.fact 0 (f := .glo "is_whole") rfl)⟩
  have d_is_within : Df K mg "is_within" s_is_within := ⟨c.def_ 1 (d := de1) rfl, He.glo_ok X G (c.fact 1 (f := .glo "is_within") rfl)⟩
  have d_is_name : Df K mg "is_name" s_is_name := ⟨c.def_ 2 (d := de2) rfl, He.glo_ok X G (c.fact 2 (f := .glo "is_name") rfl)⟩
  have d_are_within : Df K mg "are_within" s_are_within := ⟨c.def_ 3 (d := de3) rfl, He.glo_ok X G (c.fact 3 (f := .glo "are_within") rfl)⟩
  have d_is_box : Df K mg "is_box" s_is_box := ⟨c.def_ 4 (d := de4) rfl, He.glo_ok X G (c.fact 4 (f := .glo "is_box") rfl)⟩
  have d_has_names_twice : Df K mg "has_names_twice" s_has_names_twice := ⟨c.def_ 5 (d := de5) rfl, He.glo_ok X G (c.fact 5 (f := .glo "has_names_twice") rfl)⟩
  have d_has_room : Df K mg "has_room" s_has_room := ⟨c.def_ 6 (d := de6) rfl, He.glo_ok X G (c.fact 6 (f := .glo "has_room") rfl)⟩
  have d_are_boxes : Df K mg "are_boxes" s_are_boxes := ⟨c.def_ 7 (d := de7) rfl, He.glo_ok X G (c.fact 7 (f := .glo "are_boxes") rfl)⟩
  have d_look_at_store : Df K mg "look_at_store" s_look_at_store := ⟨c.def_ 8 (d := de8) rfl, He.glo_ok X G (c.fact 8 (f := .glo "look_at_store") rfl)⟩
  have d_numbers_text : Df K mg "numbers_text" s_numbers_text := ⟨c.def_ 9 (d := de9) rfl, He.glo_ok X G (c.fact 9 (f := .glo "numbers_text") rfl)⟩
  have d_show_store : Df K mg "show_store" s_show_store := ⟨c.def_ 10 (d := de10) rfl, He.glo_ok X G (c.fact 10 (f := .glo "show_store") rfl)⟩
  have d_cell : Df K mg "_law_cell" s_cell := ⟨c.def_ 11 (d := de11) rfl, He.glo_ok X G (c.fact 11 (f := .glo "_law_cell") rfl)⟩
  have d_draws : Df K mg "_law_draws" s_draws := ⟨c.def_ 12 (d := de12) rfl, He.glo_ok X G (c.fact 12 (f := .glo "_law_draws") rfl)⟩
  have d_names : Df K mg "_law_names" s_names := ⟨c.def_ 13 (d := de13) rfl, He.glo_ok X G (c.fact 13 (f := .glo "_law_names") rfl)⟩
  have d_boxes : Df K mg "_law_boxes" s_boxes := ⟨c.def_ 14 (d := de14) rfl, He.glo_ok X G (c.fact 14 (f := .glo "_law_boxes") rfl)⟩
  have d_store : Df K mg "_law_store" s_store := ⟨c.def_ 15 (d := de15) rfl, He.glo_ok X G (c.fact 15 (f := .glo "_law_store") rfl)⟩
  have d_turned : Df K mg "_law_turned" s_turned := ⟨c.def_ 16 (d := de16) rfl, He.glo_ok X G (c.fact 16 (f := .glo "_law_turned") rfl)⟩
  have d_wrong : Df K mg "_law_wrong" s_wrong := ⟨c.def_ 17 (d := de17) rfl, He.glo_ok X G (c.fact 17 (f := .glo "_law_wrong") rfl)⟩
  have d_class : Df K mg "_law_class" s_class := ⟨c.def_ 18 (d := de18) rfl, He.glo_ok X G (c.fact 18 (f := .glo "_law_class") rfl)⟩
  have d_part : Df K mg "_law_part" s_part := ⟨c.def_ 19 (d := de19) rfl, He.glo_ok X G (c.fact 19 (f := .glo "_law_part") rfl)⟩
  have d_law : Df K mg "law" s_law := ⟨c.def_ 20 (d := de20) rfl, He.glo_ok X G (c.fact 20 (f := .glo "law") rfl)⟩
  have o_draws := ok_draws (P := P) (w := w) (base := base) d_draws m_abs m_enumerate
  have o_names := ok_names (P := P) (w := w) (base := base) d_names m_min m_range o_draws
  have o_cell := ok_cell (P := P) (w := w) (base := base) d_cell m_len
  have o_boxes := ok_boxes (P := P) (w := w) (base := base) d_boxes m_enumerate m_len m_list m_min m_range o_draws o_cell o_names
  have o_store := ok_store (P := P) (w := w) (base := base) d_store m_int o_boxes o_draws o_cell
  have o_turned := ok_turned (P := P) (w := w) (base := base) d_turned m_len m_list o_draws
  have o_wrong := ok_wrong (P := P) (w := w) (base := base) d_wrong m_enumerate m_len m_max m_min m_range m_set
  have o_class := ok_class (P := P) (w := w) (base := base) d_class m_ValueError m_isinstance XC g_CartError g_NoAisle g_NoBay g_NoBox g_NoFork g_NoOrders g_NoPaper g_NoPlan g_NoRoom g_NoRow g_NoStore g_NoText g_NoWants g_TooMany g_Unknown
  have o_is_whole := ok_is_whole (P := P) (w := w) (base := base) d_is_whole m_bool m_int m_isinstance
  have o_is_within := ok_is_within (P := P) (w := w) (base := base) d_is_within o_is_whole
  have o_has_names_twice := ok_has_names_twice (P := P) (w := w) (base := base) d_has_names_twice m_len m_set
  have o_has_room := ok_has_room (P := P) (w := w) (base := base) d_has_room m_enumerate m_len
  have o_is_name := ok_is_name (P := P) (w := w) (base := base) d_is_name m_all m_isinstance m_len m_str c_LETTERS c_LONGEST
  have o_is_box := ok_is_box (P := P) (w := w) (base := base) d_is_box m_isinstance m_len m_tuple o_is_within o_is_name
  have o_are_boxes := ok_are_boxes (P := P) (w := w) (base := base) d_are_boxes m_all m_isinstance m_len m_list c_MOST_BOXES o_has_room o_is_box o_has_names_twice
  have o_are_within := ok_are_within (P := P) (w := w) (base := base) d_are_within m_all m_isinstance m_list o_is_within
  have o_look_at_store := ok_look_at_store (P := P) (w := w) (base := base) d_look_at_store m_isinstance m_len m_tuple c_FARTHEST c_FEWEST_BAYS c_MOST_BAYS c_MOST_LOAD c_MOST_ROOM o_are_boxes o_is_within o_are_within i_NoStore
  have o_numbers_text := ok_numbers_text (P := P) (w := w) (base := base) d_numbers_text m_str
  have o_show_store := ok_show_store (P := P) (w := w) (base := base) d_show_store o_numbers_text o_look_at_store
  have o_part := ok_part (P := P) (w := w) (base := base) d_part m_isinstance m_str o_class o_look_at_store o_show_store XC g_CartError
  have o_law := ok_law (P := P) (w := w) (base := base) d_law m_enumerate m_list o_part o_wrong o_turned o_store
  exact o_law
end Bw
open PySem PySem.W PySem.Calls PyProof.Rows
abbrev Bw.qL : Program := view Bw.RowL.prog [48]
abbrev Bw.dL : DefRec := HandSHeadRun.topDef Bw.RowL.prog 48
theorem Bw.o_e : opening Bw.RowL.prog = plainProg Bw.RowL.prog.main.scope.names := by kernel_rfl
theorem Bw.o_f : ∀ s, fenceModules? Bw.RowL.prog s = some s := fun s => by kernel_rfl
theorem Bw.o_def : defOf Bw.qL Bw.RowL.name = some (Bw.dL, []) := by kernel_rfl
theorem Bw.o_the : Bw.RowL.prog.theDef Bw.RowL.name = some (Bw.dL.params, Bw.dL.body, Bw.dL.scope) := by kernel_rfl
theorem Bw.o_kw : kwWritten? Bw.dL.params.kwonlyargs Bw.dL.params.kw_defaults = some [] := by kernel_rfl
theorem Bw.o_1 : chainsOk Bw.qL = true := by decide +kernel
theorem Bw.o_2 : opensWell Bw.RowL.prog = true := by decide +kernel
theorem Bw.o_3 : frees Bw.RowL.toRowW = true := by decide +kernel
theorem Bw.o_4 : Bw.RowL.within.isEmpty = true := by decide +kernel
theorem Bw.o_ok : (chainsOk Bw.qL && opensWell Bw.RowL.prog && (frees Bw.RowL.toRowW && Bw.RowL.within.isEmpty)) = true := by rw [Bw.o_1, Bw.o_2, Bw.o_3, Bw.o_4]; rfl
theorem Bw.o_bare : Bw.RowL.prog.bare := ⟨rfl, rfl, rfl, rfl, rfl, by decide +kernel⟩
theorem Bw.o_hw : Bw.RowL.toRowW.promised := by w_witness2
theorem PySem.Challenge.cw_baycart_k04_rooms_and_bounds_holds : PySem.Challenge.rw_baycart_k04_rooms_and_bounds.Holds := by
  w_on; o_law
  refine HandSHeadRun.head_any (r := Bw.RowL) (q := Bw.qL) (H := Bw.hkL) (ob := Bw.obL) (M := 20000) (loose := Bw.looseL) (d := Bw.dL) (kwd := []) Bw.obL_eq
    Bw.o_e Bw.o_f Bw.runL Bw.o_def Bw.o_the Bw.o_kw (by rfl) (by first | assumption | decide +kernel) Bw.o_ok Bw.o_bare Bw.o_hw ?hc
  case hc =>
    refine L2.walk_ofE (l := PySem.Challenge.rw_baycart_k04_rooms_and_bounds) (n := 63) (k := 8) (x := "_law_script") (CX := L2.CX0) rfl (by decide) (by kernel_rfl) ⟨rfl, by decide, by decide⟩ ?F (fun _ _ _ _ z => z)
    intro w mg fa h Y G hmg0
    obtain ⟨K, KX, c, cx⟩ := Y
    have hmg : mg ("law" : PySem.Str) = some (.ref fa) := by
      have e : (HandSHeadRun.topDef Bw.RowL.prog 48).name = ("law" : PySem.Str) := by kernel_rfl
      rw [← e]
      exact hmg0
    have ok0 : ∀ base : Heap, Bw.Ok (PySem.Challenge.rw_baycart_k04_rooms_and_bounds).prog w K mg base 8 "law" ["_law_script"] (Bw.sp_law K) := fun base => Bw.all_ok KX G c cx
    have ef : fa = He.ga K "law" := Bw.ref_inj (hmg.symm.trans (ok0 h).gm)
    obtain ⟨fd, FF⟩ := c.def_ 20 (d := Bw.de20) rfl
    have bnd : ∀ (s : Shared) (u : Value), BindsTo s fd ⟨[u], []⟩ [("_law_script", u)] := fun s u => (L2.FunD.bindsA (ps := ["_law_script"]) FF fun _ _ _ _ _ _ us hl => match us, hl with | [_], _ => rfl) s [u] rfl
    refine ⟨K, fd, Bw.sp_law K, KX, bnd, fun H a ns hl _ hS => ⟨H, [], ns, true, .cons (.lst hS (Bw.Dts.of_ints ns)) .nil, Bw.sta0, Bw.law_true ns hl, fun v F2 H2 _ _ hv => hv.toBl⟩, fun base hb1 hb2 => ?_⟩
    obtain ⟨⟨fd2, F2, _, lk⟩, _, _⟩ := ok0 base
    rw [ef, (Bw.lk_of FF).one lk]
    exact F2
