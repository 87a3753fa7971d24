import PyProof.Rows.All
import Wide.All
import OpenK.AllK
import Wide.FinOn
import HandS.ForMost
import HandS.IsInst
import HandS.Zip
import HandS.FStr
import HandS.Flow
import HandS.Style
import HandS.Defaults
import HandS.HeadHook2
import HandS.Strs
import HandS.SetFor
import KE.KStateDown
import HandS.Head0
import HandS.Head1
import HandS.Head2
import HandS.TupAny
import HandS.Sort
import HandS.SortInts
import HandS.TryOnly
import KE.KDictItemsList
import KE.KDictZip
import HandS.ExcValue
import HandS.ExcInit
import HandS.TryElse
import KE.KExcIs
import KE.KTryMore
import HandS.HeadEnd
import HandS.HeadHook1
import HandS.ExcField
import HandS.Walk
import HandS.Conv
import PySem.Challenge.RW_baycart_k25_claims_of_papers
set_option Elab.async false
set_option linter.all false
set_option maxRecDepth 100000
set_option maxHeartbeats 8000000
set_option synthInstance.maxHeartbeats 400000
set_option synthInstance.maxSize 2000

namespace Bw
open PySem L2

/-! the state: F what stands for good, cs the objects that may change -/
abbrev Cs := List (Addr × HO)
def Gr (F F' : Hp) : Prop := ∀ a o, F a = some o → F' a = some o
theorem Gr.rfl {F : Hp} : Gr F F := fun _ _ h => h
theorem Gr.tr {F F1 F2 : Hp} (a : Gr F F1) (b : Gr F1 F2) : Gr F F2 := fun x o h => b x o (a x o h)
theorem Gr.new {F : Hp} {p : Addr} {o : HO} (h : F p = none) : Gr F (upd F p o) := fun a u e => by
  rw [upd_ne (ne_of_none e h)]; exact e
structure Sta (F : Hp) (cs : Cs) (H : Hp) : Prop where
  fr : Gr F H
  sep : ∀ p ∈ cs, F p.1 = none
  has : ∀ p ∈ cs, H p.1 = some p.2
  nd : (cs.map (·.1)).Nodup
theorem Gr.back {F F' : Hp} {p : Addr} (e : Gr F F') (h : F' p = none) : F p = none := by
  cases h1 : F p with
  | none => rfl
  | some o => rw [e p o h1] at h; cases h
/-- a new thing that stays -/
theorem Sta.lay {F : Hp} {cs : Cs} {H : Hp} {p : Addr} {o : HO} (s : Sta F cs H) (h : H p = none) : Sta (upd F p o) cs (upd H p o) where
  fr := fun a u e => by
    by_cases q : a = p
    · subst q; rw [upd_same] at e ⊢; exact e
    · rw [upd_ne q] at e ⊢; exact s.fr a u e
  sep := fun c hc => by
    have q : c.1 ≠ p := fun z => by have := s.has c hc; rw [z, h] at this; cases this
    rw [upd_ne q]; exact s.sep c hc
  has := fun c hc => by
    have q : c.1 ≠ p := fun z => by have := s.has c hc; rw [z, h] at this; cases this
    rw [upd_ne q]; exact s.has c hc
  nd := s.nd
/-- a new thing that may change -/
theorem Sta.cell {F : Hp} {cs : Cs} {H : Hp} {p : Addr} {o : HO} (s : Sta F cs H) (h : H p = none) : Sta F ((p, o) :: cs) (upd H p o) where
  fr := fun a u e => by
    have q : a ≠ p := ne_of_none (s.fr a u e) h
    rw [upd_ne q]; exact s.fr a u e
  sep := fun c hc => by
    rcases List.mem_cons.mp hc with rfl | hc
    · exact s.fr.back h
    · exact s.sep c hc
  has := fun c hc => by
    rcases List.mem_cons.mp hc with rfl | hc
    · exact upd_same
    · have q : c.1 ≠ p := fun z => by have := s.has c hc; rw [z, h] at this; cases this
      rw [upd_ne q]; exact s.has c hc
  nd := by
    rw [List.map_cons, List.nodup_cons]
    refine ⟨fun hm => ?_, s.nd⟩
    obtain ⟨c, hc, e⟩ := List.mem_map.mp hm
    have := s.has c hc
    rw [e, h] at this; cases this
/-- the first changing thing is changed -/
theorem Sta.put {F : Hp} {cs : Cs} {H : Hp} {p : Addr} {o o' : HO} (s : Sta F ((p, o) :: cs) H) : Sta F ((p, o') :: cs) (upd H p o') where
  fr := fun a u e => by
    have q : a ≠ p := fun z => by have := s.sep (p, o) List.mem_cons_self; subst z; rw [e] at this; cases this
    rw [upd_ne q]; exact s.fr a u e
  sep := fun c hc => by
    rcases List.mem_cons.mp hc with rfl | hc
    · exact s.sep (p, o) List.mem_cons_self
    · exact s.sep c (List.mem_cons_of_mem _ hc)
  has := fun c hc => by
    rcases List.mem_cons.mp hc with rfl | hc
    · exact upd_same
    · have nd := s.nd
      rw [List.map_cons, List.nodup_cons] at nd
      have q : c.1 ≠ p := fun z => nd.1 (List.mem_map.mpr ⟨c, hc, z⟩)
      rw [upd_ne q]; exact s.has c (List.mem_cons_of_mem _ hc)
  nd := s.nd
/-- the order of the changing things is free -/
theorem Sta.perm {F : Hp} {cs cs' : Cs} {H : Hp} (s : Sta F cs H) (p : cs.Perm cs') : Sta F cs' H where
  fr := s.fr
  sep := fun c hc => s.sep c (p.mem_iff.mpr hc)
  has := fun c hc => s.has c (p.mem_iff.mpr hc)
  nd := (p.map (·.1)).nodup_iff.mp s.nd
theorem Sta.at {F : Hp} {cs : Cs} {H : Hp} {p : Addr} {o : HO} (s : Sta F cs H) (m : (p, o) ∈ cs) : H p = some o := s.has _ m
/-- the first changing thing changes no more -/
theorem Sta.froze {F : Hp} {cs : Cs} {H : Hp} {p : Addr} {o : HO} (s : Sta F ((p, o) :: cs) H) : Sta (upd F p o) cs H where
  fr := fun a u e => by
    by_cases q : a = p
    · subst q; rw [upd_same] at e; rw [← e]; exact s.has (a, o) List.mem_cons_self
    · rw [upd_ne q] at e; exact s.fr a u e
  sep := fun c hc => by
    have nd := s.nd
    rw [List.map_cons, List.nodup_cons] at nd
    have q : c.1 ≠ p := fun z => nd.1 (List.mem_map.mpr ⟨c, hc, z⟩)
    rw [upd_ne q]; exact s.sep c (List.mem_cons_of_mem _ hc)
  has := fun c hc => s.has c (List.mem_cons_of_mem _ hc)
  nd := by
    have nd := s.nd
    rw [List.map_cons, List.nodup_cons] at nd
    exact nd.2
theorem Sta.free {F : Hp} {cs : Cs} {H : Hp} {p : Addr} {o : HO} (s : Sta F ((p, o) :: cs) H) : F p = none := s.sep (p, o) List.mem_cons_self
theorem Sta.gfr {F : Hp} {cs : Cs} {H : Hp} {p : Addr} {o : HO} (s : Sta F ((p, o) :: cs) H) : Gr F (upd F p o) := Gr.new s.free


theorem mem_mid {α : Type} {l1 l2 : List α} {a : α} : a ∈ l1 ++ a :: l2 := by simp
/-- a changing thing is changed -/
theorem Sta.putAt {F : Hp} {l1 l2 : Cs} {H : Hp} {p : Addr} {o o' : HO} (s : Sta F (l1 ++ (p, o) :: l2) H) : Sta F (l1 ++ (p, o') :: l2) (upd H p o') :=
  ((s.perm List.perm_middle).put (o' := o')).perm List.perm_middle.symm
theorem Sta.frozeAt {F : Hp} {l1 l2 : Cs} {H : Hp} {p : Addr} {o : HO} (s : Sta F (l1 ++ (p, o) :: l2) H) : Sta (upd F p o) (l1 ++ l2) H := (s.perm List.perm_middle).froze
theorem Sta.freeAt {F : Hp} {l1 l2 : Cs} {H : Hp} {p : Addr} {o : HO} (s : Sta F (l1 ++ (p, o) :: l2) H) : F p = none := s.sep (p, o) mem_mid
theorem Sta.getAt {F : Hp} {l1 l2 : Cs} {H : Hp} {p : Addr} {o : HO} (s : Sta F (l1 ++ (p, o) :: l2) H) : H p = some o := s.has (p, o) mem_mid
theorem Gr.upd2 {F F' : Hp} {p : Addr} {o : HO} (g : Gr F F') : Gr (upd F p o) (upd F' p o) := fun a u e => by
  by_cases q : a = p
  · subst q; rw [upd_same] at e ⊢; exact e
  · rw [upd_ne q] at e ⊢; exact g a u e
def cut (F : Hp) (p : Addr) : Hp := fun a => if a = p then none else F a
theorem cut_same {F : Hp} {p : Addr} : cut F p p = none := by unfold cut; rw [if_pos rfl]
theorem cut_ne {F : Hp} {p a : Addr} (h : a ≠ p) : cut F p a = F a := by unfold cut; rw [if_neg h]
/-- what was lent comes back -/
theorem Sta.lent {F F2 : Hp} {l1 l2 : Cs} {H2 : Hp} {p : Addr} {o : HO} (g : Gr (upd F p o) F2) (s : Sta F2 (l1 ++ l2) H2) : Sta (cut F2 p) (l1 ++ (p, o) :: l2) H2 := by
  have hp : F2 p = some o := g p o upd_same
  have hn : ∀ c ∈ l1 ++ l2, c.1 ≠ p := fun c hc z => by
    have := s.sep c hc
    rw [z, hp] at this; cases this
  refine Sta.perm (cs := (p, o) :: (l1 ++ l2)) ⟨fun a u e => ?_, fun c hc => ?_, fun c hc => ?_, ?_⟩ List.perm_middle.symm
  · have q : a ≠ p := fun z => by rw [z, cut_same] at e; cases e
    rw [cut_ne q] at e; exact s.fr a u e
  · rcases List.mem_cons.mp hc with rfl | hc
    · exact cut_same
    · rw [cut_ne (hn c hc)]; exact s.sep c hc
  · rcases List.mem_cons.mp hc with rfl | hc
    · exact s.fr p o hp
    · exact s.has c hc
  · rw [List.map_cons, List.nodup_cons]
    refine ⟨fun hm => ?_, s.nd⟩
    obtain ⟨c, hc, e⟩ := List.mem_map.mp hm
    exact hn c hc e
theorem gr_cut {F F2 : Hp} {p : Addr} {o : HO} (h : F p = none) (g : Gr (upd F p o) F2) : Gr F (cut F2 p) := fun a u e => by
  have q : a ≠ p := ne_of_none e h
  rw [cut_ne q]
  exact g a u (by rw [upd_ne q]; exact e)

/-! data -/
mutual
inductive Dt (K : PySem.W.Frag) (F : Hp) : V → PyData → Prop
  | non : Dt K F .non .none
  | bl (b : Bool) : Dt K F (.bl b) (.bool b)
  | int (i : Int) : Dt K F (.int i) (.int i)
  | str (x : Str) : Dt K F (.str x) (.str x)
  | lst {a : Addr} {xs : List V} {ds : List PyData} : SqL K F a xs → Dts K F xs ds → Dt K F (.ref a) (.list ds)
  | tup {a : Addr} {xs : List V} {ds : List PyData} : SqT K F a xs → Dts K F xs ds → Dt K F (.ref a) (.tuple ds)
  | dct {a : Addr} {kvs : List (Key × V)} : F a = some (.dK kvs) → Dt K F (.ref a) (.dict [])
inductive Dts (K : PySem.W.Frag) (F : Hp) : List V → List PyData → Prop
  | nil : Dts K F [] []
  | cons {v : V} {vs : List V} {d : PyData} {ds : List PyData} : Dt K F v d → Dts K F vs ds → Dts K F (v :: vs) (d :: ds)
end
section
variable {K : PySem.W.Frag} {F F' H : Hp}
theorem gr_R {a : Addr} {u : HO} (e : Gr F F') (h : Rd F a u) : Rd F' a u := by
  rcases h with h | ⟨o, h⟩
  · exact .inl (e a _ h)
  · exact .inr ⟨o, e a _ h⟩
theorem gr_T {a : Addr} {xs : List V} (e : Gr F F') (h : SqT K F a xs) : SqT K F' a xs := by
  rcases h with h | h
  · exact .inl (gr_R e h)
  · exact .inr h
theorem gr_L {a : Addr} {xs : List V} (e : Gr F F') (h : SqL K F a xs) : SqL K F' a xs := by
  rcases h with h | h
  · exact .inl (gr_R e h)
  · exact .inr h
theorem rd_L {a : Addr} {xs : List V} (h : Rd F a (.lst xs)) : SqL K F a xs := .inl h
mutual
theorem Dt.gr (e : Gr F F') : ∀ {v : V} {d : PyData}, Dt K F v d → Dt K F' v d
  | _, _, .non => .non
  | _, _, .bl b => .bl b
  | _, _, .int i => .int i
  | _, _, .str x => .str x
  | _, _, .lst h a => .lst (gr_L e h) (Dts.gr e a)
  | _, _, .tup h a => .tup (gr_T e h) (Dts.gr e a)
  | _, _, .dct h => .dct (e _ _ h)
theorem Dts.gr (e : Gr F F') : ∀ {vs : List V} {ds : List PyData}, Dts K F vs ds → Dts K F' vs ds
  | _, _, .nil => .nil
  | _, _, .cons h t => .cons (Dt.gr e h) (Dts.gr e t)
end
theorem Dt.toInt {v : V} {i : Int} (h : Dt K F v (.int i)) : v = .int i := by cases h; rfl
theorem Dt.toStr {v : V} {x : Str} (h : Dt K F v (.str x)) : v = .str x := by cases h; rfl
theorem Dt.toBl {v : V} {b : Bool} (h : Dt K F v (.bool b)) : v = .bl b := by cases h; rfl
theorem Dt.toNon {v : V} (h : Dt K F v .none) : v = .non := by cases h; rfl
theorem Dt.toLst {v : V} {ds : List PyData} (h : Dt K F v (.list ds)) : ∃ a vs, v = .ref a ∧ SqL K F a vs ∧ Dts K F vs ds := by
  cases h with | lst h a => exact ⟨_, _, rfl, h, a⟩
theorem Dt.toTup {v : V} {ds : List PyData} (h : Dt K F v (.tuple ds)) : ∃ a vs, v = .ref a ∧ SqT K F a vs ∧ Dts K F vs ds := by
  cases h with | tup h a => exact ⟨_, _, rfl, h, a⟩
theorem Dts.len : ∀ {vs : List V} {ds : List PyData}, Dts K F vs ds → vs.length = ds.length
  | _, _, .nil => rfl
  | _, _, .cons _ t => by simp [Dts.len t]
theorem Dts.get : ∀ {vs : List V} {ds : List PyData} {i : Nat} {v : V}, Dts K F vs ds → vs[i]? = some v → ∃ d, ds[i]? = some d ∧ Dt K F v d
  | _, _, _, _, .nil, e => by simp at e
  | _, _, 0, _, .cons h _, e => by simp at e; subst e; exact ⟨_, rfl, h⟩
  | _, _, i + 1, v, .cons _ t, e => by
    obtain ⟨d, h1, h2⟩ := Dts.get (i := i) (v := v) t (by simpa using e)
    exact ⟨d, by simpa using h1, h2⟩
theorem Dts.get2 : ∀ {vs : List V} {ds : List PyData} {i : Nat} {d : PyData}, Dts K F vs ds → ds[i]? = some d → ∃ v, vs[i]? = some v ∧ Dt K F v d
  | _, _, _, _, .nil, e => by simp at e
  | _, _, 0, _, .cons h _, e => by simp at e; subst e; exact ⟨_, rfl, h⟩
  | _, _, i + 1, d, .cons _ t, e => by
    obtain ⟨v, h1, h2⟩ := Dts.get2 (i := i) (d := d) t (by simpa using e)
    exact ⟨v, by simpa using h1, h2⟩
theorem Dts.app : ∀ {vs ws : List V} {ds es : List PyData}, Dts K F vs ds → Dts K F ws es → Dts K F (vs ++ ws) (ds ++ es)
  | _, _, _, _, .nil, s => s
  | _, _, _, _, .cons h t, s => .cons h (Dts.app t s)
theorem Dts.drop : ∀ {vs : List V} {ds : List PyData} (n : Nat), Dts K F vs ds → Dts K F (vs.drop n) (ds.drop n)
  | _, _, 0, h => h
  | _, _, _ + 1, .nil => .nil
  | _, _, n + 1, .cons _ t => Dts.drop n t
theorem Dts.take : ∀ {vs : List V} {ds : List PyData} (n : Nat), Dts K F vs ds → Dts K F (vs.take n) (ds.take n)
  | _, _, 0, _ => .nil
  | _, _, _ + 1, .nil => .nil
  | _, _, n + 1, .cons h t => .cons h (Dts.take n t)
theorem Dts.setAt : ∀ {vs : List V} {ds : List PyData} {v : V} {d : PyData} (n : Nat), Dts K F vs ds → Dt K F v d → Dts K F (vs.set n v) (ds.set n d)
  | _, _, _, _, _, .nil, _ => .nil
  | _, _, _, _, 0, .cons _ t, k => .cons k t
  | _, _, _, _, n + 1, .cons h t, k => .cons h (Dts.setAt n t k)
theorem Dts.rep {vs : List V} {ds : List PyData} (h : Dts K F vs ds) : ∀ n : Nat, Dts K F (List.replicate n vs).flatten (List.replicate n ds).flatten
  | 0 => .nil
  | n + 1 => by rw [List.replicate_succ, List.replicate_succ, List.flatten_cons, List.flatten_cons]; exact h.app (Dts.rep h n)
theorem Dts.hd {vs : List V} {d : PyData} {ds : List PyData} (h : Dts K F vs (d :: ds)) : ∃ v ws, vs = v :: ws ∧ Dt K F v d ∧ Dts K F ws ds := by
  cases h with | cons h t => exact ⟨_, _, rfl, h, t⟩
theorem Dts.no {vs : List V} (h : Dts K F vs []) : vs = [] := by cases h; rfl
theorem Dts.one {vs : List V} {d : PyData} (h : Dts K F vs [d]) : ∃ v, vs = [v] ∧ Dt K F v d := by
  cases h with | cons h t => cases t; exact ⟨_, rfl, h⟩
theorem Dts.two {vs : List V} {d e : PyData} (h : Dts K F vs [d, e]) : ∃ v w, vs = [v, w] ∧ Dt K F v d ∧ Dt K F w e := by
  cases h with | cons h t => obtain ⟨w, rfl, k⟩ := t.one; exact ⟨_, _, rfl, h, k⟩
theorem Dts.three {vs : List V} {d e f : PyData} (h : Dts K F vs [d, e, f]) : ∃ v w z, vs = [v, w, z] ∧ Dt K F v d ∧ Dt K F w e ∧ Dt K F z f := by
  cases h with | cons h t => obtain ⟨w, z, rfl, k, l⟩ := t.two; exact ⟨_, _, _, rfl, h, k, l⟩
theorem Dts.four {vs : List V} {d e f g : PyData} (h : Dts K F vs [d, e, f, g]) : ∃ v w z y, vs = [v, w, z, y] ∧ Dt K F v d ∧ Dt K F w e ∧ Dt K F z f ∧ Dt K F y g := by
  cases h with | cons h t => obtain ⟨w, z, y, rfl, k, l, m⟩ := t.three; exact ⟨_, _, _, _, rfl, h, k, l, m⟩
theorem Dts.ints : ∀ {xs : List Int} {vs : List V}, Dts K F vs (xs.map .int) → vs = xs.map V.int
  | [], _, h => by cases h; rfl
  | x :: xs, _, h => by
    cases h with | cons h t => rw [h.toInt, Dts.ints t]; rfl
theorem Dts.bls : ∀ {xs : List Bool} {vs : List V}, Dts K F vs (xs.map .bool) → vs = xs.map V.bl
  | [], _, h => by cases h; rfl
  | x :: xs, _, h => by
    cases h with | cons h t => rw [h.toBl, Dts.bls t]; rfl
theorem Dts.strs : ∀ {xs : List Str} {vs : List V}, Dts K F vs (xs.map .str) → vs = xs.map V.str
  | [], _, h => by cases h; rfl
  | x :: xs, _, h => by
    cases h with | cons h t => rw [h.toStr, Dts.strs t]; rfl
theorem Dts.of_ints : ∀ xs : List Int, Dts K F (xs.map V.int) (xs.map .int)
  | [] => .nil
  | x :: xs => .cons (.int x) (Dts.of_ints xs)
theorem Dts.of_strs : ∀ xs : List Str, Dts K F (xs.map V.str) (xs.map .str)
  | [] => .nil
  | x :: xs => .cons (.str x) (Dts.of_strs xs)
theorem Dts.of_bls : ∀ xs : List Bool, Dts K F (xs.map V.bl) (xs.map .bool)
  | [] => .nil
  | x :: xs => .cons (.bl x) (Dts.of_bls xs)
mutual
theorem Dt.dp : ∀ {v : V} {d : PyData}, Dt K F v d → d.canLay0 = true → Dp K F v d
  | _, _, .non, _ => .non
  | _, _, .bl b, _ => .bl b
  | _, _, .int i, _ => .int i
  | _, _, .str x, _ => .str x
  | _, _, .lst h a, z => .lst h (Dts.dp a (by simpa [PyData.canLay0] using z))
  | _, _, .tup h a, z => .tup h (Dts.dp a (by simpa [PyData.canLay0] using z))
  | _, _, .dct h, z => by simp [PyData.canLay0] at z
theorem Dts.dp : ∀ {vs : List V} {ds : List PyData}, Dts K F vs ds → PyData.canLayAll0 ds = true → DpAll K F vs ds
  | _, _, .nil, _ => .nil
  | _, _, .cons h t, z => by
    rw [PyData.canLayAll0, Bool.and_eq_true] at z
    exact .cons (Dt.dp h z.1) (Dts.dp t z.2)
end
end
end Bw

namespace Bw
open PySem L2
/-! codes -/
abbrev eI : Int → PyData := PyData.int
abbrev eB : Bool → PyData := PyData.bool
abbrev eS : Str → PyData := PyData.str
abbrev eN : Unit → PyData := fun _ => PyData.none
abbrev eD : PyData → PyData := fun d => d
abbrev eL {α : Type} (e : α → PyData) (xs : List α) : PyData := .list (xs.map e)
abbrev eT1 {α : Type} (e : α → PyData) (x : α) : PyData := .tuple [e x]
abbrev eT2 {α β : Type} (e : α → PyData) (f : β → PyData) (x : α × β) : PyData := .tuple [e x.1, f x.2]
abbrev eT3 {α β γ : Type} (e : α → PyData) (f : β → PyData) (g : γ → PyData) (x : α × β × γ) : PyData := .tuple [e x.1, f x.2.1, g x.2.2]
abbrev eT4 {α β γ δ : Type} (e : α → PyData) (f : β → PyData) (g : γ → PyData) (h : δ → PyData) (x : α × β × γ × δ) : PyData := .tuple [e x.1, f x.2.1, g x.2.2.1, h x.2.2.2]
def eO {α : Type} (e : α → PyData) : Option α → PyData
  | none => .none
  | some x => e x
def oV {α : Type} (f : α → V) : Option α → V
  | none => .non
  | some x => f x
/-! what may fail -/
def mulM (a b : Int) : Option Int := if (-(2 ^ 64) < a ∧ a < 2 ^ 64) ∨ (-(2 ^ 64) < b ∧ b < 2 ^ 64) then some (a * b) else none
def modM (a b : Int) : Option Int := if 0 < b then some (a % b) else none
def fdivM (a b : Int) : Option Int := if 0 < b ∧ b < 1073741824 then some (a / b) else none
def powM (a b : Int) : Option Int := if 0 ≤ b ∧ b ≤ 1000000 ∧ a.natAbs < 2 ^ 64 then some (a ^ b.toNat) else none
def appM {α : Type} (xs : List α) (x : α) : Option (List α) := if xs.length < 100000 then some (xs ++ [x]) else none
def catM {α : Type} (xs ys : List α) : Option (List α) := if xs.length + ys.length ≤ 100000 then some (xs ++ ys) else none
def repM {α : Type} (xs : List α) (k : Int) : Option (List α) := if -(2 ^ 63) ≤ k ∧ k < 2 ^ 63 ∧ xs.length * k.toNat ≤ 100000 then some (List.replicate k.toNat xs).flatten else none
def scatM (x y : Str) : Option Str := if x.length + y.length ≤ 100000 then some (x ++ y) else none
def lenS (x : Str) : Option Int := if x.length ≤ 100000 then some (x.length : Int) else none
def ixS (x : Str) (i : Int) : Option Str := if x.length ≤ 100000 then (atI x.cps.toList i).map (fun c => ⟨#[c]⟩) else none
def cutL {α : Type} (xs : List α) (lo hi : Option Int) : List α := (xs.drop (HT.sIx xs.length 0 lo)).take (HT.sIx xs.length xs.length hi - HT.sIx xs.length 0 lo)
def rngL (a b : Int) : List Int := (List.range (b - a).toNat).map fun (i : Nat) => a + ((i : Nat) : Int)
def rngM (a b : Int) : Option (List Int) := if -(2 ^ 62) ≤ a ∧ a < 2 ^ 62 ∧ -(2 ^ 62) ≤ b ∧ b < 2 ^ 62 then some (rngL a b) else none
def setM {α : Type} (xs : List α) (i : Int) (x : α) : Option (List α) := (ixN xs.length i).map fun j => xs.set j x
def strM (n : Int) : Option Str := if n.natAbs.log2 < 1920 then some (toString n) else none
def b2I (b : Bool) : Int := if b then 1 else 0
def absI (i : Int) : Int := if i < 0 then -i else i
def maxI (i j : Int) : Int := if j > i then j else i
def minI (i j : Int) : Int := if j < i then j else i
def signs (x : Str) : List Str := x.cps.toList.map fun c => ⟨#[c]⟩
def enumM {α : Type} (xs : List α) : List (Int × α) := xs.mapIdx fun i x => ((i : Int), x)
def inS (x y : Str) : Bool := !(Builtin.Str.occurrences y x 0 y.length 1).isEmpty
def letM {α β : Type} (x : α) (f : α → β) : β := f x
theorem sz {n : Nat} (h : n ≤ 100000) : n ≤ sizeLine := Nat.le_trans h (by decide)
theorem szl {n : Nat} (h : n < 100000) : n < sizeLine := Nat.lt_of_lt_of_le h (by decide)
theorem mulM_some {a b c : Int} (h : mulM a b = some c) : CMul a b ∧ a * b = c := by
  unfold mulM at h; split at h
  · rename_i q; exact ⟨q, Option.some.inj h⟩
  · cases h
theorem modM_some {a b c : Int} (h : modM a b = some c) : 0 < b ∧ a % b = c := by
  unfold modM at h; split at h
  · rename_i q; exact ⟨q, Option.some.inj h⟩
  · cases h
theorem fdivM_some {a b c : Int} (h : fdivM a b = some c) : CDiv a b ∧ a / b = c := by
  unfold fdivM at h; split at h
  · rename_i q; exact ⟨q, Option.some.inj h⟩
  · cases h
theorem powM_some {a b c : Int} (h : powM a b = some c) : CPow a b ∧ a ^ b.toNat = c := by
  unfold powM at h; split at h
  · rename_i q; exact ⟨q, Option.some.inj h⟩
  · cases h
theorem appM_some {α : Type} {xs ys : List α} {x : α} (h : appM xs x = some ys) : xs.length < 100000 ∧ xs ++ [x] = ys := by
  unfold appM at h; split at h
  · rename_i q; exact ⟨q, Option.some.inj h⟩
  · cases h
theorem catM_some {α : Type} {xs ys zs : List α} (h : catM xs ys = some zs) : xs.length + ys.length ≤ 100000 ∧ xs ++ ys = zs := by
  unfold catM at h; split at h
  · rename_i q; exact ⟨q, Option.some.inj h⟩
  · cases h
theorem repM_some {α : Type} {xs zs : List α} {k : Int} (h : repM xs k = some zs) : (-(2 ^ 63) ≤ k ∧ k < 2 ^ 63 ∧ xs.length * k.toNat ≤ 100000) ∧ (List.replicate k.toNat xs).flatten = zs := by
  unfold repM at h; split at h
  · rename_i q; exact ⟨q, Option.some.inj h⟩
  · cases h
theorem scatM_some {x y z : Str} (h : scatM x y = some z) : x.length + y.length ≤ 100000 ∧ x ++ y = z := by
  unfold scatM at h; split at h
  · rename_i q; exact ⟨q, Option.some.inj h⟩
  · cases h
theorem lenS_some {x : Str} {n : Int} (h : lenS x = some n) : x.length ≤ 100000 ∧ (x.length : Int) = n := by
  unfold lenS at h; split at h
  · rename_i q; exact ⟨q, Option.some.inj h⟩
  · cases h
theorem strM_some {x : Int} {n : Str} (h : strM x = some n) : x.natAbs.log2 < 1920 ∧ toString x = n := by
  unfold strM at h; split at h
  · rename_i q; exact ⟨q, Option.some.inj h⟩
  · cases h
theorem ixS_some {x z : Str} {i : Int} (h : ixS x i = some z) : x.length ≤ 100000 ∧ ∃ c, atI x.cps.toList i = some c ∧ z = ⟨#[c]⟩ := by
  unfold ixS at h; split at h
  · rename_i q
    refine ⟨q, ?_⟩
    cases e : atI x.cps.toList i with
    | none => rw [e] at h; cases h
    | some c => rw [e] at h; exact ⟨c, rfl, (Option.some.inj h).symm⟩
  · cases h
theorem rngM_some {a b : Int} {xs : List Int} (h : rngM a b = some xs) : (-(2 ^ 62) ≤ a ∧ a < 2 ^ 62 ∧ -(2 ^ 62) ≤ b ∧ b < 2 ^ 62) ∧ rngL a b = xs := by
  unfold rngM at h; split at h
  · rename_i q; exact ⟨q, Option.some.inj h⟩
  · cases h
theorem setM_some {α : Type} {xs ys : List α} {i : Int} {x : α} (h : setM xs i x = some ys) : ∃ j, ixN xs.length i = some j ∧ ys = xs.set j x := by
  unfold setM at h
  cases e : ixN xs.length i with
  | none => rw [e] at h; cases h
  | some j => rw [e] at h; exact ⟨j, rfl, (Option.some.inj h).symm⟩
theorem atI_map {α β : Type} (f : α → β) (xs : List α) (i : Int) : atI (xs.map f) i = (atI xs i).map f := by
  unfold atI
  rw [List.length_map]
  cases ixN xs.length i with
  | none => rfl
  | some j => simp
theorem cutL_map {α β : Type} (f : α → β) (xs : List α) (lo hi : Option Int) : cutL (xs.map f) lo hi = (cutL xs lo hi).map f := by
  unfold cutL
  simp [List.map_take, List.map_drop]
theorem bnd {α β : Type} {a : Option α} {f : α → Option β} {r : β} (h : a.bind f = some r) : ∃ x, a = some x ∧ f x = some r := by
  cases a with
  | none => cases h
  | some x => exact ⟨x, rfl, h⟩
theorem lt {α β : Type} {a : α} {f : α → Option β} {r : β} (h : letM a f = some r) : ∃ x, a = x ∧ f x = some r := ⟨a, rfl, h⟩
theorem sm {α : Type} {x y : α} (h : some x = some y) : x = y := Option.some.inj h

/-! triples -/
def Ev (te : TE) (σ : St) (F : Hp) (cs : Cs) (Φ : V → Hp → Prop) (cs' : Cs) : Prop :=
  ∀ F1 H1, Gr F F1 → Sta F1 cs H1 → ∀ Q : VK, (∀ v F2 H2, Gr F1 F2 → Sta F2 cs' H2 → Φ v F2 → Q v H2) → te σ H1 Q
def EvT (tt : TT) (σ : St) (F : Hp) (cs : Cs) (b : Bool) (cs' : Cs) : Prop :=
  ∀ F1 H1, Gr F F1 → Sta F1 cs H1 → ∀ Q : Bool → Hp → Prop, (∀ F2 H2, Gr F1 F2 → Sta F2 cs' H2 → Q b H2) → tt σ H1 Q
def EvA (ta : TA) (σ : St) (F : Hp) (cs : Cs) (Φ : List V → Hp → Prop) (cs' : Cs) : Prop :=
  ∀ F1 H1, Gr F F1 → Sta F1 cs H1 → ∀ Q : List V → Hp → Prop, (∀ vs F2 H2, Gr F1 F2 → Sta F2 cs' H2 → Φ vs F2 → Q vs H2) → ta σ H1 Q
def EvO (to : TO) (σ : St) (F : Hp) (cs : Cs) (o : Option Int) (cs' : Cs) : Prop :=
  ∀ F1 H1, Gr F F1 → Sta F1 cs H1 → ∀ Q : Option Int → Hp → Prop, (∀ F2 H2, Gr F1 F2 → Sta F2 cs' H2 → Q o H2) → to σ H1 Q
abbrev EvD (K : PySem.W.Frag) (te : TE) (σ : St) (F : Hp) (cs : Cs) (d : PyData) (cs' : Cs) : Prop := Ev te σ F cs (fun v F' => Dt K F' v d) cs'
abbrev EvDs (K : PySem.W.Frag) (ta : TA) (σ : St) (F : Hp) (cs : Cs) (ds : List PyData) (cs' : Cs) : Prop := EvA ta σ F cs (fun vs F' => Dts K F' vs ds) cs'
def Src (K : PySem.W.Frag) (J : It) (F : Hp) (ds : List PyData) : Prop := ∀ F1 c1 H1, Gr F F1 → Sta F1 c1 H1 →
  (∀ i, i < ds.length → J.go i H1) ∧ J.stop ds.length H1 ∧ ∀ i v H2 d, ds[i]? = some d → J.yld i H1 v H2 → ∃ F2, Gr F1 F2 ∧ Sta F2 c1 H2 ∧ Dt K F2 v d
def EvI (K : PySem.W.Frag) (wi : TI) (σ : St) (F : Hp) (cs : Cs) (ds : List PyData) (cs' : Cs) : Prop :=
  ∀ F1 H1, Gr F F1 → Sta F1 cs H1 → ∀ R : It → Hp → Prop, (∀ J F2 H2, Gr F1 F2 → Sta F2 cs' H2 → Src K J F2 ds → R J H2) → wi σ H1 R
section
variable {K : PySem.W.Frag} {σ : St} {F F' : Hp} {cs cs1 cs2 cs3 : Cs} {ta tb tc te : TE} {d e : PyData} {as : TA}
theorem Ev.gr {Φ : V → Hp → Prop} (g : Gr F F') (h : Ev te σ F cs Φ cs1) : Ev te σ F' cs Φ cs1 := fun F1 H1 g1 s Q q => h F1 H1 (g.tr g1) s Q q
theorem d_is (h : EvD K te σ F cs d cs1) (q : d = e) : EvD K te σ F cs e cs1 := q ▸ h
theorem d_var {i : Nat} {v : V} (h : σ[i]? = some (some v)) (hd : Dt K F v d) : EvD K (tVar i) σ F cs d cs := fun F1 H1 g s Q q => ⟨v, h, q v F1 H1 .rfl s (Dt.gr g hd)⟩
theorem d_int {i : Int} : EvD K (tC (.int i)) σ F cs (.int i) cs := fun F1 H1 g s Q q => q _ F1 H1 .rfl s (.int i)
theorem d_bl {b : Bool} : EvD K (tC (.bl b)) σ F cs (.bool b) cs := fun F1 H1 g s Q q => q _ F1 H1 .rfl s (.bl b)
theorem d_str {x : Str} : EvD K (tC (.str x)) σ F cs (.str x) cs := fun F1 H1 g s Q q => q _ F1 H1 .rfl s (.str x)
theorem d_non : EvD K (tC .non) σ F cs .none cs := fun F1 H1 g s Q q => q _ F1 H1 .rfl s .non
/-- two operands -/
theorem d_op {r : R2} {z : PyData} (ha : EvD K ta σ F cs d cs1) (hb : EvD K tb σ F cs1 e cs2) (hr : ∀ x y F2 H2, Dt K F2 x d → Dt K F2 y e → Sta F2 cs2 H2 → Gr F F2 → ∀ Q : VK, (∀ v F3 H3, Gr F2 F3 → Sta F3 cs3 H3 → Dt K F3 v z → Q v H3) → r x y H2 Q) : EvD K (tOp r ta tb) σ F cs z cs3 := fun F1 H1 g1 s Q q =>
  ha F1 H1 g1 s _ fun v F2 H2 g2 s2 h2 => hb F2 H2 (g1.tr g2) s2 _ fun w F3 H3 g3 s3 h3 => hr v w F3 H3 (Dt.gr g3 h2) h3 s3 ((g1.tr g2).tr g3) Q fun v F4 H4 g4 s4 h4 => q v F4 H4 ((g2.tr g3).tr g4) s4 h4
theorem d_I0 {g : Int → Int → V} {a b : Int} {z : PyData} (ha : EvD K ta σ F cs (.int a) cs1) (hb : EvD K tb σ F cs1 (.int b) cs2) (hz : ∀ F, Dt K F (g a b) z) : EvD K (tOp (rI0 g) ta tb) σ F cs z cs2 :=
  d_op ha hb fun x y F2 H2 hx hy s _ Q q => by
    cases hx.toInt; cases hy.toInt
    exact ⟨a, b, rfl, rfl, q _ F2 H2 .rfl s (hz _)⟩
theorem d_I {C : Int → Int → Prop} {g : Int → Int → V} {a b : Int} {z : PyData} (ha : EvD K ta σ F cs (.int a) cs1) (hb : EvD K tb σ F cs1 (.int b) cs2) (hc : C a b) (hz : ∀ F, Dt K F (g a b) z) : EvD K (tOp (rI C g) ta tb) σ F cs z cs2 :=
  d_op ha hb fun x y F2 H2 hx hy s _ Q q => by
    cases hx.toInt; cases hy.toInt
    exact ⟨a, b, rfl, rfl, hc, q _ F2 H2 .rfl s (hz _)⟩
variable {a b c : Int}
theorem d_add (ha : EvD K ta σ F cs (.int a) cs1) (hb : EvD K tb σ F cs1 (.int b) cs2) : EvD K (tOp (rI0 fun i j => .int (i + j)) ta tb) σ F cs (.int (a + b)) cs2 := d_I0 ha hb fun _ => .int _
theorem d_sub (ha : EvD K ta σ F cs (.int a) cs1) (hb : EvD K tb σ F cs1 (.int b) cs2) : EvD K (tOp (rI0 fun i j => .int (i - j)) ta tb) σ F cs (.int (a - b)) cs2 := d_I0 ha hb fun _ => .int _
theorem d_lt (ha : EvD K ta σ F cs (.int a) cs1) (hb : EvD K tb σ F cs1 (.int b) cs2) : EvD K (tOp (rI0 fun i j => .bl (decide (i < j))) ta tb) σ F cs (.bool (decide (a < b))) cs2 := d_I0 ha hb fun _ => .bl _
theorem d_le (ha : EvD K ta σ F cs (.int a) cs1) (hb : EvD K tb σ F cs1 (.int b) cs2) : EvD K (tOp (rI0 fun i j => .bl (decide (i ≤ j))) ta tb) σ F cs (.bool (decide (a ≤ b))) cs2 := d_I0 ha hb fun _ => .bl _
theorem d_gt (ha : EvD K ta σ F cs (.int a) cs1) (hb : EvD K tb σ F cs1 (.int b) cs2) : EvD K (tOp (rI0 fun i j => .bl (decide (j < i))) ta tb) σ F cs (.bool (decide (b < a))) cs2 := d_I0 ha hb fun _ => .bl _
theorem d_ge (ha : EvD K ta σ F cs (.int a) cs1) (hb : EvD K tb σ F cs1 (.int b) cs2) : EvD K (tOp (rI0 fun i j => .bl (decide (j ≤ i))) ta tb) σ F cs (.bool (decide (b ≤ a))) cs2 := d_I0 ha hb fun _ => .bl _
theorem d_mul (ha : EvD K ta σ F cs (.int a) cs1) (hb : EvD K tb σ F cs1 (.int b) cs2) (hc : mulM a b = some c) : EvD K (tOp (rI CMul fun i j => .int (i * j)) ta tb) σ F cs (.int c) cs2 := (mulM_some hc).2 ▸ d_I ha hb (mulM_some hc).1 fun _ => .int _
theorem d_mod (ha : EvD K ta σ F cs (.int a) cs1) (hb : EvD K tb σ F cs1 (.int b) cs2) (hc : modM a b = some c) : EvD K (tOp (rI (fun _ j => 0 < j) fun i j => .int (i % j)) ta tb) σ F cs (.int c) cs2 := (modM_some hc).2 ▸ d_I (C := fun _ j => 0 < j) ha hb (modM_some hc).1 fun _ => .int _
theorem d_fdiv (ha : EvD K ta σ F cs (.int a) cs1) (hb : EvD K tb σ F cs1 (.int b) cs2) (hc : fdivM a b = some c) : EvD K (tOp (rI CDiv fun i j => .int (i / j)) ta tb) σ F cs (.int c) cs2 := (fdivM_some hc).2 ▸ d_I ha hb (fdivM_some hc).1 fun _ => .int _
theorem d_pow (ha : EvD K ta σ F cs (.int a) cs1) (hb : EvD K tb σ F cs1 (.int b) cs2) (hc : powM a b = some c) : EvD K (tOp (rI CPow fun i j => .int (i ^ j.toNat)) ta tb) σ F cs (.int c) cs2 := (powM_some hc).2 ▸ d_I ha hb (powM_some hc).1 fun _ => .int _
theorem d_neg (ha : EvD K ta σ F cs (.int a) cs1) : EvD K (tUn (rU fun i => .int (-i)) ta) σ F cs (.int (-a)) cs1 := fun F1 H1 g1 s Q q =>
  ha F1 H1 g1 s _ fun v F2 H2 g2 s2 h2 => ⟨a, h2.toInt, q _ F2 H2 g2 s2 (.int _)⟩
/-- arguments -/
theorem a_nil : EvDs K tNil σ F cs [] cs := fun F1 H1 g s Q q => q [] F1 H1 .rfl s .nil
theorem a_cons {tr : TA} {ds : List PyData} (h : EvD K ta σ F cs d cs1) (hr : EvDs K tr σ F cs1 ds cs2) : EvDs K (tCons ta tr) σ F cs (d :: ds) cs2 := fun F1 H1 g1 s Q q =>
  h F1 H1 g1 s _ fun v F2 H2 g2 s2 h2 => hr F2 H2 (g1.tr g2) s2 _ fun vs F3 H3 g3 s3 h3 => q (v :: vs) F3 H3 (g2.tr g3) s3 (.cons (Dt.gr g3 h2) h3)
/-- a built-in's call -/
theorem d_cb {r : List V → Hp → VK → Prop} {ds : List PyData} {z : PyData} (ha : EvDs K as σ F cs ds cs1) (hr : ∀ vs F2 H2, Dts K F2 vs ds → Sta F2 cs1 H2 → ∀ Q : VK, (∀ v F3 H3, Gr F2 F3 → Sta F3 cs1 H3 → Dt K F3 v z → Q v H3) → r vs H2 Q) : EvD K (tCB r as) σ F cs z cs1 := fun F1 H1 g1 s Q q =>
  ha F1 H1 g1 s _ fun vs F2 H2 g2 s2 h2 => hr vs F2 H2 h2 s2 Q fun v F3 H3 g3 s3 h3 => q v F3 H3 (g2.tr g3) s3 h3
theorem d_abs (ha : EvDs K as σ F cs [.int a] cs1) : EvD K (tCB (fun xs H Q => ∃ i, xs = [.int i] ∧ Q (.int (if i < 0 then -i else i)) H) as) σ F cs (.int (absI a)) cs1 := d_cb ha fun vs F2 H2 h s Q q => by
  obtain ⟨v, rfl, k1⟩ := h.one; cases k1.toInt
  exact ⟨a, rfl, q _ F2 H2 .rfl s (.int _)⟩
theorem d_max2 (ha : EvDs K as σ F cs [.int a, .int b] cs1) : EvD K (tCB (fun xs H Q => ∃ i j, xs = [.int i, .int j] ∧ Q (.int (if j > i then j else i)) H) as) σ F cs (.int (maxI a b)) cs1 := d_cb ha fun vs F2 H2 h s Q q => by
  obtain ⟨v, w, rfl, k1, k2⟩ := h.two; cases k1.toInt; cases k2.toInt
  exact ⟨a, b, rfl, q _ F2 H2 .rfl s (.int _)⟩
theorem d_min2 (ha : EvDs K as σ F cs [.int a, .int b] cs1) : EvD K (tCB (fun xs H Q => ∃ i j, xs = [.int i, .int j] ∧ Q (.int (if j < i then j else i)) H) as) σ F cs (.int (minI a b)) cs1 := d_cb ha fun vs F2 H2 h s Q q => by
  obtain ⟨v, w, rfl, k1, k2⟩ := h.two; cases k1.toInt; cases k2.toInt
  exact ⟨a, b, rfl, q _ F2 H2 .rfl s (.int _)⟩
theorem d_lenL {ds : List PyData} (ha : EvDs K as σ F cs [.list ds] cs1) : EvD K (tCB (fun xs H Q => ∃ p ys, xs = [.ref p] ∧ (SqL K H p ys ∨ SqT K H p ys) ∧ Q (.int ys.length) H) as) σ F cs (.int ds.length) cs1 := d_cb ha fun vs F2 H2 h s Q q => by
  obtain ⟨v, rfl, k1⟩ := h.one
  obtain ⟨p, ys, rfl, hl, hd⟩ := k1.toLst
  exact ⟨p, ys, rfl, .inl (gr_L s.fr hl), q _ F2 H2 .rfl s (by rw [hd.len]; exact .int _)⟩
theorem d_len {α : Type} {e : α → PyData} {xs : List α} (ha : EvDs K as σ F cs [eL e xs] cs1) : EvD K (tCB (fun xs H Q => ∃ p ys, xs = [.ref p] ∧ (SqL K H p ys ∨ SqT K H p ys) ∧ Q (.int ys.length) H) as) σ F cs (.int xs.length) cs1 := by
  have := d_lenL ha
  rw [List.length_map] at this
  exact this
theorem d_lenT {ds : List PyData} (ha : EvDs K as σ F cs [.tuple ds] cs1) : EvD K (tCB (fun xs H Q => ∃ p ys, xs = [.ref p] ∧ (SqL K H p ys ∨ SqT K H p ys) ∧ Q (.int ys.length) H) as) σ F cs (.int ds.length) cs1 := d_cb ha fun vs F2 H2 h s Q q => by
  obtain ⟨v, rfl, k1⟩ := h.one
  obtain ⟨p, ys, rfl, hl, hd⟩ := k1.toTup
  exact ⟨p, ys, rfl, .inr (gr_T s.fr hl), q _ F2 H2 .rfl s (by rw [hd.len]; exact .int _)⟩
theorem d_lenS {x : Str} {n : Int} (ha : EvDs K as σ F cs [.str x] cs1) (hn : lenS x = some n) : EvD K (tCB (fun xs H Q => ∃ z, xs = [.str z] ∧ z.length ≤ sizeLine ∧ Q (.int z.length) H) as) σ F cs (.int n) cs1 := d_cb ha fun vs F2 H2 h s Q q => by
  obtain ⟨v, rfl, k1⟩ := h.one; cases k1.toStr
  obtain ⟨h1, rfl⟩ := lenS_some hn
  exact ⟨x, rfl, sz h1, q _ F2 H2 .rfl s (.int _)⟩
theorem d_intB {b : Bool} (ha : EvDs K as σ F cs [.bool b] cs1) : EvD K (tCB (fun xs H Q => (∃ i, xs = [.int i] ∧ Q (.int i) H) ∨ ∃ k, xs = [.bl k] ∧ Q (.int (if k then 1 else 0)) H) as) σ F cs (.int (b2I b)) cs1 := d_cb ha fun vs F2 H2 h s Q q => by
  obtain ⟨v, rfl, k1⟩ := h.one; cases k1.toBl
  exact .inr ⟨b, rfl, q _ F2 H2 .rfl s (.int _)⟩
theorem d_strI {x : Str} (ha : EvDs K as σ F cs [.int a] cs1) (hn : strM a = some x) : EvD K (tCB (fun xs H Q => ∃ i, xs = [.int i] ∧ i.natAbs.log2 < 1920 ∧ Q (.str (toString i)) H) as) σ F cs (.str x) cs1 := d_cb ha fun vs F2 H2 h s Q q => by
  obtain ⟨v, rfl, k1⟩ := h.one; cases k1.toInt
  obtain ⟨h1, rfl⟩ := strM_some hn
  exact ⟨a, rfl, h1, q _ F2 H2 .rfl s (.str _)⟩
theorem d_sum {xs : List Int} (ha : EvDs K as σ F cs [eL eI xs] cs1) : EvD K (tCB (rSum K) as) σ F cs (.int xs.sum) cs1 := d_cb ha fun vs F2 H2 h s Q q => by
  obtain ⟨v, rfl, k1⟩ := h.one
  obtain ⟨p, ys, rfl, hl, hd⟩ := k1.toLst
  cases hd.ints
  exact ⟨p, xs, rfl, gr_L s.fr hl, q _ F2 H2 .rfl s (.int _)⟩
theorem d_all {xs : List Bool} (ha : EvDs K as σ F cs [eL eB xs] cs1) : EvD K (tCB (rAll K) as) σ F cs (.bool (xs.all id)) cs1 := d_cb ha fun vs F2 H2 h s Q q => by
  obtain ⟨v, rfl, k1⟩ := h.one
  obtain ⟨p, ys, rfl, hl, hd⟩ := k1.toLst
  cases hd.bls
  exact ⟨p, xs, rfl, gr_L s.fr hl, q _ F2 H2 .rfl s (.bl _)⟩
theorem d_any {xs : List Bool} (ha : EvDs K as σ F cs [eL eB xs] cs1) : EvD K (tCB (rAny K) as) σ F cs (.bool (xs.any id)) cs1 := d_cb ha fun vs F2 H2 h s Q q => by
  obtain ⟨v, rfl, k1⟩ := h.one
  obtain ⟨p, ys, rfl, hl, hd⟩ := k1.toLst
  cases hd.bls
  exact ⟨p, xs, rfl, gr_L s.fr hl, q _ F2 H2 .rfl s (.bl _)⟩
theorem d_listL {ds : List PyData} (ha : EvDs K as σ F cs [.list ds] cs1) : EvD K (tCB (fun xs H Q => ∃ p ys, xs = [.ref p] ∧ (SqL K H p ys ∨ SqT K H p ys) ∧ ∀ l, H l = none → Q (.ref l) (upd H l (.lst ys))) as) σ F cs (.list ds) cs1 := d_cb ha fun vs F2 H2 h s Q q => by
  obtain ⟨v, rfl, k1⟩ := h.one
  obtain ⟨p, ys, rfl, hl, hd⟩ := k1.toLst
  exact ⟨p, ys, rfl, .inl (gr_L s.fr hl), fun l nl => q _ _ _ (Gr.new (s.fr.back nl)) (s.lay nl) (.lst (.inl (.inl upd_same)) (hd.gr (Gr.new (s.fr.back nl))))⟩
/-- a new list, a new tuple -/
theorem d_lst {ds : List PyData} (h : EvDs K as σ F cs ds cs1) (hl : ds.length ≤ 100000) : EvD K (tLst as) σ F cs (.list ds) cs1 := fun F1 H1 g1 s Q q =>
  h F1 H1 g1 s _ fun vs F2 H2 g2 s2 h2 => ⟨h2.len.symm ▸ sz hl, fun p hp => q _ _ _ (g2.tr (Gr.new (s2.fr.back hp))) (s2.lay hp) (.lst (.inl (.inl upd_same)) (h2.gr (Gr.new (s2.fr.back hp))))⟩
theorem d_tup {ds : List PyData} (h : EvDs K as σ F cs ds cs1) (hl : ds.length ≤ 100000) : EvD K (tTup as) σ F cs (.tuple ds) cs1 := fun F1 H1 g1 s Q q =>
  h F1 H1 g1 s _ fun vs F2 H2 g2 s2 h2 => ⟨h2.len.symm ▸ sz hl, fun p hp => q _ _ _ (g2.tr (Gr.new (s2.fr.back hp))) (s2.lay hp) (.tup (.inl (.inl upd_same)) (h2.gr (Gr.new (s2.fr.back hp))))⟩
/-- items -/
theorem d_ixLs {ds : List PyData} {z : PyData} (ha : EvD K ta σ F cs (.list ds) cs1) (hb : EvD K tb σ F cs1 (.int b) cs2) (hz : atI ds b = some z) : EvD K (tOp (rIxL K) ta tb) σ F cs z cs2 :=
  d_op ha hb fun x y F2 H2 hx hy s _ Q q => by
    obtain ⟨p, vs, rfl, hl, hd⟩ := hx.toLst; cases hy.toInt
    unfold atI at hz
    rw [← hd.len] at hz
    cases e : ixN vs.length b with
    | none => rw [e] at hz; cases hz
    | some j =>
      rw [e] at hz
      obtain ⟨v, h1, h2⟩ := hd.get2 (show ds[j]? = some z from hz)
      exact ⟨p, vs, b, v, rfl, rfl, gr_L s.fr hl, by unfold atI; rw [e]; exact h1, q v F2 H2 .rfl s h2⟩
theorem d_ix {α : Type} {e : α → PyData} {xs : List α} {x : α} (ha : EvD K ta σ F cs (eL e xs) cs1) (hb : EvD K tb σ F cs1 (.int b) cs2) (hz : atI xs b = some x) : EvD K (tOp (rIxL K) ta tb) σ F cs (e x) cs2 :=
  d_ixLs ha hb (by rw [atI_map, hz]; rfl)
theorem d_ixT {ds : List PyData} {z : PyData} (ha : EvD K ta σ F cs (.tuple ds) cs1) (hb : EvD K tb σ F cs1 (.int b) cs2) (hz : atI ds b = some z) : EvD K (tOp (rIxT K) ta tb) σ F cs z cs2 :=
  d_op ha hb fun x y F2 H2 hx hy s _ Q q => by
    obtain ⟨p, vs, rfl, hl, hd⟩ := hx.toTup; cases hy.toInt
    unfold atI at hz
    rw [← hd.len] at hz
    cases e : ixN vs.length b with
    | none => rw [e] at hz; cases hz
    | some j =>
      rw [e] at hz
      obtain ⟨v, h1, h2⟩ := hd.get2 (show ds[j]? = some z from hz)
      exact ⟨p, vs, b, v, rfl, rfl, gr_T s.fr hl, by unfold atI; rw [e]; exact h1, q v F2 H2 .rfl s h2⟩
theorem d_ixS {x z : Str} (ha : EvD K ta σ F cs (.str x) cs1) (hb : EvD K tb σ F cs1 (.int b) cs2) (hz : ixS x b = some z) : EvD K (tOp rIxS ta tb) σ F cs (.str z) cs2 :=
  d_op ha hb fun v y F2 H2 hx hy s _ Q q => by
    cases hx.toStr; cases hy.toInt
    obtain ⟨h1, c, h2, rfl⟩ := ixS_some hz
    exact ⟨x, b, c, rfl, rfl, sz h1, h2, q _ F2 H2 .rfl s (.str _)⟩
/-- slices -/
theorem o_none : EvO tNoPart σ F cs none cs := fun F1 H1 g s Q q => q F1 H1 .rfl s
theorem o_some (h : EvD K te σ F cs (.int a) cs1) : EvO (tPart te) σ F cs (some a) cs1 := fun F1 H1 g1 s Q q => h F1 H1 g1 s _ fun v F2 H2 g2 s2 h2 => ⟨a, h2.toInt, q F2 H2 g2 s2⟩
theorem d_sl {α : Type} {e : α → PyData} {xs : List α} {tl th : TO} {lo hi : Option Int} (h : EvD K te σ F cs (eL e xs) cs1) (h1 : EvO tl σ F cs1 lo cs2) (h2 : EvO th σ F cs2 hi cs3) : EvD K (tSl (rSlL K) te tl th) σ F cs (eL e (cutL xs lo hi)) cs3 := fun F1 H1 g1 s Q q =>
  h F1 H1 g1 s _ fun v F2 H2 g2 s2 hv => h1 F2 H2 (g1.tr g2) s2 _ fun F3 H3 g3 s3 => h2 F3 H3 ((g1.tr g2).tr g3) s3 _ fun F4 H4 g4 s4 => by
    obtain ⟨p, vs, rfl, hl, hd⟩ := hv.toLst
    have hd' := hd.gr (g3.tr g4)
    refine ⟨p, vs, rfl, gr_L s4.fr (gr_L (g3.tr g4) hl), fun l nl => q _ _ _ ((g2.tr (g3.tr g4)).tr (Gr.new (s4.fr.back nl))) (s4.lay nl) (.lst (.inl (.inl upd_same)) ?_)⟩
    rw [← cutL_map]
    unfold cutV cutL
    rw [hd.len]
    exact ((hd'.gr (Gr.new (s4.fr.back nl))).drop _).take _
/-- == of flat things -/
theorem dec_V {α : Type} [DecidableEq α] {f : α → V} (hf : ∀ x y, f x = f y → x = y) (x y : α) : decide (f x = f y) = decide (x = y) := by
  by_cases h : x = y
  · subst h; simp
  · rw [decide_eq_false h, decide_eq_false (fun q => h (hf x y q))]
theorem d_eqI (ha : EvD K ta σ F cs (.int a) cs1) (hb : EvD K tb σ F cs1 (.int b) cs2) : EvD K (tOp rEq ta tb) σ F cs (.bool (decide (a = b))) cs2 :=
  d_op ha hb fun x y F2 H2 hx hy s _ Q q => by
    cases hx.toInt; cases hy.toInt
    exact ⟨rfl, q _ F2 H2 .rfl s (by rw [dec_V (f := V.int) (fun _ _ h => V.int.inj h)]; exact .bl _)⟩
theorem d_neI (ha : EvD K ta σ F cs (.int a) cs1) (hb : EvD K tb σ F cs1 (.int b) cs2) : EvD K (tOp rNe ta tb) σ F cs (.bool (!decide (a = b))) cs2 :=
  d_op ha hb fun x y F2 H2 hx hy s _ Q q => by
    cases hx.toInt; cases hy.toInt
    exact ⟨rfl, q _ F2 H2 .rfl s (by rw [dec_V (f := V.int) (fun _ _ h => V.int.inj h)]; exact .bl _)⟩
theorem d_eqS {x y : Str} (ha : EvD K ta σ F cs (.str x) cs1) (hb : EvD K tb σ F cs1 (.str y) cs2) : EvD K (tOp rEq ta tb) σ F cs (.bool (decide (x = y))) cs2 :=
  d_op ha hb fun _ _ F2 H2 hx hy s _ Q q => by
    cases hx.toStr; cases hy.toStr
    exact ⟨rfl, q _ F2 H2 .rfl s (by rw [dec_V (f := V.str) (fun _ _ h => V.str.inj h)]; exact .bl _)⟩
theorem d_neS {x y : Str} (ha : EvD K ta σ F cs (.str x) cs1) (hb : EvD K tb σ F cs1 (.str y) cs2) : EvD K (tOp rNe ta tb) σ F cs (.bool (!decide (x = y))) cs2 :=
  d_op ha hb fun _ _ F2 H2 hx hy s _ Q q => by
    cases hx.toStr; cases hy.toStr
    exact ⟨rfl, q _ F2 H2 .rfl s (by rw [dec_V (f := V.str) (fun _ _ h => V.str.inj h)]; exact .bl _)⟩
theorem d_eqB {x y : Bool} (ha : EvD K ta σ F cs (.bool x) cs1) (hb : EvD K tb σ F cs1 (.bool y) cs2) : EvD K (tOp rEq ta tb) σ F cs (.bool (decide (x = y))) cs2 :=
  d_op ha hb fun _ _ F2 H2 hx hy s _ Q q => by
    cases hx.toBl; cases hy.toBl
    exact ⟨rfl, q _ F2 H2 .rfl s (by rw [dec_V (f := V.bl) (fun _ _ h => V.bl.inj h)]; exact .bl _)⟩
theorem d_neB {x y : Bool} (ha : EvD K ta σ F cs (.bool x) cs1) (hb : EvD K tb σ F cs1 (.bool y) cs2) : EvD K (tOp rNe ta tb) σ F cs (.bool (!decide (x = y))) cs2 :=
  d_op ha hb fun _ _ F2 H2 hx hy s _ Q q => by
    cases hx.toBl; cases hy.toBl
    exact ⟨rfl, q _ F2 H2 .rfl s (by rw [dec_V (f := V.bl) (fun _ _ h => V.bl.inj h)]; exact .bl _)⟩
/-- == of data -/
theorem d_eqD (ha : EvD K ta σ F cs d cs1) (hb : EvD K tb σ F cs1 e cs2) (h1 : SeqAt.shaped d = true) (h2 : SeqAt.shaped e = true) : EvD K (tOp (rEqD K) ta tb) σ F cs (.bool (PyData.eqv d e)) cs2 :=
  d_op ha hb fun x y F2 H2 hx hy s _ Q q => ⟨d, e, (hx.gr s.fr).dp (SeqAt.canLay_of_shaped h1), (hy.gr s.fr).dp (SeqAt.canLay_of_shaped h2), h1, h2, q _ F2 H2 .rfl s (.bl _)⟩
theorem d_neD (ha : EvD K ta σ F cs d cs1) (hb : EvD K tb σ F cs1 e cs2) (h1 : SeqAt.shaped d = true) (h2 : SeqAt.shaped e = true) : EvD K (tOp (rNeD K) ta tb) σ F cs (.bool (!PyData.eqv d e)) cs2 :=
  d_op ha hb fun x y F2 H2 hx hy s _ Q q => ⟨d, e, (hx.gr s.fr).dp (SeqAt.canLay_of_shaped h1), (hy.gr s.fr).dp (SeqAt.canLay_of_shaped h2), h1, h2, q _ F2 H2 .rfl s (.bl _)⟩
/-- texts -/
theorem d_scat {x y z : Str} (ha : EvD K ta σ F cs (.str x) cs1) (hb : EvD K tb σ F cs1 (.str y) cs2) (hz : scatM x y = some z) : EvD K (tOp (fun x y H Q => ∃ i j, x = .str i ∧ y = .str j ∧ i.length + j.length ≤ sizeLine ∧ Q (.str (i ++ j)) H) ta tb) σ F cs (.str z) cs2 :=
  d_op ha hb fun _ _ F2 H2 hx hy s _ Q q => by
    cases hx.toStr; cases hy.toStr
    obtain ⟨h1, rfl⟩ := scatM_some hz
    exact ⟨x, y, rfl, rfl, sz h1, q _ F2 H2 .rfl s (.str _)⟩
theorem d_inS {x y : Str} (ha : EvD K ta σ F cs (.str x) cs1) (hb : EvD K tb σ F cs1 (.str y) cs2) : EvD K (tOp (fun x y H Q => ∃ i j, x = .str i ∧ y = .str j ∧ Q (.bl (!(Builtin.Str.occurrences j i 0 j.length 1).isEmpty)) H) ta tb) σ F cs (.bool (inS x y)) cs2 :=
  d_op ha hb fun _ _ F2 H2 hx hy s _ Q q => by
    cases hx.toStr; cases hy.toStr
    exact ⟨x, y, rfl, rfl, q _ F2 H2 .rfl s (.bl _)⟩
theorem d_notinS {x y : Str} (ha : EvD K ta σ F cs (.str x) cs1) (hb : EvD K tb σ F cs1 (.str y) cs2) : EvD K (tOp (fun x y H Q => ∃ i j, x = .str i ∧ y = .str j ∧ Q (.bl (!(!(Builtin.Str.occurrences j i 0 j.length 1).isEmpty))) H) ta tb) σ F cs (.bool (!inS x y)) cs2 :=
  d_op ha hb fun _ _ F2 H2 hx hy s _ Q q => by
    cases hx.toStr; cases hy.toStr
    exact ⟨x, y, rfl, rfl, q _ F2 H2 .rfl s (.bl _)⟩
/-- tests -/
theorem t_test {b : Bool} (h : EvD K te σ F cs (.bool b) cs1) : EvT (tTest te) σ F cs b cs1 := fun F1 H1 g1 s Q q =>
  h F1 H1 g1 s _ fun v F2 H2 g2 s2 h2 => ⟨b, h2.toBl, q F2 H2 g2 s2⟩
theorem t_B {b : Bool} (h : EvD K te σ F cs (.bool b) cs1) : EvT (tB te) σ F cs b cs1 := fun F1 H1 g1 s Q q =>
  h F1 H1 g1 s _ fun v F2 H2 g2 s2 h2 => ⟨b, h2.toBl, q F2 H2 g2 s2⟩
theorem t_not {t : TT} {b : Bool} (h : EvT t σ F cs b cs1) : EvT (tNot t) σ F cs (!b) cs1 := fun F1 H1 g1 s Q q => h F1 H1 g1 s _ fun F2 H2 g2 s2 => q F2 H2 g2 s2
theorem t_and {t u : TT} {a b r : Bool} (h1 : EvT t σ F cs a cs1) (h2 : a = true → EvT u σ F cs1 b cs1) (h3 : a = true → r = b) (h4 : a = false → r = false) : EvT (tAnd t u) σ F cs r cs1 := fun F1 H1 g1 s Q q => h1 F1 H1 g1 s _ fun F2 H2 g2 s2 => by
  cases a with
  | true => rw [h3 rfl] at q; exact h2 rfl F2 H2 (g1.tr g2) s2 Q fun F3 H3 g3 s3 => q F3 H3 (g2.tr g3) s3
  | false => rw [h4 rfl] at q; exact q F2 H2 g2 s2
theorem t_or {t u : TT} {a b r : Bool} (h1 : EvT t σ F cs a cs1) (h2 : a = false → EvT u σ F cs1 b cs1) (h3 : a = false → r = b) (h4 : a = true → r = true) : EvT (tOr t u) σ F cs r cs1 := fun F1 H1 g1 s Q q => h1 F1 H1 g1 s _ fun F2 H2 g2 s2 => by
  cases a with
  | false => rw [h3 rfl] at q; exact h2 rfl F2 H2 (g1.tr g2) s2 Q fun F3 H3 g3 s3 => q F3 H3 (g2.tr g3) s3
  | true => rw [h4 rfl] at q; exact q F2 H2 g2 s2
theorem d_andV {a b r : Bool} (h1 : EvD K ta σ F cs (.bool a) cs1) (h2 : a = true → EvD K tb σ F cs1 (.bool b) cs1) (h3 : a = true → r = b) (h4 : a = false → r = false) : EvD K (tAndV ta tb) σ F cs (.bool r) cs1 := fun F1 H1 g1 s Q q => h1 F1 H1 g1 s _ fun v F2 H2 g2 s2 hv => ⟨a, hv.toBl, by
  cases a with
  | true => rw [h3 rfl] at q; exact h2 rfl F2 H2 (g1.tr g2) s2 Q fun v F3 H3 g3 s3 k => q v F3 H3 (g2.tr g3) s3 k
  | false => rw [h4 rfl] at q; exact q _ F2 H2 g2 s2 (.bl _)⟩
theorem d_orV {a b r : Bool} (h1 : EvD K ta σ F cs (.bool a) cs1) (h2 : a = false → EvD K tb σ F cs1 (.bool b) cs1) (h3 : a = false → r = b) (h4 : a = true → r = true) : EvD K (tOrV ta tb) σ F cs (.bool r) cs1 := fun F1 H1 g1 s Q q => h1 F1 H1 g1 s _ fun v F2 H2 g2 s2 hv => ⟨a, hv.toBl, by
  cases a with
  | false => rw [h3 rfl] at q; exact h2 rfl F2 H2 (g1.tr g2) s2 Q fun v F3 H3 g3 s3 k => q v F3 H3 (g2.tr g3) s3 k
  | true => rw [h4 rfl] at q; exact q _ F2 H2 g2 s2 (.bl _)⟩
theorem d_notV {a : Bool} (h : EvD K ta σ F cs (.bool a) cs1) : EvD K (tNotV ta) σ F cs (.bool (!a)) cs1 := fun F1 H1 g1 s Q q => h F1 H1 g1 s _ fun v F2 H2 g2 s2 hv => ⟨a, hv.toBl, q _ F2 H2 g2 s2 (.bl _)⟩
theorem d_ifE {t : TT} {a : Bool} (h : EvT t σ F cs a cs1) (h1 : a = true → EvD K ta σ F cs1 d cs2) (h2 : a = false → EvD K tb σ F cs1 d cs2) : EvD K (tIf t ta tb) σ F cs d cs2 := fun F1 H1 g1 s Q q => h F1 H1 g1 s _ fun F2 H2 g2 s2 => by
  cases a with
  | true => exact h1 rfl F2 H2 (g1.tr g2) s2 Q fun v F3 H3 g3 s3 k => q v F3 H3 (g2.tr g3) s3 k
  | false => exact h2 rfl F2 H2 (g1.tr g2) s2 Q fun v F3 H3 g3 s3 k => q v F3 H3 (g2.tr g3) s3 k
end
end Bw

namespace Bw
open PySem L2
/-- a new list, which may change -/
def EvC (K : PySem.W.Frag) (te : TE) (σ : St) (F : Hp) (cs : Cs) (ds : List PyData) (cs' : Cs) : Prop :=
  ∀ F1 H1, Gr F F1 → Sta F1 cs H1 → ∀ Q : VK, (∀ p vs F2 H2, Gr F1 F2 → Sta F2 ((p, .lst vs) :: cs') H2 → Dts K F2 vs ds → Q (.ref p) H2) → te σ H1 Q
section
variable {K : PySem.W.Frag} {σ : St} {F F' : Hp} {cs cs1 cs2 cs3 : Cs} {ta tb tc te : TE} {d e : PyData} {as : TA} {a b c : Int}
theorem EvC.dd {ds : List PyData} (h : EvC K te σ F cs ds cs1) : EvD K te σ F cs (.list ds) cs1 := fun F1 H1 g1 s Q q => h F1 H1 g1 s Q fun p vs F2 H2 g2 s2 h2 => q _ _ H2 (g2.tr s2.gfr) s2.froze (.lst (.inl (.inl upd_same)) (h2.gr s2.gfr))
theorem c_is {ds es : List PyData} (h : EvC K te σ F cs ds cs1) (q : ds = es) : EvC K te σ F cs es cs1 := q ▸ h
theorem c_lst {ds : List PyData} (h : EvDs K as σ F cs ds cs1) (hl : ds.length ≤ 100000) : EvC K (tLst as) σ F cs ds cs1 := fun F1 H1 g1 s Q q =>
  h F1 H1 g1 s _ fun vs F2 H2 g2 s2 h2 => ⟨h2.len.symm ▸ sz hl, fun p hp => q p vs F2 _ g2 (s2.cell hp) h2⟩
theorem c_list {ds : List PyData} (ha : EvDs K as σ F cs [.list ds] cs1) : EvC K (tCB (fun xs H Q => ∃ p ys, xs = [.ref p] ∧ (SqL K H p ys ∨ SqT K H p ys) ∧ ∀ l, H l = none → Q (.ref l) (upd H l (.lst ys))) as) σ F cs ds cs1 := fun F1 H1 g1 s Q q => ha F1 H1 g1 s _ fun vs F2 H2 g2 s2 h2 => by
  obtain ⟨v, rfl, k⟩ := h2.one
  obtain ⟨p, ys, rfl, hl, hd⟩ := k.toLst
  exact ⟨p, ys, rfl, .inl (gr_L s2.fr hl), fun l nl => q _ _ _ _ g2 (s2.cell nl) hd⟩
theorem c_sl {α : Type} {e : α → PyData} {xs : List α} {tl th : TO} {lo hi : Option Int} (h : EvD K te σ F cs (eL e xs) cs1) (h1 : EvO tl σ F cs1 lo cs2) (h2 : EvO th σ F cs2 hi cs3) : EvC K (tSl (rSlL K) te tl th) σ F cs ((cutL xs lo hi).map e) cs3 := fun F1 H1 g1 s Q q =>
  h F1 H1 g1 s _ fun v F2 H2 g2 s2 hv => h1 F2 H2 (g1.tr g2) s2 _ fun F3 H3 g3 s3 => h2 F3 H3 ((g1.tr g2).tr g3) s3 _ fun F4 H4 g4 s4 => by
    obtain ⟨p, vs, rfl, hl, hd⟩ := hv.toLst
    have hd' := hd.gr (g3.tr g4)
    refine ⟨p, vs, rfl, gr_L s4.fr (gr_L (g3.tr g4) hl), fun l nl => q _ _ _ _ (g2.tr (g3.tr g4)) (s4.cell nl) ?_⟩
    rw [← cutL_map]
    unfold cutV cutL
    rw [hd.len]
    exact (hd'.drop _).take _
/-- list + list, list * int -/
def rCatS (K : PySem.W.Frag) : R2 := fun x y H Q => ∃ l b xs zs, x = .ref l ∧ y = .ref b ∧ SqL K H l xs ∧ SqL K H b zs ∧ xs.length + zs.length ≤ sizeLine ∧ ∀ p, H p = none → Q (.ref p) (upd H p (.lst (xs ++ zs)))
theorem op_catS {X : Cx} : OpR X (binaryOp .Add) (rCatS X.K) := by
  intro pins s σ H x y v u Q I rx ry h
  obtain ⟨l, b, xs, zs, rfl, rfl, hH, hB, hz, q⟩ := h
  cases rx
  cases ry
  obtain ⟨its, r, pl, _⟩ := I.list hH
  obtain ⟨its2, r2, pl2, _⟩ := I.list hB
  have e1 := r.length
  have e2 := r2.length
  obtain ⟨⟨cls, dd, data, sl⟩, ho, hc, n, hd⟩ := pl.isList
  obtain ⟨⟨cls2, dd2, data2, sl2⟩, ho2, hc2, n2, hd2⟩ := pl2.isList
  simp only at hc hd hc2 hd2
  subst hc hd hc2 hd2
  refine PySem.concat_meets ⟨_, ho, rfl⟩ ⟨_, ho2, rfl⟩ PySem.noFill_list_add PySem.seq_list_add PySem.F.slot_list_add PySem.F.entry_list_add (PySem.F.args_list_add_2 _ _)
    (PyProof.Rows.list_addW l b its.toArray its2.toArray n n2 dd dd2 sl sl2 (by simp only [List.size_toArray]; omega)) ⟨ho, ho2, ?_⟩
  rw [show its.toArray ++ its2.toArray = (its ++ its2).toArray by simp]
  exact ⟨.ref _, _, I.lnew (t' := s.toks) (r.append r2) (by rw [List.length_append]; omega), rfl, q _ I.fresh⟩
theorem c_cat {α : Type} {en : α → PyData} {xs ys zs : List α} (ha : EvD K ta σ F cs (eL en xs) cs1) (hb : EvD K tb σ F cs1 (eL en ys) cs2) (hz : catM xs ys = some zs) : EvC K (tOp (rCatS K) ta tb) σ F cs (zs.map en) cs2 := fun F1 H1 g1 s Q q =>
  ha F1 H1 g1 s _ fun v F2 H2 g2 s2 h2 => hb F2 H2 (g1.tr g2) s2 _ fun w F3 H3 g3 s3 h3 => by
    obtain ⟨p, vs, rfl, hl, hd⟩ := (h2.gr g3).toLst
    obtain ⟨p', ws, rfl, hl', hd'⟩ := h3.toLst
    obtain ⟨h4, rfl⟩ := catM_some hz
    refine ⟨p, p', vs, ws, rfl, rfl, gr_L s3.fr hl, gr_L s3.fr hl', ?_, fun l nl => q _ _ _ _ (g2.tr g3) (s3.cell nl) ?_⟩
    · rw [hd.len, hd'.len, List.length_map, List.length_map]; exact sz h4
    · rw [List.map_append]; exact hd.app hd'
theorem c_rep {α : Type} {en : α → PyData} {xs zs : List α} (ha : EvC K ta σ F cs (xs.map en) cs1) (hb : ∀ cs, EvD K tb σ F cs (.int b) cs) (hz : repM xs b = some zs) : EvC K (tOp rRep ta tb) σ F cs (zs.map en) cs1 := fun F1 H1 g1 s Q q =>
  ha F1 H1 g1 s _ fun p vs F2 H2 g2 s2 h2 => hb _ F2 H2 (g1.tr g2) s2 _ fun w F3 H3 g3 s3 h3 => by
    cases h3.toInt
    obtain ⟨⟨h4, h5, h6⟩, rfl⟩ := repM_some hz
    have s4 := s3.froze
    refine ⟨p, b, vs, rfl, rfl, s3.at List.mem_cons_self, h4, h5, ?_, fun l nl => q _ _ _ _ ((g2.tr g3).tr s3.gfr) (s4.cell nl) ?_⟩
    · rw [h2.len, List.length_map]; exact sz h6
    · have := ((h2.gr g3).gr s3.gfr).rep b.toNat
      rw [List.map_flatten, List.map_replicate]
      exact this
/-- x in a list of ints, of texts -/
theorem inV_int (x : Int) (xs : List Int) : inV (.int x) (xs.map V.int) = xs.any (fun y => y == x) := by
  unfold inV
  rw [List.any_map]
  congr 1
theorem inV_str (x : Str) (xs : List Str) : inV (.str x) (xs.map V.str) = xs.any (fun y => y == x) := by
  unfold inV
  rw [List.any_map]
  congr 1
def inL {α : Type} [BEq α] (x : α) (xs : List α) : Bool := xs.any fun y => y == x
theorem flatI (xs : List Int) : (xs.map V.int).all flatV = true := by rw [List.all_map]; exact List.all_eq_true.mpr fun _ _ => rfl
theorem flatS (xs : List Str) : (xs.map V.str).all flatV = true := by rw [List.all_map]; exact List.all_eq_true.mpr fun _ _ => rfl
theorem d_inI {xs : List Int} (ha : EvD K ta σ F cs (.int a) cs1) (hb : EvD K tb σ F cs1 (eL eI xs) cs2) : EvD K (tOp (rIn K false) ta tb) σ F cs (.bool (inL a xs)) cs2 :=
  d_op ha hb fun x y F2 H2 hx hy s _ Q q => by
    cases hx.toInt
    obtain ⟨p, vs, rfl, hl, hd⟩ := hy.toLst
    cases hd.ints
    refine ⟨p, _, rfl, .inl (gr_L s.fr hl), rfl, flatI xs, q _ F2 H2 .rfl s ?_⟩
    rw [inV_int]; exact .bl _
theorem d_ninI {xs : List Int} (ha : EvD K ta σ F cs (.int a) cs1) (hb : EvD K tb σ F cs1 (eL eI xs) cs2) : EvD K (tOp (rIn K true) ta tb) σ F cs (.bool (!inL a xs)) cs2 :=
  d_op ha hb fun x y F2 H2 hx hy s _ Q q => by
    cases hx.toInt
    obtain ⟨p, vs, rfl, hl, hd⟩ := hy.toLst
    cases hd.ints
    refine ⟨p, _, rfl, .inl (gr_L s.fr hl), rfl, flatI xs, q _ F2 H2 .rfl s ?_⟩
    rw [inV_int]; exact .bl _
theorem d_inSs {x : Str} {xs : List Str} (ha : EvD K ta σ F cs (.str x) cs1) (hb : EvD K tb σ F cs1 (eL eS xs) cs2) : EvD K (tOp (rIn K false) ta tb) σ F cs (.bool (inL x xs)) cs2 :=
  d_op ha hb fun _ y F2 H2 hx hy s _ Q q => by
    cases hx.toStr
    obtain ⟨p, vs, rfl, hl, hd⟩ := hy.toLst
    cases hd.strs
    refine ⟨p, _, rfl, .inl (gr_L s.fr hl), rfl, flatS xs, q _ F2 H2 .rfl s ?_⟩
    rw [inV_str]; exact .bl _
theorem d_ninSs {x : Str} {xs : List Str} (ha : EvD K ta σ F cs (.str x) cs1) (hb : EvD K tb σ F cs1 (eL eS xs) cs2) : EvD K (tOp (rIn K true) ta tb) σ F cs (.bool (!inL x xs)) cs2 :=
  d_op ha hb fun _ y F2 H2 hx hy s _ Q q => by
    cases hx.toStr
    obtain ⟨p, vs, rfl, hl, hd⟩ := hy.toLst
    cases hd.strs
    refine ⟨p, _, rfl, .inl (gr_L s.fr hl), rfl, flatS xs, q _ F2 H2 .rfl s ?_⟩
    rw [inV_str]; exact .bl _
/-- sep.join(xs) -/
def joinM (x : Str) (xs : List Str) : Option Str := if ((xs.map (·.length)).sum + x.length * xs.length) ≤ 100000 then some (Txt.join x xs) else none

/-! walks -/
theorem src_list {p : Addr} {vs : List V} {ds : List PyData} (h : SqL K F p vs) (hd : Dts K F vs ds) : Src K (Itl K p) F ds := fun F1 c1 H1 g s => by
  have q : SqL K H1 p vs := gr_L s.fr (gr_L g h)
  refine ⟨fun i hi => ?_, ⟨vs, q, by rw [hd.len]; exact Nat.le_refl _⟩, fun i v H2 d e y => ?_⟩
  · have hi' : i < vs.length := by rw [hd.len]; exact hi
    exact ⟨vs, vs[i], q, List.getElem?_eq_getElem hi'⟩
  · obtain ⟨rfl, y⟩ := y
    obtain ⟨d', e', h'⟩ := hd.get (y vs q)
    rw [e] at e'; cases e'
    exact ⟨F1, .rfl, s, h'.gr g⟩
theorem src_enum {p : Addr} {vs : List V} {ds : List PyData} (h : SqL K F p vs) (hd : Dts K F vs ds) : Src K (Ite K p) F (ds.mapIdx fun i d => .tuple [.int i, d]) := fun F1 c1 H1 g s => by
  have q : SqL K H1 p vs := gr_L s.fr (gr_L g h)
  refine ⟨fun i hi => ?_, ⟨vs, q, by rw [hd.len]; simp⟩, fun i v H2 d e y => ?_⟩
  · have hi' : i < vs.length := by rw [hd.len]; simpa using hi
    exact ⟨vs, vs[i], q, List.getElem?_eq_getElem hi'⟩
  · obtain ⟨T, x, rfl, nT, rfl, y⟩ := y
    obtain ⟨d', e', h'⟩ := hd.get (y vs q)
    rw [List.getElem?_mapIdx, e'] at e
    cases e
    exact ⟨_, Gr.new (s.fr.back nT), s.lay nT, .tup (.inl (.inl upd_same)) (.cons (.int _) (.cons (h'.gr (g.tr (Gr.new (s.fr.back nT)))) .nil))⟩
theorem src_zip {p p' : Addr} {vs ws : List V} {ds es : List PyData} (h : SqL K F p vs) (hd : Dts K F vs ds) (h' : SqL K F p' ws) (hd' : Dts K F ws es) : Src K (Itz K p p') F (List.zipWith (fun d e => .tuple [d, e]) ds es) := fun F1 c1 H1 g s => by
  have q : SqL K H1 p vs := gr_L s.fr (gr_L g h)
  have q' : SqL K H1 p' ws := gr_L s.fr (gr_L g h')
  refine ⟨fun i hi => ?_, ⟨vs, ws, q, q', by rw [hd.len, hd'.len, List.length_zipWith]; omega⟩, fun i v H2 d e y => ?_⟩
  · rw [List.length_zipWith] at hi
    have h1 : i < vs.length := by rw [hd.len]; omega
    have h2 : i < ws.length := by rw [hd'.len]; omega
    exact ⟨vs, ws, vs[i], ws[i], q, q', List.getElem?_eq_getElem h1, List.getElem?_eq_getElem h2⟩
  · obtain ⟨T, x, z, rfl, nT, rfl, y, y'⟩ := y
    obtain ⟨d1, e1, h1⟩ := hd.get (y vs q)
    obtain ⟨d2, e2, h2⟩ := hd'.get (y' ws q')
    rw [List.getElem?_zipWith, e1, e2] at e
    cases e
    have gg := g.tr (Gr.new (o := .tup [x, z]) (s.fr.back nT))
    exact ⟨_, Gr.new (s.fr.back nT), s.lay nT, .tup (.inl (.inl upd_same)) (.cons (h1.gr gg) (.cons (h2.gr gg) .nil))⟩
theorem i_list {α : Type} {en : α → PyData} {xs : List α} (h : EvD K te σ F cs (eL en xs) cs1) : EvI K (iList K te) σ F cs (xs.map en) cs1 := fun F1 H1 g1 s R q =>
  h F1 H1 g1 s _ fun v F2 H2 g2 s2 h2 => by
    obtain ⟨p, vs, rfl, hs, hd⟩ := h2.toLst
    exact ⟨p, rfl, ⟨vs, gr_L s2.fr hs⟩, q _ F2 H2 g2 s2 (src_list hs hd)⟩
theorem enum_map {α : Type} (en : α → PyData) (xs : List α) : (xs.map en).mapIdx (fun i d => PyData.tuple [.int i, d]) = (enumM xs).map (eT2 eI en) := by
  unfold enumM
  apply List.ext_getElem? 
  intro i
  simp only [List.getElem?_mapIdx, List.getElem?_map]
  cases xs[i]? <;> rfl
theorem i_enum {α : Type} {en : α → PyData} {xs : List α} (h : EvDs K as σ F cs [eL en xs] cs1) : EvI K (iEnum K as) σ F cs ((enumM xs).map (eT2 eI en)) cs1 := fun F1 H1 g1 s R q =>
  h F1 H1 g1 s _ fun v F2 H2 g2 s2 h2 => by
    obtain ⟨v, rfl, k⟩ := h2.one
    obtain ⟨p, vs, rfl, hs, hd⟩ := k.toLst
    refine ⟨p, vs, rfl, gr_L s2.fr hs, q _ F2 H2 g2 s2 ?_⟩
    rw [← enum_map]
    exact src_enum hs hd
theorem zip_map {α β : Type} (en : α → PyData) (em : β → PyData) : ∀ (xs : List α) (ys : List β), List.zipWith (fun d e => PyData.tuple [d, e]) (xs.map en) (ys.map em) = (xs.zip ys).map (eT2 en em)
  | [], _ => rfl
  | _ :: _, [] => rfl
  | x :: xs, y :: ys => by
    simp only [List.map_cons, List.zipWith_cons_cons, List.zip_cons_cons]
    rw [zip_map en em xs ys]
theorem i_zip {α β : Type} {en : α → PyData} {em : β → PyData} {xs : List α} {ys : List β} (h : EvDs K as σ F cs [eL en xs, eL em ys] cs1) : EvI K (iZip K as) σ F cs ((xs.zip ys).map (eT2 en em)) cs1 := fun F1 H1 g1 s R q =>
  h F1 H1 g1 s _ fun v F2 H2 g2 s2 h2 => by
    obtain ⟨v, w, rfl, k1, k2⟩ := h2.two
    obtain ⟨p, vs, rfl, hs, hd⟩ := k1.toLst
    obtain ⟨p', ws, rfl, hs', hd'⟩ := k2.toLst
    refine ⟨p, p', vs, ws, rfl, gr_L s2.fr hs, gr_L s2.fr hs', q _ F2 H2 g2 s2 ?_⟩
    rw [← zip_map]
    exact src_zip hs hd hs' hd'
theorem src_rng {lo : Int} {n : Nat} : Src K (Itr lo n) F ((List.range n).map fun (i : Nat) => PyData.int (lo + (i : Int))) := fun F1 c1 H1 g s => by
  refine ⟨fun i hi => (by simpa using hi : i < n), by show n ≤ _; simp, fun i v H2 d e y => ?_⟩
  obtain ⟨rfl, rfl⟩ := y
  rw [List.getElem?_map] at e
  cases q : (List.range n)[i]? with
  | none => rw [q] at e; cases e
  | some j =>
    rw [q] at e
    have : i = j := by
      obtain ⟨h1, h2⟩ := List.getElem?_eq_some_iff.mp q
      simpa using h2
    subst this
    cases e
    exact ⟨F1, .rfl, s, .int _⟩
theorem i_rng1 {xs : List Int} (h : EvDs K as σ F cs [.int b] cs1) (hx : rngM 0 b = some xs) : EvI K (iRng1 as) σ F cs (xs.map eI) cs1 := fun F1 H1 g1 s R q =>
  h F1 H1 g1 s _ fun v F2 H2 g2 s2 h2 => by
    obtain ⟨v, rfl, k⟩ := h2.one; cases k.toInt
    obtain ⟨⟨_, _, h3, h4⟩, rfl⟩ := rngM_some hx
    refine ⟨b, rfl, h3, h4, q _ F2 H2 g2 s2 ?_⟩
    have := src_rng (K := K) (F := F2) (lo := 0) (n := b.toNat)
    unfold rngL
    rw [List.map_map, Int.sub_zero]
    exact this
theorem i_rng2 {xs : List Int} (h : EvDs K as σ F cs [.int a, .int b] cs1) (hx : rngM a b = some xs) : EvI K (iRng2 as) σ F cs (xs.map eI) cs1 := fun F1 H1 g1 s R q =>
  h F1 H1 g1 s _ fun v F2 H2 g2 s2 h2 => by
    obtain ⟨v, w, rfl, k1, k2⟩ := h2.two; cases k1.toInt; cases k2.toInt
    obtain ⟨h3, rfl⟩ := rngM_some hx
    refine ⟨a, b, rfl, h3, q _ F2 H2 g2 s2 ?_⟩
    have := src_rng (K := K) (F := F2) (lo := a) (n := (b - a).toNat)
    unfold rngL
    rw [List.map_map]
    exact this
theorem i_str {x : Str} (h : EvD K te σ F cs (.str x) cs1) : EvI K (iStr te) σ F cs ((signs x).map eS) cs1 := fun F1 H1 g1 s R q =>
  h F1 H1 g1 s _ fun v F2 H2 g2 s2 h2 => by
    refine ⟨x, h2.toStr, q _ F2 H2 g2 s2 fun F3 c3 H3 g3 s3 => ⟨fun i hi => by simpa [signs, Its] using hi, by simp [signs, Its], fun i v H4 d e y => ?_⟩⟩
    obtain ⟨rfl, c, hc, rfl⟩ := y
    unfold signs at e
    rw [List.map_map, List.getElem?_map, Array.getElem?_toList, hc] at e
    cases e
    exact ⟨F3, .rfl, s3, .str _⟩
end
end Bw

namespace Bw
open PySem L2
/-! what a loop's turn leaves -/
inductive Fl (S R : Type) where
  | nx (s : S) | br (s : S) | rt (r : R)
def forF {α S R : Type} (body : S → α → Option (Fl S R)) : List α → S → Option (Fl S R)
  | [], s => some (.nx s)
  | x :: xs, s => (body s x).bind fun f => match f with
    | .nx s' => forF body xs s'
    | .br s' => some (.br s')
    | .rt r => some (.rt r)
def whileF {S R : Type} (c : S → Option Bool) (body : S → Option (Fl S R)) : Nat → S → Option (Fl S R)
  | 0, _ => none
  | n + 1, s => (c s).bind fun b => if b = true then (body s).bind fun f => match f with
      | .nx s' => whileF c body n s'
      | .br s' => some (.br s')
      | .rt r => some (.rt r)
    else some (.nx s)
def lcM {α β : Type} (f : α → Option (Option β)) : List α → Option (List β)
  | [] => some []
  | x :: xs => (f x).bind fun o => (lcM f xs).bind fun ys => some (match o with
    | some y => y :: ys
    | none => ys)
theorem lcM_len {α β : Type} {f : α → Option (Option β)} : ∀ {xs : List α} {ys : List β}, lcM f xs = some ys → ys.length ≤ xs.length
  | [], ys, h => by cases h; exact Nat.le_refl _
  | x :: xs, ys, h => by
    obtain ⟨o, h1, h⟩ := bnd h
    obtain ⟨zs, h2, h⟩ := bnd h
    have := lcM_len h2
    cases o with
    | none => cases h; exact Nat.le_succ_of_le this
    | some y => cases h; exact Nat.succ_le_succ this
theorem lcM_map {α β : Type} (f : α → β) : ∀ xs : List α, lcM (fun x => some (some (f x))) xs = some (xs.map f)
  | [] => rfl
  | x :: xs => by show (lcM _ xs).bind _ = _; rw [lcM_map f xs]; rfl
theorem lcM_filter {α β : Type} (p : α → Bool) (f : α → β) : ∀ xs : List α, lcM (fun x => some (if p x = true then some (f x) else none)) xs = some ((xs.filter p).map f)
  | [] => rfl
  | x :: xs => by
    show (lcM _ xs).bind _ = _
    rw [lcM_filter p f xs, List.filter_cons]
    by_cases h : p x = true
    · simp [h]
    · simp [h]
section
variable {K : PySem.W.Frag} {σ : St} {F F' : Hp} {cs cs1 cs2 cs3 : Cs} {ta tb tc te : TE} {d e : PyData} {as : TA} {a b c : Int} {nx bk ct : St → Hp → Prop} {rt : VK} {H : Hp} {t u : TS}
/-! statements -/
theorem go {D : Ends} {σ' : St} (e : σ = σ') (h : t D σ' H) : t D σ H := e ▸ h
theorem s_set {i : Nat} {σ' : V → St} (s : Sta F cs H) (h : EvD K te σ F cs d cs1) (hσ : ∀ v, σ.set i (some v) = σ' v) (q : ∀ v F2 H2, Gr F F2 → Sta F2 cs1 H2 → Dt K F2 v d → nx (σ' v) H2) : tAsg te (gName i) ⟨nx, rt, bk, ct⟩ σ H := h F H .rfl s _ fun v F2 H2 g2 s2 h2 => by
  show nx (σ.set i (some v)) H2
  rw [hσ v]; exact q v F2 H2 g2 s2 h2
/-- a flat value -/
theorem s_setV {i : Nat} {σ' : St} {w : V} (hw : ∀ F v, Dt K F v d → v = w) (s : Sta F cs H) (h : EvD K te σ F cs d cs1) (hσ : σ.set i (some w) = σ') (q : ∀ F2 H2, Gr F F2 → Sta F2 cs1 H2 → nx σ' H2) : tAsg te (gName i) ⟨nx, rt, bk, ct⟩ σ H := h F H .rfl s _ fun v F2 H2 g2 s2 h2 => by
  cases hw F2 v h2
  show nx (σ.set i (some w)) H2
  rw [hσ]; exact q F2 H2 g2 s2
theorem s_setC {ds : List PyData} {i : Nat} {σ' : Addr → St} (s : Sta F cs H) (h : EvC K te σ F cs ds cs1) (hσ : ∀ p, σ.set i (some (.ref p)) = σ' p) (q : ∀ p vs F2 H2, Gr F F2 → Sta F2 ((p, .lst vs) :: cs1) H2 → Dts K F2 vs ds → nx (σ' p) H2) : tAsg te (gName i) ⟨nx, rt, bk, ct⟩ σ H := h F H .rfl s _ fun p vs F2 H2 g2 s2 h2 => by
  show nx (σ.set i (some (.ref p))) H2
  rw [hσ p]; exact q p vs F2 H2 g2 s2 h2
theorem s_ret (s : Sta F cs H) (h : EvD K te σ F cs d cs1) (q : ∀ v F2 H2, Gr F F2 → Sta F2 cs1 H2 → Dt K F2 v d → rt v H2) : tRet te ⟨nx, rt, bk, ct⟩ σ H := h F H .rfl s _ q
theorem s_drop (s : Sta F cs H) (h : EvD K te σ F cs d cs1) (q : ∀ F2 H2, Gr F F2 → Sta F2 cs1 H2 → nx σ H2) : tDrop te ⟨nx, rt, bk, ct⟩ σ H := h F H .rfl s _ fun v F2 H2 g2 s2 _ => q F2 H2 g2 s2
theorem s_if {c : TT} {b : Bool} (s : Sta F cs H) (h : EvT c σ F cs b cs1) (qt : b = true → ∀ F2 H2, Gr F F2 → Sta F2 cs1 H2 → t ⟨nx, rt, bk, ct⟩ σ H2) (qf : b = false → ∀ F2 H2, Gr F F2 → Sta F2 cs1 H2 → u ⟨nx, rt, bk, ct⟩ σ H2) : tIfS c t u ⟨nx, rt, bk, ct⟩ σ H :=
  h F H .rfl s _ fun F2 H2 g2 s2 => by
    cases b with
    | true => exact qt rfl F2 H2 g2 s2
    | false => exact qf rfl F2 H2 g2 s2
/-- cells: append, item, pop -/
theorem s_app {l1 l2 : Cs} {i : Nat} {p : Addr} {vs : List V} (s : Sta F (l1 ++ (p, .lst vs) :: l2) H) (hi : σ[i]? = some (some (.ref p))) (h : EvD K te σ F (l1 ++ (p, .lst vs) :: l2) d (l1 ++ (p, .lst vs) :: l2)) (hl : vs.length < 100000)
    (q : ∀ v F2 H2, Gr F F2 → Sta F2 (l1 ++ (p, .lst (vs ++ [v])) :: l2) H2 → Dt K F2 v d → nx σ H2) : tDrop (tBM K "list" rAppend (tVar i) (tCons te tNil)) ⟨nx, rt, bk, ct⟩ σ H :=
  ⟨.ref p, hi, .inl ⟨rfl, _, .inl (.inl s.getAt)⟩, h F H .rfl s _ fun v F2 H2 g2 s2 h2 => ⟨p, vs, v, rfl, rfl, s2.getAt, szl hl, q v F2 _ g2 s2.putAt h2⟩⟩
theorem s_item {l1 l2 : Cs} {i : Nat} {p : Addr} {vs : List V} {ti : TE} {k : Int} {j : Nat} (s : Sta F (l1 ++ (p, .lst vs) :: l2) H) (hi : σ[i]? = some (some (.ref p))) (h : EvD K te σ F (l1 ++ (p, .lst vs) :: l2) d (l1 ++ (p, .lst vs) :: l2))
    (h2 : EvD K ti σ F (l1 ++ (p, .lst vs) :: l2) (.int k) (l1 ++ (p, .lst vs) :: l2)) (hj : ixN vs.length k = some j) (q : ∀ v F2 H2, Gr F F2 → Sta F2 (l1 ++ (p, .lst (vs.set j v)) :: l2) H2 → Dt K F2 v d → nx σ H2) : tAsg te (gSub (tVar i) ti rSetL) ⟨nx, rt, bk, ct⟩ σ H :=
  h F H .rfl s _ fun v F2 H2 g2 s2 hv => ⟨.ref p, hi, h2 F2 H2 g2 s2 _ fun w F3 H3 g3 s3 hw => ⟨p, vs, k, j, rfl, hw.toInt, s3.getAt, hj, q v F3 _ (g2.tr g3) s3.putAt (hv.gr g3)⟩⟩
/-- a cell lent for a flat answer -/
theorem d_lend {l1 l2 : Cs} {p : Addr} {o : HO} {w : V} (hw : ∀ F v, Dt K F v d → v = w) (hd : ∀ F, Dt K F w d) (h : ∀ F1, Gr F F1 → F1 p = none → EvD K te σ (upd F1 p o) (l1 ++ l2) d (l1 ++ l2)) : EvD K te σ F (l1 ++ (p, o) :: l2) d (l1 ++ (p, o) :: l2) := fun F1 H1 g1 s Q q => by
  refine h F1 g1 s.freeAt (upd F1 p o) H1 .rfl s.frozeAt Q fun v F2 H2 g2 s2 h2 => ?_
  cases hw F2 v h2
  exact q w (cut F2 p) H2 (gr_cut s.freeAt g2) (Sta.lent g2 s2) (hd _)
theorem t_lend {l1 l2 : Cs} {p : Addr} {o : HO} {t : TT} {b : Bool} (h : ∀ F1, Gr F F1 → F1 p = none → EvT t σ (upd F1 p o) (l1 ++ l2) b (l1 ++ l2)) : EvT t σ F (l1 ++ (p, o) :: l2) b (l1 ++ (p, o) :: l2) := fun F1 H1 g1 s Q q => by
  refine h F1 g1 s.freeAt (upd F1 p o) H1 .rfl s.frozeAt Q fun F2 H2 g2 s2 => ?_
  exact q (cut F2 p) H2 (gr_cut s.freeAt g2) (Sta.lent g2 s2)
theorem lent_l {p : Addr} {vs : List V} {ds : List PyData} (hn : F p = none) (h : Dts K F vs ds) : Dt K (upd F p (.lst vs)) (.ref p) (.list ds) := .lst (.inl (.inl upd_same)) (h.gr (Gr.new hn))
/-- unpacking -/
theorem u2 {v : V} {d1 d2 : PyData} (h : Dt K F v (.tuple [d1, d2])) : ∃ p v1 v2, v = .ref p ∧ SqT K F p [v1, v2] ∧ Dt K F v1 d1 ∧ Dt K F v2 d2 := by
  obtain ⟨p, vs, rfl, h1, h2⟩ := h.toTup
  obtain ⟨v1, v2, rfl, k1, k2⟩ := h2.two
  exact ⟨p, v1, v2, rfl, h1, k1, k2⟩
theorem u3 {v : V} {d1 d2 d3 : PyData} (h : Dt K F v (.tuple [d1, d2, d3])) : ∃ p v1 v2 v3, v = .ref p ∧ SqT K F p [v1, v2, v3] ∧ Dt K F v1 d1 ∧ Dt K F v2 d2 ∧ Dt K F v3 d3 := by
  obtain ⟨p, vs, rfl, h1, h2⟩ := h.toTup
  obtain ⟨v1, v2, v3, rfl, k1, k2, k3⟩ := h2.three
  exact ⟨p, v1, v2, v3, rfl, h1, k1, k2, k3⟩
theorem u4 {v : V} {d1 d2 d3 d4 : PyData} (h : Dt K F v (.tuple [d1, d2, d3, d4])) : ∃ p v1 v2 v3 v4, v = .ref p ∧ SqT K F p [v1, v2, v3, v4] ∧ Dt K F v1 d1 ∧ Dt K F v2 d2 ∧ Dt K F v3 d3 ∧ Dt K F v4 d4 := by
  obtain ⟨p, vs, rfl, h1, h2⟩ := h.toTup
  obtain ⟨v1, v2, v3, v4, rfl, k1, k2, k3, k4⟩ := h2.four
  exact ⟨p, v1, v2, v3, v4, rfl, h1, k1, k2, k3, k4⟩
/-! loops -/
theorem s_for {α S : Type} {wi : TI} {g : TG} {tb : TS} {xs : List α} {en : α → PyData} (st : S → Hp → St → Cs → Prop) {body : S → α → Option S} {s0 r : S}
    (s : Sta F cs H) (hi : EvI K wi σ F cs (xs.map en) cs1) (h0 : ∀ F', Gr F F' → st s0 F' σ cs1) (hm : xs.foldlM body s0 = some r)
    (turn : ∀ x a b F1 F3 σ1 c1 H3 v (N : St → Hp → Prop), Gr F F1 → st a F1 σ1 c1 → Gr F1 F3 → Sta F3 c1 H3 → Dt K F3 v (en x) → body a x = some b → (∀ F4 σ4 c4 H4, Gr F3 F4 → Sta F4 c4 H4 → st b F4 σ4 c4 → N σ4 H4) →
      g v σ1 H3 fun σ2 H2 => tb ⟨N, rt, nx, N⟩ σ2 H2)
    (done : ∀ F1 σ1 c1 H1, Gr F F1 → Sta F1 c1 H1 → st r F1 σ1 c1 → nx σ1 H1) : tFor wi g tb ⟨nx, rt, bk, ct⟩ σ H :=
  hi F H .rfl s _ fun J F2 H2 g2 s2 hs => by
    refine ⟨fun i m σ1 H1 => m = xs.length - i ∧ i ≤ xs.length ∧ ∃ a F1 c1, Gr F2 F1 ∧ Sta F1 c1 H1 ∧ st a F1 σ1 c1 ∧ (xs.drop i).foldlM body a = some r, ⟨xs.length, by simp, Nat.zero_le _, s0, F2, cs1, .rfl, s2, h0 F2 g2, by simpa using hm⟩, ?_⟩
    rintro i m σ1 H1 ⟨rfl, hi, a, F1, c1, g1, s1, ha, hr⟩
    obtain ⟨hgo, hstop, hy⟩ := hs F1 c1 H1 g1 s1
    by_cases hlt : i < xs.length
    · rw [List.drop_eq_getElem_cons hlt, List.foldlM_cons] at hr
      cases hb : body a xs[i] with
      | none => rw [hb] at hr; cases hr
      | some b =>
        rw [hb] at hr
        refine .inr ⟨hgo i (by simpa using hlt), fun σ2 H2 => ∃ F3 c3, Gr F2 F3 ∧ Sta F3 c3 H2 ∧ st b F3 σ2 c3, fun σ' H' ⟨F3, c3, g3, s3, h3⟩ => ⟨xs.length - (i + 1), by omega, rfl, hlt, b, F3, c3, g3, s3, h3, hr⟩, fun x H' y => ?_⟩
        obtain ⟨F3, g3, s3, d3⟩ := hy i x H' (en xs[i]) (by rw [List.getElem?_map, List.getElem?_eq_getElem hlt]; rfl) y
        exact turn xs[i] a b F1 F3 σ1 c1 H' x _ (g2.tr g1) ha g3 s3 d3 hb fun F4 σ4 c4 H4 g4 s4 h4 => ⟨F4, c4, (g1.tr g3).tr g4, s4, h4⟩
    · have e : i = xs.length := by omega
      subst e
      rw [List.drop_length] at hr
      cases hr
      exact .inl ⟨by simpa using hstop, done F1 σ1 c1 H1 (g2.tr g1) s1 ha⟩
/-- .. that may be left -/
theorem s_forF {α S R : Type} {wi : TI} {g : TG} {tb : TS} {xs : List α} {en : α → PyData} (st : S → Hp → St → Cs → Prop) {body : S → α → Option (Fl S R)} {s0 : S} {r : Fl S R}
    (s : Sta F cs H) (hi : EvI K wi σ F cs (xs.map en) cs1) (h0 : ∀ F', Gr F F' → st s0 F' σ cs1) (hm : forF body xs s0 = some r)
    (done : ∀ z F1 σ1 c1 H1, r = .nx z ∨ r = .br z → Gr F F1 → Sta F1 c1 H1 → st z F1 σ1 c1 → nx σ1 H1)
    (turn : ∀ x a b F1 F3 σ1 c1 H3 v (N B : St → Hp → Prop), Gr F F1 → st a F1 σ1 c1 → Gr F1 F3 → Sta F3 c1 H3 → Dt K F3 v (en x) → body a x = some b → (∀ z F4 σ4 c4 H4, b = .nx z → Gr F3 F4 → Sta F4 c4 H4 → st z F4 σ4 c4 → N σ4 H4) →
      (∀ z F4 σ4 c4 H4, b = .br z → Gr F3 F4 → Sta F4 c4 H4 → st z F4 σ4 c4 → B σ4 H4) → (∀ z, b = .rt z → r = .rt z) →
      g v σ1 H3 fun σ2 H2 => tb ⟨N, rt, B, N⟩ σ2 H2) : tFor wi g tb ⟨nx, rt, bk, ct⟩ σ H :=
  hi F H .rfl s _ fun J F2 H2 g2 s2 hs => by
    refine ⟨fun i m σ1 H1 => m = xs.length - i ∧ i ≤ xs.length ∧ ∃ a F1 c1, Gr F2 F1 ∧ Sta F1 c1 H1 ∧ st a F1 σ1 c1 ∧ forF body (xs.drop i) a = some r, ⟨xs.length, by simp, Nat.zero_le _, s0, F2, cs1, .rfl, s2, h0 F2 g2, by simpa using hm⟩, ?_⟩
    rintro i m σ1 H1 ⟨rfl, hi, a, F1, c1, g1, s1, ha, hr⟩
    obtain ⟨hgo, hstop, hy⟩ := hs F1 c1 H1 g1 s1
    by_cases hlt : i < xs.length
    · rw [List.drop_eq_getElem_cons hlt] at hr
      obtain ⟨b, hb, hr⟩ := bnd (show (body a xs[i]).bind _ = some r from hr)
      refine .inr ⟨hgo i (by simpa using hlt), fun σ2 H2 => ∃ z F3 c3, b = .nx z ∧ Gr F2 F3 ∧ Sta F3 c3 H2 ∧ st z F3 σ2 c3, fun σ' H' ⟨z, F3, c3, e3, g3, s3, h3⟩ => ⟨xs.length - (i + 1), by omega, rfl, hlt, z, F3, c3, g3, s3, h3, by subst e3; exact hr⟩, fun x H' y => ?_⟩
      obtain ⟨F3, g3, s3, d3⟩ := hy i x H' (en xs[i]) (by rw [List.getElem?_map, List.getElem?_eq_getElem hlt]; rfl) y
      refine turn xs[i] a b F1 F3 σ1 c1 H' x _ _ (g2.tr g1) ha g3 s3 d3 hb (fun z F4 σ4 c4 H4 e4 g4 s4 h4 => ⟨z, F4, c4, e4, (g1.tr g3).tr g4, s4, h4⟩) (fun z F4 σ4 c4 H4 e4 g4 s4 h4 => ?_) (fun z e => ?_)
      · subst e4
        exact done z F4 σ4 c4 H4 (.inr (Option.some.inj hr).symm) (((g2.tr g1).tr g3).tr g4) s4 h4
      · subst e
        exact (Option.some.inj hr).symm
    · have e : i = xs.length := by omega
      subst e
      rw [List.drop_length] at hr
      cases hr
      exact .inl ⟨by simpa using hstop, done a F1 σ1 c1 H1 (.inl rfl) (g2.tr g1) s1 ha⟩
/-- a while -/
theorem s_while {S R : Type} {tc : TT} {tb : TS} (st : S → Hp → St → Cs → Prop) {c : S → Option Bool} {body : S → Option (Fl S R)} {s0 : S} {r : Fl S R} {n : Nat}
    (s : Sta F cs H) (h0 : st s0 F σ cs) (hm : whileF c body n s0 = some r)
    (done : ∀ z F1 σ1 c1 H1, r = .nx z ∨ r = .br z → Gr F F1 → Sta F1 c1 H1 → st z F1 σ1 c1 → nx σ1 H1)
    (test : ∀ z k F1 σ1 c1, Gr F F1 → st z F1 σ1 c1 → c z = some k → EvT tc σ1 F1 c1 k c1) (mono : ∀ z F1 F2 σ1 c1, st z F1 σ1 c1 → Gr F1 F2 → st z F2 σ1 c1)
    (turn : ∀ a b F1 σ1 c1 H1 (N B : St → Hp → Prop), Gr F F1 → st a F1 σ1 c1 → Sta F1 c1 H1 → body a = some b → (∀ z F4 σ4 c4 H4, b = .nx z → Gr F1 F4 → Sta F4 c4 H4 → st z F4 σ4 c4 → N σ4 H4) →
      (∀ z F4 σ4 c4 H4, b = .br z → Gr F1 F4 → Sta F4 c4 H4 → st z F4 σ4 c4 → B σ4 H4) → (∀ z, b = .rt z → r = .rt z) →
      tb ⟨N, rt, B, N⟩ σ1 H1) : tWhile tc tb ⟨nx, rt, bk, ct⟩ σ H := by
  refine ⟨fun m σ1 H1 => ∃ a F1 c1, Gr F F1 ∧ Sta F1 c1 H1 ∧ st a F1 σ1 c1 ∧ whileF c body m a = some r, ⟨n, s0, F, cs, .rfl, s, h0, hm⟩, ?_⟩
  rintro m σ1 H1 ⟨a, F1, c1, g1, s1, ha, hr⟩
  cases m with
  | zero => cases hr
  | succ m =>
    obtain ⟨k, hk, hr⟩ := bnd (show (c a).bind _ = some r from hr)
    refine test a k F1 σ1 c1 g1 ha hk F1 H1 .rfl s1 _ fun F2 H2 g2 s2 => ?_
    cases k with
    | false =>
      cases hr
      exact done a F2 σ1 c1 H2 (.inl rfl) (g1.tr g2) s2 (mono a F1 F2 σ1 c1 ha g2)
    | true =>
      obtain ⟨b, hb, hr⟩ := bnd (show (body a).bind _ = some r from hr)
      refine ⟨fun σ2 H2 => ∃ z F3 c3, b = .nx z ∧ Gr F F3 ∧ Sta F3 c3 H2 ∧ st z F3 σ2 c3, fun σ' H' ⟨z, F3, c3, e3, g3, s3, h3⟩ => ⟨m, Nat.lt_succ_self m, z, F3, c3, g3, s3, h3, by subst e3; exact hr⟩, ?_⟩
      refine turn a b F2 σ1 c1 H2 _ _ (g1.tr g2) (mono a F1 F2 σ1 c1 ha g2) s2 hb (fun z F4 σ4 c4 H4 e4 g4 s4 h4 => ⟨z, F4, c4, e4, (g1.tr g2).tr g4, s4, h4⟩) (fun z F4 σ4 c4 H4 e4 g4 s4 h4 => ?_) (fun z e => ?_)
      · subst e4
        exact done z F4 σ4 c4 H4 (.inr (Option.some.inj hr).symm) ((g1.tr g2).tr g4) s4 h4
      · subst e
        exact (Option.some.inj hr).symm
/-! list comprehensions, whose elements change nothing -/
theorem c_lc {α β : Type} {wi : TI} {g : TG} {tt : TT} {vs : List Nat} {xs : List α} {en : α → PyData} {em : β → PyData} {f : α → Option (Option β)} {ys : List β}
    (hi : EvI K wi σ F cs (xs.map en) cs1) (hm : lcM f xs = some ys) (hl : xs.length ≤ 100000)
    (turn : ∀ x o v F1 p us, Gr F F1 → Dt K F1 v (en x) → f x = some o → ∃ σ2 : St, (∀ H (Q : St → Hp → Prop), Sta F1 ((p, .lst us) :: cs1) H → Q σ2 H → g v (wipe σ vs) H Q) ∧ wipe σ2 vs = wipe σ vs ∧
      EvT tt σ2 F1 ((p, .lst us) :: cs1) o.isSome ((p, .lst us) :: cs1) ∧ ∀ y, o = some y → EvD K te σ2 F1 ((p, .lst us) :: cs1) (em y) ((p, .lst us) :: cs1)) :
    EvC K (tLc wi g tt te vs) σ F cs (ys.map em) cs1 := fun F1 H1 g1 s Q q =>
  hi F1 H1 g1 s _ fun J F2 H2 g2 s2 hs => by
    intro p hp
    have s3 : Sta F2 ((p, .lst []) :: cs1) (upd H2 p (.lst [])) := s2.cell hp
    refine ⟨fun i m H4 => m = xs.length - i ∧ i ≤ xs.length ∧ ∃ us done rest F4, us.length ≤ i ∧ Gr F2 F4 ∧ Sta F4 ((p, .lst us) :: cs1) H4 ∧ Dts K F4 us (done.map em) ∧ lcM f (xs.drop i) = some rest ∧ done ++ rest = ys,
      ⟨xs.length, by simp, Nat.zero_le _, [], [], ys, F2, Nat.le_refl _, .rfl, s3, .nil, by simpa using hm, rfl⟩, ?_⟩
    rintro i m H4 ⟨rfl, hi, us, done, rest, F4, hu, g4, s4, hd, hr, he⟩
    obtain ⟨hgo, hstop, hy⟩ := hs F4 _ H4 g4 s4
    by_cases hlt : i < xs.length
    · rw [List.drop_eq_getElem_cons hlt] at hr
      obtain ⟨o, ho, hr⟩ := bnd (show (f xs[i]).bind _ = some rest from hr)
      obtain ⟨zs, hz, hr⟩ := bnd hr
      refine .inr ⟨hgo i (by simpa using hlt), fun H' => i + 1 ≤ xs.length ∧ ∃ us done rest F4, us.length ≤ i + 1 ∧ Gr F2 F4 ∧ Sta F4 ((p, .lst us) :: cs1) H' ∧ Dts K F4 us (done.map em) ∧ lcM f (xs.drop (i + 1)) = some rest ∧ done ++ rest = ys, fun H' h' => ⟨xs.length - (i + 1), by omega, rfl, h'⟩, fun x H' y => ?_⟩
      obtain ⟨F5, g5, s5, d5⟩ := hy i x H' (en xs[i]) (by rw [List.getElem?_map, List.getElem?_eq_getElem hlt]; rfl) y
      obtain ⟨σ2, h1, h2, h3, h4⟩ := turn xs[i] o x F5 p us (g1.tr (g2.tr (g4.tr g5))) d5 ho
      refine h1 H' _ s5 ⟨h2, h3 F5 H' .rfl s5 _ fun F6 H6 g6 s6 => ?_⟩
      cases o with
      | none =>
        cases hr
        exact ⟨hlt, us, done, zs, F6, Nat.le_succ_of_le hu, g4.tr (g5.tr g6), s6, hd.gr (g5.tr g6), hz, he⟩
      | some z =>
        cases hr
        refine (h4 z rfl) F6 H6 g6 s6 _ fun v F7 H7 g7 s7 hv => ⟨us, s7.at List.mem_cons_self, szl (by omega), hlt, us ++ [v], done ++ [z], zs, F7, by rw [List.length_append]; exact Nat.succ_le_succ hu, g4.tr (g5.tr (g6.tr g7)), s7.put, ?_, hz, ?_⟩
        · rw [List.map_append]
          exact (hd.gr (g5.tr (g6.tr g7))).app (.cons hv .nil)
        · rw [List.append_assoc]; exact he
    · have e : i = xs.length := by omega
      subst e
      rw [List.drop_length] at hr
      cases hr
      rw [List.append_nil] at he
      subst he
      exact .inl ⟨by simpa using hstop, q p us F4 H4 (g2.tr g4) s4 hd⟩
theorem t_yes : EvT tYes σ F cs true cs := fun F1 H1 g s Q q => q F1 H1 .rfl s
/-! functions -/
def spP (K : PySem.W.Frag) {α β : Type} (A : α → List PyData) (B : β → PyData) (f : α → Option β) : Sp := fun vs H Q _ => ∃ F cs x y, Dts K F vs (A x) ∧ Sta F cs H ∧ f x = some y ∧ ∀ v F2 H2, Gr F F2 → Sta F2 cs H2 → Dt K F2 v (B y) → Q v H2
theorem d_call {α β : Type} {A : α → List PyData} {B : β → PyData} {f : α → Option β} {x : α} {y : β} {E : XK} (h : EvDs K as σ F cs (A x) cs1) (hf : f x = some y) : EvD K (tCall (spP K A B f) [] E as) σ F cs (B y) cs1 := fun F1 H1 g1 s Q q =>
  h F1 H1 g1 s _ fun vs F2 H2 g2 s2 h2 => ⟨F2, cs1, x, y, by rw [List.append_nil]; exact h2, s2, hf, fun v F3 H3 g3 s3 h3 => q v F3 H3 (g2.tr g3) s3 h3⟩
end
/-! == of typed data -/
def EqE {α : Type} [DecidableEq α] (e : α → PyData) : Prop := ∀ x y, PyData.eqv (e x) (e y) = decide (x = y)
def ShE {α : Type} (n : Nat) (e : α → PyData) : Prop := ∀ x, (e x).canLay0 = true ∧ (e x).depth ≤ n
theorem shp {α : Type} {n : Nat} {e : α → PyData} (h : ShE n e) (hn : n ≤ 64) (x : α) : SeqAt.shaped (e x) = true := by
  unfold SeqAt.shaped
  rw [(h x).1, decide_eq_true (Nat.le_trans (h x).2 hn)]
  rfl
theorem beq_dec {α : Type} [BEq α] [LawfulBEq α] [DecidableEq α] (x y : α) : (x == y) = decide (x = y) := by
  rw [Bool.eq_iff_iff]; simp
theorem eqE_I : EqE eI := fun x y => by simp only [PyData.eqv]; exact beq_dec x y
theorem eqE_B : EqE eB := fun x y => by simp only [PyData.eqv]; exact beq_dec x y
theorem eqE_S : EqE eS := fun x y => by simp only [PyData.eqv]; exact beq_dec x y
theorem eqE_N : EqE eN := fun x y => by simp [PyData.eqv]
theorem eqAll_map {α : Type} [DecidableEq α] {e : α → PyData} (h : EqE e) : ∀ xs ys : List α, PyData.eqvAll (xs.map e) (ys.map e) = decide (xs = ys)
  | [], [] => by simp [PyData.eqvAll]
  | [], _ :: _ => by simp [PyData.eqvAll]
  | _ :: _, [] => by simp [PyData.eqvAll]
  | x :: xs, y :: ys => by
    simp only [List.map_cons, PyData.eqvAll]
    rw [h x y, eqAll_map h xs ys, Bool.eq_iff_iff]
    simp
theorem EqE.l {α : Type} [DecidableEq α] {e : α → PyData} (h : EqE e) : EqE (eL e) := fun xs ys => by
  show PyData.eqv (.list _) (.list _) = _
  simp only [PyData.eqv]
  exact eqAll_map h xs ys
theorem EqE.t2 {α β : Type} [DecidableEq α] [DecidableEq β] {e : α → PyData} {f : β → PyData} (h : EqE e) (k : EqE f) : EqE (eT2 e f) := fun x y => by
  show PyData.eqv (.tuple _) (.tuple _) = _
  simp only [PyData.eqv, PyData.eqvAll]
  rw [h, k, Bool.eq_iff_iff]
  obtain ⟨x1, x2⟩ := x; obtain ⟨y1, y2⟩ := y
  simp
theorem EqE.t3 {α β γ : Type} [DecidableEq α] [DecidableEq β] [DecidableEq γ] {e : α → PyData} {f : β → PyData} {g : γ → PyData} (h : EqE e) (k : EqE f) (l : EqE g) : EqE (eT3 e f g) := fun x y => by
  show PyData.eqv (.tuple _) (.tuple _) = _
  simp only [PyData.eqv, PyData.eqvAll]
  rw [h, k, l, Bool.eq_iff_iff]
  obtain ⟨x1, x2, x3⟩ := x; obtain ⟨y1, y2, y3⟩ := y
  simp
theorem EqE.t4 {α β γ δ : Type} [DecidableEq α] [DecidableEq β] [DecidableEq γ] [DecidableEq δ] {e : α → PyData} {f : β → PyData} {g : γ → PyData} {m : δ → PyData} (h : EqE e) (k : EqE f) (l : EqE g) (n : EqE m) : EqE (eT4 e f g m) := fun x y => by
  show PyData.eqv (.tuple _) (.tuple _) = _
  simp only [PyData.eqv, PyData.eqvAll]
  rw [h, k, l, n, Bool.eq_iff_iff]
  obtain ⟨x1, x2, x3, x4⟩ := x; obtain ⟨y1, y2, y3, y4⟩ := y
  simp
theorem sh_I : ShE 0 eI := fun x => ⟨by simp [PyData.canLay0], by simp [PyData.depth]⟩
theorem sh_B : ShE 0 eB := fun x => ⟨by simp [PyData.canLay0], by simp [PyData.depth]⟩
theorem sh_N : ShE 0 eN := fun x => ⟨by simp [PyData.canLay0], by simp [PyData.depth]⟩
theorem sh_all {α : Type} {n : Nat} {e : α → PyData} (h : ShE n e) : ∀ xs : List α, PyData.canLayAll0 (xs.map e) = true ∧ PyData.depthAll (xs.map e) ≤ n
  | [] => ⟨by simp [PyData.canLayAll0], by simp [PyData.depthAll]⟩
  | x :: xs => by
    obtain ⟨h1, h2⟩ := sh_all h xs
    simp only [List.map_cons, PyData.canLayAll0, PyData.depthAll]
    exact ⟨by rw [(h x).1, h1]; rfl, Nat.max_le.mpr ⟨(h x).2, h2⟩⟩
theorem ShE.l {α : Type} {n : Nat} {e : α → PyData} (h : ShE n e) : ShE (n + 1) (eL e) := fun xs => by
  show (PyData.list _).canLay0 = true ∧ (PyData.list _).depth ≤ _
  simp only [PyData.canLay0, PyData.depth]
  exact ⟨(sh_all h xs).1, Nat.succ_le_succ (sh_all h xs).2⟩
theorem ShE.t2 {α β : Type} {n m : Nat} {e : α → PyData} {f : β → PyData} (h : ShE n e) (k : ShE m f) : ShE (max n m + 1) (eT2 e f) := fun x => by
  show (PyData.tuple _).canLay0 = true ∧ (PyData.tuple _).depth ≤ _
  simp only [PyData.canLay0, PyData.depth, PyData.canLayAll0, PyData.depthAll]
  have := (h x.1).2; have := (k x.2).2
  exact ⟨by rw [(h _).1, (k _).1]; rfl, by omega⟩
theorem ShE.t3 {α β γ : Type} {n m l : Nat} {e : α → PyData} {f : β → PyData} {g : γ → PyData} (h : ShE n e) (k : ShE m f) (j : ShE l g) : ShE (max n (max m l) + 1) (eT3 e f g) := fun x => by
  show (PyData.tuple _).canLay0 = true ∧ (PyData.tuple _).depth ≤ _
  simp only [PyData.canLay0, PyData.depth, PyData.canLayAll0, PyData.depthAll]
  have := (h x.1).2; have := (k x.2.1).2; have := (j x.2.2).2
  exact ⟨by rw [(h _).1, (k _).1, (j _).1]; rfl, by omega⟩
theorem ShE.t4 {α β γ δ : Type} {n m l i : Nat} {e : α → PyData} {f : β → PyData} {g : γ → PyData} {z : δ → PyData} (h : ShE n e) (k : ShE m f) (j : ShE l g) (p : ShE i z) : ShE (max n (max m (max l i)) + 1) (eT4 e f g z) := fun x => by
  show (PyData.tuple _).canLay0 = true ∧ (PyData.tuple _).depth ≤ _
  simp only [PyData.canLay0, PyData.depth, PyData.canLayAll0, PyData.depthAll]
  have := (h x.1).2; have := (k x.2.1).2; have := (j x.2.2.1).2; have := (p x.2.2.2).2
  exact ⟨by rw [(h _).1, (k _).1, (j _).1, (p _).1]; rfl, by omega⟩
section
variable {K : PySem.W.Frag} {σ : St} {F F' : Hp} {cs cs1 cs2 cs3 : Cs} {ta tb tc te : TE}
theorem d_eqT {α : Type} [DecidableEq α] {n : Nat} {e : α → PyData} {x y : α} (he : EqE e) (hs : ShE n e) (hn : n ≤ 64) (ha : EvD K ta σ F cs (e x) cs1) (hb : EvD K tb σ F cs1 (e y) cs2) : EvD K (tOp (rEqD K) ta tb) σ F cs (.bool (decide (x = y))) cs2 :=
  he x y ▸ d_eqD ha hb (shp hs hn x) (shp hs hn y)
theorem d_neT {α : Type} [DecidableEq α] {n : Nat} {e : α → PyData} {x y : α} (he : EqE e) (hs : ShE n e) (hn : n ≤ 64) (ha : EvD K ta σ F cs (e x) cs1) (hb : EvD K tb σ F cs1 (e y) cs2) : EvD K (tOp (rNeD K) ta tb) σ F cs (.bool (!decide (x = y))) cs2 :=
  he x y ▸ d_neD ha hb (shp hs hn x) (shp hs hn y)
def eqTM {α : Type} [DecidableEq α] (e : α → PyData) (x y : α) : Option Bool := if SeqAt.shaped (e x) = true ∧ SeqAt.shaped (e y) = true then some (decide (x = y)) else none
def eqDM (x y : PyData) : Option Bool := if SeqAt.shaped x = true ∧ SeqAt.shaped y = true then some (PyData.eqv x y) else none
theorem d_eqTM {α : Type} [DecidableEq α] {e : α → PyData} {x y : α} {b : Bool} (he : EqE e) (ha : EvD K ta σ F cs (e x) cs1) (hb : EvD K tb σ F cs1 (e y) cs2) (hm : eqTM e x y = some b) : EvD K (tOp (rEqD K) ta tb) σ F cs (.bool b) cs2 := by
  unfold eqTM at hm; split at hm
  · rename_i h; cases hm; exact he x y ▸ d_eqD ha hb h.1 h.2
  · cases hm
theorem d_neTM {α : Type} [DecidableEq α] {e : α → PyData} {x y : α} {b : Bool} (he : EqE e) (ha : EvD K ta σ F cs (e x) cs1) (hb : EvD K tb σ F cs1 (e y) cs2) (hm : eqTM e x y = some b) : EvD K (tOp (rNeD K) ta tb) σ F cs (.bool (!b)) cs2 := by
  unfold eqTM at hm; split at hm
  · rename_i h; cases hm; exact he x y ▸ d_neD ha hb h.1 h.2
  · cases hm
theorem d_eqDM {x y : PyData} {b : Bool} (ha : EvD K ta σ F cs x cs1) (hb : EvD K tb σ F cs1 y cs2) (hm : eqDM x y = some b) : EvD K (tOp (rEqD K) ta tb) σ F cs (.bool b) cs2 := by
  unfold eqDM at hm; split at hm
  · rename_i h; cases hm; exact d_eqD ha hb h.1 h.2
  · cases hm
theorem d_neDM {x y : PyData} {b : Bool} (ha : EvD K ta σ F cs x cs1) (hb : EvD K tb σ F cs1 y cs2) (hm : eqDM x y = some b) : EvD K (tOp (rNeD K) ta tb) σ F cs (.bool (!b)) cs2 := by
  unfold eqDM at hm; split at hm
  · rename_i h; cases hm; exact d_neD ha hb h.1 h.2
  · cases hm
end
end Bw

namespace Bw
open PySem L2
/-! names for readings -/
abbrev rAbs : List V → Hp → VK → Prop := fun xs H Q => ∃ i, xs = [.int i] ∧ Q (.int (if i < 0 then -i else i)) H
abbrev rMax2 : List V → Hp → VK → Prop := fun xs H Q => ∃ i j, xs = [.int i, .int j] ∧ Q (.int (if j > i then j else i)) H
abbrev rMin2 : List V → Hp → VK → Prop := fun xs H Q => ∃ i j, xs = [.int i, .int j] ∧ Q (.int (if j < i then j else i)) H
abbrev rLenL (K : PySem.W.Frag) : List V → Hp → VK → Prop := fun xs H Q => ∃ p ys, xs = [.ref p] ∧ (SqL K H p ys ∨ SqT K H p ys) ∧ Q (.int ys.length) H
abbrev rLenS : List V → Hp → VK → Prop := fun xs H Q => ∃ z, xs = [.str z] ∧ z.length ≤ sizeLine ∧ Q (.int z.length) H
abbrev rInt : List V → Hp → VK → Prop := fun xs H Q => (∃ i, xs = [.int i] ∧ Q (.int i) H) ∨ ∃ k, xs = [.bl k] ∧ Q (.int (if k then 1 else 0)) H
abbrev rStrI : List V → Hp → VK → Prop := fun xs H Q => ∃ i, xs = [.int i] ∧ i.natAbs.log2 < 1920 ∧ Q (.str (toString i)) H
abbrev rListS (K : PySem.W.Frag) : List V → Hp → VK → Prop := fun xs H Q => ∃ p ys, xs = [.ref p] ∧ (SqL K H p ys ∨ SqT K H p ys) ∧ ∀ l, H l = none → Q (.ref l) (upd H l (.lst ys))
abbrev rScat : R2 := fun x y H Q => ∃ i j, x = .str i ∧ y = .str j ∧ i.length + j.length ≤ sizeLine ∧ Q (.str (i ++ j)) H
abbrev rInS : R2 := fun x y H Q => ∃ i j, x = .str i ∧ y = .str j ∧ Q (.bl (!(Builtin.Str.occurrences j i 0 j.length 1).isEmpty)) H
abbrev rNinS : R2 := fun x y H Q => ∃ i j, x = .str i ∧ y = .str j ∧ Q (.bl (!(!(Builtin.Str.occurrences j i 0 j.length 1).isEmpty))) H
abbrev rIsN : R2 := fun x y H Q => y = .non ∧ Q (.bl (decide (x = .non))) H
abbrev rNotN : R2 := fun x y H Q => y = .non ∧ Q (.bl (!decide (x = .non))) H
abbrev rJoin (K : PySem.W.Frag) : V → List V → Hp → VK → Prop := fun x xs H Q => ∃ a p, ∃ ys : List Str, x = .str a ∧ xs = [.ref p] ∧ (SqL K H p (ys.map V.str) ∨ SqT K H p (ys.map V.str)) ∧ (ys.map (·.length)).sum + ys.length * a.length ≤ 16777216 ∧ Q (.str (Txt.join a ys)) H
section
variable {X : Cx}
theorem cr_abs : CallR X (.builtin "abs") rAbs := call_abs
theorem cr_max2 (hc : X.calm = true) : CallR X (.builtin "max") rMax2 := call_max2 hc
theorem cr_min2 (hc : X.calm = true) : CallR X (.builtin "min") rMin2 := call_min2 hc
theorem cr_lenL : CallR X (.builtin "len") (rLenL X.K) := call_len_seq
theorem cr_lenS : CallR X (.builtin "len") rLenS := call_len_str
theorem cr_int : CallR X (.type "int") rInt := call_int1
theorem cr_str : CallR X (.type "str") rStrI := call_str_int
theorem cr_list : CallR X (.type "list") (rListS X.K) := call_list_of
theorem op_scatR : OpR X (binaryOp .Add) rScat := op_add_str
theorem op_inR : OpR X (compareOp .In) rInS := op_in_str
theorem op_ninR : OpR X (compareOp .NotIn) rNinS := op_notin_str
theorem op_isNR : OpR X (compareOp .Is) rIsN := op_isN
theorem op_notNR : OpR X (compareOp .IsNot) rNotN := op_notN
end
theorem bf {b : Bool} (h : b = false) : ¬ b = true := by rw [h]; decide
theorem bt {b : Bool} (h : ¬ b = true) : b = false := by cases b <;> simp_all
theorem isS {α : Type} {c : Bool} {a : α} : (if c = true then some a else none : Option α).isSome = c := by cases c <;> rfl
theorem isSm {α : Type} {c : Bool} {a y : α} (h : (if c = true then some a else none : Option α) = some y) : a = y := by
  cases c with
  | true => exact Option.some.inj h
  | false => cases h
theorem pr2 {α β : Type} {a a' : α} {b b' : β} (h : (a, b) = (a', b')) : a = a' ∧ b = b' := by cases h; exact ⟨rfl, rfl⟩
theorem pr3 {α β γ : Type} {a a' : α} {b b' : β} {c c' : γ} (h : (a, b, c) = (a', b', c')) : a = a' ∧ b = b' ∧ c = c' := by cases h; exact ⟨rfl, rfl, rfl⟩
theorem pr4 {α β γ δ : Type} {a a' : α} {b b' : β} {c c' : γ} {d d' : δ} (h : (a, b, c, d) = (a', b', c', d')) : a = a' ∧ b = b' ∧ c = c' ∧ d = d' := by cases h; exact ⟨rfl, rfl, rfl, rfl⟩
theorem pr5 {α β γ δ ε : Type} {a a' : α} {b b' : β} {c c' : γ} {d d' : δ} {e e' : ε} (h : (a, b, c, d, e) = (a', b', c', d', e')) : a = a' ∧ b = b' ∧ c = c' ∧ d = d' ∧ e = e' := by cases h; exact ⟨rfl, rfl, rfl, rfl, rfl⟩
theorem dt_oI {K : PySem.W.Frag} {F : Hp} (o : Option Int) : Dt K F (oV V.int o) (eO eI o) := by cases o with
  | none => exact .non
  | some x => exact .int x
theorem dt_oS {K : PySem.W.Frag} {F : Hp} (o : Option Str) : Dt K F (oV V.str o) (eO eS o) := by cases o with
  | none => exact .non
  | some x => exact .str x
theorem dt_toI {K : PySem.W.Frag} {F : Hp} {v : V} {o : Option Int} (h : Dt K F v (eO eI o)) : v = oV V.int o := by cases o with
  | none => exact h.toNon
  | some x => exact h.toInt
theorem dt_toS {K : PySem.W.Frag} {F : Hp} {v : V} {o : Option Str} (h : Dt K F v (eO eS o)) : v = oV V.str o := by cases o with
  | none => exact h.toNon
  | some x => exact h.toStr
def mapC {α β : Type} (f : α → β) (xs : List α) : Option (List β) := if xs.length ≤ 100000 then some (xs.map f) else none
def filC {α β : Type} (p : α → Bool) (f : α → β) (xs : List α) : Option (List β) := if xs.length ≤ 100000 then some ((xs.filter p).map f) else none
def lcC {α β : Type} (f : α → Option (Option β)) (xs : List α) : Option (List β) := if xs.length ≤ 100000 then lcM f xs else none
section
variable {K : PySem.W.Frag} {σ : St} {F F' : Hp} {cs cs1 cs2 cs3 : Cs} {ta tb tc te : TE} {d e : PyData} {as : TA} {a b c : Int} {nx bk ct : St → Hp → Prop} {rt : VK} {H : Hp} {t u : TS}
theorem d_mulC (ha : EvD K ta σ F cs (.int a) cs1) (hb : EvD K tb σ F cs1 (.int b) cs2) (hc : CMul a b) : EvD K (tOp (rI CMul fun i j => .int (i * j)) ta tb) σ F cs (.int (a * b)) cs2 := d_I ha hb hc fun _ => .int _
theorem d_modC (ha : EvD K ta σ F cs (.int a) cs1) (hb : EvD K tb σ F cs1 (.int b) cs2) (hc : 0 < b) : EvD K (tOp (rI (fun _ j => 0 < j) fun i j => .int (i % j)) ta tb) σ F cs (.int (a % b)) cs2 := d_I (C := fun _ j => 0 < j) ha hb hc fun _ => .int _
theorem d_fdivC (ha : EvD K ta σ F cs (.int a) cs1) (hb : EvD K tb σ F cs1 (.int b) cs2) (hc : CDiv a b) : EvD K (tOp (rI CDiv fun i j => .int (i / j)) ta tb) σ F cs (.int (a / b)) cs2 := d_I ha hb hc fun _ => .int _
theorem d_powC (ha : EvD K ta σ F cs (.int a) cs1) (hb : EvD K tb σ F cs1 (.int b) cs2) (hc : CPow a b) : EvD K (tOp (rI CPow fun i j => .int (i ^ j.toNat)) ta tb) σ F cs (.int (a ^ b.toNat)) cs2 := d_I ha hb hc fun _ => .int _
theorem d_chain {g g' : Int → Int → Bool} (ha : EvD K ta σ F cs (.int a) cs1) (hb : EvD K tb σ F cs1 (.int b) cs2) (hc : EvD K tc σ F cs2 (.int c) cs2) : EvD K (tChain (rI0 fun i j => .bl (g i j)) (rI0 fun i j => .bl (g' i j)) ta tb tc) σ F cs (.bool (g a b && g' b c)) cs2 := fun F1 H1 g1 s Q q =>
  ha F1 H1 g1 s _ fun v F2 H2 g2 s2 h2 => hb F2 H2 (g1.tr g2) s2 _ fun w F3 H3 g3 s3 h3 => by
    cases h2.toInt; cases h3.toInt
    refine ⟨a, b, rfl, rfl, g a b, rfl, ?_⟩
    cases e : g a b with
    | true => exact hc F3 H3 ((g1.tr g2).tr g3) s3 _ fun z F4 H4 g4 s4 h4 => ⟨b, c, rfl, h4.toInt, q _ F4 H4 ((g2.tr g3).tr g4) s4 (by rw [e, Bool.true_and]; exact .bl _)⟩
    | false => exact q _ F3 H3 (g2.tr g3) s3 (by rw [e, Bool.false_and]; exact .bl _)
theorem t_andP {t u : TT} {a b : Bool} (h1 : EvT t σ F cs a cs1) (h2 : a = true → EvT u σ F cs1 b cs1) : EvT (tAnd t u) σ F cs (a && b) cs1 := t_and h1 h2 (fun h => by rw [h, Bool.true_and]) (fun h => by rw [h, Bool.false_and])
theorem t_orP {t u : TT} {a b : Bool} (h1 : EvT t σ F cs a cs1) (h2 : a = false → EvT u σ F cs1 b cs1) : EvT (tOr t u) σ F cs (a || b) cs1 := t_or h1 h2 (fun h => by rw [h, Bool.false_or]) (fun h => by rw [h, Bool.true_or])
theorem t_andM {t u : TT} {a r : Bool} (h1 : EvT t σ F cs a cs1) (h2 : a = true → EvT u σ F cs1 r cs1) (h4 : a = false → r = false) : EvT (tAnd t u) σ F cs r cs1 := t_and h1 h2 (fun _ => rfl) h4
theorem t_orM {t u : TT} {a r : Bool} (h1 : EvT t σ F cs a cs1) (h2 : a = false → EvT u σ F cs1 r cs1) (h4 : a = true → r = true) : EvT (tOr t u) σ F cs r cs1 := t_or h1 h2 (fun _ => rfl) h4
theorem d_andP {a b : Bool} (h1 : EvD K ta σ F cs (.bool a) cs1) (h2 : a = true → EvD K tb σ F cs1 (.bool b) cs1) : EvD K (tAndV ta tb) σ F cs (.bool (a && b)) cs1 := d_andV h1 h2 (fun h => by rw [h, Bool.true_and]) (fun h => by rw [h, Bool.false_and])
theorem d_orP {a b : Bool} (h1 : EvD K ta σ F cs (.bool a) cs1) (h2 : a = false → EvD K tb σ F cs1 (.bool b) cs1) : EvD K (tOrV ta tb) σ F cs (.bool (a || b)) cs1 := d_orV h1 h2 (fun h => by rw [h, Bool.false_or]) (fun h => by rw [h, Bool.true_or])
theorem d_andM {a r : Bool} (h1 : EvD K ta σ F cs (.bool a) cs1) (h2 : a = true → EvD K tb σ F cs1 (.bool r) cs1) (h4 : a = false → r = false) : EvD K (tAndV ta tb) σ F cs (.bool r) cs1 := d_andV h1 h2 (fun _ => rfl) h4
theorem d_orM {a r : Bool} (h1 : EvD K ta σ F cs (.bool a) cs1) (h2 : a = false → EvD K tb σ F cs1 (.bool r) cs1) (h4 : a = true → r = true) : EvD K (tOrV ta tb) σ F cs (.bool r) cs1 := d_orV h1 h2 (fun _ => rfl) h4
theorem d_join {x z : Str} {xs : List Str} (ha : EvD K ta σ F cs (.str x) cs1) (hb : EvD K tb σ F cs1 (eL eS xs) cs2) (hz : joinM x xs = some z) : EvD K (tM1 (rJoin K) ta tb) σ F cs (.str z) cs2 := fun F1 H1 g1 s Q q =>
  ha F1 H1 g1 s _ fun v F2 H2 g2 s2 h2 => ⟨⟨x, h2.toStr⟩, hb F2 H2 (g1.tr g2) s2 _ fun w F3 H3 g3 s3 h3 => by
    obtain ⟨p, vs, rfl, hl, hd⟩ := h3.toLst
    cases hd.strs
    unfold joinM at hz; split at hz
    · rename_i h; cases hz
      refine ⟨x, p, xs, h2.toStr, rfl, .inl (gr_L s3.fr hl), ?_, q _ F3 H3 (g2.tr g3) s3 (.str _)⟩
      rw [Nat.mul_comm xs.length]
      exact Nat.le_trans h (by decide)
    · cases hz⟩
theorem c_lcC {α β : Type} {wi : TI} {g : TG} {tt : TT} {vs : List Nat} {xs : List α} {en : α → PyData} {em : β → PyData} {f : α → Option (Option β)} {ys : List β}
    (hi : EvI K wi σ F cs (xs.map en) cs1) (hm : lcC f xs = some ys)
    (turn : ∀ x o v F1 p us, Gr F F1 → Dt K F1 v (en x) → f x = some o → ∃ σ2 : St, (∀ H (Q : St → Hp → Prop), Sta F1 ((p, .lst us) :: cs1) H → Q σ2 H → g v (wipe σ vs) H Q) ∧ wipe σ2 vs = wipe σ vs ∧
      EvT tt σ2 F1 ((p, .lst us) :: cs1) o.isSome ((p, .lst us) :: cs1) ∧ ∀ y, o = some y → EvD K te σ2 F1 ((p, .lst us) :: cs1) (em y) ((p, .lst us) :: cs1)) :
    EvC K (tLc wi g tt te vs) σ F cs (ys.map em) cs1 := by
  unfold lcC at hm; split at hm
  · rename_i h; exact c_lc hi hm h turn
  · cases hm
theorem c_mapC {α β : Type} {wi : TI} {g : TG} {tt : TT} {vs : List Nat} {xs : List α} {en : α → PyData} {em : β → PyData} {f : α → β} {ys : List β}
    (hi : EvI K wi σ F cs (xs.map en) cs1) (hm : mapC f xs = some ys)
    (turn : ∀ x o v F1 p us, Gr F F1 → Dt K F1 v (en x) → some (some (f x)) = some o → ∃ σ2 : St, (∀ H (Q : St → Hp → Prop), Sta F1 ((p, .lst us) :: cs1) H → Q σ2 H → g v (wipe σ vs) H Q) ∧ wipe σ2 vs = wipe σ vs ∧
      EvT tt σ2 F1 ((p, .lst us) :: cs1) o.isSome ((p, .lst us) :: cs1) ∧ ∀ y, o = some y → EvD K te σ2 F1 ((p, .lst us) :: cs1) (em y) ((p, .lst us) :: cs1)) :
    EvC K (tLc wi g tt te vs) σ F cs (ys.map em) cs1 := by
  unfold mapC at hm; split at hm
  · rename_i h; cases hm; exact c_lc (f := fun x => some (some (f x))) hi (lcM_map f xs) h turn
  · cases hm
theorem c_filC {α β : Type} {wi : TI} {g : TG} {tt : TT} {vs : List Nat} {xs : List α} {en : α → PyData} {em : β → PyData} {p : α → Bool} {f : α → β} {ys : List β}
    (hi : EvI K wi σ F cs (xs.map en) cs1) (hm : filC p f xs = some ys)
    (turn : ∀ x o v F1 p' us, Gr F F1 → Dt K F1 v (en x) → some (if p x = true then some (f x) else none) = some o → ∃ σ2 : St, (∀ H (Q : St → Hp → Prop), Sta F1 ((p', .lst us) :: cs1) H → Q σ2 H → g v (wipe σ vs) H Q) ∧ wipe σ2 vs = wipe σ vs ∧
      EvT tt σ2 F1 ((p', .lst us) :: cs1) o.isSome ((p', .lst us) :: cs1) ∧ ∀ y, o = some y → EvD K te σ2 F1 ((p', .lst us) :: cs1) (em y) ((p', .lst us) :: cs1)) :
    EvC K (tLc wi g tt te vs) σ F cs (ys.map em) cs1 := by
  unfold filC at hm; split at hm
  · rename_i h; cases hm; exact c_lc (f := fun x => some (if p x = true then some (f x) else none)) hi (lcM_filter p f xs) h turn
  · cases hm
theorem nxt (h : nx σ H) : tNext ⟨nx, rt, bk, ct⟩ σ H := h
theorem tg {g : TG} {v : V} {σ' : St} {Q : St → Hp → Prop} (h1 : ∀ Q : St → Hp → Prop, Q σ' H → g v σ H Q) (h2 : Q σ' H) : g v σ H Q := h1 Q h2
theorem s_asg {g : TG} (s : Sta F cs H) (h : EvD K te σ F cs d cs1) (q : ∀ v F2 H2, Gr F F2 → Sta F2 cs1 H2 → Dt K F2 v d → g v σ H2 nx) : tAsg te g ⟨nx, rt, bk, ct⟩ σ H := h F H .rfl s _ q
theorem s_ifJ {c : TT} {b : Bool} (J : St → Hp → Prop) (s : Sta F cs H) (h : EvT c σ F cs b cs1) (rest : ∀ σ' H', J σ' H' → nx σ' H') (qt : (∀ σ' H', J σ' H' → nx σ' H') → b = true → ∀ F2 H2, Gr F F2 → Sta F2 cs1 H2 → t ⟨nx, rt, bk, ct⟩ σ H2)
    (qf : (∀ σ' H', J σ' H' → nx σ' H') → b = false → ∀ F2 H2, Gr F F2 → Sta F2 cs1 H2 → u ⟨nx, rt, bk, ct⟩ σ H2) : tIfS c t u ⟨nx, rt, bk, ct⟩ σ H := s_if s h (qt rest) (qf rest)
theorem s_appF {α : Type} {vf : α → V} {en : α → PyData} {l1 l2 : Cs} {i : Nat} {p : Addr} {xs ys : List α} {x : α} (hw : ∀ F v x, Dt K F v (en x) → v = vf x) (s : Sta F (l1 ++ (p, .lst (xs.map vf)) :: l2) H) (hi : σ[i]? = some (some (.ref p))) (h : EvD K te σ F (l1 ++ (p, .lst (xs.map vf)) :: l2) (en x) (l1 ++ (p, .lst (xs.map vf)) :: l2)) (hm : appM xs x = some ys)
    (q : ∀ F2 H2, Gr F F2 → Sta F2 (l1 ++ (p, .lst (ys.map vf)) :: l2) H2 → nx σ H2) : tDrop (tBM K "list" rAppend (tVar i) (tCons te tNil)) ⟨nx, rt, bk, ct⟩ σ H := by
  obtain ⟨hl, rfl⟩ := appM_some hm
  refine s_app s hi h (by rw [List.length_map]; exact hl) fun v F2 H2 g2 s2 h2 => q F2 H2 g2 ?_
  cases hw F2 v x h2
  rw [List.map_append]; exact s2
theorem s_appG {α : Type} {en : α → PyData} {l1 l2 : Cs} {i : Nat} {p : Addr} {vs : List V} {xs ys : List α} {x : α} (s : Sta F (l1 ++ (p, .lst vs) :: l2) H) (hf : Dts K F vs (xs.map en)) (hi : σ[i]? = some (some (.ref p))) (h : EvD K te σ F (l1 ++ (p, .lst vs) :: l2) (en x) (l1 ++ (p, .lst vs) :: l2)) (hm : appM xs x = some ys)
    (q : ∀ us F2 H2, Gr F F2 → Sta F2 (l1 ++ (p, .lst us) :: l2) H2 → Dts K F2 us (ys.map en) → nx σ H2) : tDrop (tBM K "list" rAppend (tVar i) (tCons te tNil)) ⟨nx, rt, bk, ct⟩ σ H := by
  obtain ⟨hl, rfl⟩ := appM_some hm
  refine s_app s hi h (by rw [hf.len, List.length_map]; exact hl) fun v F2 H2 g2 s2 h2 => q _ F2 H2 g2 s2 ?_
  rw [List.map_append]; exact (hf.gr g2).app (.cons h2 .nil)
theorem s_itemF {α : Type} {vf : α → V} {en : α → PyData} {l1 l2 : Cs} {i : Nat} {p : Addr} {xs ys : List α} {x : α} {ti : TE} {k : Int} (hw : ∀ F v x, Dt K F v (en x) → v = vf x) (s : Sta F (l1 ++ (p, .lst (xs.map vf)) :: l2) H) (hi : σ[i]? = some (some (.ref p))) (h : EvD K te σ F (l1 ++ (p, .lst (xs.map vf)) :: l2) (en x) (l1 ++ (p, .lst (xs.map vf)) :: l2))
    (h2 : EvD K ti σ F (l1 ++ (p, .lst (xs.map vf)) :: l2) (.int k) (l1 ++ (p, .lst (xs.map vf)) :: l2)) (hm : setM xs k x = some ys) (q : ∀ F2 H2, Gr F F2 → Sta F2 (l1 ++ (p, .lst (ys.map vf)) :: l2) H2 → nx σ H2) : tAsg te (gSub (tVar i) ti rSetL) ⟨nx, rt, bk, ct⟩ σ H := by
  obtain ⟨j, hj, rfl⟩ := setM_some hm
  refine s_item (j := j) s hi h h2 (by rw [List.length_map]; exact hj) fun v F2 H2 g2 s2 hv => q F2 H2 g2 ?_
  cases hw F2 v x hv
  rw [List.map_set]; exact s2
theorem s_itemG {α : Type} {en : α → PyData} {l1 l2 : Cs} {i : Nat} {p : Addr} {vs : List V} {xs ys : List α} {x : α} {ti : TE} {k : Int} (s : Sta F (l1 ++ (p, .lst vs) :: l2) H) (hf : Dts K F vs (xs.map en)) (hi : σ[i]? = some (some (.ref p))) (h : EvD K te σ F (l1 ++ (p, .lst vs) :: l2) (en x) (l1 ++ (p, .lst vs) :: l2))
    (h2 : EvD K ti σ F (l1 ++ (p, .lst vs) :: l2) (.int k) (l1 ++ (p, .lst vs) :: l2)) (hm : setM xs k x = some ys) (q : ∀ us F2 H2, Gr F F2 → Sta F2 (l1 ++ (p, .lst us) :: l2) H2 → Dts K F2 us (ys.map en) → nx σ H2) : tAsg te (gSub (tVar i) ti rSetL) ⟨nx, rt, bk, ct⟩ σ H := by
  obtain ⟨j, hj, rfl⟩ := setM_some hm
  refine s_item (j := j) s hi h h2 (by rw [hf.len, List.length_map]; exact hj) fun v F2 H2 g2 s2 hv => q _ F2 H2 g2 s2 ?_
  rw [List.map_set]; exact (hf.gr g2).setAt j hv
end
/-! isinstance -/
def kindD : PyData → String
  | .none => "NoneType"
  | .bool _ => "bool"
  | .int _ => "int"
  | .str _ => "str"
  | .list _ => "list"
  | .tuple _ => "tuple"
  | .dict _ => "dict"
def isiD (c : String) (d : PyData) : Bool := kindD d == c || (kindD d == "bool" && c == "int")
def isiK : List String := ["int", "str", "bool", "list", "tuple", "dict"]
theorem kit_isi {K : PySem.W.Frag} {c : String} (hc : c ∈ isiK) (d : PyData) : PySem.W.kitOne K (.type (kindD d)) (.type c) = some (isiD c d) := by
  have h : ∀ k ∈ ["NoneType", "bool", "int", "str", "list", "tuple", "dict"], ∀ c ∈ isiK, kitB k c = some (k == c || (k == "bool" && c == "int")) := by decide +kernel
  exact kit_ty (h (kindD d) (by cases d <;> simp [kindD]) c hc)
theorem ty_of {K : PySem.W.Frag} {F H : Hp} {v : V} {d : PyData} (g : Gr F H) (h : Dt K F v d) : TyX K H v (.type (kindD d)) := by
  cases h with
  | non => exact .base .non
  | bl b => exact .base (.bl b)
  | int i => exact .base (.int i)
  | str x => exact .base (.str x)
  | lst hl _ =>
    rcases hl with (h | ⟨o, h⟩) | ⟨o, its, n, h1, h2, h3⟩
    · exact .base (.lst (g _ _ h))
    · exact .base (.frz (g _ _ h))
    · exact .kList h1 h2
  | tup ht _ =>
    rcases ht with (h | ⟨o, h⟩) | ⟨o, its, n, h1, h2, h3⟩
    · exact .base (.tup (g _ _ h))
    · exact .fTuple (g _ _ h)
    · exact .kTuple h1 h2
  | dct h => exact .base (.dK (g _ _ h))
theorem d_isiD {K : PySem.W.Frag} {σ : St} {F : Hp} {cs cs1 : Cs} {ta : TE} {d : PyData} {c : String} (hc : c ∈ isiK) (ha : EvD K ta σ F cs d cs1) : EvD K (tCB (rIsi K) (tCons ta (tCons (tC (.ty c)) tNil))) σ F cs (.bool (isiD c d)) cs1 := fun F1 H1 g1 s Q q =>
  ha F1 H1 g1 s _ fun v F2 H2 g2 s2 h2 => ⟨v, .ty c, .type (kindD d), .type c, isiD c d, rfl, .ty c, ty_of s2.fr h2, kit_isi hc d, q _ F2 H2 g2 s2 (.bl _)⟩
/-! a def that keeps its promise -/
def Lk (K : PySem.W.Frag) (f : Addr) (fd : FuncData) : Prop := ∃ oc od sl, K.lookup f = some ⟨oc, od, .func fd, sl⟩
theorem lk_of {K : PySem.W.Frag} {x qual : Str} {params : Arguments} {body : List Stmt} {scope : Scope} {dvs : List V} {kws : List (Str × V)} {f : Addr} {fd : FuncData} (F : FunD K x qual params body scope dvs kws f fd) : Lk K f fd := by
  obtain ⟨oc, od, dV, kV, doc, pm, an, cdv, ct, osl, _, lk, _⟩ := F.ex
  exact ⟨oc, od, osl, lk⟩
theorem Lk.one {K : PySem.W.Frag} {f : Addr} {fd fd2 : FuncData} (a : Lk K f fd) (b : Lk K f fd2) : fd = fd2 := by
  obtain ⟨_, _, _, e1⟩ := a
  obtain ⟨_, _, _, e2⟩ := b
  rw [e1] at e2
  cases e2
  rfl
structure Ok (P : Program) (w : World) (K : PySem.W.Frag) (mg : Str → Option Value) (base : Heap) (k : Nat) (x : Str) (ps : List Str) (sp : Sp) : Prop where
  ex : ∃ fd, FnOk P w K mg base CX0 k (He.ga K x) fd ps sp ∧ Binds K fd ps [] ∧ Lk K (He.ga K x) fd
  kp : PySem.W.keepIn K (.ref (He.ga K x)) = true
  gm : mg x = some (.ref (He.ga K x))
structure Df (K : PySem.W.Frag) (mg : Str → Option Value) (x : Str) (st : Stmt) : Prop where
  ex : ∃ fd, FunD K x x (defArgs st) (defBody st) (defScope st) [] [] (He.ga K x) fd
  gm : mg x = some (.ref (He.ga K x))
end Bw

/-! set(list) for any kind of key: as many members as unlike keys -/
namespace Bw
open PySem PyProof.Rows
def dups {κ : Type} [BEq κ] : List κ → List κ → List κ
  | acc, [] => acc
  | acc, x :: xs => dups (if acc.any (· == x) then acc else acc ++ [x]) xs
section
variable {κ : Type} [DecidableEq κ] [BEq κ] [LawfulBEq κ]
def met (ks : List κ) (i : Nat) : List κ := dups [] (ks.take i)
theorem dups_app (l : List κ) (x : κ) : ∀ acc, dups acc (l ++ [x]) = (if (dups acc l).any (· == x) then dups acc l else dups acc l ++ [x]) := by
  induction l with
  | nil => intro acc; rfl
  | cons y l ih => intro acc; exact ih _
theorem met_succ (ks : List κ) (i : Nat) (x : κ) (h : ks[i]? = some x) : met ks (i + 1) = (if (met ks i).any (· == x) then met ks i else met ks i ++ [x]) := by
  unfold met
  rw [List.take_add_one, h]
  exact dups_app _ _ _
theorem dups_len (l : List κ) : ∀ acc : List κ, (dups acc l).length ≤ acc.length + l.length := by
  induction l with
  | nil => intro acc; exact Nat.le_refl _
  | cons y l ih =>
    intro acc
    have := ih (if acc.any (· == y) then acc else acc ++ [y])
    have h2 : (if acc.any (· == y) then acc else acc ++ [y]).length ≤ acc.length + 1 := by
      split
      · exact Nat.le_succ _
      · rw [List.length_append]; exact Nat.le_refl _
    show (dups (if acc.any (· == y) then acc else acc ++ [y]) l).length ≤ acc.length + (l.length + 1)
    omega
theorem met_len (ks : List κ) (i : Nat) : (met ks i).length ≤ i := by
  have h := dups_len (ks.take i) ([] : List κ)
  have h2 : (ks.take i).length ≤ i := by rw [List.length_take]; exact Nat.min_le_left _ _
  unfold met
  simp only [List.length_nil, Nat.zero_add] at h
  omega
end
section
variable {prog : Program} {w : World} {A : Around} {R : Result → Shared → Prop} {I : Addr} {fp wr : List Addr} {G : Array GenState → Array GenState → Prop} {n : Nat} {P : Nat → Value → Prop} {St : Nat → Shared → Prop}
variable {κ : Type} [DecidableEq κ] [BEq κ] [LawfulBEq κ] (knd : KeyKind prog w κ)
theorem loopK (W : WalksS prog w A.in1 I fp wr G n P St) (S : Addr) (hSf : S ∉ fp) (ks : List κ) (hval : ∀ i v, P i v → ∃ k, ks[i]? = some k ∧ knd.is k v = true ∧ v.scannable = true) (hb : n + 1 < scanBound) :
    ∀ (k i : Nat) (s : Shared), n - i = k → i ≤ n → St i s → s.heap.SetOf knd S (fun z => (met ks i).any (· == z)) (met ks i).length →
      (∀ s', Moved (S :: wr) G s s' → s'.heap.SetOf knd S (fun z => (met ks n).any (· == z)) (met ks n).length → R (.ok (.ret .none)) s') →
      codeAny (model prog w) A (.builtin "set.update.loop" ⟨[.ref S, .ref I], []⟩) R s := by
  have nw : S ∉ wr := fun h => hSf (W.sub _ h)
  have sb : ∀ b ∈ wr, b ∈ S :: wr := fun b hb => List.mem_cons_of_mem _ hb
  intro k
  induction k with
  | zero =>
    intro i s hk hi hst hS hR
    obtain rfl : i = n := by omega
    refine codeAny_builtin F.entry_set_update_loop ?_
    rw [Around.under_plainId F.plain_set_update_loop _]
    show wpAny _ A.in1 (pyNext (.ref I) >>= _) _ _ s
    refine wpAny_bind (W.done s _ _ hst fun s' hm => ?_)
    show wpAny _ A.in1 (ret Value.none) _ _ s'
    refine wpAny_pure (hR s' (hm.mono sb) ?_)
    obtain ⟨o, es, ep, t, ho, rest⟩ := hS
    exact ⟨o, es, ep, t, hm.heap S _ nw ho, rest⟩
  | succ k ih =>
    intro i s hk hi hst hS hR
    have hlt : i < n := by omega
    refine codeAny_builtin F.entry_set_update_loop ?_
    rw [Around.under_plainId F.plain_set_update_loop _]
    show wpAny _ A.in1 (pyNext (.ref I) >>= _) _ _ s
    refine wpAny_bind (W.item i s _ _ hlt hst fun v s' hP hst' hm => ?_)
    obtain ⟨x, hx, his, hsc⟩ := hval i v hP
    have hS' : s'.heap.SetOf knd S (fun z => (met ks i).any (· == z)) (met ks i).length := by
      obtain ⟨o, es, ep, tb, ho, rest⟩ := hS
      exact ⟨o, es, ep, tb, hm.heap S _ nw ho, rest⟩
    show wpAny _ A.in1 (holding [v] (setAdd S v) >>= _) _ _ s'
    refine wpAny_bind (wpAny_holding ?_)
    unfold setAdd
    refine wpAny_holding ?_
    refine wpAny_bind (knd.pyHash (k := x) his ?_)
    refine wpAny_setAddHashed_of (knd := knd) (s := { s' with toks := s'.toks + 1 }) his hsc hS' (by have := met_len ks i; omega) fun h' hsb hS2 => ?_
    have hSi : h'.SetOf knd S (fun z => (met ks (i + 1)).any (· == z)) (met ks (i + 1)).length := by
      refine SetOf_congr hS2 (fun z => ?_) ?_
      · rw [met_succ ks i x hx]
        by_cases q : (met ks i).any (· == x) = true
        · rw [if_pos q]
          by_cases e : z = x
          · subst e; rw [q]; rfl
          · rw [decide_eq_false e, Bool.or_false]
        · rw [if_neg q, List.any_append]
          by_cases e : z = x
          · subst e; simp
          · have hb2 : (x == z) = false := beq_eq_false_iff_ne.mpr fun h' => e h'.symm
            simp [hb2, e]
      · rw [met_succ ks i x hx]
        by_cases q : (met ks i).any (· == x) = true
        · rw [if_pos q, if_pos q]
        · rw [if_neg q, if_neg q, List.length_append]; rfl
    refine wpAny_pure ⟨plainId_quiet F.plain_set_update_loop _, ih (i + 1) _ (by omega) hlt (W.frame _ s' _ _ hst' (Nat.le_succ _) fun b hb o e => ?_) hSi fun s'' hm'' hS'' => ?_⟩
    · rw [hsb.2 b (fun h : b = S => hSf (by rw [← h]; exact hb))]; exact e
    · refine hR s'' (Moved.trans W.gtrans ((hm.mono sb).then_heap (Nat.le_succ _) fun b o hb e => ?_) hm'') hS''
      rw [hsb.2 b (fun h : b = S => hb (by rw [h]; exact List.mem_cons_self))]; exact e
end
end Bw
namespace Bw
open PySem
section
variable {prog : Program} {w : World} {A : Around} {E : Value → Shared → Prop} {s : Shared}
variable {κ : Type} [DecidableEq κ] [BEq κ] [LawfulBEq κ] (knd : KeyKind prog w κ)
abbrev sO (led : Bool) : Obj := { cls := .type "set", dict := none, data := .set #[] 0 (.fresh 0 0 led) }
theorem call_setK {l : Addr} {items : Array Value} {ks : List κ} {Q : Value → Shared → Prop} (hh : A.handled = none) (hl : s.heap.IsList l items)
    (hi : ∀ (i : Nat) (v : Value), items[i]? = some v → ∃ k, ks[i]? = some k ∧ knd.is k v = true ∧ v.scannable = true) (hb : items.size + 1 < scanBound)
    (h : ∀ (h' : Heap) (tk : Nat), h'.SetOf knd s.heap.objs.size (fun z => (met ks items.size).any (· == z)) (met ks items.size).length → (∀ b o, b < s.heap.objs.size → s.heap.get? b = some o → h'.get? b = some o) → Q (.ref s.heap.objs.size) { s with heap := h', toks := tk }) :
    wpAny (model prog w) A (call (.type "set") [.ref l]) Q E s := by
  obtain ⟨c, tl, hmro⟩ := F.called_set.mro
  have hmade := F.called_set.made
  have hsub := F.called_set.sub
  refine wpAny_call (codeAny_of_tree ?_)
  show wpAny _ _ (callAny (.type "set") _) _ _ _
  refine wpAny_pure ⟨Code.quiet_builtin _ (by decide +kernel), codeAny_builtin F.entry_type_call ?_⟩
  rw [Around.under_plain (weight_type_call_type "set" [.ref l] []) rfl]
  have h1 := F.called_set.notType
  have h2 := F.called_set.canCreate
  have hct := F.typeCall_set_1 (.ref l)
  repeat (any_goals (first | assumption | wp_step))
  refine codeAny_mono (code_set_new_1 (.ref l) (E := E) (Q₁ := fun obj s₁ => ∃ led : Bool, obj = .ref s.heap.objs.size ∧ s₁ = { s with heap := s.heap.push (sO led) }) fun led => ⟨led, rfl, rfl⟩) fun r s₁ hr => ?_
  cases r with
  | error e => exact hr
  | ok fl =>
    cases fl with
    | ret obj =>
      obtain ⟨led, rfl, rfl⟩ := hr
      have hS : (s.heap.push (sO led)).get? s.heap.objs.size = some (sO led) := Heap.get?_push_size _ rfl
      have hT : Shared.TypeIs { s with heap := s.heap.push (sO led) } (.ref s.heap.objs.size) "set" := ⟨_, hS, rfl⟩
      have hli := F.called_set.init.lookup
      have hbi := F.called_set.init.bind (.ref s.heap.objs.size)
      repeat (any_goals (first | assumption | wp_step))
      refine codeAny_mono (codeAny_call_builtin (R := wants (fun r s₂ => r = .none ∧ ∃ h' tk, s₂ = { s with heap := h', toks := tk } ∧ h'.SetOf knd s.heap.objs.size (fun z => (met ks items.size).any (· == z)) (met ks items.size).length ∧
          (∀ b o, b < s.heap.objs.size → s.heap.get? b = some o → h'.get? b = some o)) E) F.called_set.init.plain F.entry_set_init (check_set_init_1 hT ?_)) fun r₂ s₂ hr₂ => ?_
      · obtain ⟨ol, hol, hcl, nl, hdl⟩ := hl
        obtain ⟨ocls, odict, odata, oslots⟩ := ol
        simp only at hcl hdl
        subst hcl; subst hdl
        have hol' : (s.heap.push (sO led)).get? l = some { cls := .type "list", dict := odict, data := .seq items nl, slots := oslots } := Heap.get?_push_of_some _ hol
        have hsls := F.sub_list_set
        have hslf := F.sub_list_frozenset
        have hne : (Value.type "list" == Value.type "dict") = false := by decide
        have hl1 : (s.heap.push (sO led)).IsList l items := ⟨_, hol', rfl, nl, rfl⟩
        unfold Builtin.«set.__init__» noKeywords Builtin.Frozenset.updateFrom
        generalize hPI : pyIter = PI
        wp_walk
        subst hPI
        refine wpAny_pyIter_list hl1 ?_
        refine wpAny_bind (wpAny_runValue ?_)
        have hlS : l < s.heap.objs.size := Heap.lt_size hol
        have hneI : l ≠ (s.heap.push (sO led)).objs.size := by
          rw [Heap.size_push]; exact Nat.ne_of_lt (Nat.lt_succ_of_lt hlS)
        have hSf : s.heap.objs.size ∉ [(s.heap.push (sO led)).objs.size, l] := by
          rw [Heap.size_push]; simp only [List.mem_cons, List.not_mem_nil, or_false, not_or]
          exact ⟨Nat.ne_of_lt (Nat.lt_succ_self _), Nat.ne_of_gt hlS⟩
        refine loopK knd ((Walks.list (by simp [hh]) _ l hneI items).toS) s.heap.objs.size hSf ks hi hb (items.size - 0) 0 _ (by omega) (Nat.zero_le _) ⟨⟨_, Heap.get?_push_size _ rfl, rfl, rfl⟩, (hl1.push _)⟩ ?hS0 ?hR
        case hS0 =>
          exact PyProof.Rows.SetOf_congr ((PyProof.Rows.setObjOf_fresh (knd := knd) led).setOf (Heap.get?_push_of_some _ hS) (by unfold scanBound; omega)) (fun _ => rfl) rfl
        case hR =>
          intro s' hm hS'
          obtain ⟨h', g', d', tk', os'⟩ := s'
          have eg : g' = s.gens := hm.gens
          have ed : d' = s.drawn := hm.drawn
          have eo : os' = s.os := hm.os
          subst eg; subst ed; subst eo
          show wpAny _ _ _ _ _ _
          refine wpAny_pure ?_
          show wpAny _ _ (ret Value.none) _ _ _
          refine wpAny_pure ⟨rfl, h', tk', rfl, hS', fun b o hb e => ?_⟩
          refine hm.heap b o ?_ (Heap.get?_push_of_some _ (Heap.get?_push_of_some _ e))
          simp only [List.mem_cons, List.not_mem_nil, or_false, not_or]
          exact ⟨Nat.ne_of_lt hb, by rw [Heap.size_push]; exact Nat.ne_of_lt (Nat.lt_succ_of_lt hb)⟩
      · cases r₂ with
        | error e => exact hr₂
        | ok fl₂ =>
          cases fl₂ with
          | ret r =>
            obtain ⟨rfl, h', tk, rfl, hS', hk'⟩ := hr₂
            repeat (any_goals (first | assumption | wp_step))
            exact h _ _ hS' hk'
          | _ => exact hr₂.elim
    | _ => exact hr.elim
end
end Bw


namespace Bw
open PySem L2
def tLenSetS (K : PySem.W.Frag) (ta : TE) : TE := fun σ H Q => ta σ H fun x H1 => ∃ (l : Addr) (xs : List Str), x = .ref l ∧ SqL K H1 l (xs.map V.str) ∧ xs.length ≤ 4000 ∧ Q (.int (dups [] xs).length) H1
theorem strs_get : ∀ {xs : List Str} {us : List Value} {i : Nat} {v : Value}, Vals (xs.map V.str) us → us[i]? = some v → ∃ k, xs[i]? = some k ∧ ∃ t, v = .str k t
  | [], _, _, _, .nil, e => by simp at e
  | x :: xs, _, 0, v, .cons r t, e => by
    simp at e; subst e
    exact ⟨x, rfl, r⟩
  | x :: xs, _, i + 1, v, .cons r t, e => by
    obtain ⟨k, h1, h2⟩ := strs_get (i := i) (v := v) t (by simpa using e)
    exact ⟨k, by simpa using h1, h2⟩
theorem met_all {κ : Type} [DecidableEq κ] [BEq κ] (ks : List κ) : met ks ks.length = dups [] ks := by unfold met; rw [List.take_length]
theorem pe_lenSetS {X : Cx} {a : Expr} {ta : TE} {p p2 q pos : Pos} (hc : X.calm = true) (hg : Gl X "len") (hm : X.mg "len" = none) (hg2 : Gl X "set") (hm2 : X.mg "set" = none) (ha : PE X a ta)
    (na : starEach [a] X.env = (false, eval a X.env) :: starEach [] X.env := by rfl) : PE X (.Call (.Name "len" p) [.Call (.Name "set" p2) [a] [] q] [] pos) (tLenSetS X.K ta) := by
  refine ⟨fun pins s σ H Q I h => ?_⟩
  refine PyProof.Rows.Call_ (ld_blt I hg hm boot_len ?_)
  refine PyProof.Rows.callWith_builtin1 (PyProof.Rows.args_cons ?_ rfl) rfl rfl
  refine PyProof.Rows.Call_ (ld_blt I hg2 hm2 PyProof.Rows.boot_set ?_)
  refine PyProof.Rows.callWith_type1 (PyProof.Rows.args_cons (thn (ha.run pins s σ H _ I h) fun v s1 ⟨x, H1, I1, r1, q1⟩ => PyProof.Rows.args_nil ?_) na) na rfl
  obtain ⟨l, xs, rfl, hq, h1, q1⟩ := q1
  cases r1
  obtain ⟨its, r, pl, hz⟩ := I1.list hq
  have hl : its.toArray.size = xs.length := by rw [List.size_toArray, ← r.length, List.length_map]
  refine call_setK (PySem.strKind X.prog X.w) (ks := xs) (I1.ok.hd hc) pl.isList (fun i v hv => ?_) (by rw [hl]; unfold scanBound; omega) fun h' tk hS hk => ?_
  · obtain ⟨k, e1, t, e2⟩ := strs_get (i := i) (v := v) r (by simpa using hv)
    subst e2
    exact ⟨k, e1, strKind_is _ _ _ _, rfl⟩
  · refine PyProof.Rows.args_nil ?_
    rw [hl, met_all] at hS
    obtain ⟨o, es, ep, t, ho, hex, hd, _, _, _, hf, hn⟩ := hS
    have I2 : Inv X pins σ H1 { s1 with heap := h', toks := tk } := I1.kept fun b o e => hk b o (Heap.lt_size e) e
    have hlen := dups_len xs ([] : List Str)
    simp only [List.length_nil, Nat.zero_add] at hlen
    exact call_len_set ho hex hd hf (by rw [hn] <;> omega) ⟨.int (dups [] xs).length, H1, I2.tok _, ⟨_, by rw [hn]⟩, q1⟩
def setLenM (xs : List Str) : Option Int := if xs.length ≤ 4000 then some ((dups [] xs).length : Int) else none
abbrev rSrep : R2 := fun x y H Q => ∃ z n, x = .str z ∧ y = .int n ∧ MulOk z n ∧ Q (.str (Txt.mul z n)) H
theorem op_srep {X : Cx} : OpR X (binaryOp .Mult) rSrep := by
  intro pins s σ H x y v u Q I rx ry h
  obtain ⟨i, j, rfl, rfl, hz, q⟩ := h
  obtain ⟨t, rfl⟩ := rx
  obtain ⟨t', rfl⟩ := ry
  exact SB.mul hz fun t' tk => ⟨.str (Txt.mul i j), H, I.tok _, ⟨_, rfl⟩, q⟩
def srepM (x : Str) (n : Int) : Option Str := if -(2 ^ 63) ≤ n ∧ n < 2 ^ 63 ∧ x.length * n.toNat ≤ 100000 then some (Txt.mul x n) else none
theorem mulOk {x : Str} {n : Int} (h : -(2 ^ 63) ≤ n ∧ n < 2 ^ 63 ∧ x.length * n.toNat ≤ 100000) : MulOk x n := by
  obtain ⟨h1, h2, h3⟩ := h
  refine ⟨?_, fun hn hc => ?_, fun hn hc => ?_⟩
  · rw [Bool.or_eq_false_iff]
    exact ⟨decide_eq_false (by omega), decide_eq_false (by omega)⟩
  · intro hgt
    have hx : (x.length : Int) * n ≤ 100000 := by
      have e : ((x.length * n.toNat : Nat) : Int) = (x.length : Int) * n := by
        rw [Int.natCast_mul, Int.toNat_of_nonneg (by omega)]
      omega
    have h5 : (2 ^ 63 - 1 : Int) / n + 1 ≤ x.length := by omega
    have h6 : (2 ^ 63 - 1 : Int) < ((2 ^ 63 - 1 : Int) / n + 1) * n := Int.lt_ediv_add_one_mul_self _ (by omega)
    have h7 : ((2 ^ 63 - 1 : Int) / n + 1) * n ≤ (x.length : Int) * n := Int.mul_le_mul_of_nonneg_right h5 (by omega)
    omega
  · unfold Builtin.Str.tooLong
    simp only [decide_eq_false_iff_not]
    have : (100000 : Nat) ≤ sizeLine := by decide
    omega
section
variable {K : PySem.W.Frag} {σ : St} {F F' : Hp} {cs cs1 cs2 cs3 : Cs} {ta tb tc te : TE} {d e : PyData} {as : TA} {a b c : Int} {nx bk ct : St → Hp → Prop} {rt : VK} {H : Hp} {t u : TS}
theorem d_srep {x z : Str} (ha : EvD K ta σ F cs (.str x) cs1) (hb : EvD K tb σ F cs1 (.int b) cs2) (hz : srepM x b = some z) : EvD K (tOp rSrep ta tb) σ F cs (.str z) cs2 :=
  d_op ha hb fun _ _ F2 H2 hx hy s _ Q q => by
    cases hx.toStr; cases hy.toInt
    unfold srepM at hz; split at hz
    · rename_i h; cases hz; exact ⟨x, b, rfl, rfl, mulOk h, q _ F2 H2 .rfl s (.str _)⟩
    · cases hz
theorem d_setLen {xs : List Str} {n : Int} (ha : EvD K ta σ F cs (eL eS xs) cs1) (hn : setLenM xs = some n) : EvD K (tLenSetS K ta) σ F cs (.int n) cs1 := fun F1 H1 g1 s Q q =>
  ha F1 H1 g1 s _ fun v F2 H2 g2 s2 h2 => by
    obtain ⟨p, vs, rfl, hl, hd⟩ := h2.toLst
    cases hd.strs
    unfold setLenM at hn; split at hn
    · rename_i h; cases hn; exact ⟨p, xs, rfl, gr_L s2.fr hl, h, q _ F2 H2 g2 s2 (.int _)⟩
    · cases hn
/-- list(x), x a cell -/
theorem c_listC {l1 l2 : Cs} {i : Nat} {p : Addr} {us : List V} {ds : List PyData} (hi : σ[i]? = some (some (.ref p))) (hd : Dts K F us ds) : EvC K (tCB (rListS K) (tCons (tVar i) tNil)) σ F (l1 ++ (p, .lst us) :: l2) ds (l1 ++ (p, .lst us) :: l2) := fun F1 H1 g1 s Q q =>
  ⟨.ref p, hi, p, us, rfl, .inl (.inl (.inl s.getAt)), fun l nl => q _ _ _ _ .rfl (s.cell nl) (hd.gr g1)⟩
/-- x = y.pop(k), y a cell -/
def popM {α : Type} (xs : List α) (k : Int) : Option (α × List α) := if -(2 ^ 63) ≤ k ∧ k < 2 ^ 63 then (seqIndex? k xs.length).bind fun j => (xs[j]?).map fun x => (x, xs.eraseIdx j) else none
theorem popM_some {α : Type} {xs ys : List α} {k : Int} {x : α} (h : popM xs k = some (x, ys)) : (-(2 ^ 63) ≤ k ∧ k < 2 ^ 63) ∧ ∃ j, seqIndex? k xs.length = some j ∧ xs[j]? = some x ∧ ys = xs.eraseIdx j := by
  unfold popM at h; split at h
  · rename_i q
    refine ⟨q, ?_⟩
    obtain ⟨j, h1, h⟩ := bnd h
    cases e : xs[j]? with
    | none => rw [e] at h; cases h
    | some z => rw [e] at h; cases h; exact ⟨j, h1, e, rfl⟩
  · cases h
theorem er_map {α β : Type} (f : α → β) : ∀ (xs : List α) (j : Nat), (xs.eraseIdx j).map f = (xs.map f).eraseIdx j
  | [], _ => rfl
  | _ :: _, 0 => rfl
  | x :: xs, j + 1 => by simp only [List.eraseIdx_cons_succ, List.map_cons, er_map f xs j]
theorem s_popF {α : Type} {vf : α → V} {en : α → PyData} {l1 l2 : Cs} {i j : Nat} {p : Addr} {xs ys : List α} {x : α} {ti : TE} {k : Int} {σ' : St} (hd : ∀ F x, Dt K F (vf x) (en x)) (s : Sta F (l1 ++ (p, .lst (xs.map vf)) :: l2) H) (hi : σ[i]? = some (some (.ref p)))
    (h2 : EvD K ti σ F (l1 ++ (p, .lst (xs.map vf)) :: l2) (.int k) (l1 ++ (p, .lst (xs.map vf)) :: l2)) (hm : popM xs k = some (x, ys)) (hσ : σ.set j (some (vf x)) = σ') (q : ∀ F2 H2, Gr F F2 → Sta F2 (l1 ++ (p, .lst (ys.map vf)) :: l2) H2 → nx σ' H2) : tAsg (tBM K "list" rPopAt (tVar i) (tCons ti tNil)) (gName j) ⟨nx, rt, bk, ct⟩ σ H := by
  obtain ⟨⟨a1, a2⟩, m, b1, b2, rfl⟩ := popM_some hm
  refine ⟨.ref p, hi, .inl ⟨rfl, _, .inl (.inl s.getAt)⟩, h2 F H .rfl s _ fun w F3 H3 g3 s3 hw => ⟨p, xs.map vf, k, m, vf x, rfl, by cases hw.toInt; rfl, s3.getAt, a1, a2, by rw [List.length_map]; exact b1, by rw [List.getElem?_map, b2]; rfl, ?_⟩⟩
  show nx (σ.set j (some (vf x))) _
  rw [hσ]
  refine q F3 _ g3 ?_
  have s4 := s3.putAt (o' := .lst ((xs.map vf).eraseIdx m))
  rw [er_map]
  exact s4
/-- y.remove(k), y a cell of ints -/
def remM (xs : List Int) (k : Int) : Option (List Int) := if inL k xs = true then some (xs.erase k) else none
theorem rem_at {xs : List Int} {k : Int} (h : inL k xs = true) : ∃ j, xs[j]? = some k ∧ (∀ m : Nat, m < j → xs[m]? ≠ some k) ∧ xs.eraseIdx j = xs.erase k := by
  induction xs with
  | nil => cases h
  | cons y xs ih =>
    by_cases e : y = k
    · subst e
      exact ⟨0, rfl, fun m hm => absurd hm (Nat.not_lt_zero m), by simp⟩
    · have h' : inL k xs = true := by
        unfold inL at h ⊢
        rw [List.any_cons] at h
        have q : (y == k) = false := by simpa using e
        rw [q, Bool.false_or] at h
        exact h
      obtain ⟨j, h1, h2, h3⟩ := ih h'
      refine ⟨j + 1, by simpa using h1, fun m hm => ?_, ?_⟩
      · cases m with
        | zero => simpa using e
        | succ m => simpa using h2 m (by omega)
      · rw [List.eraseIdx_cons_succ, h3, List.erase_cons_tail]
        simpa using e
theorem s_remF {l1 l2 : Cs} {i : Nat} {p : Addr} {xs ys : List Int} {ti : TE} {k : Int} (s : Sta F (l1 ++ (p, .lst (xs.map V.int)) :: l2) H) (hi : σ[i]? = some (some (.ref p)))
    (h2 : EvD K ti σ F (l1 ++ (p, .lst (xs.map V.int)) :: l2) (.int k) (l1 ++ (p, .lst (xs.map V.int)) :: l2)) (hm : remM xs k = some ys) (q : ∀ F2 H2, Gr F F2 → Sta F2 (l1 ++ (p, .lst (ys.map V.int)) :: l2) H2 → nx σ H2) : tDrop (tBM K "list" rRemI (tVar i) (tCons ti tNil)) ⟨nx, rt, bk, ct⟩ σ H := by
  unfold remM at hm; split at hm
  · rename_i hin
    cases hm
    obtain ⟨j, e1, e2, e3⟩ := rem_at hin
    refine ⟨.ref p, hi, .inl ⟨rfl, _, .inl (.inl s.getAt)⟩, h2 F H .rfl s _ fun w F3 H3 g3 s3 hw => ⟨p, xs, k, j, rfl, by cases hw.toInt; rfl, s3.getAt, e1, e2, q F3 _ g3 ?_⟩⟩
    rw [e3]
    exact s3.putAt
  · cases hm
theorem d_isV {w : V} (hw : ∀ F v, Dt K F v d → v = w) (ha : EvD K ta σ F cs d cs1) : EvD K (tOp rIsN ta (tC .non)) σ F cs (.bool (decide (w = V.non))) cs1 := fun F1 H1 g1 s Q q =>
  ha F1 H1 g1 s _ fun v F2 H2 g2 s2 h2 => ⟨rfl, by cases hw F2 v h2; exact q _ F2 H2 g2 s2 (.bl _)⟩
theorem d_nisV {w : V} (hw : ∀ F v, Dt K F v d → v = w) (ha : EvD K ta σ F cs d cs1) : EvD K (tOp rNotN ta (tC .non)) σ F cs (.bool (!decide (w = V.non))) cs1 := fun F1 H1 g1 s Q q =>
  ha F1 H1 g1 s _ fun v F2 H2 g2 s2 h2 => ⟨rfl, by cases hw F2 v h2; exact q _ F2 H2 g2 s2 (.bl _)⟩
theorem d_isN (ha : EvD K ta σ F cs PyData.none cs1) : EvD K (tOp rIsN ta (tC .non)) σ F cs (.bool true) cs1 := d_isV (fun _ _ h => Dt.toNon h) ha
theorem d_nisN (ha : EvD K ta σ F cs PyData.none cs1) : EvD K (tOp rNotN ta (tC .non)) σ F cs (.bool false) cs1 := d_nisV (fun _ _ h => Dt.toNon h) ha
theorem d_isOI {o : Option Int} (ha : EvD K ta σ F cs (eO eI o) cs1) : EvD K (tOp rIsN ta (tC .non)) σ F cs (.bool o.isNone) cs1 := d_is (d_isV (fun _ _ h => dt_toI h) ha) (by cases o <;> rfl)
theorem d_nisOI {o : Option Int} (ha : EvD K ta σ F cs (eO eI o) cs1) : EvD K (tOp rNotN ta (tC .non)) σ F cs (.bool (!o.isNone)) cs1 := d_is (d_nisV (fun _ _ h => dt_toI h) ha) (by cases o <;> rfl)
end
end Bw
theorem Bw.sta0 {H : L2.Hp} : Bw.Sta H [] H := ⟨fun _ _ e => e, by simp, by simp, by simp⟩

namespace Bw
open PySem L2
/-! expressions that change cells -/
section
variable {K : PySem.W.Frag} {σ : St} {F F' : Hp} {cs cs1 cs2 cs3 : Cs} {ta tb tc te : TE} {d e : PyData} {as : TA} {a b c : Int} {nx bk ct : St → Hp → Prop} {rt : VK} {H : Hp} {t u : TS}
theorem d_lendX {l1 l2 m1 m2 : Cs} {p : Addr} {o : HO} {w : V} (hw : ∀ F v, Dt K F v d → v = w) (hd : ∀ F, Dt K F w d) (h : ∀ F1, Gr F F1 → F1 p = none → EvD K te σ (upd F1 p o) (l1 ++ l2) d (m1 ++ m2)) : EvD K te σ F (l1 ++ (p, o) :: l2) d (m1 ++ (p, o) :: m2) := fun F1 H1 g1 s Q q => by
  refine h F1 g1 s.freeAt (upd F1 p o) H1 .rfl s.frozeAt Q fun v F2 H2 g2 s2 h2 => ?_
  cases hw F2 v h2
  exact q w (cut F2 p) H2 (gr_cut s.freeAt g2) (Sta.lent g2 s2) (hd _)
theorem t_lendX {l1 l2 m1 m2 : Cs} {p : Addr} {o : HO} {t : TT} {b : Bool} (h : ∀ F1, Gr F F1 → F1 p = none → EvT t σ (upd F1 p o) (l1 ++ l2) b (m1 ++ m2)) : EvT t σ F (l1 ++ (p, o) :: l2) b (m1 ++ (p, o) :: m2) := fun F1 H1 g1 s Q q => by
  refine h F1 g1 s.freeAt (upd F1 p o) H1 .rfl s.frozeAt Q fun F2 H2 g2 s2 => ?_
  exact q (cut F2 p) H2 (gr_cut s.freeAt g2) (Sta.lent g2 s2)
/-! functions that change cells -/
inductive Ar where
  | d (x : PyData)
  | c (us : List V)
inductive ArgR (K : PySem.W.Frag) (F : Hp) : List V → List Ar → Cs → Prop
  | nil : ArgR K F [] [] []
  | d {v : V} {x : PyData} {vs : List V} {as : List Ar} {cs : Cs} : Dt K F v x → ArgR K F vs as cs → ArgR K F (v :: vs) (.d x :: as) cs
  | c {p : Addr} {us : List V} {vs : List V} {as : List Ar} {cs : Cs} : ArgR K F vs as cs → ArgR K F (.ref p :: vs) (.c us :: as) ((p, .lst us) :: cs)
theorem ArgR.no {vs : List V} {cs : Cs} (h : ArgR K F vs [] cs) : vs = [] ∧ cs = [] := by cases h; exact ⟨rfl, rfl⟩
theorem ArgR.hd {vs : List V} {x : PyData} {as : List Ar} {cs : Cs} (h : ArgR K F vs (.d x :: as) cs) : ∃ v ws, vs = v :: ws ∧ Dt K F v x ∧ ArgR K F ws as cs := by
  cases h with | d h t => exact ⟨_, _, rfl, h, t⟩
theorem ArgR.hc {vs : List V} {us : List V} {as : List Ar} {cs : Cs} (h : ArgR K F vs (.c us :: as) cs) : ∃ p ws cs', vs = .ref p :: ws ∧ cs = (p, .lst us) :: cs' ∧ ArgR K F ws as cs' := by
  cases h with | c t => exact ⟨_, _, _, rfl, rfl, t⟩
theorem ArgR.len : ∀ {vs : List V} {as : List Ar} {cs : Cs}, ArgR K F vs as cs → vs.length = as.length
  | _, _, _, .nil => rfl
  | _, _, _, .d _ t => by rw [List.length_cons, List.length_cons, t.len]
  | _, _, _, .c t => by rw [List.length_cons, List.length_cons, t.len]
def upC : Cs → List (List V) → Cs
  | c :: cs, us :: uss => (c.1, .lst us) :: upC cs uss
  | _, _ => []
def spC (K : PySem.W.Frag) {α β : Type} (A : α → List Ar) (B : β → PyData) (C : β → List (List V)) (f : α → Option β) : Sp := fun vs H Q _ => ∃ F cc cs x y, ArgR K F vs (A x) cc ∧ Sta F (cc ++ cs) H ∧ f x = some y ∧ ∀ v F2 H2, Gr F F2 → Sta F2 (upC cc (C y) ++ cs) H2 → Dt K F2 v (B y) → Q v H2
def EvR (K : PySem.W.Frag) (ta : TA) (σ : St) (F : Hp) (cs : Cs) (as : List Ar) (cc : Cs) (cs' : Cs) : Prop := EvA ta σ F cs (fun vs F' => ArgR K F' vs as cc) cs'
theorem ArgR.gr (g : Gr F F') : ∀ {vs : List V} {as : List Ar} {cs : Cs}, ArgR K F vs as cs → ArgR K F' vs as cs
  | _, _, _, .nil => .nil
  | _, _, _, .d h t => .d (h.gr g) (t.gr g)
  | _, _, _, .c t => .c (t.gr g)
theorem r_nil : EvR K tNil σ F cs [] [] cs := fun F1 H1 g s Q q => q _ F1 H1 .rfl s .nil
theorem r_d {xs : List Ar} {cc : Cs} (h : EvD K te σ F cs d cs1) (h2 : EvR K as σ F cs1 xs cc cs2) : EvR K (tCons te as) σ F cs (.d d :: xs) cc cs2 := fun F1 H1 g1 s Q q =>
  h F1 H1 g1 s _ fun v F2 H2 g2 s2 hv => h2 F2 H2 (g1.tr g2) s2 _ fun vs F3 H3 g3 s3 hvs => q _ F3 H3 (g2.tr g3) s3 (.d (hv.gr g3) hvs)
theorem r_c {xs : List Ar} {cc : Cs} {i : Nat} {p : Addr} {us : List V} (hi : σ[i]? = some (some (.ref p))) (h2 : EvR K as σ F cs xs cc cs2) : EvR K (tCons (tVar i) as) σ F cs (.c us :: xs) ((p, .lst us) :: cc) cs2 := fun F1 H1 g1 s Q q =>
  ⟨.ref p, hi, h2 F1 H1 g1 s _ fun vs F3 H3 g3 s3 hvs => q _ F3 H3 g3 s3 (.c hvs)⟩
theorem d_callC {α β : Type} {A : α → List Ar} {B : β → PyData} {C : β → List (List V)} {f : α → Option β} {x : α} {y : β} {E : XK} {cc cs' : Cs} (h : EvR K as σ F cs (A x) cc cs1) (hp : cs1.Perm (cc ++ cs')) (hf : f x = some y) (hq : (upC cc (C y) ++ cs').Perm cs2) : EvD K (tCall (spC K A B C f) [] E as) σ F cs (B y) cs2 := fun F1 H1 g1 s Q q =>
  h F1 H1 g1 s _ fun vs F2 H2 g2 s2 h2 => ⟨F2, cc, cs', x, y, by rw [List.append_nil]; exact h2, s2.perm hp, hf, fun v F3 H3 g3 s3 h3 => q v F3 H3 (g2.tr g3) (s3.perm hq) h3⟩
/-! comprehensions whose elements change cells -/
def lcS {S α β : Type} (f : S → α → Option (S × Option β)) : S → List α → Option (S × List β)
  | s, [] => some (s, [])
  | s, x :: xs => (f s x).bind fun p => (lcS f p.1 xs).bind fun q => some (q.1, match p.2 with
    | some y => y :: q.2
    | none => q.2)
def lcSC {S α β : Type} (f : S → α → Option (S × Option β)) (s : S) (xs : List α) : Option (S × List β) := if xs.length ≤ 100000 then lcS f s xs else none
theorem c_lcS {S α β : Type} {wi : TI} {g : TG} {tt : TT} {vs : List Nat} {xs : List α} {en : α → PyData} {em : β → PyData} {f : S → α → Option (S × Option β)} {ys : List β} {s0 s1 : S} (cc : S → Cs)
    (hi : EvI K wi σ F cs (xs.map en) (cc s0)) (hm : lcSC f s0 xs = some (s1, ys))
    (turn : ∀ x z z' o v F1 p us, Gr F F1 → Dt K F1 v (en x) → f z x = some (z', o) → ∃ σ2 : St, (∀ H (Q : St → Hp → Prop), Sta F1 ((p, .lst us) :: cc z) H → Q σ2 H → g v (wipe σ vs) H Q) ∧ wipe σ2 vs = wipe σ vs ∧
      EvT tt σ2 F1 ((p, .lst us) :: cc z) o.isSome ((p, .lst us) :: cc z) ∧ (o = none → z' = z) ∧ ∀ y, o = some y → EvD K te σ2 F1 ((p, .lst us) :: cc z) (em y) ((p, .lst us) :: cc z')) :
    EvC K (tLc wi g tt te vs) σ F cs (ys.map em) (cc s1) := fun F1 H1 g1 s Q q => by
  unfold lcSC at hm
  split at hm
  case isFalse => cases hm
  rename_i hl
  refine hi F1 H1 g1 s _ fun J F2 H2 g2 s2 hs => ?_
  intro p hp
  have s3 : Sta F2 ((p, .lst []) :: cc s0) (upd H2 p (.lst [])) := s2.cell hp
  refine ⟨fun i m H4 => m = xs.length - i ∧ i ≤ xs.length ∧ ∃ us done rest z F4, us.length ≤ i ∧ Gr F2 F4 ∧ Sta F4 ((p, .lst us) :: cc z) H4 ∧ Dts K F4 us (done.map em) ∧ lcS f z (xs.drop i) = some (s1, rest) ∧ done ++ rest = ys,
    ⟨xs.length, by simp, Nat.zero_le _, [], [], ys, s0, F2, Nat.le_refl _, .rfl, s3, .nil, by simpa using hm, rfl⟩, ?_⟩
  rintro i m H4 ⟨rfl, hi, us, done, rest, z, F4, hu, g4, s4, hd, hr, he⟩
  obtain ⟨hgo, hstop, hy⟩ := hs F4 _ H4 g4 s4
  by_cases hlt : i < xs.length
  · rw [List.drop_eq_getElem_cons hlt] at hr
    obtain ⟨⟨z', o⟩, ho, hr⟩ := bnd (show (f z xs[i]).bind _ = some (s1, rest) from hr)
    obtain ⟨⟨s1', zs⟩, hz, hr⟩ := bnd hr
    dsimp only at hz hr
    refine .inr ⟨hgo i (by simpa using hlt), fun H' => i + 1 ≤ xs.length ∧ ∃ us done rest z F4, us.length ≤ i + 1 ∧ Gr F2 F4 ∧ Sta F4 ((p, .lst us) :: cc z) H' ∧ Dts K F4 us (done.map em) ∧ lcS f z (xs.drop (i + 1)) = some (s1, rest) ∧ done ++ rest = ys, fun H' h' => ⟨xs.length - (i + 1), by omega, rfl, h'⟩, fun x H' y => ?_⟩
    obtain ⟨F5, g5, s5, d5⟩ := hy i x H' (en xs[i]) (by rw [List.getElem?_map, List.getElem?_eq_getElem hlt]; rfl) y
    obtain ⟨σ2, h1, h2, h3, hn, h4⟩ := turn xs[i] z z' o x F5 p us (g1.tr (g2.tr (g4.tr g5))) d5 ho
    refine h1 H' _ s5 ⟨h2, h3 F5 H' .rfl s5 _ fun F6 H6 g6 s6 => ?_⟩
    cases o with
    | none =>
      cases hr
      cases hn rfl
      exact ⟨hlt, us, done, zs, z, F6, Nat.le_succ_of_le hu, g4.tr (g5.tr g6), s6, hd.gr (g5.tr g6), hz, he⟩
    | some y1 =>
      cases hr
      refine (h4 y1 rfl) F6 H6 g6 s6 _ fun v F7 H7 g7 s7 hv => ⟨us, s7.at List.mem_cons_self, szl (by omega), hlt, us ++ [v], done ++ [y1], zs, z', F7, by rw [List.length_append]; exact Nat.succ_le_succ hu, g4.tr (g5.tr (g6.tr g7)), s7.put, ?_, hz, ?_⟩
      · rw [List.map_append]
        exact (hd.gr (g5.tr (g6.tr g7))).app (.cons hv .nil)
      · rw [List.append_assoc]; exact he
  · have e : i = xs.length := by omega
    subst e
    rw [List.drop_length] at hr
    cases hr
    rw [List.append_nil] at he
    subst he
    exact .inl ⟨by simpa using hstop, q p us F4 H4 (g2.tr g4) s4 hd⟩
/-! changes of a cell, where the values change other cells -/
theorem s_appX {k1 k2 l1 l2 : Cs} {i : Nat} {p : Addr} {vs : List V} (s : Sta F (k1 ++ (p, .lst vs) :: k2) H) (hi : σ[i]? = some (some (.ref p))) (h : EvD K te σ F (k1 ++ (p, .lst vs) :: k2) d (l1 ++ (p, .lst vs) :: l2)) (hl : vs.length < 100000)
    (q : ∀ v F2 H2, Gr F F2 → Sta F2 (l1 ++ (p, .lst (vs ++ [v])) :: l2) H2 → Dt K F2 v d → nx σ H2) : tDrop (tBM K "list" rAppend (tVar i) (tCons te tNil)) ⟨nx, rt, bk, ct⟩ σ H :=
  ⟨.ref p, hi, .inl ⟨rfl, _, .inl (.inl s.getAt)⟩, h F H .rfl s _ fun v F2 H2 g2 s2 h2 => ⟨p, vs, v, rfl, rfl, s2.getAt, szl hl, q v F2 _ g2 s2.putAt h2⟩⟩
theorem s_appFX {α : Type} {vf : α → V} {en : α → PyData} {k1 k2 l1 l2 : Cs} {i : Nat} {p : Addr} {xs ys : List α} {x : α} (hw : ∀ F v x, Dt K F v (en x) → v = vf x) (s : Sta F (k1 ++ (p, .lst (xs.map vf)) :: k2) H) (hi : σ[i]? = some (some (.ref p))) (h : EvD K te σ F (k1 ++ (p, .lst (xs.map vf)) :: k2) (en x) (l1 ++ (p, .lst (xs.map vf)) :: l2)) (hm : appM xs x = some ys)
    (q : ∀ F2 H2, Gr F F2 → Sta F2 (l1 ++ (p, .lst (ys.map vf)) :: l2) H2 → nx σ H2) : tDrop (tBM K "list" rAppend (tVar i) (tCons te tNil)) ⟨nx, rt, bk, ct⟩ σ H := by
  obtain ⟨hl, rfl⟩ := appM_some hm
  refine s_appX s hi h (by rw [List.length_map]; exact hl) fun v F2 H2 g2 s2 h2 => q F2 H2 g2 ?_
  cases hw F2 v x h2
  rw [List.map_append]; exact s2
theorem s_appGX {α : Type} {en : α → PyData} {k1 k2 l1 l2 : Cs} {i : Nat} {p : Addr} {vs : List V} {xs ys : List α} {x : α} (s : Sta F (k1 ++ (p, .lst vs) :: k2) H) (hf : Dts K F vs (xs.map en)) (hi : σ[i]? = some (some (.ref p))) (h : EvD K te σ F (k1 ++ (p, .lst vs) :: k2) (en x) (l1 ++ (p, .lst vs) :: l2)) (hm : appM xs x = some ys)
    (q : ∀ us F2 H2, Gr F F2 → Sta F2 (l1 ++ (p, .lst us) :: l2) H2 → Dts K F2 us (ys.map en) → nx σ H2) : tDrop (tBM K "list" rAppend (tVar i) (tCons te tNil)) ⟨nx, rt, bk, ct⟩ σ H := by
  obtain ⟨hl, rfl⟩ := appM_some hm
  refine s_appX s hi h (by rw [hf.len, List.length_map]; exact hl) fun v F2 H2 g2 s2 h2 => q _ F2 H2 g2 s2 ?_
  rw [List.map_append]; exact (hf.gr g2).app (.cons h2 .nil)
theorem s_itemX {k1 k2 m1 m2 l1 l2 : Cs} {i : Nat} {p : Addr} {vs : List V} {ti : TE} {k : Int} {j : Nat} (s : Sta F (k1 ++ (p, .lst vs) :: k2) H) (hi : σ[i]? = some (some (.ref p))) (h : EvD K te σ F (k1 ++ (p, .lst vs) :: k2) d (m1 ++ (p, .lst vs) :: m2))
    (h2 : EvD K ti σ F (m1 ++ (p, .lst vs) :: m2) (.int k) (l1 ++ (p, .lst vs) :: l2)) (hj : ixN vs.length k = some j) (q : ∀ v F2 H2, Gr F F2 → Sta F2 (l1 ++ (p, .lst (vs.set j v)) :: l2) H2 → Dt K F2 v d → nx σ H2) : tAsg te (gSub (tVar i) ti rSetL) ⟨nx, rt, bk, ct⟩ σ H :=
  h F H .rfl s _ fun v F2 H2 g2 s2 hv => ⟨.ref p, hi, h2 F2 H2 g2 s2 _ fun w F3 H3 g3 s3 hw => ⟨p, vs, k, j, rfl, hw.toInt, s3.getAt, hj, q v F3 _ (g2.tr g3) s3.putAt (hv.gr g3)⟩⟩
theorem s_itemFX {α : Type} {vf : α → V} {en : α → PyData} {k1 k2 m1 m2 l1 l2 : Cs} {i : Nat} {p : Addr} {xs ys : List α} {x : α} {ti : TE} {k : Int} (hw : ∀ F v x, Dt K F v (en x) → v = vf x) (s : Sta F (k1 ++ (p, .lst (xs.map vf)) :: k2) H) (hi : σ[i]? = some (some (.ref p))) (h : EvD K te σ F (k1 ++ (p, .lst (xs.map vf)) :: k2) (en x) (m1 ++ (p, .lst (xs.map vf)) :: m2))
    (h2 : EvD K ti σ F (m1 ++ (p, .lst (xs.map vf)) :: m2) (.int k) (l1 ++ (p, .lst (xs.map vf)) :: l2)) (hm : setM xs k x = some ys) (q : ∀ F2 H2, Gr F F2 → Sta F2 (l1 ++ (p, .lst (ys.map vf)) :: l2) H2 → nx σ H2) : tAsg te (gSub (tVar i) ti rSetL) ⟨nx, rt, bk, ct⟩ σ H := by
  obtain ⟨j, hj, rfl⟩ := setM_some hm
  refine s_itemX (j := j) s hi h h2 (by rw [List.length_map]; exact hj) fun v F2 H2 g2 s2 hv => q F2 H2 g2 ?_
  cases hw F2 v x hv
  rw [List.map_set]; exact s2
theorem s_itemGX {α : Type} {en : α → PyData} {k1 k2 m1 m2 l1 l2 : Cs} {i : Nat} {p : Addr} {vs : List V} {xs ys : List α} {x : α} {ti : TE} {k : Int} (s : Sta F (k1 ++ (p, .lst vs) :: k2) H) (hf : Dts K F vs (xs.map en)) (hi : σ[i]? = some (some (.ref p))) (h : EvD K te σ F (k1 ++ (p, .lst vs) :: k2) (en x) (m1 ++ (p, .lst vs) :: m2))
    (h2 : EvD K ti σ F (m1 ++ (p, .lst vs) :: m2) (.int k) (l1 ++ (p, .lst vs) :: l2)) (hm : setM xs k x = some ys) (q : ∀ us F2 H2, Gr F F2 → Sta F2 (l1 ++ (p, .lst us) :: l2) H2 → Dts K F2 us (ys.map en) → nx σ H2) : tAsg te (gSub (tVar i) ti rSetL) ⟨nx, rt, bk, ct⟩ σ H := by
  obtain ⟨j, hj, rfl⟩ := setM_some hm
  refine s_itemX (j := j) s hi h h2 (by rw [hf.len, List.length_map]; exact hj) fun v F2 H2 g2 s2 hv => q _ F2 H2 g2 s2 ?_
  rw [List.map_set]; exact (hf.gr g2).setAt j hv
end
end Bw
namespace Bw
open PySem L2
section
variable {K : PySem.W.Frag} {σ : St} {F F' : Hp} {cs cs1 cs2 cs3 : Cs} {ta tb tc te : TE} {d e : PyData} {as : TA} {a b c : Int} {nx bk ct : St → Hp → Prop} {rt : VK} {H : Hp} {t u : TS}
theorem s_augI {i : Nat} {σ' : St} {w b : Int} {f : Int → Int → Int} (hx : σ[i]? = some (some (.int w))) (s : Sta F cs H) (h : EvD K te σ F cs (.int b) cs1) (hσ : σ.set i (some (.int (f w b))) = σ') (q : ∀ F2 H2, Gr F F2 → Sta F2 cs1 H2 → nx σ' H2) : tAug i te (ipI f) ⟨nx, rt, bk, ct⟩ σ H :=
  ⟨.int w, hx, h F H .rfl s _ fun v F2 H2 g2 s2 h2 => ⟨w, b, rfl, h2.toInt, by show nx (σ.set i (some (.int (f w b)))) H2; rw [hσ]; exact q F2 H2 g2 s2⟩⟩
def rGetL (K : PySem.W.Frag) : V → V → Hp → VK → Prop := rIxL K
/-- o[i] op= e, o a cell of ints -/
theorem s_augS {k1 k2 m1 m2 l1 l2 : Cs} {i : Nat} {p : Addr} {xs ys : List Int} {ti : TE} {k w b : Int} {f : Int → Int → Int} (s : Sta F (k1 ++ (p, .lst (xs.map V.int)) :: k2) H) (hi : σ[i]? = some (some (.ref p))) (h1 : EvD K ti σ F (k1 ++ (p, .lst (xs.map V.int)) :: k2) (.int k) (m1 ++ (p, .lst (xs.map V.int)) :: m2)) (hg : atI xs k = some w)
    (h2 : EvD K te σ F (m1 ++ (p, .lst (xs.map V.int)) :: m2) (.int b) (l1 ++ (p, .lst (xs.map V.int)) :: l2)) (hm : setM xs k (f w b) = some ys) (q : ∀ F2 H2, Gr F F2 → Sta F2 (l1 ++ (p, .lst (ys.map V.int)) :: l2) H2 → nx σ H2) : tAugS (tVar i) ti te (rIxL K) (ipI f) rSetL ⟨nx, rt, bk, ct⟩ σ H := by
  obtain ⟨j, hj, rfl⟩ := setM_some hm
  refine ⟨.ref p, hi, h1 F H .rfl s _ fun v F2 H2 g2 s2 hv => ⟨p, xs.map V.int, k, .int w, rfl, hv.toInt, .inl (.inl s2.getAt), by rw [atI_map, hg]; rfl, h2 F2 H2 g2 s2 _ fun y F3 H3 g3 s3 hy => ⟨w, b, rfl, hy.toInt, p, xs.map V.int, k, j, rfl, hv.toInt, s3.getAt, by rw [List.length_map]; exact hj, q F3 _ (g2.tr g3) ?_⟩⟩⟩
  rw [List.map_set]; exact s3.putAt
theorem s_popFX {α : Type} {vf : α → V} {en : α → PyData} {k1 k2 l1 l2 : Cs} {i j : Nat} {p : Addr} {xs ys : List α} {x : α} {ti : TE} {k : Int} {σ' : St} (hd : ∀ F x, Dt K F (vf x) (en x)) (s : Sta F (k1 ++ (p, .lst (xs.map vf)) :: k2) H) (hi : σ[i]? = some (some (.ref p)))
    (h2 : EvD K ti σ F (k1 ++ (p, .lst (xs.map vf)) :: k2) (.int k) (l1 ++ (p, .lst (xs.map vf)) :: l2)) (hm : popM xs k = some (x, ys)) (hσ : σ.set j (some (vf x)) = σ') (q : ∀ F2 H2, Gr F F2 → Sta F2 (l1 ++ (p, .lst (ys.map vf)) :: l2) H2 → nx σ' H2) : tAsg (tBM K "list" rPopAt (tVar i) (tCons ti tNil)) (gName j) ⟨nx, rt, bk, ct⟩ σ H := by
  obtain ⟨⟨a1, a2⟩, m, b1, b2, rfl⟩ := popM_some hm
  refine ⟨.ref p, hi, .inl ⟨rfl, _, .inl (.inl s.getAt)⟩, h2 F H .rfl s _ fun w F3 H3 g3 s3 hw => ⟨p, xs.map vf, k, m, vf x, rfl, by cases hw.toInt; rfl, s3.getAt, a1, a2, by rw [List.length_map]; exact b1, by rw [List.getElem?_map, b2]; rfl, ?_⟩⟩
  show nx (σ.set j (some (vf x))) _
  rw [hσ]
  refine q F3 _ g3 ?_
  have s4 := s3.putAt (o' := .lst ((xs.map vf).eraseIdx m))
  rw [er_map]
  exact s4
theorem s_remFX {k1 k2 l1 l2 : Cs} {i : Nat} {p : Addr} {xs ys : List Int} {ti : TE} {k : Int} (s : Sta F (k1 ++ (p, .lst (xs.map V.int)) :: k2) H) (hi : σ[i]? = some (some (.ref p)))
    (h2 : EvD K ti σ F (k1 ++ (p, .lst (xs.map V.int)) :: k2) (.int k) (l1 ++ (p, .lst (xs.map V.int)) :: l2)) (hm : remM xs k = some ys) (q : ∀ F2 H2, Gr F F2 → Sta F2 (l1 ++ (p, .lst (ys.map V.int)) :: l2) H2 → nx σ H2) : tDrop (tBM K "list" rRemI (tVar i) (tCons ti tNil)) ⟨nx, rt, bk, ct⟩ σ H := by
  unfold remM at hm; split at hm
  · rename_i hin
    cases hm
    obtain ⟨j, e1, e2, e3⟩ := rem_at hin
    refine ⟨.ref p, hi, .inl ⟨rfl, _, .inl (.inl s.getAt)⟩, h2 F H .rfl s _ fun w F3 H3 g3 s3 hw => ⟨p, xs, k, j, rfl, by cases hw.toInt; rfl, s3.getAt, e1, e2, q F3 _ g3 ?_⟩⟩
    rw [e3]
    exact s3.putAt
  · cases hm
/-! f-strings -/
def EvJ (K : PySem.W.Frag) (ts : List TE) (σ : St) (F : Hp) (cs : Cs) (acc out : Str) (cs' : Cs) : Prop :=
  ∀ F1 H1, Gr F F1 → Sta F1 cs H1 → ∀ Q : Str → Hp → Prop, (∀ F2 H2, Gr F1 F2 → Sta F2 cs' H2 → Q out H2) → tJs ts acc σ H1 Q
theorem j_nil {acc : Str} : EvJ K [] σ F cs acc acc cs := fun F1 H1 g s Q q => q F1 H1 .rfl s
theorem j_cons {acc x y out : Str} {ts : List TE} (h : EvD K te σ F cs (.str x) cs1) (hy : scatM acc x = some y) (h2 : EvJ K ts σ F cs1 y out cs2) : EvJ K (te :: ts) σ F cs acc out cs2 := fun F1 H1 g1 s Q q =>
  h F1 H1 g1 s _ fun v F2 H2 g2 s2 hv => by
    obtain ⟨hl, rfl⟩ := scatM_some hy
    refine ⟨x, hv.toStr, ?_, h2 F2 H2 (g1.tr g2) s2 Q fun F3 H3 g3 s3 => q F3 H3 (g2.tr g3) s3⟩
    rw [TL.len_tl, TL.tl_append, List.length_append, ← TL.len_tl, ← TL.len_tl]
    exact sz hl
theorem d_fstr {ts : List TE} {out : Str} (h : EvJ K ts σ F cs Str.empty out cs1) : EvD K (fun σ H Q => tJs ts Str.empty σ H fun out H1 => Q (.str out) H1) σ F cs (.str out) cs1 := fun F1 H1 g1 s Q q =>
  h F1 H1 g1 s _ fun F2 H2 g2 s2 => q _ F2 H2 g2 s2 (.str _)
theorem d_fmtS {x : Str} (h : EvD K te σ F cs (.str x) cs1) (hl : lenS x = some a) : EvD K (tFmt te) σ F cs (.str x) cs1 := fun F1 H1 g1 s Q q =>
  h F1 H1 g1 s _ fun v F2 H2 g2 s2 hv => .inl ⟨x, hv.toStr, sz (lenS_some hl).1, q _ F2 H2 g2 s2 (.str _)⟩
theorem d_fmtI {x : Str} (h : EvD K te σ F cs (.int a) cs1) (hn : strM a = some x) : EvD K (tFmt te) σ F cs (.str x) cs1 := fun F1 H1 g1 s Q q =>
  h F1 H1 g1 s _ fun v F2 H2 g2 s2 hv => by
    obtain ⟨h1, rfl⟩ := strM_some hn
    exact .inr ⟨a, hv.toInt, h1, q _ F2 H2 g2 s2 (.str _)⟩
end
end Bw
namespace Bw
open PySem L2
theorem get_list {X : Cx} : PGet X (rIxL X.K) := by
  intro pins s σ H x y v u Q I rx ry h
  obtain ⟨p, xs, i, z, rfl, rfl, hq, he, q⟩ := h
  cases rx
  obtain ⟨t, rfl⟩ := ry
  obtain ⟨its, r, pl, hz⟩ := I.list hq
  obtain ⟨j, h1, h2, h3, h4, h5⟩ := atI_get he
  obtain ⟨w, ew, rw'⟩ := r.get h2
  have hl := r.length
  have hn := line63
  have fin : EP X pins σ Q w s := ⟨z, H, I, rw', q⟩
  by_cases h0 : 0 ≤ i
  · have hj : i.toNat = j := by
      rw [seqIndex_of h0 h5] at h1
      exact Option.some.inj h1
    exact wpAny_getItem_list pl.isList h0 (by omega) (by rw [hj]; simpa using ew) fin
  · have hj : (i + (its.toArray.size : Int)).toNat = j := by
      rw [seqIndex_neg (by omega) h4] at h1
      rw [List.size_toArray, ← hl]
      exact Option.some.inj h1
    exact wpAny_getItem_list_neg pl.isList (by omega) (by rw [List.size_toArray] <;> omega) (by omega) (by rw [hj]; simpa using ew) fin
end Bw
namespace Bw
open PySem L2
section
variable {K : PySem.W.Frag} {σ : St} {F F' : Hp} {cs cs1 cs2 cs3 : Cs} {ta tb tc te : TE} {d e : PyData} {as : TA} {a b c : Int} {nx bk ct : St → Hp → Prop} {rt : VK} {H : Hp} {t u : TS}
/-! what keeps the state true: another order, fewer cells -/
def Sb (c c' : Cs) : Prop := ∀ F H, Sta F c H → Sta F c' H
theorem sb_rfl : Sb cs cs := fun _ _ s => s
theorem sb_perm (p : cs.Perm cs1) : Sb cs cs1 := fun _ _ s => s.perm p
theorem sb_drop {c : Addr × HO} : Sb (c :: cs) cs := fun F H s => ⟨s.fr, fun p hp => s.sep p (List.mem_cons_of_mem _ hp), fun p hp => s.has p (List.mem_cons_of_mem _ hp), by have := s.nd; rw [List.map_cons, List.nodup_cons] at this; exact this.2⟩
theorem Sb.tr (h : Sb cs cs1) (k : Sb cs1 cs2) : Sb cs cs2 := fun F H s => k F H (h F H s)
/-- a function that changes cells, and tells data -/
theorem d_callX {α β : Type} {A : α → List Ar} {B : β → PyData} {C : β → List (List V)} {f : α → Option β} {x : α} {y : β} {E : XK} {cc cs' : Cs} (h : EvR K as σ F cs (A x) cc cs1) (hp : Sb cs1 (cc ++ cs')) (hf : f x = some y) (hq : Sb (upC cc (C y) ++ cs') cs2) : EvD K (tCall (spC K A B C f) [] E as) σ F cs (B y) cs2 := fun F1 H1 g1 s Q q =>
  h F1 H1 g1 s _ fun vs F2 H2 g2 s2 h2 => ⟨F2, cc, cs', x, y, by rw [List.append_nil]; exact h2, hp _ _ s2, hf, fun v F3 H3 g3 s3 h3 => q v F3 H3 (g2.tr g3) (hq _ _ s3) h3⟩
/-- .. that tells a new list -/
def spF (K : PySem.W.Frag) {α β : Type} (A : α → List Ar) (B : β → List PyData) (C : β → List (List V)) (f : α → Option β) : Sp := fun vs H Q _ => ∃ F cc cs x y, ArgR K F vs (A x) cc ∧ Sta F (cc ++ cs) H ∧ f x = some y ∧ ∀ p us F2 H2, Gr F F2 → Sta F2 ((p, .lst us) :: (upC cc (C y) ++ cs)) H2 → Dts K F2 us (B y) → Q (.ref p) H2
theorem c_callX {α β : Type} {A : α → List Ar} {B : β → List PyData} {C : β → List (List V)} {f : α → Option β} {x : α} {y : β} {E : XK} {cc cs' : Cs} (h : EvR K as σ F cs (A x) cc cs1) (hp : Sb cs1 (cc ++ cs')) (hf : f x = some y) (hq : ∀ z, Sb (z :: (upC cc (C y) ++ cs')) (z :: cs2)) : EvC K (tCall (spF K A B C f) [] E as) σ F cs (B y) cs2 := fun F1 H1 g1 s Q q =>
  h F1 H1 g1 s _ fun vs F2 H2 g2 s2 h2 => ⟨F2, cc, cs', x, y, by rw [List.append_nil]; exact h2, hp _ _ s2, hf, fun p us F3 H3 g3 s3 h3 => q p us F3 H3 (g2.tr g3) (hq _ _ _ s3) h3⟩
/-- an argument that is a new list of flat things -/
theorem r_n {xs : List Ar} {cc : Cs} {ds : List PyData} {us : List V} (h : EvC K te σ F cs ds cs1) (hu : ∀ F vs, Dts K F vs ds → vs = us) (h2 : ∀ p, EvR K as σ F ((p, .lst us) :: cs1) xs cc cs2) : True := trivial
theorem s_retC {ds : List PyData} (s : Sta F cs H) (h : EvC K te σ F cs ds cs1) (q : ∀ p us F2 H2, Gr F F2 → Sta F2 ((p, .lst us) :: cs1) H2 → Dts K F2 us ds → rt (.ref p) H2) : tRet te ⟨nx, rt, bk, ct⟩ σ H := h F H .rfl s _ q
theorem s_retV {i : Nat} {v : V} (hi : σ[i]? = some (some v)) (q : rt v H) : tRet (tVar i) ⟨nx, rt, bk, ct⟩ σ H := ⟨v, hi, q⟩
def fuel : Nat := 100000
end
end Bw
namespace Bw
open PySem L2
section
variable {K : PySem.W.Frag} {σ : St} {F F' : Hp} {cs cs1 cs2 cs3 : Cs} {ta tb tc te : TE} {d e : PyData} {as : TA}
/-- the first argument is a new list of flat things, which nobody keeps -/
theorem d_callN {α β : Type} {A : α → List Ar} {B : β → PyData} {C : β → List (List V)} {f : α → Option β} {x : α} {y : β} {E : XK} {cc cs' : Cs} {ds : List PyData} {us : List V} {xs : List Ar} (h : EvC K te σ F cs ds cs1) (hu : ∀ F vs, Dts K F vs ds → vs = us) (hA : A x = .c us :: xs) (h2 : ∀ p, EvR K as σ F ((p, .lst us) :: cs1) xs cc ((p, .lst us) :: cs2))
    (hp : ∀ p, Sb ((p, .lst us) :: cs2) ((p, .lst us) :: cc ++ cs')) (hf : f x = some y) (hq : ∀ p, Sb (upC ((p, .lst us) :: cc) (C y) ++ cs') cs3) : EvD K (tCall (spC K A B C f) [] E (tCons te as)) σ F cs (B y) cs3 := fun F1 H1 g1 s Q q =>
  h F1 H1 g1 s _ fun p vs F2 H2 g2 s2 hv => by
    cases hu F2 vs hv
    refine h2 p F2 H2 (g1.tr g2) s2 _ fun ws F3 H3 g3 s3 h3 => ⟨F3, (p, .lst us) :: cc, cs', x, y, by rw [List.append_nil, hA]; exact .c h3, hp p _ _ s3, hf, fun v F4 H4 g4 s4 h4 => q v F4 H4 ((g2.tr g3).tr g4) (hq p _ _ s4) h4⟩
theorem c_callN {α β : Type} {A : α → List Ar} {B : β → List PyData} {C : β → List (List V)} {f : α → Option β} {x : α} {y : β} {E : XK} {cc cs' : Cs} {ds : List PyData} {us : List V} {xs : List Ar} (h : EvC K te σ F cs ds cs1) (hu : ∀ F vs, Dts K F vs ds → vs = us) (hA : A x = .c us :: xs) (h2 : ∀ p, EvR K as σ F ((p, .lst us) :: cs1) xs cc ((p, .lst us) :: cs2))
    (hp : ∀ p, Sb ((p, .lst us) :: cs2) ((p, .lst us) :: cc ++ cs')) (hf : f x = some y) (hq : ∀ p z, Sb (z :: (upC ((p, .lst us) :: cc) (C y) ++ cs')) (z :: cs3)) : EvC K (tCall (spF K A B C f) [] E (tCons te as)) σ F cs (B y) cs3 := fun F1 H1 g1 s Q q =>
  h F1 H1 g1 s _ fun p vs F2 H2 g2 s2 hv => by
    cases hu F2 vs hv
    refine h2 p F2 H2 (g1.tr g2) s2 _ fun ws F3 H3 g3 s3 h3 => ⟨F3, (p, .lst us) :: cc, cs', x, y, by rw [List.append_nil, hA]; exact .c h3, hp p _ _ s3, hf, fun p' us' F4 H4 g4 s4 h4 => q p' us' F4 H4 ((g2.tr g3).tr g4) (hq p _ _ _ s4) h4⟩
end
end Bw

namespace Bw
open PySem L2
section
variable {K : PySem.W.Frag} {σ : St} {F F' : Hp} {cs cs1 cs2 cs3 : Cs} {ta tb tc te : TE} {d e : PyData} {as : TA} {a b c : Int} {nx bk ct : St → Hp → Prop} {rt : VK} {H : Hp} {t u : TS}
/-- a cell lent for a new list of flat things -/
theorem c_lendX {l1 l2 m1 m2 : Cs} {p : Addr} {o : HO} {ds : List PyData} {ws : List V} (hw : ∀ F vs, Dts K F vs ds → vs = ws) (hd : ∀ F, Dts K F ws ds) (h : ∀ F1, Gr F F1 → F1 p = none → EvC K te σ (upd F1 p o) (l1 ++ l2) ds (m1 ++ m2)) : EvC K te σ F (l1 ++ (p, o) :: l2) ds (m1 ++ (p, o) :: m2) := fun F1 H1 g1 s Q q => by
  refine h F1 g1 s.freeAt (upd F1 p o) H1 .rfl s.frozeAt Q fun p' vs F2 H2 g2 s2 h2 => ?_
  cases hw F2 vs h2
  exact q p' ws (cut F2 p) H2 (gr_cut s.freeAt g2) (Sta.lent (l1 := (p', .lst ws) :: m1) g2 s2) (hd _)
/-- xs.count(k) -/
theorem d_cntI {xs : List Int} (ha : EvD K ta σ F cs (eL eI xs) cs1) (hb : EvD K tb σ F cs1 (.int b) cs2) : EvD K (tBM K "list" (rCntI K) ta (tCons tb tNil)) σ F cs (.int ((xs.count b : Nat) : Int)) cs2 := fun F1 H1 g1 s Q q =>
  ha F1 H1 g1 s _ fun v F2 H2 g2 s2 h2 => by
    obtain ⟨p, vs, rfl, hl, hd⟩ := h2.toLst
    cases hd.ints
    exact ⟨.inl ⟨rfl, _, gr_L s2.fr hl⟩, hb F2 H2 (g1.tr g2) s2 _ fun w F3 H3 g3 s3 h3 => ⟨p, xs, b, rfl, by rw [h3.toInt], gr_L s3.fr (gr_L g3 hl), q _ F3 H3 (g2.tr g3) s3 (.int _)⟩⟩
/-- y.extend(new list) -/
theorem s_ext {k1 k2 l1 l2 : Cs} {i : Nat} {p : Addr} {vs : List V} {ds : List PyData} (s : Sta F (k1 ++ (p, .lst vs) :: k2) H) (hi : σ[i]? = some (some (.ref p))) (h : EvC K te σ F (k1 ++ (p, .lst vs) :: k2) ds (l1 ++ (p, .lst vs) :: l2)) (hl : vs.length + ds.length ≤ 100000)
    (q : ∀ us F2 H2, Gr F F2 → Sta F2 (l1 ++ (p, .lst (vs ++ us)) :: l2) H2 → Dts K F2 us ds → nx σ H2) : tDrop (tBM K "list" rExtend (tVar i) (tCons te tNil)) ⟨nx, rt, bk, ct⟩ σ H :=
  ⟨.ref p, hi, .inl ⟨rfl, _, .inl (.inl s.getAt)⟩, h F H .rfl s _ fun b us F2 H2 g2 s2 h2 => ⟨p, b, vs, us, rfl, rfl, Sta.getAt (l1 := (b, .lst us) :: l1) s2, s2.at List.mem_cons_self, by rw [h2.len]; exact sz hl, q us _ _ (g2.tr s2.gfr) s2.froze.putAt (h2.gr s2.gfr)⟩⟩
theorem s_extFX {α : Type} {vf : α → V} {en : α → PyData} {k1 k2 l1 l2 : Cs} {i : Nat} {p : Addr} {xs ys zs : List α} (hw : ∀ F vs (ys : List α), Dts K F vs (ys.map en) → vs = ys.map vf) (s : Sta F (k1 ++ (p, .lst (xs.map vf)) :: k2) H) (hi : σ[i]? = some (some (.ref p))) (h : EvC K te σ F (k1 ++ (p, .lst (xs.map vf)) :: k2) (ys.map en) (l1 ++ (p, .lst (xs.map vf)) :: l2)) (hm : catM xs ys = some zs)
    (q : ∀ F2 H2, Gr F F2 → Sta F2 (l1 ++ (p, .lst (zs.map vf)) :: l2) H2 → nx σ H2) : tDrop (tBM K "list" rExtend (tVar i) (tCons te tNil)) ⟨nx, rt, bk, ct⟩ σ H := by
  obtain ⟨hl, rfl⟩ := catM_some hm
  refine s_ext s hi h (by rw [List.length_map, List.length_map]; exact hl) fun us F2 H2 g2 s2 h2 => q F2 H2 g2 ?_
  cases hw F2 us ys h2
  rw [List.map_append]; exact s2
theorem s_extGX {α : Type} {en : α → PyData} {k1 k2 l1 l2 : Cs} {i : Nat} {p : Addr} {vs : List V} {xs ys zs : List α} (s : Sta F (k1 ++ (p, .lst vs) :: k2) H) (hf : Dts K F vs (xs.map en)) (hi : σ[i]? = some (some (.ref p))) (h : EvC K te σ F (k1 ++ (p, .lst vs) :: k2) (ys.map en) (l1 ++ (p, .lst vs) :: l2)) (hm : catM xs ys = some zs)
    (q : ∀ us F2 H2, Gr F F2 → Sta F2 (l1 ++ (p, .lst us) :: l2) H2 → Dts K F2 us (zs.map en) → nx σ H2) : tDrop (tBM K "list" rExtend (tVar i) (tCons te tNil)) ⟨nx, rt, bk, ct⟩ σ H := by
  obtain ⟨hl, rfl⟩ := catM_some hm
  refine s_ext s hi h (by rw [hf.len, List.length_map, List.length_map]; exact hl) fun us F2 H2 g2 s2 h2 => q _ F2 H2 g2 s2 ?_
  rw [List.map_append]; exact (hf.gr g2).app h2
/-- y.clear() -/
theorem s_clr {l1 l2 : Cs} {i : Nat} {p : Addr} {vs : List V} (s : Sta F (l1 ++ (p, .lst vs) :: l2) H) (hi : σ[i]? = some (some (.ref p))) (q : Sta F (l1 ++ (p, .lst []) :: l2) (upd H p (.lst [])) → nx σ (upd H p (.lst []))) : tDrop (tBM0 K "list" rClear (tVar i)) ⟨nx, rt, bk, ct⟩ σ H :=
  ⟨.ref p, hi, .inl ⟨rfl, _, .inl (.inl s.getAt)⟩, p, vs, rfl, rfl, s.getAt, q s.putAt⟩
end
end Bw

namespace Bw
open PySem L2
/-! things of any kind: casts -/
def Ck {α : Type} (e : α → PyData) (c : PyData → Option α) : Prop := ∀ d x, c d = some x → d = e x
def asI : PyData → Option Int
  | .int i => some i
  | _ => none
def asB : PyData → Option Bool
  | .bool b => some b
  | _ => none
def asS : PyData → Option Str
  | .str x => some x
  | _ => none
def asN : PyData → Option Unit
  | .none => some ()
  | _ => none
def asAll {α : Type} (c : PyData → Option α) : List PyData → Option (List α)
  | [] => some []
  | d :: ds => (c d).bind fun x => (asAll c ds).bind fun xs => some (x :: xs)
def asL {α : Type} (c : PyData → Option α) : PyData → Option (List α)
  | .list ds => asAll c ds
  | _ => none
def asD (d : PyData) : Option PyData := some d
def asLD : PyData → Option (List PyData)
  | .list ds => some ds
  | _ => none
def asTD : PyData → Option (List PyData)
  | .tuple ds => some ds
  | _ => none
def asT2 {α β : Type} (c : PyData → Option α) (c' : PyData → Option β) : PyData → Option (α × β)
  | .tuple [a, b] => (c a).bind fun x => (c' b).bind fun y => some (x, y)
  | _ => none
def asT3 {α β γ : Type} (c : PyData → Option α) (c' : PyData → Option β) (c'' : PyData → Option γ) : PyData → Option (α × β × γ)
  | .tuple [a, b, d] => (c a).bind fun x => (c' b).bind fun y => (c'' d).bind fun z => some (x, y, z)
  | _ => none
def asT4 {α β γ δ : Type} (c : PyData → Option α) (c' : PyData → Option β) (c'' : PyData → Option γ) (c3 : PyData → Option δ) : PyData → Option (α × β × γ × δ)
  | .tuple [a, b, d, e] => (c a).bind fun x => (c' b).bind fun y => (c'' d).bind fun z => (c3 e).bind fun w => some (x, y, z, w)
  | _ => none
def asO {α : Type} (c : PyData → Option α) : PyData → Option (Option α)
  | .none => some none
  | d => (c d).bind fun x => some (some x)
theorem ck_D : Ck eD asD := fun d x h => by cases h; rfl
theorem ck_I : Ck eI asI := fun d x h => by cases d <;> first | (cases h; rfl) | cases h
theorem ck_B : Ck eB asB := fun d x h => by cases d <;> first | (cases h; rfl) | cases h
theorem ck_S : Ck eS asS := fun d x h => by cases d <;> first | (cases h; rfl) | cases h
theorem ck_N : Ck eN asN := fun d x h => by cases d <;> first | (cases h; rfl) | cases h
theorem ck_all {α : Type} {e : α → PyData} {c : PyData → Option α} (k : Ck e c) : ∀ {ds : List PyData} {xs : List α}, asAll c ds = some xs → ds = xs.map e
  | [], xs, h => by cases h; rfl
  | d :: ds, xs, h => by
    obtain ⟨x, h1, h⟩ := bnd h
    obtain ⟨ys, h2, h⟩ := bnd h
    cases h
    rw [k d x h1, ck_all k h2]; rfl
theorem ck_L {α : Type} {e : α → PyData} {c : PyData → Option α} (k : Ck e c) : Ck (eL e) (asL c) := fun d x h => by
  cases d with
  | list ds => exact congrArg PyData.list (ck_all k (show asAll c ds = some x from h))
  | _ => cases h
theorem ck_LD : Ck (eL eD) asLD := fun d x h => by
  cases d with
  | list ds =>
    cases h
    exact congrArg PyData.list (List.map_id' x).symm
  | _ => cases h
theorem ck_TD {d : PyData} {x : List PyData} (h : asTD d = some x) : d = .tuple x := by
  cases d with
  | tuple ds => cases h; rfl
  | _ => cases h
theorem ck_T2 {α β : Type} {e : α → PyData} {c : PyData → Option α} {e' : β → PyData} {c' : PyData → Option β} (k : Ck e c) (k' : Ck e' c') : Ck (eT2 e e') (asT2 c c') := fun d x h => by
  unfold asT2 at h
  split at h
  · obtain ⟨y, h1, h⟩ := bnd h
    obtain ⟨z, h2, h⟩ := bnd h
    cases h
    rw [k _ _ h1, k' _ _ h2]
  · cases h
theorem ck_T3 {α β γ : Type} {e : α → PyData} {c : PyData → Option α} {e' : β → PyData} {c' : PyData → Option β} {e2 : γ → PyData} {c2 : PyData → Option γ} (k : Ck e c) (k' : Ck e' c') (k2 : Ck e2 c2) : Ck (eT3 e e' e2) (asT3 c c' c2) := fun d x h => by
  unfold asT3 at h
  split at h
  · obtain ⟨y, h1, h⟩ := bnd h
    obtain ⟨z, h2, h⟩ := bnd h
    obtain ⟨z', h3, h⟩ := bnd h
    cases h
    rw [k _ _ h1, k' _ _ h2, k2 _ _ h3]
  · cases h
theorem ck_T4 {α β γ δ : Type} {e : α → PyData} {c : PyData → Option α} {e' : β → PyData} {c' : PyData → Option β} {e2 : γ → PyData} {c2 : PyData → Option γ} {e3 : δ → PyData} {c3 : PyData → Option δ} (k : Ck e c) (k' : Ck e' c') (k2 : Ck e2 c2) (k3 : Ck e3 c3) : Ck (eT4 e e' e2 e3) (asT4 c c' c2 c3) := fun d x h => by
  unfold asT4 at h
  split at h
  · obtain ⟨y, h1, h⟩ := bnd h
    obtain ⟨z, h2, h⟩ := bnd h
    obtain ⟨z', h3, h⟩ := bnd h
    obtain ⟨z2, h4, h⟩ := bnd h
    cases h
    rw [k _ _ h1, k' _ _ h2, k2 _ _ h3, k3 _ _ h4]
  · cases h
theorem ck_O {α : Type} {e : α → PyData} {c : PyData → Option α} (k : Ck e c) : Ck (eO e) (asO c) := fun d x h => by
  unfold asO at h
  split at h
  · cases h; rfl
  · obtain ⟨y, h1, h⟩ := bnd h
    cases h
    exact k _ _ h1
/-! .. and the other way -/
def Cv {α β : Type} (e : α → PyData) (e' : β → PyData) (g : α → β) : Prop := ∀ x, e x = e' (g x)
theorem cv_id {α : Type} {e : α → PyData} : Cv e e (fun x => x) := fun _ => rfl
theorem cv_D {α : Type} {e : α → PyData} : Cv e eD e := fun _ => rfl
theorem cv_some {α β : Type} {e : α → PyData} {e' : β → PyData} {g : α → β} (h : Cv e e' g) : Cv e (eO e') (fun x => some (g x)) := fun x => h x
theorem cv_none {β : Type} {e' : β → PyData} : Cv eN (eO e') (fun _ => (none : Option β)) := fun _ => rfl
theorem cv_O {α β : Type} {e : α → PyData} {e' : β → PyData} {g : α → β} (h : Cv e e' g) : Cv (eO e) (eO e') (fun x => x.map g) := fun x => by cases x with
  | none => rfl
  | some y => exact h y
theorem cv_OD {α : Type} {e : α → PyData} : Cv (eO e) eD (eO e) := fun _ => rfl
theorem cv_L {α β : Type} {e : α → PyData} {e' : β → PyData} {g : α → β} (h : Cv e e' g) : Cv (eL e) (eL e') (fun xs => xs.map g) := fun xs => by
  show PyData.list _ = PyData.list _
  rw [List.map_map]
  exact congrArg PyData.list (List.map_congr_left fun x _ => h x)
theorem cv_T2 {α α' β β' : Type} {e : α → PyData} {e' : α' → PyData} {g : α → α'} {f : β → PyData} {f' : β' → PyData} {k : β → β'} (h : Cv e e' g) (h' : Cv f f' k) : Cv (eT2 e f) (eT2 e' f') (fun x => (g x.1, k x.2)) := fun x => by
  show PyData.tuple _ = PyData.tuple _
  rw [h, h']
theorem cv_T3 {α α' β β' γ γ' : Type} {e : α → PyData} {e' : α' → PyData} {g : α → α'} {f : β → PyData} {f' : β' → PyData} {k : β → β'} {i : γ → PyData} {i' : γ' → PyData} {m : γ → γ'} (h : Cv e e' g) (h' : Cv f f' k) (h2 : Cv i i' m) : Cv (eT3 e f i) (eT3 e' f' i') (fun x => (g x.1, k x.2.1, m x.2.2)) := fun x => by
  show PyData.tuple _ = PyData.tuple _
  rw [h, h', h2]
theorem cv_T4 {α α' β β' γ γ' δ δ' : Type} {e : α → PyData} {e' : α' → PyData} {g : α → α'} {f : β → PyData} {f' : β' → PyData} {k : β → β'} {i : γ → PyData} {i' : γ' → PyData} {m : γ → γ'} {u : δ → PyData} {u' : δ' → PyData} {w : δ → δ'} (h : Cv e e' g) (h' : Cv f f' k) (h2 : Cv i i' m) (h3 : Cv u u' w) : Cv (eT4 e f i u) (eT4 e' f' i' u') (fun x => (g x.1, k x.2.1, m x.2.2.1, w x.2.2.2)) := fun x => by
  show PyData.tuple _ = PyData.tuple _
  rw [h, h', h2, h3]
/-! what is asked of things of any kind -/
def ixD : PyData → Int → Option PyData
  | .list ds, i => atI ds i
  | .tuple ds, i => atI ds i
  | .str x, i => (ixS x i).map PyData.str
  | _, _ => none
def lenD : PyData → Option Int
  | .list ds => some ds.length
  | .tuple ds => some ds.length
  | .str x => lenS x
  | _ => none
abbrev rLenG (K : PySem.W.Frag) : List V → Hp → VK → Prop := fun xs H Q => ∃ x n, xs = [x] ∧ LenV K x H n ∧ Q (.int n) H
theorem cr_lenG {X : Cx} : CallR X (.builtin "len") (rLenG X.K) := call_len
section
variable {K : PySem.W.Frag} {σ : St} {F F' : Hp} {cs cs1 cs2 cs3 : Cs} {ta tb tc te : TE} {d e : PyData} {as : TA} {a b c : Int}
theorem d_ixD {z : PyData} (ha : EvD K ta σ F cs d cs1) (hb : EvD K tb σ F cs1 (.int b) cs2) (hz : ixD d b = some z) : EvD K (tOp (rIx K) ta tb) σ F cs z cs2 := by
  intro F1 H1 g1 s Q q
  refine ha F1 H1 g1 s _ fun v F2 H2 g2 s2 h2 => hb F2 H2 (g1.tr g2) s2 _ fun w F3 H3 g3 s3 h3 => ?_
  cases d with
  | list ds =>
    refine .inl ?_
    have k := d_ixLs (K := K) (σ := [some v, some w]) (F := F3) (cs := cs2) (ta := tVar 0) (tb := tVar 1) (d_var rfl (h2.gr g3)) (d_var rfl h3) hz F3 H3 .rfl s3 Q fun v F4 H4 g4 s4 h4 => q v F4 H4 (g2.tr (g3.tr g4)) s4 h4
    obtain ⟨v', e', w', e'', k⟩ := k
    cases e'; cases e''; exact k
  | tuple ds =>
    refine .inr (.inl ?_)
    have k := d_ixT (K := K) (σ := [some v, some w]) (F := F3) (cs := cs2) (ta := tVar 0) (tb := tVar 1) (d_var rfl (h2.gr g3)) (d_var rfl h3) hz F3 H3 .rfl s3 Q fun v F4 H4 g4 s4 h4 => q v F4 H4 (g2.tr (g3.tr g4)) s4 h4
    obtain ⟨v', e', w', e'', k⟩ := k
    cases e'; cases e''; exact k
  | str x =>
    have hz : (ixS x b).map PyData.str = some z := hz
    cases hx : ixS x b with
    | none => rw [hx] at hz; cases hz
    | some y =>
      rw [hx] at hz; cases hz
      refine .inr (.inr ?_)
      have k := d_ixS (K := K) (σ := [some v, some w]) (F := F3) (cs := cs2) (ta := tVar 0) (tb := tVar 1) (d_var rfl (h2.gr g3)) (d_var rfl h3) hx F3 H3 .rfl s3 Q fun v F4 H4 g4 s4 h4 => q v F4 H4 (g2.tr (g3.tr g4)) s4 h4
      obtain ⟨v', e', w', e'', k⟩ := k
      cases e'; cases e''; exact k
  | none => cases hz
  | bool _ => cases hz
  | int _ => cases hz
  | dict _ => cases hz
theorem d_lenD {n : Int} (ha : EvDs K as σ F cs [d] cs1) (hn : lenD d = some n) : EvD K (tCB (rLenG K) as) σ F cs (.int n) cs1 := d_cb ha fun vs F2 H2 h s Q q => by
  obtain ⟨v, rfl, k1⟩ := h.one
  cases d with
  | list ds =>
    obtain ⟨p, ys, rfl, hl, hd⟩ := k1.toLst
    cases hn
    exact ⟨_, ys.length, rfl, .inl ⟨ys, gr_L s.fr hl, rfl⟩, q _ F2 H2 .rfl s (by rw [hd.len]; exact .int _)⟩
  | tuple ds =>
    obtain ⟨p, ys, rfl, hl, hd⟩ := k1.toTup
    cases hn
    exact ⟨_, ys.length, rfl, .inr ⟨ys, gr_T s.fr hl, rfl⟩, q _ F2 H2 .rfl s (by rw [hd.len]; exact .int _)⟩
  | str x =>
    cases k1.toStr
    obtain ⟨h1, rfl⟩ := lenS_some hn
    exact ⟨_, x.length, rfl, ⟨sz h1, rfl⟩, q _ F2 H2 .rfl s (.int _)⟩
  | none => cases hn
  | bool _ => cases hn
  | int _ => cases hn
  | dict _ => cases hn
/-- is True, is False -/
def isBlD (b : Bool) : PyData → Bool
  | .bool c => decide (c = b)
  | _ => false
/-- a walk over a tuple -/
theorem src_tup {p : Addr} {vs : List V} {ds : List PyData} (h : SqT K F p vs) (hd : Dts K F vs ds) : Src K (Itt K p) F ds := fun F1 c1 H1 g s => by
  have q : SqT K H1 p vs := gr_T s.fr (gr_T g h)
  refine ⟨fun i hi => ?_, ⟨vs, q, by rw [hd.len]; exact Nat.le_refl _⟩, fun i v H2 d e y => ?_⟩
  · have hi' : i < vs.length := by rw [hd.len]; exact hi
    exact ⟨vs, vs[i], q, List.getElem?_eq_getElem hi'⟩
  · obtain ⟨rfl, y⟩ := y
    obtain ⟨d', e', h'⟩ := hd.get (y vs q)
    rw [e] at e'; cases e'
    exact ⟨F1, .rfl, s, h'.gr g⟩
theorem i_tup {ds : List PyData} (h : EvD K te σ F cs (.tuple ds) cs1) : EvI K (iTup K te) σ F cs ds cs1 := fun F1 H1 g1 s R q =>
  h F1 H1 g1 s _ fun v F2 H2 g2 s2 h2 => by
    obtain ⟨p, vs, rfl, hs, hd⟩ := h2.toTup
    exact ⟨p, rfl, ⟨vs, gr_T s2.fr hs⟩, q _ F2 H2 g2 s2 (src_tup hs hd)⟩
/-- xs[::-1] -/
theorem c_rev {α : Type} {en : α → PyData} {xs : List α} (h : EvD K te σ F cs (eL en xs) cs1) : EvC K (tRevL K te) σ F cs (xs.reverse.map en) cs1 := fun F1 H1 g1 s Q q =>
  h F1 H1 g1 s _ fun v F2 H2 g2 s2 hv => by
    obtain ⟨p, vs, rfl, hl, hd⟩ := hv.toLst
    refine ⟨p, vs, rfl, gr_L s2.fr hl, fun l nl => q _ _ _ _ g2 (s2.cell nl) ?_⟩
    have : ∀ {us : List V} {ds : List PyData}, Dts K F2 us ds → Dts K F2 us.reverse ds.reverse := by
      intro us ds h
      induction us generalizing ds with
      | nil => cases h; exact .nil
      | cons u us ih => cases h with | cons a b => rw [List.reverse_cons, List.reverse_cons]; exact (ih b).app (.cons a .nil)
    rw [List.map_reverse]
    exact this hd
/-- slices of a tuple -/
theorem d_slT {ds : List PyData} {tl th : TO} {lo hi : Option Int} (h : EvD K te σ F cs (.tuple ds) cs1) (h1 : EvO tl σ F cs1 lo cs2) (h2 : EvO th σ F cs2 hi cs3) : EvD K (tSl (rSlA K) te tl th) σ F cs (.tuple (cutL ds lo hi)) cs3 := fun F1 H1 g1 s Q q =>
  h F1 H1 g1 s _ fun v F2 H2 g2 s2 hv => h1 F2 H2 (g1.tr g2) s2 _ fun F3 H3 g3 s3 => h2 F3 H3 ((g1.tr g2).tr g3) s3 _ fun F4 H4 g4 s4 => by
    obtain ⟨p, vs, rfl, hl, hd⟩ := hv.toTup
    have hd' := hd.gr (g3.tr g4)
    refine ⟨p, vs, rfl, gr_T s4.fr (gr_T (g3.tr g4) hl), fun hw => q _ F4 H4 (g2.tr (g3.tr g4)) s4 ?_, fun _ l nl => q _ _ _ ((g2.tr (g3.tr g4)).tr (Gr.new (s4.fr.back nl))) (s4.lay nl) (.tup (.inl (.inl upd_same)) ?_)⟩
    · have e : cutL ds lo hi = ds := by
        unfold cutL
        rw [← hd.len, hw.1, hw.2, List.drop_zero, Nat.sub_zero, hd.len, List.take_length]
      rw [e]
      exact .tup (gr_T (g3.tr g4) hl) hd'
    · unfold cutV cutL
      rw [hd.len]
      exact ((hd'.gr (Gr.new (s4.fr.back nl))).drop _).take _
end
end Bw

namespace Bw
open PySem L2
abbrev eT0 : Unit → PyData := fun _ => .tuple []
/-! is True, is False, is None of anything -/
def rIsBl : R2 := fun x y H Q => ∃ b, y = .bl b ∧ Q (.bl (decide (x = .bl b))) H
def rNisBl : R2 := fun x y H Q => ∃ b, y = .bl b ∧ Q (.bl (!decide (x = .bl b))) H
theorem relV_bool {x : V} {v : Value} {b : Bool} (r : RelV x v) : plainIs v (.bool b) = true ∧ (v == Value.bool b) = decide (x = .bl b) := by
  cases x with
  | bl c =>
    cases (show v = Value.bool c from r)
    refine ⟨rfl, ?_⟩
    by_cases h : c = b
    · subst h; simp
    · rw [decide_eq_false (fun z => h (V.bl.inj z))]
      exact beq_eq_false_iff_ne.mpr fun z => h (Value.bool.inj z)
  | non => cases (show v = Value.none from r); exact ⟨rfl, rfl⟩
  | ref a => cases (show v = Value.ref a from r); exact ⟨rfl, rfl⟩
  | ty n => cases (show v = Value.type n from r); exact ⟨rfl, rfl⟩
  | int i => obtain ⟨t, rfl⟩ := r; exact ⟨rfl, rfl⟩
  | str i => obtain ⟨t, rfl⟩ := r; exact ⟨rfl, rfl⟩
  | byt i => obtain ⟨t, rfl⟩ := r; exact ⟨rfl, rfl⟩
  | flt i => obtain ⟨t, rfl⟩ := r; exact ⟨rfl, rfl⟩
theorem op_isB {X : Cx} : OpR X (compareOp .Is) rIsBl := by
  intro pins s σ H x y v u Q I rx ry h
  obtain ⟨b, rfl, q⟩ := h
  cases (show u = Value.bool b from ry)
  obtain ⟨h1, h2⟩ := relV_bool (b := b) rx
  exact wpAny_is_plain h1 ⟨.bl _, H, I, by rw [h2]; rfl, q⟩
theorem op_nisB {X : Cx} : OpR X (compareOp .IsNot) rNisBl := by
  intro pins s σ H x y v u Q I rx ry h
  obtain ⟨b, rfl, q⟩ := h
  cases (show u = Value.bool b from ry)
  obtain ⟨h1, h2⟩ := relV_bool (b := b) rx
  exact wpAny_isNot_plain h1 ⟨.bl _, H, I, by rw [h2]; rfl, q⟩
def isNoD : PyData → Bool
  | .none => true
  | _ => false
section
variable {K : PySem.W.Frag} {σ : St} {F F' : Hp} {cs cs1 cs2 cs3 : Cs} {ta tb tc te : TE} {d e : PyData} {as : TA} {a b c : Int}
theorem Dt.noD {v : V} (h : Dt K F v d) : decide (v = V.non) = isNoD d := by cases h <;> rfl
theorem Dt.blD {v : V} {b : Bool} (h : Dt K F v d) : decide (v = V.bl b) = isBlD b d := by
  cases h with
  | bl c =>
    show decide (V.bl c = V.bl b) = decide (c = b)
    by_cases q : c = b
    · subst q; simp
    · rw [decide_eq_false q, decide_eq_false (fun z => q (V.bl.inj z))]
  | _ => rfl
theorem d_isD (ha : EvD K ta σ F cs d cs1) : EvD K (tOp rIsN ta (tC .non)) σ F cs (.bool (isNoD d)) cs1 := fun F1 H1 g1 s Q q =>
  ha F1 H1 g1 s _ fun v F2 H2 g2 s2 h2 => ⟨rfl, q _ F2 H2 g2 s2 (by rw [h2.noD]; exact .bl _)⟩
theorem d_nisD (ha : EvD K ta σ F cs d cs1) : EvD K (tOp rNotN ta (tC .non)) σ F cs (.bool (!isNoD d)) cs1 := fun F1 H1 g1 s Q q =>
  ha F1 H1 g1 s _ fun v F2 H2 g2 s2 h2 => ⟨rfl, q _ F2 H2 g2 s2 (by rw [h2.noD]; exact .bl _)⟩
theorem d_isBl {b : Bool} (ha : EvD K ta σ F cs d cs1) : EvD K (tOp rIsBl ta (tC (.bl b))) σ F cs (.bool (isBlD b d)) cs1 := fun F1 H1 g1 s Q q =>
  ha F1 H1 g1 s _ fun v F2 H2 g2 s2 h2 => ⟨b, rfl, q _ F2 H2 g2 s2 (by rw [h2.blD]; exact .bl _)⟩
theorem d_nisBl {b : Bool} (ha : EvD K ta σ F cs d cs1) : EvD K (tOp rNisBl ta (tC (.bl b))) σ F cs (.bool (!isBlD b d)) cs1 := fun F1 H1 g1 s Q q =>
  ha F1 H1 g1 s _ fun v F2 H2 g2 s2 h2 => ⟨b, rfl, q _ F2 H2 g2 s2 (by rw [h2.blD]; exact .bl _)⟩
/-! a dict of which nothing is asked but its kind -/
theorem d_dict0 : EvD K tDNewK σ F cs (.dict []) cs := fun F1 H1 g1 s Q q => fun p hp => q _ _ _ (Gr.new (s.fr.back hp)) (s.lay hp) (.dct upd_same)
/-- {k: v}, both written, a text for a key -/
theorem d_dict1 {x : Str} {w : V} : EvD K (tDisp [(tC (.str x), tC w)]) σ F cs (.dict []) cs := fun F1 H1 g1 s Q q => fun p hp => by
  refine ⟨upd_same, [(Sum.inr x, w)], rfl, by show 1 ≤ 15; decide, ?_⟩
  rw [upd_upd]
  exact q _ _ _ (Gr.new (s.fr.back hp)) (s.lay hp) (.dct upd_same)
/-! formats -/
def fmtD : PyData → Option Str
  | .int i => strM i
  | .str x => (lenS x).bind fun _ => some x
  | _ => none
theorem d_fmtD {x : Str} (h : EvD K te σ F cs d cs1) (hn : fmtD d = some x) : EvD K (tFmt te) σ F cs (.str x) cs1 := by
  cases d with
  | int i => exact d_fmtI h hn
  | str y =>
    obtain ⟨n, h1, h2⟩ := bnd (show (lenS y).bind (fun _ => some y) = some x from hn)
    cases h2
    exact d_fmtS h h1
  | none => cases hn
  | bool _ => cases hn
  | list _ => cases hn
  | tuple _ => cases hn
  | dict _ => cases hn
end
end Bw

namespace Bw
open PySem L2
/-! i in range(lo, hi) -/
def rInRng : R2 := fun x y H Q => ∃ i a lo hi, x = V.int i ∧ y = V.ref a ∧ H a = some (.rng lo hi) ∧ Q (.bl (decide (lo ≤ i ∧ i < hi))) H
def rNinRng : R2 := fun x y H Q => ∃ i a lo hi, x = V.int i ∧ y = V.ref a ∧ H a = some (.rng lo hi) ∧ Q (.bl (!decide (lo ≤ i ∧ i < hi))) H
abbrev rRange2 : List V → Hp → VK → Prop := fun vs H Q => ∃ i j, vs = [V.int i, V.int j] ∧ ∀ p, H p = none → Q (.ref p) (upd H p (.rng i j))
theorem op_inRng {X : Cx} : OpR X (compareOp .In) rInRng := op_in_rng
theorem op_ninRng {X : Cx} : OpR X (compareOp .NotIn) rNinRng := by
  intro pins s σ H x y v u Q I rx ry h
  obtain ⟨i, a, lo, hi, rfl, rfl, ha, q⟩ := h
  obtain ⟨k, rfl⟩ := rx
  obtain rfl : u = Value.ref a := ry
  obtain ⟨t1, t2, t3, ho⟩ := I.hok a _ ha
  show wpAny _ _ (contains (Value.ref a) (Value.int i k) >>= fun b => pure (Value.bool (!b))) _ _ s
  refine wpAny_bind (wpAny_contains_slot (T := "range") ⟨_, ho, rfl⟩ F.slot_range_contains (call_meets F.slot_range_contains ⟨_, ho, rfl⟩ F.entry_range_contains (F.args_range_contains_2 _ _)
    (q_contains a lo hi i t1 t2 t3 k) ⟨ho, wpAny_truthy_bool (wpAny_pure ⟨.bl _, H, I, rfl, ?_⟩)⟩))
  rw [place1]
  exact q
theorem cr_range2' {X : Cx} : CallR X (.type "range") rRange2 := cr_range2
section
variable {K : PySem.W.Frag} {σ : St} {F F' : Hp} {cs cs1 cs2 cs3 : Cs} {ta tb tc te : TE} {d e : PyData} {as : TA} {a b c : Int}
theorem d_inRng (ha : EvD K ta σ F cs (.int a) cs1) (hb : EvDs K as σ F cs1 [.int b, .int c] cs2) : EvD K (tOp rInRng ta (tCB rRange2 as)) σ F cs (.bool (decide (b ≤ a ∧ a < c))) cs2 := fun F1 H1 g1 s Q q =>
  ha F1 H1 g1 s _ fun v F2 H2 g2 s2 h2 => hb F2 H2 (g1.tr g2) s2 _ fun vs F3 H3 g3 s3 h3 => by
    cases h2.toInt
    obtain ⟨w, z, rfl, k1, k2⟩ := h3.two; cases k1.toInt; cases k2.toInt
    exact ⟨b, c, rfl, fun p hp => ⟨a, p, b, c, rfl, rfl, upd_same, q _ _ _ ((g2.tr g3).tr (Gr.new (s3.fr.back hp))) (s3.lay hp) (.bl _)⟩⟩
theorem d_ninRng (ha : EvD K ta σ F cs (.int a) cs1) (hb : EvDs K as σ F cs1 [.int b, .int c] cs2) : EvD K (tOp rNinRng ta (tCB rRange2 as)) σ F cs (.bool (!decide (b ≤ a ∧ a < c))) cs2 := fun F1 H1 g1 s Q q =>
  ha F1 H1 g1 s _ fun v F2 H2 g2 s2 h2 => hb F2 H2 (g1.tr g2) s2 _ fun vs F3 H3 g3 s3 h3 => by
    cases h2.toInt
    obtain ⟨w, z, rfl, k1, k2⟩ := h3.two; cases k1.toInt; cases k2.toInt
    exact ⟨b, c, rfl, fun p hp => ⟨a, p, b, c, rfl, rfl, upd_same, q _ _ _ ((g2.tr g3).tr (Gr.new (s3.fr.back hp))) (s3.lay hp) (.bl _)⟩⟩
end
end Bw

namespace Bw
open PySem L2
/-- an expression that tells a known value and changes nothing -/
def VP (to : TE) (σ : St) (F : Hp) (cs : Cs) (v : V) : Prop := ∀ F1 H1, Gr F F1 → Sta F1 cs H1 → ∀ Q : VK, Q v H1 → to σ H1 Q
section
variable {K : PySem.W.Frag} {σ : St} {F F' : Hp} {cs cs1 cs2 cs3 : Cs} {ta tb tc te : TE} {d e : PyData} {as : TA} {a b c : Int} {nx bk ct : St → Hp → Prop} {rt : VK} {H : Hp} {t u : TS}
theorem vp_var {i : Nat} {v : V} (h : σ[i]? = some (some v)) : VP (tVar i) σ F cs v := fun F1 H1 g s Q q => ⟨v, h, q⟩
theorem vp_tup {to : TE} {t : Addr} {vs : List V} {k : Int} {v : V} (h : VP to σ F cs (.ref t)) (ht : SqT K F t vs) (hk : atI vs k = some v) : VP (tOp (rIxT K) to (tC (.int k))) σ F cs v := fun F1 H1 g s Q q =>
  h F1 H1 g s _ ⟨t, vs, k, v, rfl, rfl, gr_T s.fr (gr_T g ht), hk, q⟩
theorem VP.gr {to : TE} {v : V} (g : Gr F F') (h : VP to σ F cs v) : VP to σ F' cs v := fun F1 H1 g1 s Q q => h F1 H1 (g.tr g1) s Q q
theorem d_vp {v : V} (h : VP te σ F cs v) (hd : Dt K F v d) : EvD K te σ F cs d cs := fun F1 H1 g s Q q => h F1 H1 g s Q (q v F1 H1 .rfl s (hd.gr g))
/-! the readings, opened -/
theorem o_asg {g : TG} (h : te σ H fun v H' => g v σ H' nx) : tAsg te g ⟨nx, rt, bk, ct⟩ σ H := h
theorem o_ret (h : te σ H rt) : tRet te ⟨nx, rt, bk, ct⟩ σ H := h
theorem o_drop (h : te σ H fun _ H' => nx σ H') : tDrop te ⟨nx, rt, bk, ct⟩ σ H := h
theorem o_name {i : Nat} {v : V} {σ' : St} {Q : St → Hp → Prop} (e : σ.set i (some v) = σ') (h : Q σ' H) : gName i v σ H Q := by show Q (σ.set i (some v)) H; rw [e]; exact h
theorem o_tup {Q : VK} (h : as σ H fun vs H1 => vs.length ≤ sizeLine ∧ ∀ p, H1 p = none → Q (.ref p) (upd H1 p (.tup vs))) : tTup as σ H Q := h
theorem o_cons {Q : List V → Hp → Prop} (h : te σ H fun v H1 => as σ H1 fun vs H2 => Q (v :: vs) H2) : tCons te as σ H Q := h
theorem o_nil {Q : List V → Hp → Prop} (h : Q [] H) : tNil σ H Q := h
theorem o_d {Q : VK} (s : Sta F cs H) (h : EvD K te σ F cs d cs1) (q : ∀ v F2 H2, Gr F F2 → Sta F2 cs1 H2 → Dt K F2 v d → Q v H2) : te σ H Q := h F H .rfl s Q q
theorem o_c {Q : VK} {ds : List PyData} (s : Sta F cs H) (h : EvC K te σ F cs ds cs1) (q : ∀ p us F2 H2, Gr F F2 → Sta F2 ((p, .lst us) :: cs1) H2 → Dts K F2 us ds → Q (.ref p) H2) : te σ H Q := h F H .rfl s Q q
theorem o_v {Q : VK} {v : V} (s : Sta F cs H) (h : VP te σ F cs v) (q : Q v H) : te σ H Q := h F H .rfl s Q q
/-- the tuple itself stands for good -/
theorem o_tupN {n : Nat} {vs : List V} {Q : VK} (s : Sta F cs H) (hn : vs.length ≤ 1000) (q : ∀ p, Gr F (upd F p (.tup vs)) → Sta (upd F p (.tup vs)) cs (upd H p (.tup vs)) → Q (.ref p) (upd H p (.tup vs))) : vs.length ≤ sizeLine ∧ ∀ p, H p = none → Q (.ref p) (upd H p (.tup vs)) :=
  ⟨Nat.le_trans hn (by decide), fun p hp => q p (Gr.new (s.fr.back hp)) (s.lay hp)⟩
theorem sq_new {p : Addr} {vs : List V} : SqT K (upd F p (.tup vs)) p vs := .inl (.inl upd_same)
theorem dt_t {p : Addr} {vs : List V} {ds : List PyData} (h : SqT K F p vs) (hd : Dts K F vs ds) : Dt K F (.ref p) (.tuple ds) := .tup h hd
theorem s_appV {k1 k2 l1 l2 : Cs} {to : TE} {p : Addr} {vs : List V} (s : Sta F (k1 ++ (p, .lst vs) :: k2) H) (hi : VP to σ F (k1 ++ (p, .lst vs) :: k2) (.ref p)) (h : EvD K te σ F (k1 ++ (p, .lst vs) :: k2) d (l1 ++ (p, .lst vs) :: l2)) (hl : vs.length < 100000)
    (q : ∀ v F2 H2, Gr F F2 → Sta F2 (l1 ++ (p, .lst (vs ++ [v])) :: l2) H2 → Dt K F2 v d → nx σ H2) : tDrop (tBM K "list" rAppend to (tCons te tNil)) ⟨nx, rt, bk, ct⟩ σ H :=
  hi F H .rfl s _ ⟨.inl ⟨rfl, _, .inl (.inl s.getAt)⟩, h F H .rfl s _ fun v F2 H2 g2 s2 h2 => ⟨p, vs, v, rfl, rfl, s2.getAt, szl hl, q v F2 _ g2 s2.putAt h2⟩⟩
theorem s_appFV {α : Type} {vf : α → V} {en : α → PyData} {k1 k2 l1 l2 : Cs} {to : TE} {p : Addr} {xs ys : List α} {x : α} (hw : ∀ F v x, Dt K F v (en x) → v = vf x) (s : Sta F (k1 ++ (p, .lst (xs.map vf)) :: k2) H) (hi : VP to σ F (k1 ++ (p, .lst (xs.map vf)) :: k2) (.ref p)) (h : EvD K te σ F (k1 ++ (p, .lst (xs.map vf)) :: k2) (en x) (l1 ++ (p, .lst (xs.map vf)) :: l2)) (hm : appM xs x = some ys)
    (q : ∀ F2 H2, Gr F F2 → Sta F2 (l1 ++ (p, .lst (ys.map vf)) :: l2) H2 → nx σ H2) : tDrop (tBM K "list" rAppend to (tCons te tNil)) ⟨nx, rt, bk, ct⟩ σ H := by
  obtain ⟨hl, rfl⟩ := appM_some hm
  refine s_appV s hi h (by rw [List.length_map]; exact hl) fun v F2 H2 g2 s2 h2 => q F2 H2 g2 ?_
  cases hw F2 v x h2
  rw [List.map_append]; exact s2
theorem s_appGV {α : Type} {en : α → PyData} {k1 k2 l1 l2 : Cs} {to : TE} {p : Addr} {vs : List V} {xs ys : List α} {x : α} (s : Sta F (k1 ++ (p, .lst vs) :: k2) H) (hf : Dts K F vs (xs.map en)) (hi : VP to σ F (k1 ++ (p, .lst vs) :: k2) (.ref p)) (h : EvD K te σ F (k1 ++ (p, .lst vs) :: k2) (en x) (l1 ++ (p, .lst vs) :: l2)) (hm : appM xs x = some ys)
    (q : ∀ us F2 H2, Gr F F2 → Sta F2 (l1 ++ (p, .lst us) :: l2) H2 → Dts K F2 us (ys.map en) → nx σ H2) : tDrop (tBM K "list" rAppend to (tCons te tNil)) ⟨nx, rt, bk, ct⟩ σ H := by
  obtain ⟨hl, rfl⟩ := appM_some hm
  refine s_appV s hi h (by rw [hf.len, List.length_map]; exact hl) fun v F2 H2 g2 s2 h2 => q _ F2 H2 g2 s2 ?_
  rw [List.map_append]; exact (hf.gr g2).app (.cons h2 .nil)
theorem s_itemV {k1 k2 m1 m2 l1 l2 : Cs} {to : TE} {p : Addr} {vs : List V} {ti : TE} {k : Int} {j : Nat} (s : Sta F (k1 ++ (p, .lst vs) :: k2) H) (hi : VP to σ F (m1 ++ (p, .lst vs) :: m2) (.ref p)) (h : EvD K te σ F (k1 ++ (p, .lst vs) :: k2) d (m1 ++ (p, .lst vs) :: m2))
    (h2 : EvD K ti σ F (m1 ++ (p, .lst vs) :: m2) (.int k) (l1 ++ (p, .lst vs) :: l2)) (hj : ixN vs.length k = some j) (q : ∀ v F2 H2, Gr F F2 → Sta F2 (l1 ++ (p, .lst (vs.set j v)) :: l2) H2 → Dt K F2 v d → nx σ H2) : tAsg te (gSub to ti rSetL) ⟨nx, rt, bk, ct⟩ σ H :=
  h F H .rfl s _ fun v F2 H2 g2 s2 hv => hi F2 H2 g2 s2 _ (h2 F2 H2 g2 s2 _ fun w F3 H3 g3 s3 hw => ⟨p, vs, k, j, rfl, hw.toInt, s3.getAt, hj, q v F3 _ (g2.tr g3) s3.putAt (hv.gr g3)⟩)
theorem s_itemFV {α : Type} {vf : α → V} {en : α → PyData} {k1 k2 m1 m2 l1 l2 : Cs} {to : TE} {p : Addr} {xs ys : List α} {x : α} {ti : TE} {k : Int} (hw : ∀ F v x, Dt K F v (en x) → v = vf x) (s : Sta F (k1 ++ (p, .lst (xs.map vf)) :: k2) H) (hi : VP to σ F (m1 ++ (p, .lst (xs.map vf)) :: m2) (.ref p)) (h : EvD K te σ F (k1 ++ (p, .lst (xs.map vf)) :: k2) (en x) (m1 ++ (p, .lst (xs.map vf)) :: m2))
    (h2 : EvD K ti σ F (m1 ++ (p, .lst (xs.map vf)) :: m2) (.int k) (l1 ++ (p, .lst (xs.map vf)) :: l2)) (hm : setM xs k x = some ys) (q : ∀ F2 H2, Gr F F2 → Sta F2 (l1 ++ (p, .lst (ys.map vf)) :: l2) H2 → nx σ H2) : tAsg te (gSub to ti rSetL) ⟨nx, rt, bk, ct⟩ σ H := by
  obtain ⟨j, hj, rfl⟩ := setM_some hm
  refine s_itemV (j := j) s hi h h2 (by rw [List.length_map]; exact hj) fun v F2 H2 g2 s2 hv => q F2 H2 g2 ?_
  cases hw F2 v x hv
  rw [List.map_set]; exact s2
theorem s_itemGV {α : Type} {en : α → PyData} {k1 k2 m1 m2 l1 l2 : Cs} {to : TE} {p : Addr} {vs : List V} {xs ys : List α} {x : α} {ti : TE} {k : Int} (s : Sta F (k1 ++ (p, .lst vs) :: k2) H) (hf : Dts K F vs (xs.map en)) (hi : VP to σ F (m1 ++ (p, .lst vs) :: m2) (.ref p)) (h : EvD K te σ F (k1 ++ (p, .lst vs) :: k2) (en x) (m1 ++ (p, .lst vs) :: m2))
    (h2 : EvD K ti σ F (m1 ++ (p, .lst vs) :: m2) (.int k) (l1 ++ (p, .lst vs) :: l2)) (hm : setM xs k x = some ys) (q : ∀ us F2 H2, Gr F F2 → Sta F2 (l1 ++ (p, .lst us) :: l2) H2 → Dts K F2 us (ys.map en) → nx σ H2) : tAsg te (gSub to ti rSetL) ⟨nx, rt, bk, ct⟩ σ H := by
  obtain ⟨j, hj, rfl⟩ := setM_some hm
  refine s_itemV (j := j) s hi h h2 (by rw [hf.len, List.length_map]; exact hj) fun v F2 H2 g2 s2 hv => q _ F2 H2 g2 s2 ?_
  rw [List.map_set]; exact (hf.gr g2).setAt j hv
theorem s_augSV {k1 k2 m1 m2 l1 l2 : Cs} {to : TE} {p : Addr} {xs ys : List Int} {ti : TE} {k w b : Int} {f : Int → Int → Int} (s : Sta F (k1 ++ (p, .lst (xs.map V.int)) :: k2) H) (hi : VP to σ F (k1 ++ (p, .lst (xs.map V.int)) :: k2) (.ref p)) (h1 : EvD K ti σ F (k1 ++ (p, .lst (xs.map V.int)) :: k2) (.int k) (m1 ++ (p, .lst (xs.map V.int)) :: m2)) (hg : atI xs k = some w)
    (h2 : EvD K te σ F (m1 ++ (p, .lst (xs.map V.int)) :: m2) (.int b) (l1 ++ (p, .lst (xs.map V.int)) :: l2)) (hm : setM xs k (f w b) = some ys) (q : ∀ F2 H2, Gr F F2 → Sta F2 (l1 ++ (p, .lst (ys.map V.int)) :: l2) H2 → nx σ H2) : tAugS to ti te (rIxL K) (ipI f) rSetL ⟨nx, rt, bk, ct⟩ σ H := by
  obtain ⟨j, hj, rfl⟩ := setM_some hm
  refine hi F H .rfl s _ (h1 F H .rfl s _ fun v F2 H2 g2 s2 hv => ⟨p, xs.map V.int, k, .int w, rfl, hv.toInt, .inl (.inl s2.getAt), by rw [atI_map, hg]; rfl, h2 F2 H2 g2 s2 _ fun y F3 H3 g3 s3 hy => ⟨w, b, rfl, hy.toInt, p, xs.map V.int, k, j, rfl, hv.toInt, s3.getAt, by rw [List.length_map]; exact hj, q F3 _ (g2.tr g3) ?_⟩⟩)
  rw [List.map_set]; exact s3.putAt
theorem s_popFV {α : Type} {vf : α → V} {en : α → PyData} {k1 k2 l1 l2 : Cs} {to : TE} {j : Nat} {p : Addr} {xs ys : List α} {x : α} {ti : TE} {k : Int} {σ' : St} (hd : ∀ F x, Dt K F (vf x) (en x)) (s : Sta F (k1 ++ (p, .lst (xs.map vf)) :: k2) H) (hi : VP to σ F (k1 ++ (p, .lst (xs.map vf)) :: k2) (.ref p))
    (h2 : EvD K ti σ F (k1 ++ (p, .lst (xs.map vf)) :: k2) (.int k) (l1 ++ (p, .lst (xs.map vf)) :: l2)) (hm : popM xs k = some (x, ys)) (hσ : σ.set j (some (vf x)) = σ') (q : ∀ F2 H2, Gr F F2 → Sta F2 (l1 ++ (p, .lst (ys.map vf)) :: l2) H2 → nx σ' H2) : tAsg (tBM K "list" rPopAt to (tCons ti tNil)) (gName j) ⟨nx, rt, bk, ct⟩ σ H := by
  obtain ⟨⟨a1, a2⟩, m, b1, b2, rfl⟩ := popM_some hm
  refine hi F H .rfl s _ ⟨.inl ⟨rfl, _, .inl (.inl s.getAt)⟩, h2 F H .rfl s _ fun w F3 H3 g3 s3 hw => ⟨p, xs.map vf, k, m, vf x, rfl, by cases hw.toInt; rfl, s3.getAt, a1, a2, by rw [List.length_map]; exact b1, by rw [List.getElem?_map, b2]; rfl, ?_⟩⟩
  show nx (σ.set j (some (vf x))) _
  rw [hσ]
  refine q F3 _ g3 ?_
  have s4 := s3.putAt (o' := .lst ((xs.map vf).eraseIdx m))
  rw [er_map]
  exact s4
theorem s_remFV {k1 k2 l1 l2 : Cs} {to : TE} {p : Addr} {xs ys : List Int} {ti : TE} {k : Int} (s : Sta F (k1 ++ (p, .lst (xs.map V.int)) :: k2) H) (hi : VP to σ F (k1 ++ (p, .lst (xs.map V.int)) :: k2) (.ref p))
    (h2 : EvD K ti σ F (k1 ++ (p, .lst (xs.map V.int)) :: k2) (.int k) (l1 ++ (p, .lst (xs.map V.int)) :: l2)) (hm : remM xs k = some ys) (q : ∀ F2 H2, Gr F F2 → Sta F2 (l1 ++ (p, .lst (ys.map V.int)) :: l2) H2 → nx σ H2) : tDrop (tBM K "list" rRemI to (tCons ti tNil)) ⟨nx, rt, bk, ct⟩ σ H := by
  unfold remM at hm; split at hm
  · rename_i hin
    cases hm
    obtain ⟨j, e1, e2, e3⟩ := rem_at hin
    refine hi F H .rfl s _ ⟨.inl ⟨rfl, _, .inl (.inl s.getAt)⟩, h2 F H .rfl s _ fun w F3 H3 g3 s3 hw => ⟨p, xs, k, j, rfl, by cases hw.toInt; rfl, s3.getAt, e1, e2, q F3 _ g3 ?_⟩⟩
    rw [e3]
    exact s3.putAt
  · cases hm
theorem s_extV {k1 k2 l1 l2 : Cs} {to : TE} {p : Addr} {vs : List V} {ds : List PyData} (s : Sta F (k1 ++ (p, .lst vs) :: k2) H) (hi : VP to σ F (k1 ++ (p, .lst vs) :: k2) (.ref p)) (h : EvC K te σ F (k1 ++ (p, .lst vs) :: k2) ds (l1 ++ (p, .lst vs) :: l2)) (hl : vs.length + ds.length ≤ 100000)
    (q : ∀ us F2 H2, Gr F F2 → Sta F2 (l1 ++ (p, .lst (vs ++ us)) :: l2) H2 → Dts K F2 us ds → nx σ H2) : tDrop (tBM K "list" rExtend to (tCons te tNil)) ⟨nx, rt, bk, ct⟩ σ H :=
  hi F H .rfl s _ ⟨.inl ⟨rfl, _, .inl (.inl s.getAt)⟩, h F H .rfl s _ fun b us F2 H2 g2 s2 h2 => ⟨p, b, vs, us, rfl, rfl, Sta.getAt (l1 := (b, .lst us) :: l1) s2, s2.at List.mem_cons_self, by rw [h2.len]; exact sz hl, q us _ _ (g2.tr s2.gfr) s2.froze.putAt (h2.gr s2.gfr)⟩⟩
theorem s_extFV {α : Type} {vf : α → V} {en : α → PyData} {k1 k2 l1 l2 : Cs} {to : TE} {p : Addr} {xs ys zs : List α} (hw : ∀ F vs (ys : List α), Dts K F vs (ys.map en) → vs = ys.map vf) (s : Sta F (k1 ++ (p, .lst (xs.map vf)) :: k2) H) (hi : VP to σ F (k1 ++ (p, .lst (xs.map vf)) :: k2) (.ref p)) (h : EvC K te σ F (k1 ++ (p, .lst (xs.map vf)) :: k2) (ys.map en) (l1 ++ (p, .lst (xs.map vf)) :: l2)) (hm : catM xs ys = some zs)
    (q : ∀ F2 H2, Gr F F2 → Sta F2 (l1 ++ (p, .lst (zs.map vf)) :: l2) H2 → nx σ H2) : tDrop (tBM K "list" rExtend to (tCons te tNil)) ⟨nx, rt, bk, ct⟩ σ H := by
  obtain ⟨hl, rfl⟩ := catM_some hm
  refine s_extV s hi h (by rw [List.length_map, List.length_map]; exact hl) fun us F2 H2 g2 s2 h2 => q F2 H2 g2 ?_
  cases hw F2 us ys h2
  rw [List.map_append]; exact s2
theorem s_extGV {α : Type} {en : α → PyData} {k1 k2 l1 l2 : Cs} {to : TE} {p : Addr} {vs : List V} {xs ys zs : List α} (s : Sta F (k1 ++ (p, .lst vs) :: k2) H) (hf : Dts K F vs (xs.map en)) (hi : VP to σ F (k1 ++ (p, .lst vs) :: k2) (.ref p)) (h : EvC K te σ F (k1 ++ (p, .lst vs) :: k2) (ys.map en) (l1 ++ (p, .lst vs) :: l2)) (hm : catM xs ys = some zs)
    (q : ∀ us F2 H2, Gr F F2 → Sta F2 (l1 ++ (p, .lst us) :: l2) H2 → Dts K F2 us (zs.map en) → nx σ H2) : tDrop (tBM K "list" rExtend to (tCons te tNil)) ⟨nx, rt, bk, ct⟩ σ H := by
  obtain ⟨hl, rfl⟩ := catM_some hm
  refine s_extV s hi h (by rw [hf.len, List.length_map, List.length_map]; exact hl) fun us F2 H2 g2 s2 h2 => q _ F2 H2 g2 s2 ?_
  rw [List.map_append]; exact (hf.gr g2).app h2
theorem s_clrV {l1 l2 : Cs} {to : TE} {p : Addr} {vs : List V} (s : Sta F (l1 ++ (p, .lst vs) :: l2) H) (hi : VP to σ F (l1 ++ (p, .lst vs) :: l2) (.ref p)) (q : Sta F (l1 ++ (p, .lst []) :: l2) (upd H p (.lst [])) → nx σ (upd H p (.lst []))) : tDrop (tBM0 K "list" rClear to) ⟨nx, rt, bk, ct⟩ σ H :=
  hi F H .rfl s _ ⟨.inl ⟨rfl, _, .inl (.inl s.getAt)⟩, p, vs, rfl, rfl, s.getAt, q s.putAt⟩
end
def Su (c c' : Cs) : Prop := ∃ l, c.Perm (l ++ c')
theorem su_rfl {cs : Cs} : Su cs cs := ⟨[], .refl _⟩
theorem su_perm {cs cs1 : Cs} (p : cs.Perm cs1) : Su cs cs1 := ⟨[], p⟩
theorem su_drop {c : Addr × HO} {cs : Cs} : Su (c :: cs) cs := ⟨[c], .refl _⟩
theorem Su.tr {cs cs1 cs2 : Cs} (h : Su cs cs1) (k : Su cs1 cs2) : Su cs cs2 := by
  obtain ⟨l, h⟩ := h
  obtain ⟨m, k⟩ := k
  exact ⟨l ++ m, h.trans (by rw [List.append_assoc]; exact k.append_left l)⟩
theorem sta_tl : ∀ {l : Cs} {cs : Cs} {F H : Hp}, Sta F (l ++ cs) H → Sta F cs H
  | [], _, _, _, s => s
  | c :: l, cs, F, H, s => sta_tl (l := l) (sb_drop (c := c) (cs := l ++ cs) F H s)
theorem Su.sb {cs cs1 : Cs} (h : Su cs cs1) : Sb cs cs1 := fun F H s => by
  obtain ⟨l, h⟩ := h
  exact sta_tl (s.perm h)
theorem su_app {cs cs1 c : Cs} (h : Su cs cs1) : Su (c ++ cs) (c ++ cs1) := by
  obtain ⟨l, h⟩ := h
  refine ⟨l, (h.append_left c).trans ?_⟩
  rw [← List.append_assoc, ← List.append_assoc]
  exact List.perm_append_comm.append_right cs1
section
variable {K : PySem.W.Frag} {σ : St} {F F' : Hp} {cs cs1 cs2 cs3 : Cs} {ta tb tc te : TE} {d e : PyData} {as : TA} {a b c : Int} {nx bk ct : St → Hp → Prop} {rt : VK} {H : Hp} {t u : TS}
/-- list(path) -/
theorem c_listV {l1 l2 : Cs} {to : TE} {p : Addr} {us : List V} {ds : List PyData} (hi : VP to σ F (l1 ++ (p, .lst us) :: l2) (.ref p)) (hd : Dts K F us ds) : EvC K (tCB (rListS K) (tCons to tNil)) σ F (l1 ++ (p, .lst us) :: l2) ds (l1 ++ (p, .lst us) :: l2) := fun F1 H1 g1 s Q q =>
  hi F1 H1 g1 s _ ⟨p, us, rfl, .inl (.inl (.inl s.getAt)), fun l nl => q _ _ _ _ .rfl (s.cell nl) (hd.gr g1)⟩
/-! a function that tells a new thing, some parts of which may change -/
def spR (K : PySem.W.Frag) {α β : Type} (A : α → List Ar) (C : β → List (List V)) (R : β → Hp → V → Cs → Prop) (f : α → Option β) : Sp := fun vs H Q _ => ∃ F cc cs x y, ArgR K F vs (A x) cc ∧ Sta F (cc ++ cs) H ∧ f x = some y ∧ ∀ v c F2 H2, Gr F F2 → Sta F2 (c ++ (upC cc (C y) ++ cs)) H2 → R y F2 v c → Q v H2
theorem o_callR {α β : Type} {A : α → List Ar} {C : β → List (List V)} {R : β → Hp → V → Cs → Prop} {f : α → Option β} {x : α} {y : β} {E : XK} {cc cs' : Cs} {Q : VK} (s : Sta F cs H) (h : EvR K as σ F cs (A x) cc cs1) (hp : Sb cs1 (cc ++ cs')) (hf : f x = some y) (hq : Su (upC cc (C y) ++ cs') cs2)
    (q : ∀ v c F2 H2, Gr F F2 → Sta F2 (c ++ cs2) H2 → R y F2 v c → Q v H2) : tCall (spR K A C R f) [] E as σ H Q :=
  h F H .rfl s _ fun vs F2 H2 g2 s2 h2 => ⟨F2, cc, cs', x, y, by rw [List.append_nil]; exact h2, hp _ _ s2, hf, fun v c F3 H3 g3 s3 r => q v c F3 H3 (g2.tr g3) ((su_app hq).sb _ _ s3) r⟩
theorem d_callR {α β : Type} {A : α → List Ar} {C : β → List (List V)} {R : β → Hp → V → Cs → Prop} {B : β → PyData} {f : α → Option β} {x : α} {y : β} {E : XK} {cc cs' : Cs} (hR : ∀ y F H v c cs, R y F v c → Sta F (c ++ cs) H → ∃ F', Gr F F' ∧ Sta F' cs H ∧ Dt K F' v (B y)) (h : EvR K as σ F cs (A x) cc cs1) (hp : Sb cs1 (cc ++ cs')) (hf : f x = some y) (hq : Su (upC cc (C y) ++ cs') cs2) : EvD K (tCall (spR K A C R f) [] E as) σ F cs (B y) cs2 := fun F1 H1 g1 s Q q =>
  h F1 H1 g1 s _ fun vs F2 H2 g2 s2 h2 => ⟨F2, cc, cs', x, y, by rw [List.append_nil]; exact h2, hp _ _ s2, hf, fun v c F3 H3 g3 s3 r => by
    obtain ⟨F4, g4, s4, d4⟩ := hR y F3 H3 v c cs2 r ((su_app hq).sb _ _ s3)
    exact q v F4 H3 ((g2.tr g3).tr g4) s4 d4⟩
end
end Bw

namespace Bw
open PySem L2
/-! data without lists -/
mutual
def noL : PyData → Bool
  | .list _ => false
  | .dict _ => false
  | .tuple ds => noLs ds
  | _ => true
def noLs : List PyData → Bool
  | [] => true
  | d :: ds => noL d && noLs ds
end
section
variable {K : PySem.W.Frag} {F F2 : Hp} {p : Addr} {us : List V}
mutual
theorem Dt.cutL (hp : F2 p = some (.lst us)) : ∀ {v : V} {d : PyData}, Dt K F2 v d → noL d = true → Dt K (cut F2 p) v d
  | _, _, .non, _ => .non
  | _, _, .bl b, _ => .bl b
  | _, _, .int i, _ => .int i
  | _, _, .str x, _ => .str x
  | _, _, .lst h a, n => by simp [noL] at n
  | _, _, .dct h, n => by simp [noL] at n
  | _, _, .tup (a := a) (ds := ds) h k, n => by
    have n' : noLs ds = true := by simpa [noL] using n
    refine .tup ?_ (Dts.cutL hp k n')
    rcases h with (h | ⟨o, h⟩) | h
    · refine .inl (.inl ?_)
      rw [cut_ne (fun z => by rw [z, hp] at h; cases h)]; exact h
    · refine .inl (.inr ⟨o, ?_⟩)
      rw [cut_ne (fun z => by rw [z, hp] at h; cases h)]; exact h
    · exact .inr h
theorem Dts.cutL (hp : F2 p = some (.lst us)) : ∀ {vs : List V} {ds : List PyData}, Dts K F2 vs ds → noLs ds = true → Dts K (cut F2 p) vs ds
  | _, _, .nil, _ => .nil
  | _, _, .cons h t, n => by
    rw [noLs, Bool.and_eq_true] at n
    exact .cons (Dt.cutL hp h n.1) (Dts.cutL hp t n.2)
end
end
def Nl {α : Type} (e : α → PyData) : Prop := ∀ x, noL (e x) = true
theorem nl_I : Nl eI := fun _ => rfl
theorem nl_B : Nl eB := fun _ => rfl
theorem nl_S : Nl eS := fun _ => rfl
theorem nl_N : Nl eN := fun _ => rfl
theorem nl_O {α : Type} {e : α → PyData} (h : Nl e) : Nl (eO e) := fun x => by cases x with
  | none => rfl
  | some y => exact h y
theorem nl_T2 {α β : Type} {e : α → PyData} {f : β → PyData} (h : Nl e) (k : Nl f) : Nl (eT2 e f) := fun x => by show (noL (e x.1) && (noL (f x.2) && true)) = true; rw [h, k]; rfl
theorem nl_T3 {α β γ : Type} {e : α → PyData} {f : β → PyData} {g : γ → PyData} (h : Nl e) (k : Nl f) (l : Nl g) : Nl (eT3 e f g) := fun x => by show (noL (e x.1) && (noL (f x.2.1) && (noL (g x.2.2) && true))) = true; rw [h, k, l]; rfl
theorem nl_T4 {α β γ δ : Type} {e : α → PyData} {f : β → PyData} {g : γ → PyData} {i : δ → PyData} (h : Nl e) (k : Nl f) (l : Nl g) (m : Nl i) : Nl (eT4 e f g i) := fun x => by show (noL (e x.1) && (noL (f x.2.1) && (noL (g x.2.2.1) && (noL (i x.2.2.2) && true)))) = true; rw [h, k, l, m]; rfl
theorem nls {α : Type} {e : α → PyData} (h : Nl e) : ∀ xs : List α, noLs (xs.map e) = true
  | [] => rfl
  | x :: xs => by show (noL (e x) && noLs (xs.map e)) = true; rw [h, nls h xs]; rfl
section
variable {K : PySem.W.Frag} {σ : St} {F F' : Hp} {cs cs1 cs2 cs3 : Cs} {ta tb tc te : TE} {d e : PyData} {as : TA}
theorem Ev.grC {ds : List PyData} (g : Gr F F') (h : EvC K te σ F cs ds cs1) : EvC K te σ F' cs ds cs1 := fun F1 H1 g1 s Q q => h F1 H1 (g.tr g1) s Q q
theorem Ev.grR {xs : List Ar} {cc : Cs} (g : Gr F F') (h : EvR K as σ F cs xs cc cs1) : EvR K as σ F' cs xs cc cs1 := fun F1 H1 g1 s Q q => h F1 H1 (g.tr g1) s Q q
theorem r_cv {xs : List Ar} {cc : Cs} {to : TE} {p : Addr} {us : List V} (hi : VP to σ F cs (.ref p)) (h2 : EvR K as σ F cs xs cc cs2) : EvR K (tCons to as) σ F cs (.c us :: xs) ((p, .lst us) :: cc) cs2 := fun F1 H1 g1 s Q q =>
  hi F1 H1 g1 s _ (h2 F1 H1 g1 s _ fun vs F2 H2 g2 s2 h => q _ F2 H2 g2 s2 (.c h))
/-- the first argument is a new list of flat things, which nobody keeps -/
theorem o_callRN {α β : Type} {A : α → List Ar} {C : β → List (List V)} {R : β → Hp → V → Cs → Prop} {f : α → Option β} {x : α} {y : β} {E : XK} {cc cs' : Cs} {ds : List PyData} {us : List V} {xs : List Ar} {H : Hp} {Q : VK} (s : Sta F cs H) (h : EvC K te σ F cs ds cs1) (hu : ∀ F vs, Dts K F vs ds → vs = us) (hA : A x = .c us :: xs) (h2 : ∀ p, EvR K as σ F ((p, .lst us) :: cs1) xs cc ((p, .lst us) :: cs2))
    (hp : ∀ p, Sb ((p, .lst us) :: cs2) ((p, .lst us) :: cc ++ cs')) (hf : f x = some y) (hq : ∀ p, Su (upC ((p, .lst us) :: cc) (C y) ++ cs') cs3) (q : ∀ v c F2 H2, Gr F F2 → Sta F2 (c ++ cs3) H2 → R y F2 v c → Q v H2) : tCall (spR K A C R f) [] E (tCons te as) σ H Q :=
  h F H .rfl s _ fun p vs F2 H2 g2 s2 hv => by
    cases hu F2 vs hv
    exact h2 p F2 H2 g2 s2 _ fun ws F3 H3 g3 s3 h3 => ⟨F3, (p, .lst us) :: cc, cs', x, y, by rw [List.append_nil, hA]; exact .c h3, hp p _ _ s3, hf, fun v c F4 H4 g4 s4 r => q v c F4 H4 ((g2.tr g3).tr g4) ((su_app (hq p)).sb _ _ s4) r⟩
theorem d_callRN {α β : Type} {A : α → List Ar} {C : β → List (List V)} {R : β → Hp → V → Cs → Prop} {B : β → PyData} {f : α → Option β} {x : α} {y : β} {E : XK} {cc cs' : Cs} {ds : List PyData} {us : List V} {xs : List Ar} (hR : ∀ y F H v c cs, R y F v c → Sta F (c ++ cs) H → ∃ F', Gr F F' ∧ Sta F' cs H ∧ Dt K F' v (B y)) (h : EvC K te σ F cs ds cs1) (hu : ∀ F vs, Dts K F vs ds → vs = us) (hA : A x = .c us :: xs) (h2 : ∀ p, EvR K as σ F ((p, .lst us) :: cs1) xs cc ((p, .lst us) :: cs2))
    (hp : ∀ p, Sb ((p, .lst us) :: cs2) ((p, .lst us) :: cc ++ cs')) (hf : f x = some y) (hq : ∀ p, Su (upC ((p, .lst us) :: cc) (C y) ++ cs') cs3) : EvD K (tCall (spR K A C R f) [] E (tCons te as)) σ F cs (B y) cs3 := fun F1 H1 g1 s Q q =>
  o_callRN s (Ev.grC g1 h) hu hA (fun p => Ev.grR g1 (h2 p)) hp hf hq fun v c F3 H3 g3 s3 r => by
    obtain ⟨F4, g4, s4, d4⟩ := hR y F3 H3 v c cs3 r s3
    exact q v F4 H3 (g3.tr g4) s4 d4
theorem d_lendT {l1 l2 m1 m2 : Cs} {p : Addr} {us : List V} (hn : noL d = true) (h : ∀ F1, Gr F F1 → F1 p = none → EvD K te σ (upd F1 p (.lst us)) (l1 ++ l2) d (m1 ++ m2)) : EvD K te σ F (l1 ++ (p, .lst us) :: l2) d (m1 ++ (p, .lst us) :: m2) := fun F1 H1 g1 s Q q => by
  refine h F1 g1 s.freeAt (upd F1 p (.lst us)) H1 .rfl s.frozeAt Q fun v F2 H2 g2 s2 h2 => ?_
  exact q v (cut F2 p) H2 (gr_cut s.freeAt g2) (Sta.lent g2 s2) (h2.cutL (g2 p _ upd_same) hn)
theorem c_lendT {l1 l2 m1 m2 : Cs} {p : Addr} {us : List V} {ds : List PyData} (hn : noLs ds = true) (h : ∀ F1, Gr F F1 → F1 p = none → EvC K te σ (upd F1 p (.lst us)) (l1 ++ l2) ds (m1 ++ m2)) : EvC K te σ F (l1 ++ (p, .lst us) :: l2) ds (m1 ++ (p, .lst us) :: m2) := fun F1 H1 g1 s Q q => by
  refine h F1 g1 s.freeAt (upd F1 p (.lst us)) H1 .rfl s.frozeAt Q fun a vs F2 H2 g2 s2 h2 => ?_
  exact q a vs (cut F2 p) H2 (gr_cut s.freeAt g2) (Sta.lent (l1 := (a, .lst vs) :: m1) g2 s2) (h2.cutL (g2 p _ upd_same) hn)
end
end Bw

namespace Bw
open PySem L2
/-! dicts with flat keys and flat values -/
def lookK {κ ν : Type} [DecidableEq κ] (d : List (κ × ν)) (k : κ) : Option ν := (d.find? fun p => decide (p.1 = k)).map (·.2)
def putKV {κ ν : Type} [DecidableEq κ] (d : List (κ × ν)) (k : κ) (v : ν) : List (κ × ν) := if (d.any fun p => decide (p.1 = k)) = true then d.map (fun p => if p.1 = k then (p.1, v) else p) else d ++ [(k, v)]
def hasK {κ ν : Type} [DecidableEq κ] (d : List (κ × ν)) (k : κ) : Bool := (lookK d k).isSome
def putM {κ ν : Type} [DecidableEq κ] (d : List (κ × ν)) (k : κ) (v : ν) : Option (List (κ × ν)) := if d.length < 100000 then some (putKV d k v) else none
def kvE {κ ν : Type} (kf : κ → Key) (vf : ν → V) (d : List (κ × ν)) : List (Key × V) := d.map fun p => (kf p.1, vf p.2)
def Inj {κ : Type} (kf : κ → Key) : Prop := ∀ a b, kf a = kf b → a = b
abbrev kS : Str → Key := fun x => Sum.inr x
abbrev kI : Int → Key := fun x => Sum.inl x
theorem inj_S : Inj kS := fun _ _ h => Sum.inr.inj h
theorem inj_I : Inj kI := fun _ _ h => Sum.inl.inj h
section
variable {κ ν : Type} [DecidableEq κ] {kf : κ → Key} {vf : ν → V}
theorem val_kv (hk : Inj kf) : ∀ (d : List (κ × ν)) (k : κ), valV (kvE kf vf d) (kf k) = (lookK d k).map vf
  | [], _ => rfl
  | p :: d, k => by
    have ih := val_kv hk d k
    unfold valV kvE lookK at ih ⊢
    rw [List.map_cons, List.find?_cons, List.find?_cons]
    by_cases h : p.1 = k
    · rw [decide_eq_true h, decide_eq_true (congrArg kf h)]; rfl
    · rw [decide_eq_false h, decide_eq_false (fun z => h (hk _ _ z))]; exact ih
theorem put_kv (hk : Inj kf) (d : List (κ × ν)) (k : κ) (v : ν) : putK (kvE kf vf d) (kf k) (vf v) = kvE kf vf (putKV d k v) := by
  have e : ∀ d : List (κ × ν), ((kvE kf vf d).any fun kv => decide (kv.1 = kf k)) = d.any fun p => decide (p.1 = k) := fun d => by
    unfold kvE
    rw [List.any_map]
    congr 1
    funext p
    by_cases h : p.1 = k
    · simp [h]
    · have : ¬ kf p.1 = kf k := fun z => h (hk _ _ z)
      simp [h, this]
  unfold putK putKV
  rw [e]
  by_cases q : (d.any fun p => decide (p.1 = k)) = true
  · rw [if_pos q, if_pos q]
    unfold kvE
    rw [List.map_map, List.map_map]
    apply List.map_congr_left
    intro p _
    show (if kf p.1 = kf k then (kf p.1, vf v) else (kf p.1, vf p.2)) = _
    by_cases h : p.1 = k
    · rw [if_pos (congrArg kf h)]; show _ = (kf (if p.1 = k then (p.1, v) else p).1, vf (if p.1 = k then (p.1, v) else p).2); rw [if_pos h]
    · rw [if_neg (fun z => h (hk _ _ z))]; show _ = (kf (if p.1 = k then (p.1, v) else p).1, vf (if p.1 = k then (p.1, v) else p).2); rw [if_neg h]
  · rw [if_neg q, if_neg q]
    unfold kvE
    rw [List.map_append]; rfl
theorem putM_some {d e : List (κ × ν)} {k : κ} {v : ν} (h : putM d k v = some e) : d.length < 100000 ∧ putKV d k v = e := by
  unfold putM at h; split at h
  · rename_i q; exact ⟨q, Option.some.inj h⟩
  · cases h
end
/-- how a key's value stands -/
structure KfOk {κ : Type} (kf : κ → Key) (ek : κ → PyData) : Prop where
  inj : Inj kf
  v : ∀ K F v x, Dt K F v (ek x) → v = kV (kf x)
theorem kf_S : KfOk kS eS := ⟨inj_S, fun _ _ _ _ h => h.toStr⟩
theorem kf_I : KfOk kI eI := ⟨inj_I, fun _ _ _ _ h => h.toInt⟩
section
variable {K : PySem.W.Frag} {σ : St} {F F' : Hp} {cs cs1 cs2 cs3 : Cs} {ta tb tc te td : TE} {d e : PyData} {as : TA} {a b c : Int} {nx bk ct : St → Hp → Prop} {rt : VK} {H : Hp} {t u : TS}
variable {κ ν : Type} [DecidableEq κ] {kf : κ → Key} {vf : ν → V} {ek : κ → PyData} {ev : ν → PyData}
/-- a new dict -/
theorem o_dict0 {Q : VK} (s : Sta F cs H) (q : ∀ p H2, Sta F ((p, .dK (kvE kf vf [])) :: cs) H2 → Q (.ref p) H2) : tDNewK σ H Q := fun p hp => q p _ (s.cell hp)
/-- k in d -/
theorem d_din {D : List (κ × ν)} {k : κ} {p : Addr} (hk : KfOk kf ek) (ha : EvD K ta σ F cs (ek k) cs1) (hd : VP td σ F cs1 (.ref p)) (hF : F p = some (.dK (kvE kf vf D))) : EvD K (tDIn ta td) σ F cs (.bool (hasK D k)) cs1 := fun F1 H1 g1 s Q q =>
  ha F1 H1 g1 s _ fun v F2 H2 g2 s2 h2 => hd F2 H2 (g1.tr g2) s2 _ ⟨p, valV (kvE kf vf D) (kf k), rfl, by rw [hk.v K F2 v k h2]; exact DGet.k (s2.fr _ _ ((g1.tr g2) _ _ hF)), by
    rw [val_kv hk.inj, Option.isSome_map]; exact q _ F2 H2 g2 s2 (.bl _)⟩
theorem d_dnin {D : List (κ × ν)} {k : κ} {p : Addr} (hk : KfOk kf ek) (ha : EvD K ta σ F cs (ek k) cs1) (hd : VP td σ F cs1 (.ref p)) (hF : F p = some (.dK (kvE kf vf D))) : EvD K (tDNotIn ta td) σ F cs (.bool (!hasK D k)) cs1 := fun F1 H1 g1 s Q q =>
  ha F1 H1 g1 s _ fun v F2 H2 g2 s2 h2 => hd F2 H2 (g1.tr g2) s2 _ ⟨p, valV (kvE kf vf D) (kf k), rfl, by rw [hk.v K F2 v k h2]; exact DGet.k (s2.fr _ _ ((g1.tr g2) _ _ hF)), by
    rw [val_kv hk.inj, Option.isSome_map]; exact q _ F2 H2 g2 s2 (.bl _)⟩
/-- d[k] -/
theorem d_dget {D : List (κ × ν)} {k : κ} {x : ν} {p : Addr} (hk : KfOk kf ek) (hv : ∀ F x, Dt K F (vf x) (ev x)) (hd : VP td σ F cs (.ref p)) (ha : EvD K ta σ F cs (ek k) cs1) (hF : F p = some (.dK (kvE kf vf D))) (hx : lookK D k = some x) : EvD K (tDGet td ta) σ F cs (ev x) cs1 := fun F1 H1 g1 s Q q =>
  hd F1 H1 g1 s _ (ha F1 H1 g1 s _ fun v F2 H2 g2 s2 h2 => ⟨p, vf x, rfl, by
    have := DGet.k (k := kf k) (s2.fr _ _ ((g1.tr g2) _ _ hF))
    rw [val_kv hk.inj, hx] at this
    rw [hk.v K F2 v k h2]; exact this, q _ F2 H2 g2 s2 (hv _ _)⟩)
/-- len(d) -/
abbrev rLenD : List V → Hp → VK → Prop := fun xs H Q => ∃ a kvs, xs = [V.ref a] ∧ H a = some (.dK kvs) ∧ Q (.int kvs.length) H
theorem d_lenK {D : List (κ × ν)} {p : Addr} (hd : VP td σ F cs (.ref p)) (hF : F p = some (.dK (kvE kf vf D))) : EvD K (tCB rLenD (tCons td tNil)) σ F cs (.int D.length) cs := fun F1 H1 g1 s Q q =>
  hd F1 H1 g1 s _ ⟨p, _, rfl, s.fr _ _ (g1 _ _ hF), q _ F1 H1 .rfl s (by unfold kvE; rw [List.length_map]; exact .int _)⟩
/-- d[k] = v, d a cell -/
theorem s_dput {k1 k2 m1 m2 l1 l2 : Cs} {D D2 : List (κ × ν)} {k : κ} {x : ν} {p : Addr} (hk : KfOk kf ek) (hw : ∀ F v x, Dt K F v (ev x) → v = vf x) (s : Sta F (k1 ++ (p, .dK (kvE kf vf D)) :: k2) H) (h : EvD K te σ F (k1 ++ (p, .dK (kvE kf vf D)) :: k2) (ev x) (m1 ++ (p, .dK (kvE kf vf D)) :: m2))
    (hd : VP td σ F (m1 ++ (p, .dK (kvE kf vf D)) :: m2) (.ref p)) (ha : EvD K ta σ F (m1 ++ (p, .dK (kvE kf vf D)) :: m2) (ek k) (l1 ++ (p, .dK (kvE kf vf D)) :: l2)) (hm : putM D k x = some D2)
    (q : ∀ F2 H2, Gr F F2 → Sta F2 (l1 ++ (p, .dK (kvE kf vf D2)) :: l2) H2 → nx σ H2) : sDPut td ta te ⟨nx, rt, bk, ct⟩ σ H :=
  h F H .rfl s _ fun v F2 H2 g2 s2 hv => hd F2 H2 g2 s2 _ (ha F2 H2 g2 s2 _ fun y F3 H3 g3 s3 hy => by
    obtain ⟨hl, rfl⟩ := putM_some hm
    refine ⟨p, _, rfl, ?_, q F3 _ (g2.tr g3) (s3.putAt (o' := .dK (kvE kf vf (putKV D k x))))⟩
    rw [hk.v K F3 y k hy, hw F2 v x hv, ← put_kv hk.inj]
    exact DPut.k s3.getAt (by unfold kvE; rw [List.length_map]; exact szl hl))
/-- .. for a new name -/
theorem s_setDict {i : Nat} {σ' : Addr → St} (s : Sta F cs H) (hσ : ∀ p, σ.set i (some (.ref p)) = σ' p) (q : ∀ p H2, Sta F ((p, .dK (kvE kf vf [])) :: cs) H2 → nx (σ' p) H2) : tAsg tDNewK (gName i) ⟨nx, rt, bk, ct⟩ σ H := fun p hp => by
  show nx (σ.set i (some (.ref p))) _
  rw [hσ]
  exact q p _ (s.cell hp)
end
/-! what no tuple is, cut out -/
def nTup (o : HO) : Prop := ∀ xs, o ≠ .tup xs ∧ ∀ ob, o ≠ .frz ob (.tup xs)
theorem nt_d (kvs : List (Key × V)) : nTup (.dK kvs) := fun xs => ⟨fun z => (nomatch z), fun _ z => (nomatch z)⟩
theorem nt_l (kvs : List V) : nTup (.lst kvs) := fun xs => ⟨fun z => (nomatch z), fun _ z => (nomatch z)⟩
section
variable {K : PySem.W.Frag} {F F2 : Hp} {p : Addr} {o : HO}
mutual
theorem Dt.cutO (hp : F2 p = some o) (ho : nTup o) : ∀ {v : V} {d : PyData}, Dt K F2 v d → noL d = true → Dt K (cut F2 p) v d
  | _, _, .non, _ => .non
  | _, _, .bl b, _ => .bl b
  | _, _, .int i, _ => .int i
  | _, _, .str x, _ => .str x
  | _, _, .lst h a, n => by simp [noL] at n
  | _, _, .dct h, n => by simp [noL] at n
  | _, _, .tup (a := a) (ds := ds) h k, n => by
    have n' : noLs ds = true := by simpa [noL] using n
    refine .tup ?_ (Dts.cutO hp ho k n')
    rcases h with (h | ⟨ob, h⟩) | h
    · refine .inl (.inl ?_)
      rw [cut_ne (fun z => by rw [z, hp] at h; exact (ho _).1 (Option.some.inj h))]; exact h
    · refine .inl (.inr ⟨ob, ?_⟩)
      rw [cut_ne (fun z => by rw [z, hp] at h; exact (ho _).2 ob (Option.some.inj h))]; exact h
    · exact .inr h
theorem Dts.cutO (hp : F2 p = some o) (ho : nTup o) : ∀ {vs : List V} {ds : List PyData}, Dts K F2 vs ds → noLs ds = true → Dts K (cut F2 p) vs ds
  | _, _, .nil, _ => .nil
  | _, _, .cons h t, n => by
    rw [noLs, Bool.and_eq_true] at n
    exact .cons (Dt.cutO hp ho h n.1) (Dts.cutO hp ho t n.2)
end
end
section
variable {K : PySem.W.Frag} {σ : St} {F F' : Hp} {cs cs1 cs2 cs3 : Cs} {ta tb tc te : TE} {d e : PyData} {as : TA}
theorem d_lendO {l1 l2 m1 m2 : Cs} {p : Addr} {o : HO} (ho : nTup o) (hn : noL d = true) (h : ∀ F1, Gr F F1 → F1 p = none → EvD K te σ (upd F1 p o) (l1 ++ l2) d (m1 ++ m2)) : EvD K te σ F (l1 ++ (p, o) :: l2) d (m1 ++ (p, o) :: m2) := fun F1 H1 g1 s Q q => by
  refine h F1 g1 s.freeAt (upd F1 p o) H1 .rfl s.frozeAt Q fun v F2 H2 g2 s2 h2 => ?_
  exact q v (cut F2 p) H2 (gr_cut s.freeAt g2) (Sta.lent g2 s2) (h2.cutO (g2 p _ upd_same) ho hn)
theorem c_lendO {l1 l2 m1 m2 : Cs} {p : Addr} {o : HO} {ds : List PyData} (ho : nTup o) (hn : noLs ds = true) (h : ∀ F1, Gr F F1 → F1 p = none → EvC K te σ (upd F1 p o) (l1 ++ l2) ds (m1 ++ m2)) : EvC K te σ F (l1 ++ (p, o) :: l2) ds (m1 ++ (p, o) :: m2) := fun F1 H1 g1 s Q q => by
  refine h F1 g1 s.freeAt (upd F1 p o) H1 .rfl s.frozeAt Q fun a vs F2 H2 g2 s2 h2 => ?_
  exact q a vs (cut F2 p) H2 (gr_cut s.freeAt g2) (Sta.lent (l1 := (a, .lst vs) :: m1) g2 s2) (h2.cutO (g2 p _ upd_same) ho hn)
theorem sb_drop2 {z c : Addr × HO} : Sb (z :: c :: cs) (z :: cs) := Sb.tr (sb_perm (.swap c z cs)) sb_drop
/-- xs.insert(i, x), a cell -/
def insM {α : Type} (xs : List α) (i : Int) (x : α) : Option (List α) := if xs.length < 100000 ∧ 0 ≤ i ∧ i < 2 ^ 63 then some (xs.take i.toNat ++ [x] ++ xs.drop i.toNat) else none
abbrev rInsert : V → List V → Hp → VK → Prop := fun x vs H Q => ∃ (l : Addr) (xs : List V) (i : Int) (y : V), x = .ref l ∧ vs = [.int i, y] ∧ H l = some (.lst xs) ∧ xs.length < sizeLine ∧ 0 ≤ i ∧ i < 2 ^ 63 ∧ Q .non (upd H l (.lst (xs.take i.toNat ++ [y] ++ xs.drop i.toNat)))
theorem s_insFV {α : Type} {vf : α → V} {en : α → PyData} {k1 k2 m1 m2 l1 l2 : Cs} {to ti : TE} {p : Addr} {xs ys : List α} {x : α} {k : Int} {nx bk ct : St → Hp → Prop} {rt : VK} {H : Hp} (hw : ∀ F v x, Dt K F v (en x) → v = vf x) (s : Sta F (k1 ++ (p, .lst (xs.map vf)) :: k2) H) (hi : VP to σ F (k1 ++ (p, .lst (xs.map vf)) :: k2) (.ref p))
    (h1 : EvD K ti σ F (k1 ++ (p, .lst (xs.map vf)) :: k2) (.int k) (m1 ++ (p, .lst (xs.map vf)) :: m2)) (h : EvD K te σ F (m1 ++ (p, .lst (xs.map vf)) :: m2) (en x) (l1 ++ (p, .lst (xs.map vf)) :: l2)) (hm : insM xs k x = some ys)
    (q : ∀ F2 H2, Gr F F2 → Sta F2 (l1 ++ (p, .lst (ys.map vf)) :: l2) H2 → nx σ H2) : tDrop (tBM K "list" rInsert to (tCons ti (tCons te tNil))) ⟨nx, rt, bk, ct⟩ σ H := by
  unfold insM at hm; split at hm
  · rename_i hl
    cases hm
    refine hi F H .rfl s _ ⟨.inl ⟨rfl, _, .inl (.inl s.getAt)⟩, h1 F H .rfl s _ fun v F2 H2 g2 s2 hv => h F2 H2 g2 s2 _ fun w F3 H3 g3 s3 hx => ⟨p, xs.map vf, k, w, rfl, by rw [hv.toInt], s3.getAt, by rw [List.length_map]; exact szl hl.1, hl.2.1, hl.2.2, q F3 _ (g2.tr g3) ?_⟩⟩
    cases hw F3 w x hx
    rw [List.map_append, List.map_append, List.map_take, List.map_drop]
    exact s3.putAt
  · cases hm
end
end Bw

namespace Bw
open PySem L2
theorem eqE_OI : EqE (eO eI) := fun x y => by
  cases x <;> cases y <;> simp [eO, PyData.eqv]
  exact beq_dec _ _
theorem eqE_OS : EqE (eO eS) := fun x y => by
  cases x <;> cases y <;> simp [eO, PyData.eqv]
  exact beq_dec _ _
theorem eqE_OB : EqE (eO eB) := fun x y => by
  cases x <;> cases y <;> simp [eO, PyData.eqv]
  exact beq_dec _ _
theorem sh_OI : ShE 0 (eO eI) := fun x => by cases x <;> exact ⟨by simp [eO, PyData.canLay0], by simp [eO, PyData.depth]⟩
theorem sh_OB : ShE 0 (eO eB) := fun x => by cases x <;> exact ⟨by simp [eO, PyData.canLay0], by simp [eO, PyData.depth]⟩
section
variable {K : PySem.W.Frag} {σ : St} {F F' : Hp} {cs cs1 cs2 cs3 : Cs} {ta tb tc te : TE} {d e : PyData} {as : TA} {nx bk ct : St → Hp → Prop} {rt : VK} {H : Hp}
theorem sqT_cut {p a : Addr} {o : HO} {xs : List V} (hp : F p = some o) (ho : nTup o) (h : SqT K F a xs) : SqT K (cut F p) a xs := by
  rcases h with (h | ⟨ob, h⟩) | h
  · refine .inl (.inl ?_)
    rw [cut_ne (fun z => by rw [z, hp] at h; exact (ho _).1 (Option.some.inj h))]; exact h
  · refine .inl (.inr ⟨ob, ?_⟩)
    rw [cut_ne (fun z => by rw [z, hp] at h; exact (ho _).2 ob (Option.some.inj h))]; exact h
  · exact .inr h
theorem i_tupM {α : Type} {en : α → PyData} {xs : List α} (h : EvD K te σ F cs (.tuple (xs.map en)) cs1) : EvI K (iTup K te) σ F cs (xs.map en) cs1 := i_tup h
/-- xs.pop(k), nothing kept -/
theorem s_popFD {α : Type} {vf : α → V} {k1 k2 l1 l2 : Cs} {to : TE} {p : Addr} {xs ys : List α} {x : α} {ti : TE} {k : Int} (s : Sta F (k1 ++ (p, .lst (xs.map vf)) :: k2) H) (hi : VP to σ F (k1 ++ (p, .lst (xs.map vf)) :: k2) (.ref p))
    (h2 : EvD K ti σ F (k1 ++ (p, .lst (xs.map vf)) :: k2) (.int k) (l1 ++ (p, .lst (xs.map vf)) :: l2)) (hm : popM xs k = some (x, ys)) (q : ∀ F2 H2, Gr F F2 → Sta F2 (l1 ++ (p, .lst (ys.map vf)) :: l2) H2 → nx σ H2) : tDrop (tBM K "list" rPopAt to (tCons ti tNil)) ⟨nx, rt, bk, ct⟩ σ H := by
  obtain ⟨⟨a1, a2⟩, m, b1, b2, rfl⟩ := popM_some hm
  refine hi F H .rfl s _ ⟨.inl ⟨rfl, _, .inl (.inl s.getAt)⟩, h2 F H .rfl s _ fun w F3 H3 g3 s3 hw => ⟨p, xs.map vf, k, m, vf x, rfl, by cases hw.toInt; rfl, s3.getAt, a1, a2, by rw [List.length_map]; exact b1, by rw [List.getElem?_map, b2]; rfl, ?_⟩⟩
  have s4 := s3.putAt (o' := .lst ((xs.map vf).eraseIdx m))
  refine q F3 _ g3 ?_
  rw [er_map]; exact s4
theorem Dts.erase : ∀ {vs : List V} {ds : List PyData} (n : Nat), Dts K F vs ds → Dts K F (vs.eraseIdx n) (ds.eraseIdx n)
  | _, _, _, .nil => .nil
  | _, _, 0, .cons _ t => t
  | _, _, n + 1, .cons h t => .cons h (Dts.erase n t)
theorem s_popGD {α : Type} {en : α → PyData} {k1 k2 l1 l2 : Cs} {to : TE} {p : Addr} {vs : List V} {xs ys : List α} {x : α} {ti : TE} {k : Int} (s : Sta F (k1 ++ (p, .lst vs) :: k2) H) (hf : Dts K F vs (xs.map en)) (hi : VP to σ F (k1 ++ (p, .lst vs) :: k2) (.ref p))
    (h2 : EvD K ti σ F (k1 ++ (p, .lst vs) :: k2) (.int k) (l1 ++ (p, .lst vs) :: l2)) (hm : popM xs k = some (x, ys)) (q : ∀ us F2 H2, Gr F F2 → Sta F2 (l1 ++ (p, .lst us) :: l2) H2 → Dts K F2 us (ys.map en) → nx σ H2) : tDrop (tBM K "list" rPopAt to (tCons ti tNil)) ⟨nx, rt, bk, ct⟩ σ H := by
  obtain ⟨⟨a1, a2⟩, m, b1, b2, rfl⟩ := popM_some hm
  have hl : vs.length = xs.length := by rw [hf.len, List.length_map]
  have hm' : m < vs.length := by rw [hl]; exact (List.getElem?_eq_some_iff.mp b2).1
  refine hi F H .rfl s _ ⟨.inl ⟨rfl, _, .inl (.inl s.getAt)⟩, h2 F H .rfl s _ fun w F3 H3 g3 s3 hw => ⟨p, vs, k, m, vs[m], rfl, by cases hw.toInt; rfl, s3.getAt, a1, a2, by rw [hl]; exact b1, List.getElem?_eq_getElem hm', ?_⟩⟩
  refine q _ F3 _ g3 (s3.putAt (o' := .lst (vs.eraseIdx m))) ?_
  rw [er_map]
  exact Dts.erase m (hf.gr g3)
end
end Bw

namespace Bw
open PySem PySem.Calls PyProof.Rows PySem.W
/-! list(zip(a, b)) -/
/-- the pairs told so far, each in a tuple of its own -/
structure ZG (xs ys : Array Value) (lo : Addr) (h : Heap) (as : List Addr) : Prop where
  rise : as.Pairwise (· < ·)
  above : ∀ a ∈ as, lo < a
  pairs : ∀ (j : Nat) (a : Addr), as[j]? = some a → ∃ x y, xs[j]? = some x ∧ ys[j]? = some y ∧ h.get? a = some { cls := .type "tuple", data := .seq #[x, y] }
theorem ZG.there {xs ys : Array Value} {lo : Addr} {h : Heap} {as : List Addr} (g : ZG xs ys lo h as) {a : Addr} (ha : a ∈ as) : a < h.objs.size := by
  obtain ⟨j, hj⟩ := List.mem_iff_getElem?.mp ha
  obtain ⟨_, _, _, _, e⟩ := g.pairs j a hj
  exact Heap.lt_size e
structure ZSt (h : Heap) (z TI TO i1 i2 l1 l2 S : Addr) (i : Nat) : Prop where
  ti : IsPair h TI (.ref i1) (.ref i2)
  it1 : h.IsListIter i1 l1 i
  it2 : h.IsListIter i2 l2 i
  out : (IsZip h z TI TO .none ∧ ∃ x y, IsPair h TO x y) ∨ ∃ T f oT, IsZipHeld h z TI TO T f ∧ h.get? T = some oT ∧ T ≠ z ∧ T ≠ i1 ∧ T ≠ i2 ∧ T ≠ S
theorem ZSt.keep {h h' : Heap} {z TI TO i1 i2 l1 l2 S : Addr} {i : Nat} (st : ZSt h z TI TO i1 i2 l1 l2 S i) (k : ∀ b o, b ≠ S → h.get? b = some o → h'.get? b = some o)
    (n1 : TI ≠ S) (n2 : i1 ≠ S) (n3 : i2 ≠ S) (n4 : z ≠ S) (n5 : TO ≠ S) : ZSt h' z TI TO i1 i2 l1 l2 S i where
  ti := k _ _ n1 st.ti
  it1 := st.it1.at fun o e => k _ o n2 e
  it2 := st.it2.at fun o e => k _ o n3 e
  out := by
    rcases st.out with ⟨a, x, y, b⟩ | ⟨T, f, oT, a, b, c1, c2, c3, c4⟩
    · exact .inl ⟨k _ _ n4 a, x, y, k _ _ n5 b⟩
    · exact .inr ⟨T, f, oT, k _ _ n4 a, k _ _ c4 b, c1, c2, c3, c4⟩
section
variable {prog : Program} {w : World} {A : Around} {E : Value → Shared → Prop} {s : Shared} {z TI TO i1 i2 l1 l2 S : Addr} {xs ys : Array Value}
theorem zl_item {i : Nat} {x y : Value} {Q : Option Value → Shared → Prop} (D : ZipApart z TI TO i1 i2 l1 l2) (st : ZSt s.heap z TI TO i1 i2 l1 l2 S i) (hS : S < s.heap.objs.size) (hl1 : s.heap.IsList l1 xs) (hl2 : s.heap.IsList l2 ys)
    (hx : xs[i]? = some x) (hy : ys[i]? = some y)
    (hQ : ∀ h', ZSt h' z TI TO i1 i2 l1 l2 S (i + 1) → IsPair h' s.heap.objs.size x y → h'.objs.size = s.heap.objs.size + 1 →
      (∀ c o, c ≠ z → c ≠ TO → c ≠ i1 → c ≠ i2 → s.heap.get? c = some o → h'.get? c = some o) → Q (some (.ref s.heap.objs.size)) { s with heap := h' }) : wpAny (model prog w) A (pyNext (.ref z)) Q E s := by
  have li1 : i1 < s.heap.objs.size := let ⟨_, e, _⟩ := st.it1; Heap.lt_size e
  have li2 : i2 < s.heap.objs.size := let ⟨_, e, _⟩ := st.it2; Heap.lt_size e
  rcases st.out with ⟨hz, a, b, hTO⟩ | ⟨T, f, oT, hz, hT, c1, c2, c3, c4⟩
  · have lz : z < s.heap.objs.size := Heap.lt_size hz
    exact wpAny_pyNext_zip_item D hz st.ti hTO st.it1 st.it2 hl1 hl2 hx hy fun h' hz' _ h1' h2' hp hsz hk =>
      hQ h' ⟨hk _ _ D.TIz D.TITO D.TIi1 D.TIi2 st.ti, h1', h2', .inr ⟨_, false, _, hz', hp, Nat.ne_of_gt lz, Nat.ne_of_gt li1, Nat.ne_of_gt li2, Nat.ne_of_gt hS⟩⟩ hp hsz hk
  · exact wpAny_pyNext_zip_item_held D hz hT st.ti st.it1 st.it2 hl1 hl2 hx hy fun h' hz' h1' h2' hp hsz hk =>
      hQ h' ⟨hk _ _ D.TIz D.TIi1 D.TIi2 st.ti, h1', h2', .inr ⟨T, true, oT, hz', hk _ _ c1 c2 c3 hT, c1, c2, c3, c4⟩⟩ hp hsz fun c o q1 _ q3 q4 e => hk c o q1 q3 q4 e
theorem zl_done {i : Nat} {Q : Option Value → Shared → Prop} (hh : A.handled = none) (D : ZipApart z TI TO i1 i2 l1 l2) (st : ZSt s.heap z TI TO i1 i2 l1 l2 S i) (hl1 : s.heap.IsList l1 xs) (hl2 : s.heap.IsList l2 ys)
    (hend : xs[i]? = none ∨ ys[i]? = none)
    (hQ : ∀ h', (∀ c o, c ≠ z → c ≠ TO → c ≠ i1 → c ≠ i2 → s.heap.get? c = some o → h'.get? c = some o) → Q none { s with heap := h' }) : wpAny (model prog w) A (pyNext (.ref z)) Q E s := by
  rcases st.out with ⟨hz, a, b, hTO⟩ | ⟨T, f, oT, hz, hT, c1, c2, c3, c4⟩
  · exact wpAny_pyNext_zip_end hh D hz st.ti hTO st.it1 st.it2 hl1 hl2 hend hQ
  · exact wpAny_pyNext_zip_end_held hh D hz hT st.ti st.it1 st.it2 hl1 hl2 hend fun h' hk => hQ h' fun c o q1 _ q3 q4 e => hk c o q1 q3 q4 e
end
section
variable {prog : Program} {w : World} {A : Around} {s : Shared} {R : Result → Shared → Prop} {z TI TO i1 i2 l1 l2 S : Addr} {xs ys : Array Value}
theorem zl_loop (hh : A.handled = none) (D : ZipApart z TI TO i1 i2 l1 l2) (nz : z < S) (nTI : TI < S) (nTO : TO < S) (n1 : i1 < S) (n2 : i2 < S) (nl1 : l1 < S) (nl2 : l2 < S) (hn : min xs.size ys.size ≤ sizeLine) (res : Value) {h₁ : Heap}
    (hR : ∀ h' tk acc c as, (∀ b o, b ≠ S → b ≠ z → b ≠ TO → b ≠ i1 → b ≠ i2 → h₁.get? b = some o → h'.get? b = some o) → h'.get? S = some { cls := .type "list", dict := none, data := .seq acc c, slots := #[] } → as.length = min xs.size ys.size →
      ZG xs ys S h' as → acc.toList = as.map Value.ref → R (.ok (.ret res)) { s with heap := h', toks := tk }) :
    ∀ (k i : Nat) (h : Heap) (tk c : Nat) (acc : Array Value) (as : List Addr), min xs.size ys.size - i = k → i ≤ min xs.size ys.size → ZSt h z TI TO i1 i2 l1 l2 S i → h.IsList l1 xs → h.IsList l2 ys →
      (∀ b o, b ≠ S → b ≠ z → b ≠ TO → b ≠ i1 → b ≠ i2 → h₁.get? b = some o → h.get? b = some o) →
      h.get? S = some { cls := .type "list", dict := none, data := .seq acc c, slots := #[] } → acc.toList = as.map Value.ref → as.length = i → ZG xs ys S h as →
      codeAny (model prog w) A (.builtin "list.extend.loop" ⟨[.ref S, .ref z, res], []⟩) R { s with heap := h, toks := tk } := by
  have a1 : S ≠ z := Nat.ne_of_gt nz
  have a2 : S ≠ TO := Nat.ne_of_gt nTO
  have a3 : S ≠ i1 := Nat.ne_of_gt n1
  have a4 : S ≠ i2 := Nat.ne_of_gt n2
  have gt : ∀ {b : Addr}, S < b → b ≠ S ∧ b ≠ z ∧ b ≠ TO ∧ b ≠ i1 ∧ b ≠ i2 := fun {b} hb => ⟨Nat.ne_of_gt hb, Nat.ne_of_gt (Nat.lt_trans nz hb), Nat.ne_of_gt (Nat.lt_trans nTO hb), Nat.ne_of_gt (Nat.lt_trans n1 hb), Nat.ne_of_gt (Nat.lt_trans n2 hb)⟩
  intro k
  induction k with
  | zero =>
    intro i h tk c acc as hk hi st hl1 hl2 hkeep hS hacc hal hG
    have hin : i = min xs.size ys.size := by omega
    refine codeAny_builtin PySem.F.entry_extend_loop ?_
    rw [Around.under_plainId PySem.F.plain_extend_loop _]
    show wpAny _ A.in1 (pyNext (.ref z) >>= _) _ _ _
    have hend : xs[i]? = none ∨ ys[i]? = none := by
      by_cases q : xs.size ≤ i
      · exact .inl (Array.getElem?_eq_none q)
      · exact .inr (Array.getElem?_eq_none (by omega))
    refine wpAny_bind (zl_done (s := { s with heap := h, toks := tk }) (A := A.in1) hh D st hl1 hl2 hend fun h' he => ?_)
    refine wpAny_pure (hR h' tk acc c as (fun b o q0 q1 q2 q3 q4 e => he b o q1 q2 q3 q4 (hkeep b o q0 q1 q2 q3 q4 e)) (he S _ a1 a2 a3 a4 hS) (by omega) ⟨hG.rise, hG.above, fun j a hj => ?_⟩ hacc)
    obtain ⟨x, y, e1, e2, e3⟩ := hG.pairs j a hj
    obtain ⟨_, q1, q2, q3, q4⟩ := gt (hG.above a (List.mem_of_getElem? hj))
    exact ⟨x, y, e1, e2, he a _ q1 q2 q3 q4 e3⟩
  | succ k ih =>
    intro i h tk c acc as hk hi st hl1 hl2 hkeep hS hacc hal hG
    have hlt : i < min xs.size ys.size := by omega
    have hx : xs[i]? = some xs[i] := Array.getElem?_eq_getElem (by omega)
    have hy : ys[i]? = some ys[i] := Array.getElem?_eq_getElem (by omega)
    generalize xs[i] = x at hx
    generalize ys[i] = y at hy
    have hsz : acc.size = i := by rw [← Array.length_toList, hacc, List.length_map, hal]
    refine codeAny_builtin PySem.F.entry_extend_loop ?_
    rw [Around.under_plainId PySem.F.plain_extend_loop _]
    show wpAny _ A.in1 (pyNext (.ref z) >>= _) _ _ _
    refine wpAny_bind (zl_item (s := { s with heap := h, toks := tk }) (S := S) D st (Heap.lt_size hS) hl1 hl2 hx hy fun h' st' ht hz hkp => ?_)
    dsimp only at ht hz hkp ⊢
    have hS' := hkp S _ a1 a2 a3 a4 hS
    have up : ∀ b o, b ≠ S → h'.get? b = some o → (h'.update S (Obj.mapSeq (·.push (Value.ref h.objs.size)))).get? b = some o := fun b o hb e => (Heap.get?_update_other _ _ (Ne.symm hb)).trans e
    have hSl : S < h.objs.size := Heap.lt_size hS
    show wpAny _ A.in1 (updateSeq S (·.push (Value.ref h.objs.size)) >>= _) _ _ _
    refine wpAny_bind ?_
    refine wpAny_updateSeq hS' rfl (wpAny_pure ⟨plainId_quiet PySem.F.plain_extend_loop _, ih (i + 1) _ tk _ (acc.push (Value.ref h.objs.size)) (as ++ [h.objs.size]) (by omega) hlt
      (st'.keep up (Nat.ne_of_lt nTI) (Nat.ne_of_lt n1) (Nat.ne_of_lt n2) (Nat.ne_of_lt nz) (Nat.ne_of_lt nTO)) (hl1.at fun o e => up l1 o (Nat.ne_of_lt nl1) (hkp l1 o D.l1z D.l1TO D.l1i1 D.l1i2 e)) (hl2.at fun o e => up l2 o (Nat.ne_of_lt nl2) (hkp l2 o D.l2z D.l2TO D.l2i1 D.l2i2 e))
      (fun b o q0 q1 q2 q3 q4 e => up b o q0 (hkp b o q1 q2 q3 q4 (hkeep b o q0 q1 q2 q3 q4 e))) (Heap.get?_update_self _ hS' rfl) (by rw [Array.toList_push, hacc, List.map_append]; rfl) (by rw [List.length_append, hal]; rfl) ⟨?_, ?_, ?_⟩⟩) (by rw [hsz]; omega) (by show (acc.push (Value.ref h.objs.size)).size ≤ sizeLine + 1; rw [Array.size_push, hsz]; omega)
    · refine List.pairwise_append.mpr ⟨hG.rise, List.pairwise_singleton _ _, fun a ha b hb => ?_⟩
      rw [List.mem_singleton.mp hb]
      exact hG.there ha
    · intro a ha
      rcases List.mem_append.mp ha with ha | ha
      · exact hG.above a ha
      · rw [List.mem_singleton.mp ha]; exact hSl
    · intro j b hj
      rcases Nat.lt_trichotomy j as.length with h1 | h1 | h1
      · rw [List.getElem?_append_left h1] at hj
        obtain ⟨x', y', e1, e2, e3⟩ := hG.pairs j b hj
        obtain ⟨q0, q1, q2, q3, q4⟩ := gt (hG.above b (List.mem_of_getElem? hj))
        exact ⟨x', y', e1, e2, up b _ q0 (hkp b _ q1 q2 q3 q4 e3)⟩
      · subst h1
        have hb : h.objs.size = b := by simpa using hj
        subst hb
        subst hal
        exact ⟨x, y, hx, hy, up _ _ (Nat.ne_of_gt hSl) ht⟩
      · have hnone : (as ++ [h.objs.size])[j]? = none := List.getElem?_eq_none (by rw [List.length_append, List.length_singleton]; omega)
        rw [hnone] at hj; cases hj
end
theorem zl_len : typeLookup (.type "zip") "__len__" = pure none := by rw [typeLookup_type, builtinLookup_eq_fast]; kernel_rfl
theorem zl_hin : typeLookup (.type "zip") "__length_hint__" = pure none := by rw [typeLookup_type, builtinLookup_eq_fast]; kernel_rfl
section
variable {prog : Program} {w : World} {A : Around} {E : Value → Shared → Prop} {s : Shared} {z TI TO i1 i2 l1 l2 S : Addr} {xs ys : Array Value}
theorem zl_hint {r : Addr} {Q : Bool → Shared → Prop} (hT : s.TypeIs (.ref r) "zip") (h : Q true s) : wpAny (model prog w) A (Builtin.List.listLengthHint (.ref r)) Q E s := by
  unfold Builtin.List.listLengthHint
  refine wpAny_bind (wpAny_specialOf hT zl_len ?_)
  refine wpAny_ite_split (fun hab => absurd hab (by decide)) (fun _ => ?_)
  refine wpAny_ite_split (fun hab => absurd hab (by decide)) (fun _ => ?_)
  refine wpAny_bind (wpAny_specialOf hT zl_hin ?_)
  exact wpAny_pure h
theorem zl_extend {R : Result → Shared → Prop} (hh : A.handled = none) (D : ZipApart z TI TO i1 i2 l1 l2) (st : ZSt s.heap z TI TO i1 i2 l1 l2 S 0) (hl1 : s.heap.IsList l1 xs) (hl2 : s.heap.IsList l2 ys)
    (nz : z < S) (nTI : TI < S) (nTO : TO < S) (n1 : i1 < S) (n2 : i2 < S) (nl1 : l1 < S) (nl2 : l2 < S) (hz : IsZip s.heap z TI TO .none) (res : Value) (c₀ : Nat) (hS : s.heap.get? S = some { cls := .type "list", data := .seq #[] c₀ })
    (hR : ∀ h' tk acc c as, (∀ b o, b ≠ S → b ≠ z → b ≠ TO → b ≠ i1 → b ≠ i2 → s.heap.get? b = some o → h'.get? b = some o) → h'.get? S = some { cls := .type "list", dict := none, data := .seq acc c, slots := #[] } → as.length = min xs.size ys.size →
      ZG xs ys S h' as → acc.toList = as.map Value.ref → R (.ok (.ret res)) { s with heap := h', toks := tk }) (hn : min xs.size ys.size ≤ sizeLine) :
    wpAny (model prog w) A.in1 (Builtin.List.listExtendWith (.ref S) (.ref z) res)
      (fun fin s' => match fin with | .done f => R (.ok f) s' | .again c' => c'.quiet = true ∧ codeAny (model prog w) A c' R s') (fun e s' => R (.error e) s') s := by
  have hT : s.TypeIs (.ref z) "zip" := ⟨_, hz, rfl⟩
  have key : ∀ (h : Heap) (c₁ tk : Nat), (∀ b o, b ≠ S → s.heap.get? b = some o → h.get? b = some o) →
      h.get? S = some { cls := .type "list", data := .seq #[] c₁ } → codeAny (model prog w) A (.builtin "list.extend.loop" ⟨[.ref S, .ref z, res], []⟩) R { s with heap := h, toks := tk } := by
    intro h c₁ tk hk hS₁
    exact zl_loop (s := s) (h₁ := s.heap) hh D nz nTI nTO n1 n2 nl1 nl2 hn res hR (min xs.size ys.size) 0 h tk c₁ #[] [] (Nat.sub_zero _) (Nat.zero_le _)
      (st.keep hk (Nat.ne_of_lt nTI) (Nat.ne_of_lt n1) (Nat.ne_of_lt n2) (Nat.ne_of_lt nz) (Nat.ne_of_lt nTO)) (hl1.at fun o e => hk _ o (Nat.ne_of_lt nl1) e) (hl2.at fun o e => hk _ o (Nat.ne_of_lt nl2) e)
      (fun b o hb _ _ _ _ e => hk b o hb e) hS₁ rfl rfl ⟨List.Pairwise.nil, (fun _ ha => nomatch ha), (fun j a hj => by simp at hj)⟩
  unfold Builtin.List.listExtendWith
  refine wpAny_bind (wpAny_typeOf (T := "zip") hT ?_)
  have h1 : Builtin.List.listSameRef (.ref S) (.ref z) = false := by simp [Builtin.List.listSameRef, Nat.ne_of_gt nz]
  have h2 : (Value.type "zip" == Value.type "list") = false := by decide
  have h3 : (Value.type "zip" == Value.type "tuple") = false := by decide
  simp only [h1, h2, h3, Bool.or_false, Bool.false_eq_true, if_false]
  refine wpAny_bind (wpAny_pyIter_zip hz ?_)
  refine wpAny_bind (wpAny_holding (zl_hint hT ?_))
  refine wpAny_ite_split (fun _ => ?_) (fun hab => absurd rfl hab)
  refine wpAny_bind (wpAny_rule ?_)
  refine wpAny_bind ?_
  show wpAny _ _ (updateSeq S (·.push .none) >>= fun _ => updateSeq S (·.pop)) _ _ _
  refine wpAny_bind (wpAny_updateSeq hS rfl ?_)
  have hS₂ := Heap.get?_update_self (Obj.mapSeq (·.push Value.none)) hS rfl
  refine wpAny_updateSeq (hz := by seq_fits) hS₂ rfl ?_
  have hS₃ := Heap.get?_update_self (Obj.mapSeq (·.pop)) hS₂ rfl
  refine wpAny_pure ⟨plainId_quiet PySem.F.plain_extend_loop _, key _ _ _ (fun b o hb e => ?_) hS₃⟩
  exact (Heap.get?_update_other _ _ (Ne.symm hb)).trans ((Heap.get?_update_other _ _ (Ne.symm hb)).trans e)
theorem zl_init {R : Result → Shared → Prop} (hh : A.handled = none) (D : ZipApart z TI TO i1 i2 l1 l2) (st : ZSt s.heap z TI TO i1 i2 l1 l2 S 0) (hl1 : s.heap.IsList l1 xs) (hl2 : s.heap.IsList l2 ys)
    (nz : z < S) (nTI : TI < S) (nTO : TO < S) (n1 : i1 < S) (n2 : i2 < S) (nl1 : l1 < S) (nl2 : l2 < S) (hz : IsZip s.heap z TI TO .none) (hS : s.heap.get? S = some { cls := .type "list", data := .seq #[] })
    (hR : ∀ h' tk acc c as, (∀ b o, b ≠ S → b ≠ z → b ≠ TO → b ≠ i1 → b ≠ i2 → s.heap.get? b = some o → h'.get? b = some o) → h'.get? S = some { cls := .type "list", dict := none, data := .seq acc c, slots := #[] } → as.length = min xs.size ys.size →
      ZG xs ys S h' as → acc.toList = as.map Value.ref → R (.ok (.ret .none)) { s with heap := h', toks := tk }) (hn : min xs.size ys.size ≤ sizeLine) :
    wpAny (model prog w) A.in1 (Builtin.«list.__init__» ⟨[.ref S, .ref z], []⟩)
      (fun fin s' => match fin with | .done f => R (.ok f) s' | .again c' => c'.quiet = true ∧ codeAny (model prog w) A c' R s') (fun e s' => R (.error e) s') s := by
  show wpAny _ _ (do let old ← Builtin.List.listItems (.ref S); Builtin.List.listUpdate (.ref S) (fun _ => #[]); letGo old.toList.reverse; Builtin.List.listExtendWith (.ref S) (.ref z) .none) _ _ s
  refine wpAny_bind ?_
  unfold Builtin.List.listItems
  refine wpAny_bind (wpAny_seqItems hS rfl (wpAny_pure ?_))
  show wpAny _ _ (updateSeq S (fun _ => #[]) >>= fun _ => letGo (#[] : Array Value).toList.reverse >>= fun _ => Builtin.List.listExtendWith (.ref S) (.ref z) .none) _ _ s
  refine wpAny_bind (wpAny_updateSeq hS rfl ?_)
  have hS₂ := Heap.get?_update_self (Obj.mapSeq (fun _ => (#[] : Array Value))) hS rfl
  have oth : ∀ b o, b ≠ S → s.heap.get? b = some o → (s.heap.update S (Obj.mapSeq (fun _ => (#[] : Array Value)))).get? b = some o :=
    fun b o hb e => (Heap.get?_update_other _ _ (Ne.symm hb)).trans e
  refine wpAny_bind (wpAny_letGo ?_)
  refine zl_extend hh D (st.keep oth (Nat.ne_of_lt nTI) (Nat.ne_of_lt n1) (Nat.ne_of_lt n2) (Nat.ne_of_lt nz) (Nat.ne_of_lt nTO)) (hl1.at fun o e => oth _ o (Nat.ne_of_lt nl1) e) (hl2.at fun o e => oth _ o (Nat.ne_of_lt nl2) e)
    nz nTI nTO n1 n2 nl1 nl2 (oth _ _ (Nat.ne_of_lt nz) hz) .none _ hS₂ (fun h' tk acc c as hk hS' hl hG hacc => ?_) hn
  exact hR h' tk acc c as (fun b o q0 q1 q2 q3 q4 e => hk b o q0 q1 q2 q3 q4 (oth b o q0 e)) hS' hl hG hacc
theorem zl_call {Q : Value → Shared → Prop} {a b : Value} (hh : A.handled = none) (D : ZipApart z TI TO i1 i2 l1 l2) (hz : IsZip s.heap z TI TO .none) (hTI : IsPair s.heap TI (.ref i1) (.ref i2)) (hTO : IsPair s.heap TO a b) (h1 : s.heap.IsListIter i1 l1 0) (h2 : s.heap.IsListIter i2 l2 0)
    (hl1 : s.heap.IsList l1 xs) (hl2 : s.heap.IsList l2 ys) (hn : min xs.size ys.size ≤ sizeLine)
    (hQ : ∀ h' tk acc c as, (∀ b o, b ≠ z → b ≠ TO → b ≠ i1 → b ≠ i2 → s.heap.get? b = some o → h'.get? b = some o) → h'.get? s.heap.objs.size = some { cls := .type "list", dict := none, data := .seq acc c, slots := #[] } → as.length = min xs.size ys.size →
      ZG xs ys s.heap.objs.size h' as → acc.toList = as.map Value.ref → Q (.ref s.heap.objs.size) { s with heap := h', toks := tk }) :
    wpAny (model prog w) A (call (.type "list") [.ref z]) Q E s := by
  refine callType_codes (Q₁ := fun obj s₁ => obj = .ref s.heap.objs.size ∧ s₁ = { s with heap := s.heap.push { cls := .type "list", data := .seq #[] } }) PySem.F.called_list (PySem.F.typeCall_list_1 _) PySem.F.entry_list_init
    (code_list_new _ ⟨rfl, rfl⟩) fun obj s₁ h₁ => ?_
  obtain ⟨rfl, rfl⟩ := h₁
  have hS : (s.heap.push { cls := .type "list", data := .seq #[] }).get? s.heap.objs.size = some { cls := .type "list", data := .seq #[] } := Heap.get?_push_size _ rfl
  have pk : ∀ b o, s.heap.get? b = some o → (s.heap.push { cls := .type "list", data := .seq #[] }).get? b = some o := fun b o e => Heap.get?_push_of_some _ e
  have li1 : i1 < s.heap.objs.size := let ⟨_, e, _⟩ := h1; Heap.lt_size e
  have li2 : i2 < s.heap.objs.size := let ⟨_, e, _⟩ := h2; Heap.lt_size e
  have ll1 : l1 < s.heap.objs.size := let ⟨_, e, _⟩ := hl1; Heap.lt_size e
  have ll2 : l2 < s.heap.objs.size := let ⟨_, e, _⟩ := hl2; Heap.lt_size e
  refine ⟨⟨_, hS, rfl⟩, PySem.F.args_list_init_2 _ _, zl_init (A := A.in1) hh D ⟨pk _ _ hTI, h1.at fun o e => pk _ o e, h2.at fun o e => pk _ o e, .inl ⟨pk _ _ hz, _, _, pk _ _ hTO⟩⟩ (hl1.at fun o e => pk _ o e) (hl2.at fun o e => pk _ o e)
    (Heap.lt_size hz) (Heap.lt_size hTI) (Heap.lt_size hTO) li1 li2 ll1 ll2 (pk _ _ hz) hS (fun h' tk acc c as hk hS' hl hG hacc => ?_) hn⟩
  exact ⟨rfl, hQ h' tk acc c as (fun b o q1 q2 q3 q4 e => hk b o (Nat.ne_of_lt (Heap.lt_size e)) q1 q2 q3 q4 (Heap.get?_push_of_some _ e)) hS' hl hG hacc⟩
end
end Bw
namespace Bw
open PySem L2
/-! the laid pairs -/
def layT : Hp → List (V × V) → List Addr → Hp
  | H, p :: ps, t :: ts => layT (upd H t (.tup [p.1, p.2])) ps ts
  | H, _, _ => H
def freT : Hp → List (V × V) → List Addr → Prop
  | H, p :: ps, t :: ts => H t = none ∧ freT (upd H t (.tup [p.1, p.2])) ps ts
  | _, [], [] => True
  | _, _, _ => False
theorem layT_ne : ∀ (ts : List Addr) (ps : List (V × V)) (H : Hp) (b : Addr), b ∉ ts → layT H ps ts b = H b
  | [], [], _, _, _ => rfl
  | [], _ :: _, _, _, _ => rfl
  | _ :: _, [], _, _, _ => rfl
  | t :: ts, p :: ps, H, b, h => by
    show layT (upd H t _) ps ts b = _
    have n : b ≠ t := fun q => h (by rw [q]; exact List.mem_cons_self)
    rw [layT_ne ts ps _ b fun q => h (List.mem_cons_of_mem _ q), upd_ne n]
theorem freT_of : ∀ (ts : List Addr) (ps : List (V × V)) (H : Hp), ts.length = ps.length → ts.Nodup → (∀ t ∈ ts, H t = none) → freT H ps ts
  | [], [], _, _, _, _ => trivial
  | [], _ :: _, _, h, _, _ => by simp at h
  | _ :: _, [], _, h, _, _ => by simp at h
  | t :: ts, p :: ps, H, hl, nd, hn => by
    rw [List.nodup_cons] at nd
    refine ⟨hn t List.mem_cons_self, freT_of ts ps _ (by simpa using hl) nd.2 fun u hu => ?_⟩
    have n : u ≠ t := fun q => nd.1 (by rw [← q]; exact hu)
    rw [upd_ne n]
    exact hn u (List.mem_cons_of_mem _ hu)
theorem layT_at : ∀ (ts : List Addr) (ps : List (V × V)) (H : Hp) (j : Nat) (t : Addr) (p : V × V), ts.Nodup → ts[j]? = some t → ps[j]? = some p → layT H ps ts t = some (.tup [p.1, p.2])
  | [], _, _, _, _, _, _, h, _ => by simp at h
  | _ :: _, [], _, _, _, _, _, _, h => by simp at h
  | u :: ts, q :: ps, H, j, t, p, nd, h1, h2 => by
    rw [List.nodup_cons] at nd
    show layT (upd H u _) ps ts t = _
    cases j with
    | zero =>
      simp only [List.getElem?_cons_zero, Option.some.injEq] at h1 h2
      subst h1; subst h2
      rw [layT_ne ts ps _ _ nd.1, upd_same]
    | succ j => exact layT_at ts ps _ j t p nd.2 (by simpa using h1) (by simpa using h2)
def tListZip (K : PySem.W.Frag) (ta : TA) : TE := fun σ H Q => ta σ H fun vs H1 => ∃ a b xs ys, vs = [.ref a, .ref b] ∧ SqL K H1 a xs ∧ SqL K H1 b ys ∧
  ∀ (ts : List Addr) (l : Addr), freT H1 (xs.zip ys) ts → layT H1 (xs.zip ys) ts l = none → Q (.ref l) (upd (layT H1 (xs.zip ys) ts) l (.lst (ts.map V.ref)))
/-- many things laid at once -/
theorem inv_many {X : Cx} {pins : List (Addr × Obj)} {σ : St} {H H' : Hp} {s : Shared} {h' : Heap} {t' : Nat} (I : Inv X pins σ H s) (k : ∀ b u, s.heap.get? b = some u → h'.get? b = some u)
    (same : ∀ b, b < s.heap.objs.size → H' b = H b) (new : ∀ b o, s.heap.objs.size ≤ b → H' b = some o → ObjOk X.prog X.w H' h' b o) : Inv X pins σ H' { s with heap := h', toks := t' } := by
  refine I.un ⟨fun b o e _ _ _ => k b o e, fun b o e _ _ _ => ⟨o.slots, k b o e⟩, fun b o e n _ => (same b (Heap.lt_size e)).trans n, fun b o e _ => ⟨o, k b o e⟩, fun b xs e => (same b (I.hok.lt e)).trans e, fun b o u e => (same b (I.hok.lt e)).trans e, fun b ps e => ⟨#[], by rw [same b (I.hok.lt e), e]; simp⟩⟩ fun b o e => ?_
  by_cases q : b < s.heap.objs.size
  · rw [same b q] at e
    exact (I.hok b o e).stay (fun c u _ z => k c u z) (fun c z => (same c (I.hok.lt z)).trans z) fun c xs z => (same c (I.hok.lt z)).trans z
  · exact new b o (Nat.le_of_not_lt q) e
theorem vals_refs : ∀ as : List Addr, Vals (as.map V.ref) (as.map Value.ref)
  | [] => .nil
  | _ :: as => .cons rfl (vals_refs as)
section
variable {X : Cx} {e e2 : Expr} {ta : TA} {p p0 pos pos0 : Pos}
theorem pe_listzip (hg0 : Gl X "list") (hm0 : X.mg "list" = none) (hg : Gl X "zip") (hm : X.mg "zip" = none) (ha : PA X [e, e2] ta) (hc : X.calm = true)
    (hs : starEach [e, e2] X.env = (false, eval e X.env) :: starEach [e2] X.env := by rfl) (hpl : (backTo pos (starEach [e2] X.env)).any (·.1) = false := by rfl) :
    PE X (.Call (.Name "list" p0) [.Call (.Name "zip" p) [e, e2] [] pos] [] pos0) (tListZip X.K ta) := by
  refine ⟨fun pins s σ H Q I h => ?_⟩
  refine wpAny_Call_Name_kw (ld_blt I hg0 hm0 PyProof.Rows.boot_list ?_)
  refine PyProof.Rows.callWith_type1 (Calls.spliced_cons ?_) rfl rfl
  refine PyProof.Rows.Call_ (ld_blt I hg hm PyProof.Rows.boot_zip (PyProof.Rows.callWith_type1 (thn (ha.run pos pins s σ H _ I h) fun us s1 ⟨vs, H1, I1, r1, q1⟩ => ?_) hs hpl))
  obtain ⟨a, b, xs, ys, ex, hqx, hqy, q⟩ := q1
  subst ex
  cases r1 with
  | cons r rr =>
    cases rr with
    | cons r' rr =>
      cases rr
      cases r
      cases r'
      obtain ⟨its, rv, p1, z1⟩ := I1.list hqx
      obtain ⟨its2, rv2, p2, z2⟩ := I1.list hqy
      have la : a < s1.heap.objs.size := p1.lt
      have lb : b < s1.heap.objs.size := p2.lt
      have e1 := rv.length
      have e2 := rv2.length
      refine call_zip_2 p1.isList p2.isList fun h' hz hTI hTO h1 h2 hsz hk => ?_
      refine Calls.spliced_nil ?_
      refine zl_call (s := { s1 with heap := h' }) (xs := its.toArray) (ys := its2.toArray) (I.ok.hd hc) (PySem.W.ktu_apart s1.heap.objs.size a b la lb) hz hTI hTO h1 h2 (p1.isList.at fun o x => hk _ o x) (p2.isList.at fun o x => hk _ o x) (by simp only [List.size_toArray]; omega) fun h'' tk acc c as hk2 hl hlen hG hacc => ?_
      dsimp only at hl hlen hG ⊢
      have keep : ∀ b o, s1.heap.get? b = some o → h''.get? b = some o := fun b o x => by
        have bl : b < s1.heap.objs.size := Heap.lt_size x
        have up : ∀ k : Nat, b ≠ s1.heap.objs.size + k := fun k => Nat.ne_of_lt (Nat.lt_of_lt_of_le bl (Nat.le_add_right _ _))
        exact hk2 b o (up 4) (up 3) (up 0) (up 1) (hk b o x)
      have sz' : s1.heap.objs.size ≤ h'.objs.size := by rw [hsz]; exact Nat.le_add_right _ _
      have nd : as.Nodup := hG.rise.imp fun hab => Nat.ne_of_lt hab
      have hab : ∀ t ∈ as, s1.heap.objs.size + 5 < t := fun t ht => hsz ▸ hG.above t ht
      have zl : (xs.zip ys).length = as.length := by rw [List.length_zip, hlen]; simp only [List.size_toArray]; omega
      have nl : h'.objs.size ∉ as := fun hm => Nat.lt_irrefl _ (hG.above _ hm)
      have fr : ∀ t ∈ as, H1 t = none := fun t ht => I1.hok.fresh (Nat.le_of_lt (Nat.lt_of_le_of_lt (Nat.le_add_right _ 5) (hab t ht)))
      have ln : layT H1 (xs.zip ys) as h'.objs.size = none := by rw [layT_ne _ _ _ _ nl]; exact I1.hok.fresh sz'
      have I2 : Inv X pins σ (upd (layT H1 (xs.zip ys) as) h'.objs.size (.lst (as.map V.ref))) { s1 with heap := h'', toks := tk } := by
        refine inv_many I1 keep (fun b hb => ?_) fun b o hb ho => ?_
        · rw [upd_ne (Nat.ne_of_lt (Nat.lt_of_lt_of_le hb sz')), layT_ne _ _ _ _ fun hm => Nat.lt_irrefl _ (Nat.lt_trans (Nat.lt_of_lt_of_le hb (Nat.le_add_right _ 5)) (hab b hm))]
        · by_cases q1 : b = h'.objs.size
          · subst q1
            rw [upd_same] at ho
            cases ho
            refine ⟨by rw [List.length_map, ← zl, List.length_zip]; omega, acc.toList, c, ?_, by rw [Array.toArray_toList]; exact hl⟩
            rw [hacc]
            exact vals_refs as
          · rw [upd_ne q1] at ho
            by_cases q2 : b ∈ as
            · obtain ⟨j, hj⟩ := List.mem_iff_getElem?.mp q2
              have hjl : j < as.length := (List.getElem?_eq_some_iff.mp hj).1
              have hjz : (xs.zip ys)[j]? = some (xs.zip ys)[j] := List.getElem?_eq_getElem (by omega)
              have hat := layT_at as (xs.zip ys) H1 j b _ nd hj hjz
              rw [hat] at ho
              cases ho
              obtain ⟨x, y, x1, y1, hT⟩ := hG.pairs j b hj
              have hx : xs[j]? = some (xs.zip ys)[j].1 := by
                rw [List.getElem_zip]; exact List.getElem?_eq_getElem _
              have hy : ys[j]? = some (xs.zip ys)[j].2 := by
                rw [List.getElem_zip]; exact List.getElem?_eq_getElem _
              obtain ⟨u, hu1, ru⟩ := rv.get hx
              obtain ⟨u2, hu2, ru2⟩ := rv2.get hy
              have x1' : its[j]? = some x := by simpa using x1
              have y1' : its2[j]? = some y := by simpa using y1
              rw [hu1] at x1'; cases x1'
              rw [hu2] at y1'; cases y1'
              exact ⟨by show 2 ≤ sizeLine; decide, [_, _], .cons ru (.cons ru2 .nil), ⟨_, hT, rfl, _, rfl⟩⟩
            · rw [layT_ne _ _ _ _ q2, I1.hok.fresh hb] at ho
              cases ho
      exact ⟨.ref h'.objs.size, _, I2, rfl, q as _ (freT_of _ _ _ zl.symm nd fr) ln⟩
end
section
variable {K : PySem.W.Frag} {σ : St} {F : Hp} {cs cs1 : Cs} {as : TA}
theorem lay_sta : ∀ (vs ws : List V) (ds es : List PyData) (ts : List Addr) (F H : Hp), Sta F cs H → freT H (vs.zip ws) ts → Dts K F vs ds → Dts K F ws es → ∃ F', Gr F F' ∧ Sta F' cs (layT H (vs.zip ws) ts) ∧ Dts K F' (ts.map V.ref) (List.zipWith (fun d e => PyData.tuple [d, e]) ds es)
  | [], _, _, _, ts, F, H, s, f, h1, h2 => by
    cases h1
    cases ts with
    | nil => exact ⟨F, Gr.rfl, s, .nil⟩
    | cons t ts => exact absurd f id
  | _ :: _, [], _, _, ts, F, H, s, f, h1, h2 => by
    cases h1
    cases h2
    cases ts with
    | nil => exact ⟨F, Gr.rfl, s, .nil⟩
    | cons t ts => exact absurd f id
  | v :: vs, w :: ws, _, _, ts, F, H, s, f, h1, h2 => by
    cases h1 with
    | cons a1 b1 =>
      cases h2 with
      | cons a2 b2 =>
        cases ts with
        | nil => exact absurd f id
        | cons t ts =>
          obtain ⟨nt, f⟩ := f
          have g0 : Gr F (upd F t (.tup [v, w])) := Gr.new (s.fr.back nt)
          obtain ⟨F', g, s', d⟩ := lay_sta vs ws _ _ ts _ _ (s.lay nt) f (b1.gr g0) (b2.gr g0)
          exact ⟨F', g0.tr g, s', .cons (.tup (.inl (.inl (g _ _ upd_same))) (.cons (a1.gr (g0.tr g)) (.cons (a2.gr (g0.tr g)) .nil))) d⟩
theorem c_listzip {α β : Type} {en : α → PyData} {em : β → PyData} {xs : List α} {ys : List β} (h : EvDs K as σ F cs [eL en xs, eL em ys] cs1) : EvC K (tListZip K as) σ F cs ((xs.zip ys).map (eT2 en em)) cs1 := fun F1 H1 g1 s Q q =>
  h F1 H1 g1 s _ fun v F2 H2 g2 s2 h2 => by
    obtain ⟨v, w, rfl, k1, k2⟩ := h2.two
    obtain ⟨p, vs, rfl, hs, hd⟩ := k1.toLst
    obtain ⟨p', ws, rfl, hs', hd'⟩ := k2.toLst
    refine ⟨p, p', vs, ws, rfl, gr_L s2.fr hs, gr_L s2.fr hs', fun ts l f nl => ?_⟩
    obtain ⟨F3, g3, s3, d3⟩ := lay_sta vs ws _ _ ts F2 H2 s2 f hd hd'
    rw [zip_map] at d3
    exact q l _ F3 _ (g2.tr g3) (s3.cell nl) d3
end
end Bw

namespace Bw
open PySem L2
/-! sorted, of ints -/
def insI (x : Int) : List Int → List Int
  | [] => [x]
  | y :: ys => if x ≤ y then x :: y :: ys else y :: insI x ys
def srtI : List Int → List Int
  | [] => []
  | x :: xs => insI x (srtI xs)
theorem insI_perm (x : Int) : ∀ ys, (insI x ys).Perm (x :: ys)
  | [] => List.Perm.refl _
  | y :: ys => by
    unfold insI
    split
    · exact List.Perm.refl _
    · exact ((insI_perm x ys).cons y).trans (List.Perm.swap x y ys)
theorem srtI_perm : ∀ xs, (srtI xs).Perm xs
  | [] => List.Perm.refl _
  | x :: xs => (insI_perm x _).trans ((srtI_perm xs).cons x)
theorem insI_sort (x : Int) : ∀ ys, ys.Pairwise (· ≤ ·) → (insI x ys).Pairwise (· ≤ ·)
  | [], _ => List.pairwise_singleton _ _
  | y :: ys, h => by
    rw [List.pairwise_cons] at h
    unfold insI
    split
    · rename_i q
      rw [List.pairwise_cons]
      exact ⟨fun z hz => by rcases List.mem_cons.mp hz with rfl | hz; (exact q); (exact Int.le_trans q (h.1 z hz)), List.pairwise_cons.mpr h⟩
    · rename_i q
      rw [List.pairwise_cons]
      refine ⟨fun z hz => ?_, insI_sort x ys h.2⟩
      rcases List.mem_cons.mp ((insI_perm x ys).mem_iff.mp hz) with rfl | hz
      · omega
      · exact h.1 z hz
theorem srtI_sort : ∀ xs, (srtI xs).Pairwise (· ≤ ·)
  | [] => List.Pairwise.nil
  | x :: xs => insI_sort x _ (srtI_sort xs)
theorem sort_uniq : ∀ (xs ys : List Int), xs.Perm ys → xs.Pairwise (· ≤ ·) → ys.Pairwise (· ≤ ·) → xs = ys
  | [], ys, p, _, _ => (List.Perm.nil_eq p)
  | x :: xs, [], p, _, _ => by have := p.length_eq; simp at this
  | x :: xs, y :: ys, p, h1, h2 => by
    rw [List.pairwise_cons] at h1 h2
    have e : x = y := by
      have hx : x ∈ y :: ys := p.mem_iff.mp List.mem_cons_self
      have hy : y ∈ x :: xs := p.mem_iff.mpr List.mem_cons_self
      rcases List.mem_cons.mp hx with e | hx
      · exact e
      · rcases List.mem_cons.mp hy with e | hy
        · exact e.symm
        · have := h1.1 y hy; have := h2.1 x hx; omega
    subst e
    rw [sort_uniq xs ys (List.Perm.cons_inv p) h1.2 h2.2]
section
variable {K : PySem.W.Frag} {σ : St} {F : Hp} {cs cs1 : Cs} {as : TA}
theorem c_sortedI {xs : List Int} (h : EvDs K as σ F cs [eL eI xs] cs1) : EvC K (tCB (rSortedI K) as) σ F cs ((srtI xs).map eI) cs1 := fun F1 H1 g1 s Q q =>
  h F1 H1 g1 s _ fun v F2 H2 g2 s2 h2 => by
    obtain ⟨v, rfl, k1⟩ := h2.one
    obtain ⟨p, vs, rfl, hs, hd⟩ := k1.toLst
    have := hd.ints
    subst this
    refine ⟨p, xs, rfl, gr_L s2.fr hs, fun ns' l pr so nl => ?_⟩
    rw [sort_uniq ns' (srtI xs) (pr.trans (srtI_perm xs).symm) so (srtI_sort xs)]
    exact q l _ F2 _ g2 (s2.cell nl) (Dts.of_ints _)
theorem d_sortedI {xs : List Int} (h : EvDs K as σ F cs [eL eI xs] cs1) : EvD K (tCB (rSortedI K) as) σ F cs (eL eI (srtI xs)) cs1 := (c_sortedI h).dd
/-- max, min of a list -/
def maxL : List Int → Option Int
  | [] => none
  | x :: xs => some (xs.foldl max x)
def minL : List Int → Option Int
  | [] => none
  | x :: xs => some (xs.foldl min x)
theorem foldl_max : ∀ (xs : List Int) (x : Int), (xs.foldl max x = x ∨ xs.foldl max x ∈ xs) ∧ x ≤ xs.foldl max x ∧ ∀ y ∈ xs, y ≤ xs.foldl max x
  | [], x => ⟨.inl rfl, Int.le_refl _, fun y hy => by cases hy⟩
  | z :: xs, x => by
    obtain ⟨h1, h2, h3⟩ := foldl_max xs (max x z)
    rw [List.foldl_cons]
    refine ⟨?_, by omega, fun y hy => ?_⟩
    · rcases h1 with h1 | h1
      · rw [h1]
        by_cases q : z ≤ x
        · left; omega
        · right; have : max x z = z := by omega
          rw [this]; exact List.mem_cons_self
      · exact .inr (List.mem_cons_of_mem _ h1)
    · rcases List.mem_cons.mp hy with rfl | hy
      · omega
      · exact h3 y hy
theorem foldl_min : ∀ (xs : List Int) (x : Int), (xs.foldl min x = x ∨ xs.foldl min x ∈ xs) ∧ xs.foldl min x ≤ x ∧ ∀ y ∈ xs, xs.foldl min x ≤ y
  | [], x => ⟨.inl rfl, Int.le_refl _, fun y hy => by cases hy⟩
  | z :: xs, x => by
    obtain ⟨h1, h2, h3⟩ := foldl_min xs (min x z)
    rw [List.foldl_cons]
    refine ⟨?_, by omega, fun y hy => ?_⟩
    · rcases h1 with h1 | h1
      · rw [h1]
        by_cases q : x ≤ z
        · left; omega
        · right; have : min x z = z := by omega
          rw [this]; exact List.mem_cons_self
      · exact .inr (List.mem_cons_of_mem _ h1)
    · rcases List.mem_cons.mp hy with rfl | hy
      · omega
      · exact h3 y hy
theorem d_maxL {xs : List Int} {m : Int} (h : EvDs K as σ F cs [eL eI xs] cs1) (hm : maxL xs = some m) : EvD K (tCB (rMax K) as) σ F cs (.int m) cs1 := fun F1 H1 g1 s Q q =>
  h F1 H1 g1 s _ fun v F2 H2 g2 s2 h2 => by
    obtain ⟨v, rfl, k1⟩ := h2.one
    obtain ⟨p, vs, rfl, hs, hd⟩ := k1.toLst
    have := hd.ints
    subst this
    cases xs with
    | nil => cases hm
    | cons x xs =>
      cases hm
      obtain ⟨a1, a2, a3⟩ := foldl_max xs x
      refine ⟨p, x :: xs, rfl, gr_L s2.fr hs, by simp, fun m hm hle => ?_⟩
      have e : m = xs.foldl max x := by
        have b1 : xs.foldl max x ≤ m := by
          rcases a1 with e | e
          · rw [e]; exact hle x List.mem_cons_self
          · exact hle _ (List.mem_cons_of_mem _ e)
        have b2 : m ≤ xs.foldl max x := by
          rcases List.mem_cons.mp hm with rfl | hm
          · exact a2
          · exact a3 m hm
        omega
      rw [e]
      exact q _ F2 H2 g2 s2 (.int _)
theorem d_minL {xs : List Int} {m : Int} (h : EvDs K as σ F cs [eL eI xs] cs1) (hm : minL xs = some m) : EvD K (tCB (rMin K) as) σ F cs (.int m) cs1 := fun F1 H1 g1 s Q q =>
  h F1 H1 g1 s _ fun v F2 H2 g2 s2 h2 => by
    obtain ⟨v, rfl, k1⟩ := h2.one
    obtain ⟨p, vs, rfl, hs, hd⟩ := k1.toLst
    have := hd.ints
    subst this
    cases xs with
    | nil => cases hm
    | cons x xs =>
      cases hm
      obtain ⟨a1, a2, a3⟩ := foldl_min xs x
      refine ⟨p, x :: xs, rfl, gr_L s2.fr hs, by simp, fun m hm hle => ?_⟩
      have e : m = xs.foldl min x := by
        have b1 : m ≤ xs.foldl min x := by
          rcases a1 with e | e
          · rw [e]; exact hle x List.mem_cons_self
          · exact hle _ (List.mem_cons_of_mem _ e)
        have b2 : xs.foldl min x ≤ m := by
          rcases List.mem_cons.mp hm with rfl | hm
          · exact a2
          · exact a3 m hm
        omega
      rw [e]
      exact q _ F2 H2 g2 s2 (.int _)
end
end Bw
namespace Bw
open PySem L2
section
variable {K : PySem.W.Frag} {σ : St} {F : Hp} {cs cs1 cs2 : Cs} {ta tb : TE} {b : Int}
theorem d_ixTH {α : Type} {e : α → PyData} {xs : List α} {z : α} (ha : EvD K ta σ F cs (.tuple (xs.map e)) cs1) (hb : EvD K tb σ F cs1 (.int b) cs2) (hz : atI xs b = some z) : EvD K (tOp (rIxT K) ta tb) σ F cs (e z) cs2 :=
  d_ixT ha hb (by rw [atI_map, hz]; rfl)
theorem dts_D {α : Type} {e : α → PyData} {xs : List α} {us : List V} (h : Dts K F us (xs.map e)) : Dts K F us ((xs.map e).map eD) := by
  have : (xs.map e).map eD = xs.map e := by rw [List.map_map]; rfl
  rw [this]; exact h
end
end Bw
namespace Bw
open PySem L2
section
variable {K : PySem.W.Frag} {F : Hp}
def tup2M {α : Type} : List α → Option (α × α)
  | [a, b] => some (a, b)
  | _ => none
def tup3M {α : Type} : List α → Option (α × α × α)
  | [a, b, c] => some (a, b, c)
  | _ => none
theorem tup2M_eq {α : Type} {xs : List α} {p : α × α} (h : tup2M xs = some p) : xs = [p.1, p.2] := by
  unfold tup2M at h; split at h
  · cases h; rfl
  · cases h
theorem tup3M_eq {α : Type} {xs : List α} {p : α × α × α} (h : tup3M xs = some p) : xs = [p.1, p.2.1, p.2.2] := by
  unfold tup3M at h; split at h
  · cases h; rfl
  · cases h
theorem ul2 {v : V} {d1 d2 : PyData} (h : Dt K F v (.list [d1, d2])) : ∃ p v1 v2, v = .ref p ∧ SqL K F p [v1, v2] ∧ Dt K F v1 d1 ∧ Dt K F v2 d2 := by
  obtain ⟨p, vs, rfl, h1, h2⟩ := h.toLst
  obtain ⟨v1, v2, rfl, k1, k2⟩ := h2.two
  exact ⟨p, v1, v2, rfl, h1, k1, k2⟩
theorem ul3 {v : V} {d1 d2 d3 : PyData} (h : Dt K F v (.list [d1, d2, d3])) : ∃ p v1 v2 v3, v = .ref p ∧ SqL K F p [v1, v2, v3] ∧ Dt K F v1 d1 ∧ Dt K F v2 d2 ∧ Dt K F v3 d3 := by
  obtain ⟨p, vs, rfl, h1, h2⟩ := h.toLst
  cases h2 with
  | cons a1 h2 =>
    obtain ⟨v2, v3, rfl, k2, k3⟩ := h2.two
    exact ⟨p, _, v2, v3, rfl, h1, a1, k2, k3⟩
end
end Bw

namespace Bw
open PySem L2
/-! exceptions that are kept -/
/-- an exception of the class at C, its dict at d (none: it has none), at a -/
def ExK (C : Addr) (d : Option Addr) (a : Addr) : HO := .ext fun h => ∃ (oe : Obj) (vs : Array Value), h.get? a = some oe ∧ oe.cls = .ref C ∧ oe.dict = d ∧ oe.data = .fields vs
def DOk (H : Hp) (d : Option Addr) : Prop := match d with
  | none => True
  | some dd => ∃ fs, H dd = some (.xd fs)
theorem exK_ok {P : Program} {w : World} {H : Hp} {h : Heap} {a C : Addr} {dd : Option Addr} {oe : Obj} {vs : Array Value} (e : h.get? a = some oe) (c : oe.cls = .ref C) (d : oe.dict = dd) (hd : oe.data = .fields vs) : ObjOk P w H h a (ExK C dd a) :=
  ⟨⟨oe, vs, e, c, d, hd⟩, ⟨oe, e⟩, fun _ _ ⟨o, v, q, r⟩ k => ⟨o, v, k o q, r⟩⟩
/-- what is known of an exception class -/
def ExC (K : PySem.W.Frag) (C : Addr) : Bool := (PySem.W.clsIn K C).isSome && PySem.W.findIn K (.ref C) "__getattribute__" == some (some (.builtin "BaseException.__getattribute__")) && (PySem.W.findIn K (.ref C) "__getattr__").isSome &&
  PySem.W.subIn K (.ref C) (.type "BaseException") == some true && PySem.W.findIn K (.ref C) "__class__" == some (some (.builtin "object.__class__")) && PySem.W.specialIn K (.builtin "object.__class__") "__get__" == some (some (.builtin "getset_descriptor.__get__")) &&
  PySem.W.takesIn K (.builtin "object.__class__") == some true && PySem.W.mroIn K C (.type "object") == some true
theorem kit_ex {K : PySem.W.Frag} {C x : Addr} {ox : Obj} {od : Option Obj} (h : ExC K C = true) : PySem.W.KitX K (.ref x) (.ref C) (fun h => PySem.W.InstAt h x ox C od) := by
  unfold ExC at h
  simp only [Bool.and_eq_true, beq_iff_eq] at h
  obtain ⟨⟨⟨⟨⟨⟨⟨h1, h2⟩, h3⟩, h4⟩, h5⟩, h6⟩, h7⟩, h8⟩ := h
  obtain ⟨gt, h3⟩ := Option.isSome_iff_exists.mp h3
  exact PySem.W.kitx_exc h1 h2 h3 h4 h5 h6 h7 h8
def rIsiE (K : PySem.W.Frag) : List V → Hp → VK → Prop := fun xs H Q => ∃ (a C : Addr) (d : Option Addr) (c : V) (u : Value) (b : Bool), xs = [.ref a, c] ∧ ClsV c u ∧ H a = some (ExK C d a) ∧ DOk H d ∧ ExC K C = true ∧ PySem.W.kitOne K (.ref C) u = some b ∧ Q (.bl b) H
def rIsiTE (K : PySem.W.Frag) : List V → Hp → VK → Prop := fun xs H Q => ∃ (a C : Addr) (d : Option Addr) (tp : Addr) (cs : List V) (us : List Value) (b : Bool), xs = [.ref a, .ref tp] ∧ H tp = some (.tup cs) ∧ Paired ClsV cs us ∧ H a = some (ExK C d a) ∧ DOk H d ∧ ExC K C = true ∧ PySem.W.kitAny K (.ref C) us = some b ∧ Q (.bl b) H
section
variable {X : Cx}
theorem exK_at {pins : List (Addr × Obj)} {σ : St} {H : Hp} {s : Shared} {a C : Addr} {d : Option Addr} (I : Inv X pins σ H s) (h : H a = some (ExK C d a)) (hx : DOk H d) : ∃ oe od, PySem.W.InstAt s.heap a oe C od := by
  have x : ObjOk X.prog X.w H s.heap a (.ext fun h => ∃ (oe : Obj) (vs : Array Value), h.get? a = some oe ∧ oe.cls = .ref C ∧ oe.dict = d ∧ oe.data = .fields vs) := I.hok a _ h
  obtain ⟨⟨oe, vs, e, c, dd, hd⟩, _⟩ := x
  obtain ⟨oc, od, dt, sl⟩ := oe
  dsimp only at c dd hd
  subst c dd hd
  cases od with
  | none => exact ⟨_, none, e, rfl, rfl, trivial⟩
  | some z =>
    obtain ⟨fs, hz⟩ := hx
    obtain ⟨mA, hns, hr⟩ := (show ObjOk X.prog X.w H s.heap z (.xd fs) from I.hok z _ hz)
    obtain ⟨oz, ho, hl⟩ := lookIn_ns hns
    exact ⟨_, some oz, e, rfl, rfl, ho⟩
theorem cr_isiE : CallR X (.builtin "isinstance") (rIsiE X.K) := by
  intro pins s σ H xs us Q I r h
  obtain ⟨a, C, d, c, u, b, rfl, k, ha, hd, hC, e, q⟩ := h
  obtain ⟨u1, u2, rfl, r1, r2⟩ := vals2 r
  have e2 := k.eq r2
  subst e2
  cases (show u1 = Value.ref a from r1)
  obtain ⟨oe, od, J⟩ := exK_at I ha hd
  exact PySem.W.kia_one (kit_ex (ox := oe) (od := od) hC) I.kIn J e (fun z => nomatch z) fun tk => ⟨.bl b, H, I.tok tk, rfl, q⟩
theorem cr_isiTE : CallR X (.builtin "isinstance") (rIsiTE X.K) := by
  intro pins s σ H xs us Q I r h
  obtain ⟨a, C, d, tp, cs, ws, b, rfl, hT, k, ha, hd, hC, e, q⟩ := h
  obtain ⟨u1, u2, rfl, r1, r2⟩ := vals2 r
  cases (show u2 = Value.ref tp from r2)
  cases (show u1 = Value.ref a from r1)
  obtain ⟨oe, od, J⟩ := exK_at I ha hd
  obtain ⟨_, its, rv, o, h1, h2, n, h3⟩ := (show ObjOk X.prog X.w H s.heap tp (.tup cs) from I.hok tp _ hT)
  have e3 := ClsV.all k rv
  subst e3
  obtain ⟨oc, od', dt, sl⟩ := o
  simp only at h2 h3
  subst h2 h3
  exact PySem.W.kia_tup (kit_ex (ox := oe) (od := od) hC) I.kIn J h1 e (fun z => nomatch z) fun tk => ⟨.bl b, H, I.tok tk, rfl, q⟩
/-- an object that was not tracked is tracked from now on -/
theorem inv_track {pins : List (Addr × Obj)} {σ : St} {H : Hp} {s : Shared} {a : Addr} {o : HO} {oe : Obj} {vs : Array Value} (I : Inv X pins σ H s) (na : H a = none) (e : s.heap.get? a = some oe) (hd : oe.data = .fields vs) (nL : a ≠ X.env.locals)
    (n0 : X.s_0.heap.get? a = none) (np : ∀ p ∈ X.pn ++ pins, p.1 ≠ a) (new : ObjOk X.prog X.w (upd H a o) s.heap a o) : Inv X pins σ (upd H a o) s := by
  have ne : ∀ b u, H b = some u → b ≠ a := fun b u q z => by rw [z, na] at q; cases q
  refine ⟨I.ok, I.os, I.bare, ⟨I.base.keep, I.base.slot, fun b ob q n hx => ?_, I.base.there, fun b xs q => ?_, fun b ob u q => ?_, fun b ps q => ?_⟩, I.loc, I.cell, ?_, fun x c q => ?_, fun p hp => ?_, fun b u q => ?_, I.len⟩
  · have : b ≠ a := fun z => by rw [z, n0] at q; cases q
    rw [upd_ne this]; exact I.base.free b ob q n hx
  · have := I.base.tups b xs q
    rw [upd_ne (ne b _ this)]; exact this
  · have := I.base.frzs b ob u q
    rw [upd_ne (ne b _ this)]; exact this
  · obtain ⟨more, q⟩ := I.base.tbls b ps q
    exact ⟨more, by rw [upd_ne (ne b _ q)]; exact q⟩
  · rw [upd_ne (Ne.symm nL)]; exact I.free
  · have : c ≠ a := fun z => by
      obtain ⟨v, oc, h1, h2⟩ := I.cell x c q
      rw [z, e] at h1
      cases h1
      rw [hd] at h2
      cases h2
    rw [upd_ne this]; exact I.freeC x c q
  · obtain ⟨q1, q2, q3⟩ := I.pin p hp
    exact ⟨q1, by rw [upd_ne (np p hp)]; exact q2, q3⟩
  · by_cases z : b = a
    · subst z; rw [upd_same] at q; cases q; exact new
    · rw [upd_ne z] at q
      exact (I.hok b u q).stay (fun c v _ q => q) (fun c q => by rw [upd_ne (ne c _ q)]; exact q) fun c xs q => by rw [upd_ne (ne c _ q)]; exact q
end
/-- 'except x as n: suite', where what is caught may be kept behind the suite -/
def wKeep (K : PySem.W.Frag) (c : Value) (i : Nat) (ts : Addr → Value → Option Addr → TS) (Wout : WX) (D : Ends) : WX := fun cls d σ H =>
  ∃ b, PySem.W.exmOne K cls c = some b ∧ (b = true → ∃ C, cls = .ref C ∧ ∀ a, H a = none → ts a cls d { nx := fun σ' H' => H' a = none ∧ D.nx (σ'.set i none) (upd H' a (ExK C d a)), rt := fun _ _ => False, bk := fun _ _ => False, ct := fun _ _ => False } (σ.set i (some (.ref a))) H) ∧
    (b = false → Wout cls d σ H)
section
open PySem.Spec PyProof.Rows
variable {X : Cx} {x n : Str} {c : Value} {i : Nat} {body suite : List Stmt} {b₀ : Stmt} {np pos pos' : Pos} {tb : WX → TS} {ts : Addr → Value → Option Addr → TS} {Wout : WX}
theorem ps_try_keep (hs : X.stack = X.env :: X.outer) (hf : X.env.frame = some X.env.locals) (hex : X.ex = []) (hN : X.N.Nodup) (hi : X.N[i]? = some n) (hln : X.env.kindOf n = some .local) (hc : Names X x c) (tk : Takes X Wout)
    (hb : ∀ (W : WX) (pn : List (Addr × Obj)) (xe : Value → Shared → Prop), Takes (X.tr pn xe) W → PassesOwn (model X.prog X.w) X.A X.env xe → PSs (X.tr pn xe) body (tb W))
    (hsu : ∀ (a : Addr) (oe : Obj) (cls : Value) (d : Option Addr) (pn : List (Addr × Obj)), Zc cls d oe → (∃ vs, oe.data = .fields vs) → PSs (X.suite a ((a, oe) :: pn)) (b₀ :: suite) (ts a cls d)) :
    PS X (.Try body [.ExceptHandler (some (.Name x np)) (some n) (b₀ :: suite) pos'] [] [] pos) (fun D σ H => tb (wKeep X.K c i ts Wout D) D σ H) := by
  refine ⟨fun pins s σ H D I h => ?_⟩
  have ok := I.ok
  have hfr : X.A.frames = some (X.env :: X.outer) := by rw [ok.frames, hs]
  have hloc : Loc X.env.scope n := .inl hln
  refine wpAny_Try_except ?_
  refine wpAny_mono ((hb (wKeep X.K c i ts Wout D) (X.pn ++ pins) (fun e s₁ => wpAny (model X.prog X.w) X.A (noteFrame e X.env) (fun _ s₂ => wpAny (model X.prog X.w) X.A (setFlight e none) (fun _ s₃ =>
    wpAny (model X.prog X.w) X.A (handleBy e X.env [.ExceptHandler (some (.Name x np)) (some n) (b₀ :: suite) pos']) (SP X pins D) X.xe s₃) X.xe s₂) X.xe s₁) (fun u s' xx => ?_) PassesOwn.looking).run [] s σ H D (I.toTry _) h) (fun f s1 hsp => ?_) (fun e s1 he => he)
  · obtain ⟨a, B, sI, pins', σ', H', cls, d, rfl, J', nb, up, sky, na, os, ag, b, hb1, hyes, hno⟩ := xx
    have J : Inv X pins σ' H' sI := J'.ofTry ok
    have sky' : Sky B (X.env :: X.outer) a (Zc cls d) X.env.locals s'.heap := by rw [← hs]; exact sky
    show wpAny (model X.prog X.w) X.A (noteFrame (.ref a) X.env) _ _ _
    refine Sky.land Zc.steady hfr hf sky' fun h3 fl3 up3 => ?_
    have J3 : Inv X pins σ' H' { s' with heap := h3 } := J.landed nb fl3.1 (up.trans up3) os ag
    obtain ⟨oe3, vs3, he3, hz3, hd3⟩ := fl3.there
    have hBn : B.get? a = none := fl3.2.1
    have notFr : ∀ {h : Heap} {o : Obj} {vs : Array Value}, h.FunFrames B (X.env :: X.outer) → h.get? a = some o → o.data = .fields vs → a ∉ frs (X.env :: X.outer) := fun {h o vs} ff e dd hm => by
      obtain ⟨_, o', e', hnf⟩ := ff.mem hm
      rw [e] at e'; cases e'
      exact hnf _ dd
    have nfr := notFr fl3.2.2.1 he3 hd3
    have nL : a ≠ X.env.locals := fun z => nfr (List.mem_filterMap.mpr ⟨X.env, List.mem_cons_self, by rw [hf, z]⟩)
    have nF : a ∉ X.fs := fun hm => by
      obtain ⟨e, he, q⟩ := List.mem_filterMap.mp hm
      exact nfr (List.mem_filterMap.mpr ⟨e, List.mem_cons_of_mem _ he, q⟩)
    have nSI : sI.heap.get? a = none := by
      cases q : sI.heap.get? a with
      | none => rfl
      | some o =>
        have := nb a o q (by rw [hs]; exact nfr)
        rw [hBn] at this; cases this
    have n0 : X.s_0.heap.get? a = none := by
      cases q : X.s_0.heap.get? a with
      | none => rfl
      | some o =>
        obtain ⟨o', q'⟩ := J.base.there a o q (by rw [hex]; exact List.not_mem_nil)
        rw [nSI] at q'; cases q'
    have npin : ∀ p ∈ X.pn ++ pins, p.1 ≠ a := fun p hp z => by
      have := (J.pin p hp).1
      rw [z, nSI] at this; cases this
    have S3 := J3.suite he3 hd3 na nL nF
    refine wpAny_handleBy_cons (codeAny_handlers_test ?_) (by intro q; cases q)
    have LT : PySem.W.Looks (model X.prog X.w) h3 (typeOf (.ref a)) cls := fun A Q E s k q => wpAny_typeOf_ref (k _ _ he3) (by rw [hz3.1]; exact q)
    have LM := PySem.W.exm_one (M := model X.prog X.w) (J3.kIn) LT hb1
    have test : ∀ {Q : Value → Shared → Prop} {E : Value → Shared → Prop}, Q c { s' with heap := h3 } → wpAny (model X.prog X.w) (X.A.mark (some (.ref a))) (eval (.Name x np) X.env) Q E { s' with heap := h3 } := fun {Q E} q => by
      obtain ⟨hg, hdbg, hm | ⟨hm, hv, hnn⟩⟩ := hc
      · exact ld_glob (X := X.suite a ((a, oe3) :: (X.pn ++ pins))) S3 hg hm q hdbg
      · exact ld_blt (X := X.suite a ((a, oe3) :: (X.pn ++ pins))) S3 hg hm hv q hnn hdbg
    refine test (LM.here ?_)
    cases b with
    | true =>
      obtain ⟨C, hcls, hyes⟩ := hyes rfl
      refine codeAny_handlers_suite_as ?_
      refine HandSPX.lands_againZ fl3 fun h4 fl4 up4 => ?_
      have J4 : Inv X pins σ' H' { s' with heap := h4 } := J.landed nb fl4.1 ((up.trans up3).trans up4) os ag
      obtain ⟨oe4, vs4, he4, hz4, hd4⟩ := fl4.there
      have S4 := J4.suite he4 hd4 na nL nF
      refine store_ok (X := X.suite a ((a, oe4) :: (X.pn ++ pins))) (v := .ref a) S4 hN hi hloc rfl (fun s5 S5 => ?_) (.inr hln)
      refine wpAny_mono ((hsu a oe4 cls d (X.pn ++ pins) hz4 ⟨_, hd4⟩).run [] s5 _ H' _ S5 (hyes a na)) (fun f s6 hsp => ?_) (fun _ _ z => False.elim z)
      cases f with
      | next =>
        obtain ⟨σ6, H6, S6, na6, q6⟩ := hsp
        refine gone_ok (X := X.suite a ((a, oe4) :: (X.pn ++ pins))) S6 hN hi hln fun s7 S7 => ?_
        have he7 : s7.heap.get? a = some oe4 := (S7.pin (a, oe4) (by simp)).1
        have J7 : Inv X pins (σ6.set i none) H6 s7 := S7.unsuite ok
        exact ⟨_, _, inv_track J7 na6 he7 hd4 nL n0 npin (exK_ok he7 (hz4.1.trans hcls) hz4.2 hd4), q6⟩
      | brk =>
        obtain ⟨σ6, H6, S6, q6⟩ := hsp
        exact False.elim q6
      | cont =>
        obtain ⟨σ6, H6, S6, q6⟩ := hsp
        exact False.elim q6
      | ret u =>
        obtain ⟨v6, σ6, H6, S6, r6, q6⟩ := hsp
        exact False.elim q6
    | false =>
      show wpAny _ X.A (handleBy (.ref a) X.env []) _ _ _
      refine wpAny_handleBy_nil ?_
      obtain ⟨k1, k2, k3, oe, vs, T, oT, ts', he, hz, hd, h1, hr⟩ := id fl3
      unfold PySem.passOn
      refine wpAny_bind (wpAny_field he hd h1 ?_)
      rw [if_neg (show ¬ ((Value.ref T == Value.none) = true) from by simp)]
      have fin : wpAny (model X.prog X.w) X.A (setFlight (.ref a) X.env.frame) (fun _ s4 => wpAny (model X.prog X.w) X.A (throw (.ref a) : Sem Flow) (SP X pins D) X.xe s4) X.xe { s' with heap := h3 } := by
        rw [hf]
        refine HandSPX.setFlight_upZ fl3 fun h4 hh4 up4 => wpAny_throw (tk _ _ ?_)
        exact ⟨a, B, sI, pins, σ', H', cls, d, rfl, J, nb, (up.trans up3).trans up4, .inr (.inr (by rw [hs]; exact hh4)), na, os, ag, hno rfl⟩
      first
        | exact wpAny_bind (wpAny_pure (wpAny_bind fin))
        | exact wpAny_bind fin
  · cases f with
    | next =>
      obtain ⟨σ', H', J', q⟩ := hsp
      exact wpAny_execs_nil ⟨σ', H', J'.ofTry ok, q⟩
    | brk =>
      obtain ⟨σ', H', J', q⟩ := hsp
      exact ⟨σ', H', J'.ofTry ok, q⟩
    | cont =>
      obtain ⟨σ', H', J', q⟩ := hsp
      exact ⟨σ', H', J'.ofTry ok, q⟩
    | ret u =>
      obtain ⟨v, σ', H', J', r, q⟩ := hsp
      exact ⟨v, σ', H', J'.ofTry ok, r, q⟩
end
end Bw

namespace Bw
open PySem L2
/-! what raises -/
/-- a class's name, and what its field holds -/
abbrev Xe := Str × PyData
inductive Rs (β : Type) where
  | ok (y : β)
  | ex (c : Xe)
/-- the field of a class -/
def fld (c : Str) : Option Str := if c = "NoStore" then some "part" else if c = "NoPlan" then some "at" else if c = "NoPaper" then some "at" else none
/-- what d, an exception's dict, holds -/
def Xd (K : PySem.W.Frag) (F : Hp) (e : Xe) (d : Option Addr) : Prop := match fld e.1 with
  | none => d = none
  | some f => ∃ a v, d = some a ∧ F a = some (.xd [(f, v)]) ∧ Dt K F v e.2
theorem Xd.gr {K : PySem.W.Frag} {F F' : Hp} {e : Xe} {d : Option Addr} (g : Gr F F') (h : Xd K F e d) : Xd K F' e d := by
  unfold Xd at h ⊢
  split at h
  · exact h
  · obtain ⟨a, v, h1, h2, h3⟩ := h
    exact ⟨a, v, h1, g _ _ h2, h3.gr g⟩
theorem Xd.ok {K : PySem.W.Frag} {F H : Hp} {e : Xe} {d : Option Addr} (g : Gr F H) (h : Xd K F e d) : DOk H d := by
  unfold Xd at h
  split at h
  · subst h; trivial
  · obtain ⟨a, v, rfl, h2, h3⟩ := h
    exact ⟨_, g _ _ h2⟩
def okM {β : Type} : Rs β → Option β
  | .ok y => some y
  | .ex _ => none
theorem okM_some {β : Type} {r : Rs β} {y : β} (h : okM r = some y) : r = .ok y := by
  cases r with
  | ok z => cases h; rfl
  | ex c => cases h
def Rs.map {α β : Type} (g : α → β) : Rs α → Rs β
  | .ok y => .ok (g y)
  | .ex c => .ex c
/-- a promise that may end by an exception of a class of the program -/
def spPX (K : PySem.W.Frag) {α β : Type} (A : α → List PyData) (B : β → PyData) (f : α → Option (Rs β)) : Sp := fun vs H Q E => ∃ F cs x r, Dts K F vs (A x) ∧ Sta F cs H ∧ f x = some r ∧
  (∀ y, r = .ok y → ∀ v F2 H2, Gr F F2 → Sta F2 cs H2 → Dt K F2 v (B y) → Q v H2) ∧ ∀ c, r = .ex c → ∀ d F2 H2, Gr F F2 → Sta F2 cs H2 → Xd K F2 c d → E (.ref (He.ga K c.1)) d H2
structure OkX (P : Program) (w : World) (K : PySem.W.Frag) (mg : Str → Option Value) (base : Heap) (k : Nat) (x : Str) (ps : List Str) (sp : Sp) : Prop where
  ex : ∃ fd, FnOk P w K mg base (L2.CX P w) k (He.ga K x) fd ps sp ∧ Binds K fd ps [] ∧ Lk K (He.ga K x) fd
  kp : PySem.W.keepIn K (.ref (He.ga K x)) = true
  gm : mg x = some (.ref (He.ga K x))
abbrev XF0 : XK := fun _ _ _ => False
abbrev WF0 : WX := fun _ _ _ _ => False
theorem passF {X : Cx} (σ : St) : PassesAt (L2.CX X.prog X.w) X σ XF0 := fun _ _ _ e s' I c => by
  obtain ⟨a, B, H', cls, d, _, _, _, _, _, _, _, h⟩ := c
  exact False.elim h
section
variable {K : PySem.W.Frag} {σ : St} {F : Hp} {cs cs1 : Cs} {H : Hp} {as : TA} {te : TE} {nx bk ct : St → Hp → Prop} {rt : V → Hp → Prop} {W : WX}
/-- called where it does not raise -/
theorem dx_call {α β : Type} {A : α → List PyData} {B : β → PyData} {f : α → Option (Rs β)} {x : α} {y : β} {E : St → XK} (h : EvDs K as σ F cs (A x) cs1) (hf : f x = some (.ok y)) : EvD K (tCallS (spPX K A B f) E as) σ F cs (B y) cs1 := fun F1 H1 g1 s Q q =>
  h F1 H1 g1 s _ fun vs F2 H2 g2 s2 h2 => ⟨F2, cs1, x, .ok y, h2, s2, hf, fun z hz v F3 H3 g3 s3 h3 => by cases hz; exact q v F3 H3 (g2.tr g3) s3 h3, fun c hc => nomatch hc⟩
/-- what may raise: r the end -/
def EvX (K : PySem.W.Frag) (te : TE) (W : WX) (σ : St) (F : Hp) (cs : Cs) (r : Rs PyData) (cs' : Cs) : Prop :=
  ∀ F1 H1, Gr F F1 → Sta F1 cs H1 → ∀ Q : VK, (∀ d, r = .ok d → ∀ v F2 H2, Gr F1 F2 → Sta F2 cs' H2 → Dt K F2 v d → Q v H2) → (∀ c, r = .ex c → ∀ d F2 H2, Gr F1 F2 → Sta F2 cs' H2 → Xd K F2 c d → W (.ref (He.ga K c.1)) d σ H2) → te σ H1 Q
theorem x_call {α β : Type} {A : α → List PyData} {B : β → PyData} {f : α → Option (Rs β)} {x : α} {r : Rs β} (h : EvDs K as σ F cs (A x) cs1) (hf : f x = some r) : EvX K (tCallS (spPX K A B f) (WE W) as) W σ F cs (r.map B) cs1 := fun F1 H1 g1 s Q q qx =>
  h F1 H1 g1 s _ fun vs F2 H2 g2 s2 h2 => ⟨F2, cs1, x, r, h2, s2, hf, fun y hy v F3 H3 g3 s3 h3 => by subst hy; exact q _ rfl v F3 H3 (g2.tr g3) s3 h3, fun c hc d F3 H3 g3 s3 xd => by subst hc; exact qx c rfl d F3 H3 (g2.tr g3) s3 xd⟩
theorem s_dropX {α : Type} {B : α → PyData} {r : Rs α} (s : Sta F cs H) (h : EvX K te W σ F cs (r.map B) cs1) (q : ∀ y, r = .ok y → ∀ F2 H2, Gr F F2 → Sta F2 cs1 H2 → nx σ H2)
    (qx : ∀ c, r = .ex c → ∀ d F2 H2, Gr F F2 → Sta F2 cs1 H2 → Xd K F2 c d → W (.ref (He.ga K c.1)) d σ H2) : tDrop te ⟨nx, rt, bk, ct⟩ σ H :=
  h F H .rfl s _ (fun d hd v F2 H2 g2 s2 _ => by
    cases r with
    | ok y => exact q y rfl F2 H2 g2 s2
    | ex c => cases hd) (fun c hc d F2 H2 g2 s2 xd => by
    cases r with
    | ok y => cases hc
    | ex c' => cases hc; exact qx c rfl d F2 H2 g2 s2 xd)
theorem s_setX {α : Type} {B : α → PyData} {r : Rs α} {i : Nat} {σ' : V → St} (s : Sta F cs H) (h : EvX K te W σ F cs (r.map B) cs1) (hσ : ∀ v, σ.set i (some v) = σ' v) (q : ∀ y, r = .ok y → ∀ v F2 H2, Gr F F2 → Sta F2 cs1 H2 → Dt K F2 v (B y) → nx (σ' v) H2)
    (qx : ∀ c, r = .ex c → ∀ d F2 H2, Gr F F2 → Sta F2 cs1 H2 → Xd K F2 c d → W (.ref (He.ga K c.1)) d σ H2) : tAsg te (gName i) ⟨nx, rt, bk, ct⟩ σ H :=
  h F H .rfl s _ (fun d hd v F2 H2 g2 s2 h2 => by
    cases r with
    | ok y =>
      cases hd
      show nx (σ.set i (some v)) H2
      rw [hσ v]; exact q y rfl v F2 H2 g2 s2 h2
    | ex c => cases hd) (fun c hc d F2 H2 g2 s2 xd => by
    cases r with
    | ok y => cases hc
    | ex c' => cases hc; exact qx c rfl d F2 H2 g2 s2 xd)
theorem s_retX {α : Type} {B : α → PyData} {r : Rs α} (s : Sta F cs H) (h : EvX K te W σ F cs (r.map B) cs1) (q : ∀ y, r = .ok y → ∀ v F2 H2, Gr F F2 → Sta F2 cs1 H2 → Dt K F2 v (B y) → rt v H2)
    (qx : ∀ c, r = .ex c → ∀ d F2 H2, Gr F F2 → Sta F2 cs1 H2 → Xd K F2 c d → W (.ref (He.ga K c.1)) d σ H2) : tRet te ⟨nx, rt, bk, ct⟩ σ H :=
  h F H .rfl s _ (fun d hd v F2 H2 g2 s2 h2 => by
    cases r with
    | ok y => cases hd; exact q y rfl v F2 H2 g2 s2 h2
    | ex c => cases hd) (fun c hc d F2 H2 g2 s2 xd => by
    cases r with
    | ok y => cases hc
    | ex c' => cases hc; exact qx c rfl d F2 H2 g2 s2 xd)
/-- a kept exception, or None -/
def Xv (K : PySem.W.Frag) (cl : List Str) (F : Hp) (v : V) : Option Xe → Prop
  | none => v = .non
  | some c => c.1 ∈ cl ∧ ∃ a d, v = .ref a ∧ F a = some (ExK (He.ga K c.1) d a) ∧ Xd K F c d
theorem Xv.gr {cl : List Str} {F F' : Hp} {v : V} {o : Option Xe} (g : Gr F F') (h : Xv K cl F v o) : Xv K cl F' v o := by
  cases o with
  | none => exact h
  | some c => obtain ⟨h0, a, d, h1, h2, h3⟩ := h; exact ⟨h0, a, d, h1, g _ _ h2, h3.gr g⟩
def subX (c d : Str) : Bool := c == d || d == "CartError"
def isX (o : Option Xe) (d : Str) : Bool := match o with
  | none => false
  | some c => subX c.1 d
def anyX (o : Option Xe) (ds : List Str) : Bool := ds.any fun d => isX o d
/-- what is known of the classes: cl may be raised, ts are asked for -/
structure XFc (K : PySem.W.Frag) (cl ts : List Str) : Prop where
  ex : ∀ c ∈ cl, ExC K (He.ga K c) = true
  kit : ∀ c ∈ cl, ∀ d ∈ ts, PySem.W.kitOne K (.ref (He.ga K c)) (.ref (He.ga K d)) = some (subX c d)
  kitV : ∀ c ∈ cl, PySem.W.kitOne K (.ref (He.ga K c)) (.type "ValueError") = some true
  kitN : ∀ d ∈ ts, PySem.W.kitOne K (.type "NoneType") (.ref (He.ga K d)) = some false
  exm : ∀ c ∈ cl, PySem.W.exmOne K (.ref (He.ga K c)) (.ref (He.ga K "CartError")) = some true
  fl : ∀ c ∈ cl, ∀ f, fld c = some f → xfB K (He.ga K c) = true ∧ PySem.W.findIn K (.ref (He.ga K c)) f = some none
abbrev rIsiX (K : PySem.W.Frag) : List V → Hp → VK → Prop := fun xs H Q => rIsi K xs H Q ∨ rIsiE K xs H Q
abbrev rIsiXT (K : PySem.W.Frag) : List V → Hp → VK → Prop := fun xs H Q => rIsiT K xs H Q ∨ rIsiTE K xs H Q
theorem cr_isiX {X : Cx} : CallR X (.builtin "isinstance") (rIsiX X.K) := call_isi.or cr_isiE
theorem cr_isiXT {X : Cx} : CallR X (.builtin "isinstance") (rIsiXT X.K) := call_isiT.or cr_isiTE
theorem kitN_V : kitB "NoneType" "ValueError" = some false := by decide +kernel
theorem d_isiX {cl ts : List Str} {o : Option Xe} {v : V} {i : Nat} {d : Str} (X : XFc K cl ts) (hi : σ[i]? = some (some v)) (hx : Xv K cl F v o) (hd : d ∈ ts) : EvD K (tCB (rIsiX K) (tCons (tVar i) (tCons (tC (.ref (He.ga K d))) tNil))) σ F cs (.bool (isX o d)) cs := fun F1 H1 g1 s Q q => by
  refine ⟨v, hi, ?_⟩
  show rIsiX K [v, .ref (He.ga K d)] H1 Q
  cases o with
  | none =>
    cases (show v = .non from hx)
    exact .inl ⟨.non, _, .type "NoneType", .ref (He.ga K d), false, rfl, .own _, .base .non, X.kitN d hd, q _ F1 H1 .rfl s (.bl _)⟩
  | some c =>
    obtain ⟨hc, a, dd, rfl, ha, hxd⟩ := hx
    exact .inr ⟨a, He.ga K c.1, dd, _, .ref (He.ga K d), subX c.1 d, rfl, .own _, s.fr _ _ (g1 _ _ ha), hxd.ok (g1.tr s.fr), X.ex c.1 hc, X.kit c.1 hc d hd, q _ F1 H1 .rfl s (.bl _)⟩
theorem d_isiXV {cl ts : List Str} {o : Option Xe} {v : V} {i : Nat} (X : XFc K cl ts) (hi : σ[i]? = some (some v)) (hx : Xv K cl F v o) : EvD K (tCB (rIsiX K) (tCons (tVar i) (tCons (tC (.ty "ValueError")) tNil))) σ F cs (.bool o.isSome) cs := fun F1 H1 g1 s Q q => by
  refine ⟨v, hi, ?_⟩
  show rIsiX K [v, .ty "ValueError"] H1 Q
  cases o with
  | none =>
    cases (show v = .non from hx)
    exact .inl ⟨.non, _, .type "NoneType", .type "ValueError", false, rfl, .ty _, .base .non, kit_ty kitN_V, q _ F1 H1 .rfl s (.bl _)⟩
  | some c =>
    obtain ⟨hc, a, dd, rfl, ha, hxd⟩ := hx
    exact .inr ⟨a, He.ga K c.1, dd, _, .type "ValueError", true, rfl, .ty _, s.fr _ _ (g1 _ _ ha), hxd.ok (g1.tr s.fr), X.ex c.1 hc, X.kitV c.1 hc, q _ F1 H1 .rfl s (.bl _)⟩
def clsV (K : PySem.W.Frag) (ds : List Str) : List V := ds.map fun d => .ref (He.ga K d)
theorem clsV_paired : ∀ ds : List Str, Paired ClsV (clsV K ds) (ds.map fun d => Value.ref (He.ga K d))
  | [] => .nil
  | d :: ds => .cons (.own _) (clsV_paired ds)
theorem kitAny_none {cl ts : List Str} (X : XFc K cl ts) : ∀ ds : List Str, (∀ d ∈ ds, d ∈ ts) → PySem.W.kitAny K (.type "NoneType") (ds.map fun d => Value.ref (He.ga K d)) = some false
  | [], _ => rfl
  | d :: ds, h => kitAny_cons (X.kitN d (h d List.mem_cons_self)) (fun _ => kitAny_none X ds fun e he => h e (List.mem_cons_of_mem _ he)) (fun z => nomatch z)
theorem kitAny_some {cl ts : List Str} (X : XFc K cl ts) {c : Xe} (hc : c.1 ∈ cl) : ∀ ds : List Str, (∀ d ∈ ds, d ∈ ts) → PySem.W.kitAny K (.ref (He.ga K c.1)) (ds.map fun d => Value.ref (He.ga K d)) = some (anyX (some c) ds)
  | [], _ => rfl
  | d :: ds, h => by
    refine kitAny_cons (X.kit c.1 hc d (h d List.mem_cons_self)) (fun z => ?_) (fun z => ?_)
    · have := kitAny_some X hc ds fun e he => h e (List.mem_cons_of_mem _ he)
      rw [this]
      show some _ = some (subX c.1 d || _)
      rw [z]; rfl
    · show (subX c.1 d || _) = true
      rw [z]; rfl
/-- isinstance(x, (A, B, ..)); ta the written tuple's parts -/
theorem d_isiXT {cl ts ds : List Str} {o : Option Xe} {v : V} {i : Nat} {ta : TA} (X : XFc K cl ts) (hi : σ[i]? = some (some v)) (hx : Xv K cl F v o) (hd : ∀ d ∈ ds, d ∈ ts) (hl : ds.length ≤ 100000)
    (ht : ∀ H (Q : List V → Hp → Prop), Q (clsV K ds) H → ta σ H Q) : EvD K (tCB (rIsiXT K) (tCons (tVar i) (tCons (tTup ta) tNil))) σ F cs (.bool (anyX o ds)) cs := fun F1 H1 g1 s Q q => by
  refine ⟨v, hi, ?_⟩
  show tTup ta σ H1 fun w H2 => rIsiXT K [v, w] H2 Q
  refine ht H1 _ ⟨by unfold clsV; rw [List.length_map]; exact sz hl, fun p hp => ?_⟩
  have s2 : Sta (upd F1 p (.tup (clsV K ds))) cs (upd H1 p (.tup (clsV K ds))) := s.lay hp
  have g2 : Gr F1 (upd F1 p (.tup (clsV K ds))) := Gr.new (s.fr.back hp)
  cases o with
  | none =>
    cases (show v = .non from hx)
    refine .inl ⟨.non, p, clsV K ds, .type "NoneType", _, false, rfl, upd_same, clsV_paired ds, .base .non, kitAny_none X ds hd, ?_⟩
    have : anyX none ds = false := by unfold anyX; rw [List.any_eq_false]; intro d _; exact Bool.false_ne_true
    rw [this] at q
    exact q _ _ _ g2 s2 (.bl _)
  | some c =>
    obtain ⟨hc, a, dd, rfl, ha, hxd⟩ := hx
    exact .inr ⟨a, He.ga K c.1, dd, p, clsV K ds, _, anyX (some c) ds, rfl, upd_same, clsV_paired ds, s2.fr _ _ (g2 _ _ (g1 _ _ ha)), hxd.ok ((g1.tr g2).tr s2.fr), X.ex c.1 hc, kitAny_some X hc ds hd, q _ _ _ g2 s2 (.bl _)⟩
/-- caught and kept: `except CartError as e: kept = e`; i is e's place, j the keeper's -/
theorem s_catch {cl ts : List Str} {i j : Nat} {c : Xe} {dd : Option Addr} {D : Ends} {Wout : WX} {σ' : Addr → St} (X : XFc K cl ts) (hc : c.1 ∈ cl) (s : Sta F cs H) (xd : Xd K F c dd) (hij : ∀ v, (σ.set i (some v))[i]? = some (some v)) (hσ : ∀ a, (((σ.set i (some (.ref a))).set j (some (.ref a))).set i none) = σ' a)
    (q : ∀ a F2 H2, Gr F F2 → Sta F2 cs H2 → Xv K cl F2 (.ref a) (some c) → D.nx (σ' a) H2) :
    wKeep K (.ref (He.ga K "CartError")) i (fun _ _ _ => tAsg (tVar i) (gName j)) Wout D (.ref (He.ga K c.1)) dd σ H := by
  refine ⟨true, X.exm c.1 hc, fun _ => ⟨_, rfl, fun a ha => ?_⟩, fun z => nomatch z⟩
  refine ⟨.ref a, hij _, ha, ?_⟩
  rw [hσ a]
  exact q a _ _ (Gr.new (s.fr.back ha)) (s.lay ha) ⟨hc, a, dd, rfl, upd_same, xd.gr (Gr.new (s.fr.back ha))⟩
end
end Bw

namespace Bw
open PySem L2
/-! tuple(xs), list(a tuple), tuple + tuple -/
abbrev rTupleL (K : PySem.W.Frag) : List V → Hp → VK → Prop := fun xs H Q => ∃ p ys, xs = [.ref p] ∧ ((SqL K H p ys ∧ ∀ l, H l = none → Q (.ref l) (upd H l (.tup ys))) ∨ (SqT K H p ys ∧ Q (.ref p) H))
theorem cr_tuple {X : Cx} : CallR X (.type "tuple") (rTupleL X.K) := call_tuple_of
section
variable {K : PySem.W.Frag} {σ : St} {F : Hp} {cs cs1 cs2 : Cs} {as : TA} {ta tb : TE}
theorem d_tupleL {ds : List PyData} (h : EvDs K as σ F cs [.list ds] cs1) : EvD K (tCB (rTupleL K) as) σ F cs (.tuple ds) cs1 := fun F1 H1 g1 s Q q =>
  h F1 H1 g1 s _ fun v F2 H2 g2 s2 h2 => by
    obtain ⟨v, rfl, k⟩ := h2.one
    obtain ⟨p, ys, rfl, hl, hd⟩ := k.toLst
    refine ⟨p, ys, rfl, .inl ⟨gr_L s2.fr hl, fun l nl => ?_⟩⟩
    have g3 : Gr F2 (upd F2 l (.tup ys)) := Gr.new (s2.fr.back nl)
    exact q _ _ _ (g2.tr g3) (s2.lay nl) (.tup (.inl (.inl upd_same)) (hd.gr g3))
theorem d_tupleT {ds : List PyData} (h : EvDs K as σ F cs [.tuple ds] cs1) : EvD K (tCB (rTupleL K) as) σ F cs (.tuple ds) cs1 := fun F1 H1 g1 s Q q =>
  h F1 H1 g1 s _ fun v F2 H2 g2 s2 h2 => by
    obtain ⟨v, rfl, k⟩ := h2.one
    obtain ⟨p, ys, rfl, hl, hd⟩ := k.toTup
    exact ⟨p, ys, rfl, .inr ⟨gr_T s2.fr hl, q _ _ _ g2 s2 (.tup hl hd)⟩⟩
theorem c_listT {ds : List PyData} (h : EvDs K as σ F cs [.tuple ds] cs1) : EvC K (tCB (rListS K) as) σ F cs ds cs1 := fun F1 H1 g1 s Q q =>
  h F1 H1 g1 s _ fun v F2 H2 g2 s2 h2 => by
    obtain ⟨v, rfl, k⟩ := h2.one
    obtain ⟨p, ys, rfl, hl, hd⟩ := k.toTup
    exact ⟨p, ys, rfl, .inr (gr_T s2.fr hl), fun l nl => q _ _ _ _ g2 (s2.cell nl) hd⟩
theorem d_catT {ds es : List PyData} (ha : EvD K ta σ F cs (.tuple ds) cs1) (hb : EvD K tb σ F cs1 (.tuple es) cs2) (hn : ds ≠ []) (he : es ≠ []) (hl : ds.length + es.length ≤ 100000) : EvD K (tOp (rCatT K) ta tb) σ F cs (.tuple (ds ++ es)) cs2 :=
  d_op ha hb fun x y F2 H2 hx hy s _ Q q => by
    obtain ⟨p, vs, rfl, h1, k1⟩ := hx.toTup
    obtain ⟨p', ws, rfl, h2, k2⟩ := hy.toTup
    have l1 := k1.len
    have l2 := k2.len
    have e2 : ws ≠ [] := fun z => he (List.length_eq_zero_iff.mp (by rw [← l2, z]; rfl))
    refine ⟨p, p', vs, ws, rfl, rfl, gr_T s.fr h1, gr_T s.fr h2, fun z => hn (List.length_eq_zero_iff.mp (by rw [← l1, z]; rfl)), by rw [l1, l2]; exact sz hl, fun z => absurd z e2, fun _ l nl => ?_⟩
    have g3 : Gr F2 (upd F2 l (.tup (vs ++ ws))) := Gr.new (s.fr.back nl)
    exact q _ _ _ g3 (s.lay nl) (.tup (.inl (.inl upd_same)) ((k1.gr g3).app (k2.gr g3)))
end
end Bw

namespace Bw
open PySem L2
/-! raise and try, put together for the generator -/
abbrev WX0 (E : XK) : WX := fun cls d _ H => E cls d H
def tRaiseX (W : WX) (C : Addr) : TS := fun _ σ H => W (.ref C) none σ H
/-- a plain exception class of the program -/
def excB (K : PySem.W.Frag) (x : Str) : Bool := PySem.W.excIn K (He.ga K x) [.type "ValueError", .type "Exception", .type "BaseException", .type "object"] "ValueError.__new__" && PySem.W.keepIn K (.ref (He.ga K x)) &&
  PySem.W.subIn K (.ref (He.ga K x)) (.type "BaseException") == some true && PySem.W.typeIn K (.ref (He.ga K x)) == some (.type "type")
structure ExD (K : PySem.W.Frag) (mg : Str → Option Value) (x : Str) : Prop where
  b : excB K x = true
  gm : mg x = some (.ref (He.ga K x))
section
variable {X : Cx} {W : WX} {body : List Stmt} {t : TS}
theorem pss_tk (tk : Takes X W) (h : Takes X W → PSs X body t) : PSs X body t := h tk
theorem ps_raiseX {x m : Str} {j : Nat} {p p2 pos pos' : Pos} (hc : X.calm = true) (tk : Takes X W) (e : ExD X.K X.mg x) (hg : Gl X x) (hdb : (x == ("__debug__" : Str)) = false := by decide) :
    PS X (.Raise (some (.Call (.Name x p) [.Constant (.str m) j p2] [] pos)) none pos') (tRaiseX W (He.ga X.K x)) := by
  have hb := e.b
  unfold excB at hb
  simp only [Bool.and_eq_true, beq_iff_eq] at hb
  obtain ⟨⟨⟨h1, h2⟩, h3⟩, h4⟩ := hb
  exact ps_raise hc tk (pmk_own PySem.F.excBase_ValueError h1 e.gm h2 (raises_own h3 h4) hg hdb)
theorem takesF : Takes X.nox WF0 := fun u s' h => by
  obtain ⟨a, B, sI, pins, σ, H, cls, d, _, _, _, _, _, _, _, _, w⟩ := h
  exact False.elim w
def tTryK (K : PySem.W.Frag) (i j : Nat) (Wout : WX) (tb : WX → TS) : TS := fun D σ H => tb (wKeep K (.ref (He.ga K "CartError")) i (fun _ _ _ => tAsg (tVar i) (gName j)) Wout D) D σ H
end
section
variable {K : PySem.W.Frag} {σ : St} {F : Hp} {cs : Cs} {H : Hp} {W : WX} {D : Ends}
theorem s_raise {C : Addr} (h : W (.ref C) none σ H) : tRaiseX W C D σ H := h
end
end Bw
namespace Bw
open PySem L2
def tupD2 : PyData → Option (PyData × PyData)
  | .tuple [a, b] => some (a, b)
  | _ => none
def tupD3 : PyData → Option (PyData × PyData × PyData)
  | .tuple [a, b, c] => some (a, b, c)
  | _ => none
def tupD4 : PyData → Option (PyData × PyData × PyData × PyData)
  | .tuple [a, b, c, d] => some (a, b, c, d)
  | _ => none
theorem tupD2_eq {d : PyData} {p : PyData × PyData} (h : tupD2 d = some p) : d = .tuple [p.1, p.2] := by
  unfold tupD2 at h; split at h
  · cases h; rfl
  · cases h
theorem tupD3_eq {d : PyData} {p : PyData × PyData × PyData} (h : tupD3 d = some p) : d = .tuple [p.1, p.2.1, p.2.2] := by
  unfold tupD3 at h; split at h
  · cases h; rfl
  · cases h
theorem tupD4_eq {d : PyData} {p : PyData × PyData × PyData × PyData} (h : tupD4 d = some p) : d = .tuple [p.1, p.2.1, p.2.2.1, p.2.2.2] := by
  unfold tupD4 at h; split at h
  · cases h; rfl
  · cases h
end Bw
namespace Bw
open PySem L2
theorem s_tryJ {K : PySem.W.Frag} {σ : St} {H : Hp} {nx bk ct : St → Hp → Prop} {rt : V → Hp → Prop} {i j : Nat} {Wout : WX} {tb : WX → TS} (J : St → Hp → Prop) (rest : ∀ σ' H', J σ' H' → nx σ' H')
    (body : (∀ σ' H', J σ' H' → nx σ' H') → tb (wKeep K (.ref (He.ga K "CartError")) i (fun _ _ _ => tAsg (tVar i) (gName j)) Wout ⟨nx, rt, bk, ct⟩) ⟨nx, rt, bk, ct⟩ σ H) : tTryK K i j Wout tb ⟨nx, rt, bk, ct⟩ σ H := body rest
end Bw
namespace Bw
open PySem L2
/-! the facts of the classes, told by the head -/
def ceB (K : PySem.W.Frag) : Bool := PySem.W.specialIn K (.ref (He.ga K "CartError")) "__getattribute__" == some (some (.builtin "type.__getattribute__")) && PySem.W.readsIn K (He.ga K "CartError") (.type "type") && (match PySem.W.findCls K (.ref (He.ga K "CartError")) (.type "type") "__init__" with
  | some (.val (.builtin n)) => n == "ValueError.__init__"
  | _ => false) && PySem.W.keepIn K (.ref (He.ga K "CartError"))
/-- a class with an own __init__ and a field -/
def oexB (K : PySem.W.Frag) (C : Addr) (f : Str) : Bool := (match K.lookup C with
  | some ⟨.type "type", _, .cls cd, sl⟩ => (match cd.mro, sl.toList with
    | .ref C' :: bm, [_, _, _, _, some (.builtin n), _] => C' == C && n == "ValueError.__new__" && !cd.hasDel && cd.hasDict && HandSPX.refsVE bm
    | _, _ => false)
  | _ => false) && PySem.W.findIn K (.ref C) "__setattr__" == some (some (.builtin "object.__setattr__")) && PySem.W.subIn K (.ref C) (.type "BaseException") == some true && PySem.W.typeIn K (.ref C) == some (.type "type") && PySem.W.keepIn K (.ref C) &&
  PySem.W.findIn K (.ref C) "__init__" == some (some (.ref (He.ma K C "__init__"))) && PySem.W.typeIn K (.ref (He.ma K C "__init__")) == some (.type "function") && xfB K C && PySem.W.findIn K (.ref C) f == some none
structure OexF (K : PySem.W.Frag) (C : Addr) (f : Str) : Prop where
  T : OexC K C
  iC : PySem.W.findIn K (.ref C) "__init__" = some (some (.ref (He.ma K C "__init__")))
  tI : PySem.W.typeIn K (.ref (He.ma K C "__init__")) = some (.type "function")
  xf : xfB K C = true
  no : PySem.W.findIn K (.ref C) f = some none
theorem oex_of {K : PySem.W.Frag} {C : Addr} {f : Str} (h : oexB K C f = true) : OexF K C f := by
  unfold oexB at h
  simp only [Bool.and_eq_true, beq_iff_eq] at h
  obtain ⟨⟨⟨⟨⟨⟨⟨⟨q, h2⟩, h3⟩, h4⟩, h5⟩, h6⟩, h7⟩, h8⟩, h9⟩ := h
  refine ⟨⟨?_, h2, h3, h4, h5⟩, h6, h7, h8, h9⟩
  split at q
  · rename_i dd cd sl ho
    split at q
    · rename_i C' bm k0 k1 k2 k3 n k5 hm hs
      simp only [Bool.and_eq_true, beq_iff_eq, Bool.not_eq_true'] at q
      obtain ⟨⟨⟨⟨rfl, rfl⟩, hdel⟩, hdi⟩, ht⟩ := q
      obtain ⟨nm, bs, mro, ns, qn, hd, sn, sub, ab, col, del⟩ := cd
      dsimp only at hm hdel hdi
      subst hm hdel hdi
      have hsl : sl = #[k0, k1, k2, k3, some (.builtin "ValueError.__new__"), k5] := by
        obtain ⟨l⟩ := sl
        simp only at hs
        rw [hs]
      subst hsl
      exact ⟨nm, qn, ns, bs, bm, sn, sub, ab, col, dd, k0, k1, k2, k3, k5, ho, ht⟩
    · cases q
  · cases q
def xfcB (cl ts : List Str) (K : PySem.W.Frag) : Bool := (cl.all fun c => ExC K (He.ga K c) && (ts.all fun d => PySem.W.kitOne K (.ref (He.ga K c)) (.ref (He.ga K d)) == some (subX c d)) && PySem.W.kitOne K (.ref (He.ga K c)) (.type "ValueError") == some true &&
  PySem.W.exmOne K (.ref (He.ga K c)) (.ref (He.ga K "CartError")) == some true && (match fld c with
    | none => excB K c
    | some f => oexB K (He.ga K c) f)) && (ts.all fun d => PySem.W.kitOne K (.type "NoneType") (.ref (He.ga K d)) == some false) && ceB K
theorem xfc_of {cl ts : List Str} {K : PySem.W.Frag} (h : xfcB cl ts K = true) : XFc K cl ts := by
  unfold xfcB at h
  rw [Bool.and_eq_true, Bool.and_eq_true, List.all_eq_true, List.all_eq_true] at h
  obtain ⟨⟨h1, h2⟩, _⟩ := h
  have k : ∀ c ∈ cl, _ := fun c hc => h1 c hc
  simp only [Bool.and_eq_true, List.all_eq_true, beq_iff_eq] at k h2
  refine ⟨fun c hc => (k c hc).1.1.1.1, fun c hc d hd => (k c hc).1.1.1.2 d hd, fun c hc => (k c hc).1.1.2, fun d hd => h2 d hd, fun c hc => (k c hc).1.2, fun c hc f hf => ?_⟩
  have z := (k c hc).2
  rw [hf] at z
  exact ⟨(oex_of z).xf, (oex_of z).no⟩
theorem ce_of {cl ts : List Str} {K : PySem.W.Frag} (h : xfcB cl ts K = true) : ceB K = true := by
  unfold xfcB at h
  rw [Bool.and_eq_true] at h
  exact h.2
theorem oxf_of {cl ts : List Str} {K : PySem.W.Frag} (h : xfcB cl ts K = true) {c f : Str} (hc : c ∈ cl) (hf : fld c = some f) : OexF K (He.ga K c) f := by
  unfold xfcB at h
  rw [Bool.and_eq_true, Bool.and_eq_true, List.all_eq_true] at h
  have k := h.1.1 c hc
  simp only [Bool.and_eq_true] at k
  have z := k.2
  rw [hf] at z
  exact oex_of z
theorem exd_of {cl ts : List Str} {K : PySem.W.Frag} {mg : Str → Option Value} (h : xfcB cl ts K = true) {c : Str} (hc : c ∈ cl) (hf : fld c = none) (g : mg c = some (.ref (He.ga K c))) : ExD K mg c := by
  unfold xfcB at h
  rw [Bool.and_eq_true, Bool.and_eq_true, List.all_eq_true] at h
  have k := h.1.1 c hc
  simp only [Bool.and_eq_true] at k
  have z := k.2
  rw [hf] at z
  exact ⟨z, g⟩
def asCS (g : Addr → Option Obj) (n : Nat) : List Addr := He.asD g n ++ [cStatics]
def hookB (n : Nat) (fa : List He.Fa) (fn : List He.DefD) (ex : PySem.W.Frag → Bool) : PySem.W.Hook where
  α := He.AlD × Bool
  obs := fun s => (He.obsD fa fn (He.frG s.heap.get? (asCS s.heap.get? n)), ex (He.frG s.heap.get? (asCS s.heap.get? n)))
  val := fun _ => (He.valD fn, true)
  says := fun _ h => ∃ K : PySem.W.Frag, K.In h ∧ He.SaysD fa fn K ∧ ex K = true
  of := fun _ _ e => ⟨_, He.frG_in, congrArg (fun z : He.AlD × Bool => z.1) e, congrArg (fun z : He.AlD × Bool => z.2) e⟩
  keeps := fun _ _ _ ⟨K, hK, c⟩ k => ⟨K, PySem.W.Frag.In.keeps hK k, c⟩
def obsB (n : Nat) (fa : List He.Fa) (fn : List He.DefD) (ex : PySem.W.Frag → Bool) (g : Addr → Option Obj) : He.AlD × Bool := (He.obsD fa fn (He.frG g (asCS g n)), ex (He.frG g (asCS g n)))
theorem obsB_eq {n : Nat} {fa : List He.Fa} {fn : List He.DefD} {ex : PySem.W.Frag → Bool} {g : Addr → Option Obj} {s : Shared} (h : ∀ a, g a = s.heap.get? a) : obsB n fa fn ex g = (hookB n fa fn ex).obs s := by
  have e : g = s.heap.get? := funext h
  rw [e]; rfl
end Bw

namespace Bw
open PySem L2
/-! dict(a list of pairs) -/
abbrev rDictP (K : PySem.W.Frag) : List V → Hp → VK → Prop := fun xs H Q => ∃ (a : Addr) (ps : List Addr) (kvs : List (Key × V)), xs = [.ref a] ∧ SqL K H a (ps.map V.ref) ∧ Paired (fun p kv => SqT K H p [kV kv.1, kv.2]) ps kvs ∧ ∀ p, H p = none → Q (.ref p) (upd H p (.dK (mergeK [] kvs)))
theorem cr_dictP {X : Cx} (hc : X.calm = true) : CallR X (.type "dict") (rDictP X.K) := call_dictP hc
section
variable {K : PySem.W.Frag} {σ : St} {F : Hp} {cs cs1 : Cs} {as : TA}
theorem dts_pairs {ν : Type} {ev : ν → PyData} {vf : ν → V} (hv : ∀ F v x, Dt K F v (ev x) → v = vf x) {H : Hp} (g : Gr F H) : ∀ {xs : List (Str × ν)} {vs : List V}, Dts K F vs (xs.map (eT2 eS ev)) → ∃ ps : List Addr, vs = ps.map V.ref ∧ Paired (fun p kv => SqT K H p [kV kv.1, kv.2]) ps (kvE kS vf xs)
  | [], vs, h => by cases h; exact ⟨[], rfl, .nil⟩
  | x :: xs, vs, h => by
    cases h with
    | cons a b =>
      obtain ⟨p, v1, v2, rfl, hT, k1, k2⟩ := u2 a
      obtain ⟨ps, rfl, hp⟩ := dts_pairs hv g b
      cases k1.toStr
      cases hv _ _ _ k2
      exact ⟨p :: ps, rfl, .cons (gr_T g hT) hp⟩
/-- .. as a thing -/
theorem d_dictP {ν : Type} {ev : ν → PyData} {vf : ν → V} (hv : ∀ F v x, Dt K F v (ev x) → v = vf x) {xs : List (Str × ν)} (h : EvDs K as σ F cs [eL (eT2 eS ev) xs] cs1) : EvD K (tCB (rDictP K) as) σ F cs (.dict []) cs1 := fun F1 H1 g1 s Q q =>
  h F1 H1 g1 s _ fun v F2 H2 g2 s2 h2 => by
    obtain ⟨v, rfl, k⟩ := h2.one
    obtain ⟨p, ys, rfl, hl, hd⟩ := k.toLst
    obtain ⟨ps, rfl, hp⟩ := dts_pairs hv s2.fr hd
    exact ⟨p, ps, _, rfl, gr_L s2.fr hl, hp, fun l nl => q _ _ _ (g2.tr (Gr.new (s2.fr.back nl))) (s2.lay nl) (.dct upd_same)⟩
end
end Bw

namespace Bw
open PySem L2
/-! exceptions with a field: raised, kept, read -/
/-- what may stand in the text of an exception -/
def FmV (v : V) : Prop := (∃ y : Str, v = .str y ∧ y.length ≤ 1000) ∨ ∃ i : Int, v = .int i ∧ i.natAbs.log2 < 1920 ∧ (toString i : Str).length ≤ 1000
def spI (C : Addr) (f : Str) : Sp := fun vs H Q _ => ∃ a v, vs = [.ref a, v] ∧ H a = some (exo a C none) ∧ FmV v ∧ ∀ dx, H dx = none → dx ≠ a → Q .non (upd (upd H dx (exd dx [(f, v)])) a (exo a C (some dx)))
theorem spI_len {C : Addr} {f : Str} {vs : List V} {H : Hp} {Q : VK} {E : XK} (h : spI C f vs H Q E) : vs.length = 2 := by
  obtain ⟨a, v, rfl, _⟩ := h; rfl
structure OkI (P : Program) (w : World) (K : PySem.W.Frag) (mg : Str → Option Value) (base : Heap) (x f : Str) : Prop where
  ex : ∃ fd, FnOk P w K mg base CX0 1 (He.ma K (He.ga K x) "__init__") fd ["self", f] (spI (He.ga K x) f) ∧ Binds K fd ["self", f] []
  gm : mg x = some (.ref (He.ga K x))
  T : OexF K (He.ga K x) f
section
variable {X : Cx} {e : Expr} {es : List Expr} {te : TE} {ta : TA} {p1 p2 pos p pos' : Pos} {W : WX}
theorem pe_ceinit {pl : Sem Bool} (hg : Gl X "CartError") (hm : X.mg "CartError" = some (.ref (He.ga X.K "CartError"))) (ce : ceB X.K = true) (ha : PA X (e :: es) ta)
    (hc : eval (.Call (.Attribute (.Name "CartError" p1) "__init__" p2) (e :: es) [] pos) X.env = (do
      let ov ← eval (.Name "CartError" p1) X.env
      standAt p2.atName
      let (f, first) ← holding [ov] (getMethod ov "__init__" pl)
      callWith pos f first (backTo pos (starEach (e :: es) X.env)) (backToKw pos (keywordEach [] X.env))) := by rfl)
    (he : starEach (e :: es) X.env = (false, eval e X.env) :: starEach es X.env := by rfl) (hpl : (backTo pos (starEach es X.env)).any (·.1) = false := by rfl) :
    PE X (.Call (.Attribute (.Name "CartError" p1) "__init__" p2) (e :: es) [] pos) (tVeI X.K ta) := by
  unfold ceB at ce
  simp only [Bool.and_eq_true, beq_iff_eq] at ce
  obtain ⟨⟨⟨c1, c2⟩, c3⟩, c4⟩ := ce
  have vV : PySem.W.findCls X.K (.ref (He.ga X.K "CartError")) (.type "type") "__init__" = some (.val (.builtin "ValueError.__init__")) := by
    split at c3
    · rename_i n h; rw [h]; rw [beq_iff_eq] at c3; rw [c3]
    · cases c3
  refine ⟨fun pins s σ H Q I h => ?_⟩
  refine PySem.W.methodCall_KW (ld_glob I hg hm ?_ (by decide)) hc
  refine PySem.W.method_cls I.kIn c1 (PySem.W.cls_value I.kIn c2 vV (by decide +kernel) ?_)
  show wpAny _ _ (callWith pos (Value.builtin "ValueError.__init__") [] (backTo pos (starEach (e :: es) X.env)) []) _ _ _
  refine PyProof.Rows.callWith_method1 (thn (ha.run pos pins _ σ H _ (I.tok _) h) fun us s1 ⟨vs, H1, I1, r1, a, C, ws, ev, hl, T, ea, q⟩ => ?_) he hpl
  subst ev
  cases r1 with
  | @cons _ u0 _ ur ra rw' =>
    obtain rfl : u0 = Value.ref a := ra
    have hlen : ur.length ≤ sizeLine := by
      rw [← Paired.length rw', sizeLine_eq]
      omega
    exact oinit_ok T I1 ea hlen fun s' J => ⟨.non, H1, J, rfl, q⟩
def tRaiseF (K : PySem.W.Frag) (W : WX) (x f : Str) (te : TE) : TS := fun _ σ H => tMkO (He.ga K x) (spI (He.ga K x) f) [] (tCons te tNil) σ H fun cls d H' => W cls d σ H'
theorem ps_raiseF {x f : Str} (hc : X.calm = true) (tk : Takes X W) (F : OkI X.prog X.w X.K X.mg X.base x f) (hr : Room 2 X.A) (hg : Gl X x) (he : PE X e te) (hdb : (x == ("__debug__" : Str)) = false := by decide)
    (hs : starEach [e] X.env = (false, eval e X.env) :: starEach [] X.env := by rfl) (hpl : (backTo pos (starEach [] X.env)).any (·.1) = false := by rfl) :
    PS X (.Raise (some (.Call (.Name x p) [e] [] pos)) none pos') (tRaiseF X.K W x f te) := by
  obtain ⟨fd, F1, hb⟩ := F.ex
  exact ps_raise hc tk (pmk_oex F.T.T F.T.iC F.T.tI F1 hr hb .nil pass0 hg F.gm (pa_cons he pa_nil (hs := hs)) hdb hs hpl)
/-- x.f, where x holds an exception that is kept -/
def tXat (K : PySem.W.Frag) (f : Str) (te : TE) : TE := fun σ H Q => te σ H fun x H1 => ∃ (a C dd : Addr) (fs : List (Str × V)) (v : V), x = .ref a ∧ H1 a = some (ExK C (some dd) a) ∧ H1 dd = some (.xd fs) ∧ xfB K C = true ∧ PySem.W.findIn K (.ref C) f = some none ∧ fs.lookup f = some v ∧ Q v H1
theorem pe_xat {n : Str} (he : PE X e te) (hb : attributeBase e n X.env (eval e X.env) = eval e X.env := by rfl) : PE X (.Attribute e n pos) (tXat X.K n te) := by
  refine ⟨fun pins s σ H Q I h => ?_⟩
  refine attr_of hb (thn (he.run pins s σ H _ I h) fun u s1 hh => ?_)
  obtain ⟨x, H1, I1, rx, a, C, dd, fs, v, ex, ha, ea, xf, hno, l, q⟩ := hh
  subst ex
  obtain rfl : u = Value.ref a := rx
  have T := xfB_ok xf
  have hk : ObjOk X.prog X.w H1 s1.heap a (.ext fun h => ∃ (oe : Obj) (vs : Array Value), h.get? a = some oe ∧ oe.cls = .ref C ∧ oe.dict = some dd ∧ oe.data = .fields vs) := I1.hok a _ ha
  obtain ⟨⟨oe, vs, e1, e2, e3, hd⟩, _⟩ := hk
  have hx : ObjOk X.prog X.w H1 s1.heap dd (.xd fs) := I1.hok dd _ ea
  obtain ⟨mA, hns, hr⟩ := hx
  obtain ⟨od, ho, hl⟩ := lookIn_ns hns
  obtain ⟨u, hu, ru⟩ := RelO.some_of (v := v) (o := mA n) (by rw [← l]; exact hr n)
  have J : PySem.W.InstAt s1.heap a oe C (some od) := ⟨e1, e2, by unfold PySem.W.notCls; rw [hd] <;> rfl, by rw [e3]; exact ho⟩
  exact HandSPX.exc_get I1.kIn J T.ga T.gg T.exC (PySem.W.findObj_own T.hdC hno rfl (by rw [hl, hu])) (handed_of ru) ⟨v, H1, I1.tok _, ru, q⟩
end
/-- self, x: CartError.__init__(self, f'm{x}'); self.x = x -/
def tInit (K : PySem.W.Frag) (f m : Str) : TS := tSeq (tDrop (tVeI K (tCons (tVar 0) (tCons (fun σ H Q => tJs [tC (.str m), tFmt (tVar 1)] Str.empty σ H fun out H1 => Q (.str out) H1) tNil)))) (tOst K f (tVar 0) (tVar 1))
theorem w_init {K : PySem.W.Frag} {C : Addr} {f m : Str} {vs : List V} {H : Hp} {Q : VK} {E : XK} (T : OexF K C f) (hm : m.length ≤ 1000) (h : spI C f vs H Q E) : tInit K f m { nx := fun _ H' => Q .non H', rt := Q } (start ["self", f] vs) H := by
  obtain ⟨a, v, rfl, ha, fm, q⟩ := h
  have sl : sizeLine = sizeLine := rfl
  refine ⟨.ref a, rfl, m, rfl, ?_, v, rfl, ?_⟩
  · rw [sizeLine_eq, Str.length_append]; have : Str.empty.length = 0 := rfl; omega
  have fin : ∀ y : Str, y.length ≤ 1000 → ∃ z : Str, V.str y = V.str z ∧ (Str.empty ++ m ++ z).length ≤ sizeLine ∧ tJs [] (Str.empty ++ m ++ z) [some (.ref a), some v] H fun out H1 => tNil [some (.ref a), some v] H1 fun ws H2 => ∃ (a' C' : Addr) (ws' : List V), (.ref a :: .str out :: ws) = .ref a' :: ws' ∧ ws'.length ≤ 1000 ∧ OexC K C' ∧ H2 a' = some (exo a' C' none) ∧ tOst K f (tVar 0) (tVar 1) { nx := fun _ H' => Q .non H', rt := Q } [some (.ref a), some v] H2 := fun y hy => by
    refine ⟨y, rfl, ?_, ?_⟩
    · rw [sizeLine_eq, Str.length_append, Str.length_append]; have : Str.empty.length = 0 := rfl; omega
    · refine ⟨a, C, _, rfl, Nat.le_of_ble_eq_true rfl, T.T, ha, ?_⟩
      exact ⟨v, rfl, .ref a, rfl, a, C, rfl, T.T, T.no, .inl ⟨ha, fun dx hx hn => q dx hx hn⟩⟩
  rcases fm with ⟨y, rfl, hy⟩ | ⟨i, rfl, hi, hy⟩
  · refine .inl ⟨y, rfl, by rw [sizeLine_eq]; omega, ?_⟩
    exact fin y hy
  · exact .inr ⟨i, rfl, hi, fin _ hy⟩
section
variable {K : PySem.W.Frag} {σ : St} {F : Hp} {cs cs1 : Cs} {H : Hp} {te : TE} {W : WX} {D : Ends}
/-- a thing that may stand in the text of an exception -/
def fmB : PyData → Bool
  | .str y => decide (y.length ≤ 1000)
  | .int i => decide (i.natAbs.log2 < 1920) && decide ((toString i : Str).length ≤ 1000)
  | _ => false
theorem fmV_of {v : V} {d : PyData} (h : Dt K F v d) (b : fmB d = true) : FmV v := by
  cases d with
  | str y => cases h.toStr; exact .inl ⟨y, rfl, of_decide_eq_true b⟩
  | int i =>
    cases h.toInt
    obtain ⟨b1, b2⟩ := Bool.and_eq_true_iff.mp b
    exact .inr ⟨i, rfl, of_decide_eq_true b1, of_decide_eq_true b2⟩
  | _ => cases b
theorem s_raiseF {d : PyData} {x f : Str} (s : Sta F cs H) (h : EvD K te σ F cs d cs1) (b : fmB d = true) (hf : fld x = some f) (q : ∀ dd F2 H2, Gr F F2 → Sta F2 cs1 H2 → Xd K F2 (x, d) dd → W (.ref (He.ga K x)) dd σ H2) : tRaiseF K W x f te D σ H := by
  refine h F H .rfl s _ fun v F2 H2 g2 s2 hv => ⟨Nat.le_of_ble_eq_true rfl, fun a ha => ?_⟩
  refine ⟨a, v, rfl, upd_same, fmV_of hv b, fun dx hx hn => ⟨rfl, dx, [(f, v)], upd_same, ?_, ?_, ?_⟩⟩
  · rw [upd_ne hn, upd_same]
  · rw [upd_ne hn] at hx; exact hx
  · rw [upd_ne hn] at hx
    have e : upd (del (upd (upd (upd H2 a (exo a (He.ga K x) none)) dx (exd dx [(f, v)])) a (exo a (He.ga K x) (some dx))) a) dx (.xd [(f, v)]) = upd H2 dx (.xd [(f, v)]) := by
      funext z
      by_cases hz : z = dx
      · rw [hz, upd_same, upd_same]
      · rw [upd_ne hz, upd_ne hz]
        by_cases hza : z = a
        · rw [hza, del_same, ha]
        · rw [del_ne hza, upd_ne hza, upd_ne hz, upd_ne hza]
    rw [e]
    have g3 : Gr F2 (upd F2 dx (.xd [(f, v)])) := Gr.new (s2.fr.back hx)
    refine q _ _ _ (g2.tr g3) (s2.lay hx) ?_
    unfold Xd
    rw [hf]
    exact ⟨dx, v, rfl, upd_same, hv.gr g3⟩
def partM (f : Str) (o : Option Xe) : Option PyData := match o with
  | some e => if fld e.1 = some f then some e.2 else none
  | none => none
theorem d_xat {cl ts : List Str} {o : Option Xe} {v : V} {i : Nat} {f : Str} {d : PyData} (X : XFc K cl ts) (hi : σ[i]? = some (some v)) (hx : Xv K cl F v o) (h : partM f o = some d) : EvD K (tXat K f (tVar i)) σ F cs d cs := fun F1 H1 g1 s Q q => by
  cases o with
  | none => cases h
  | some e =>
    obtain ⟨hc, a, dd, rfl, ha, hxd⟩ := hx
    unfold partM at h
    dsimp only at h
    split at h
    · rename_i hf
      cases h
      unfold Xd at hxd
      rw [hf] at hxd
      obtain ⟨z, w, rfl, hz, hw⟩ := hxd
      obtain ⟨x1, x2⟩ := X.fl _ hc f hf
      refine ⟨.ref a, hi, a, He.ga K e.1, z, [(f, w)], w, rfl, s.fr _ _ (g1 _ _ ha), s.fr _ _ (g1 _ _ hz), x1, x2, ?_, q w F1 H1 .rfl s (hw.gr g1)⟩
      simp [List.lookup]
    · cases h
end
end Bw
namespace Bw
open PySem L2
theorem xd0 {K : PySem.W.Frag} {F : Hp} {c : Str} {d : PyData} (h : fld c = none) : Xd K F (c, d) none := by
  unfold Xd; rw [h]
def fmM (d : PyData) : Option Unit := if fmB d = true then some () else none
theorem fmM_ok {d : PyData} {u : Unit} (h : fmM d = some u) : fmB d = true := by
  unfold fmM at h
  split at h
  · assumption
  · cases h
end Bw

namespace Bw
open PySem PySem.Spec PyProof.Rows L2
/-! an old list, repeated -/
def rRepS (K : PySem.W.Frag) : R2 := fun x y H Q => ∃ l k xs, x = .ref l ∧ y = .int k ∧ SqL K H l xs ∧ -(2 ^ 63) ≤ k ∧ k < 2 ^ 63 ∧ xs.length * k.toNat ≤ sizeLine ∧
  ∀ p, H p = none → Q (.ref p) (upd H p (.lst (List.replicate k.toNat xs).flatten))
theorem rmulW (a : Int) (t : Tok) (l : Addr) (items : Array Value) (n : Nat) (dd : Option Addr) (sl : Array (Option Value)) :
    Meets (Builtin.«int.__rmul__» ⟨[.int a t, .ref l], []⟩) (fun _ R s => s.heap.get? l = some { cls := .type "list", dict := dd, data := .seq items n, slots := sl } ∧ R (.ok (.ret Value.notImplemented)) s) :=
  .of_wp fun prog w A R s h => by
    obtain ⟨hp, g, d, tk, os⟩ := s; obtain ⟨hl, h⟩ := h
    wp_walk using PyProof.Rows.wpAny_loadPart' hl
    exact ⟨_, rfl, h⟩
theorem mulW (l : Addr) (items : Array Value) (n : Nat) (dd : Option Addr) (sl : Array (Option Value)) (x : Int) (u : Tok) (hc0 : ¬(!Builtin.List.listFitsIndex x) = true) (hc1 : ¬items.size * x.toNat > (2 ^ 63 - 1) / 8) (hc2 : ¬Builtin.List.listTooLong (items.size * x.toNat) = true) :
    Meets (Builtin.«list.__mul__» ⟨[.ref l, .int x u], []⟩) (fun _ R s => s.heap.get? l = some { cls := .type "list", dict := dd, data := .seq items n, slots := sl } ∧ R (.ok (.ret (Value.ref s.heap.objs.size))) { s with heap := s.heap.push { cls := Value.type "list", data := Data.seq (List.foldl (fun x1 x2 => x1 ++ x2) #[] (List.replicate (if items.isEmpty = true then 0 else x.toNat) items)) }, toks := s.toks }) :=
  .of_wp fun prog w A R s h => by
    obtain ⟨hp, g, d, tk, os⟩ := s; obtain ⟨hl, h⟩ := h
    have hsz := PySem.AutoListH.joined_fits hc2
    wp_walk using PyProof.Rows.wpAny_loadPart' hl
    refine wpAny_ite_false (decide_eq_false (Nat.not_lt.mpr hsz)) ?_
    wp_walk using PyProof.Rows.wpAny_loadPart' hl
    exact ⟨_, rfl, h⟩
theorem op_repS {X : Cx} : OpR X (binaryOp .Mult) (rRepS X.K) := by
  intro pins s σ H x y v u Q I rx ry h
  obtain ⟨l, k, xs, rfl, rfl, hH, h1, h2, hz, q⟩ := h
  cases rx
  obtain ⟨t, rfl⟩ := ry
  obtain ⟨its, r, pl, _⟩ := I.list hH
  have hl := r.length
  obtain ⟨⟨cls, dd, data, sl⟩, e, hc, n, hd⟩ := pl.isList
  simp only at hc hd
  subst hc hd
  have hlen : its.toArray.size * k.toNat ≤ sizeLine := by rw [List.size_toArray, ← hl]; exact hz
  have hcap : ¬ its.toArray.size * k.toNat > (2 ^ 63 - 1) / 8 := by
    have : (sizeLine : Nat) ≤ (2 ^ 63 - 1) / 8 := by decide
    omega
  have hfit : ¬ (!Builtin.List.listFitsIndex k) = true := by
    rw [fitsIndex_both h1 h2]
    exact Bool.false_ne_true
  have hlong : ¬ Builtin.List.listTooLong (its.toArray.size * k.toNat) = true := by
    rw [notLongL hlen]
    exact Bool.false_ne_true
  have hnew : List.foldl (fun x1 x2 => x1 ++ x2) #[] (List.replicate (if its.toArray.isEmpty = true then 0 else k.toNat) its.toArray) = (List.replicate k.toNat its).flatten.toArray := by
    have f0 : ∀ m : Nat, List.foldl (fun x1 x2 => x1 ++ x2) #[] (List.replicate m its.toArray) = (List.replicate m its).flatten.toArray := fun m => by
      have := foldl_rep its m []
      rw [List.nil_append] at this
      exact this
    rw [f0]
    cases its with
    | nil => simp
    | cons a r' => rw [if_neg (by simp)]
  refine wpAny_binaryOp_repeat_ref (T := "list") (U := "int") (by decide) ⟨_, e, rfl⟩ (fun s' => typeIs_int s' k t) PySem.noFill_list_mul F.fills_int_mul F.slot_int_rmul PySem.repeat_list F.slot_int_index.lookup
    (call_meets F.slot_int_rmul (typeIs_int s k t) F.entry_int_rmul (F.args_int_rmul_2 _ _) (rmulW k t l its.toArray n dd sl)
      ⟨e, rfl, ⟨_, e, rfl⟩, call_meets F.slot_list_mul ⟨_, e, rfl⟩ F.entry_list_mul (F.args_list_mul_2 _ _) (mulW l its.toArray n dd sl k t hfit hcap hlong) ⟨e, ?_⟩⟩)
  rw [hnew]
  exact ⟨.ref _, _, I.lnew (t' := s.toks) (r.rep k.toNat) (by rw [PyProof.Rows.lm_len_rep_flat, Nat.mul_comm]; exact hz), rfl, q _ I.fresh⟩
end Bw
namespace Bw
open PySem L2
section
variable {K : PySem.W.Frag} {σ : St} {F : Hp} {cs cs1 cs2 cs3 : Cs} {ta tb te : TE} {as : TA} {b : Int} {d : PyData}
theorem c_repS {α : Type} {en : α → PyData} {xs zs : List α} (ha : EvD K ta σ F cs (eL en xs) cs1) (hb : EvD K tb σ F cs1 (.int b) cs2) (hz : repM xs b = some zs) : EvC K (tOp (rRepS K) ta tb) σ F cs (zs.map en) cs2 := fun F1 H1 g1 s Q q =>
  ha F1 H1 g1 s _ fun v F2 H2 g2 s2 h2 => hb F2 H2 (g1.tr g2) s2 _ fun w F3 H3 g3 s3 h3 => by
    cases h3.toInt
    obtain ⟨p, vs, rfl, hl, hd⟩ := (h2.gr g3).toLst
    obtain ⟨⟨h4, h5, h6⟩, rfl⟩ := repM_some hz
    refine ⟨p, b, vs, rfl, rfl, gr_L s3.fr hl, h4, h5, ?_, fun l nl => q _ _ _ _ (g2.tr g3) (s3.cell nl) ?_⟩
    · rw [hd.len, List.length_map]; exact sz h6
    · rw [List.map_flatten, List.map_replicate]; exact hd.rep b.toNat
/-- {} as a thing -/
theorem d_dnew : EvD K tDNewK σ F cs (.dict []) cs := fun F1 H1 g1 s Q q => fun p hp => q _ _ _ (Gr.new (s.fr.back hp)) (s.lay hp) (.dct upd_same)
/-! a new list among the arguments -/
def EvN (K : PySem.W.Frag) (ta : TA) (σ : St) (F : Hp) (cs : Cs) (as : List Ar) (us : List V) (cc cs' : Cs) : Prop :=
  ∀ F1 H1, Gr F F1 → Sta F1 cs H1 → ∀ Q : List V → Hp → Prop, (∀ p vs F2 H2, Gr F1 F2 → Sta F2 ((p, .lst us) :: cs') H2 → ArgR K F2 vs as ((p, .lst us) :: cc) → Q vs H2) → ta σ H1 Q
theorem n_new {xs : List Ar} {cc : Cs} {ds : List PyData} {us : List V} (h : EvC K te σ F cs ds cs1) (hu : ∀ F vs, Dts K F vs ds → vs = us) (h2 : ∀ p, EvR K as σ F ((p, .lst us) :: cs1) xs cc ((p, .lst us) :: cs2)) : EvN K (tCons te as) σ F cs (.c us :: xs) us cc cs2 := fun F1 H1 g1 s Q q =>
  h F1 H1 g1 s _ fun p vs F2 H2 g2 s2 hv => by
    cases hu F2 vs hv
    exact h2 p F2 H2 (g1.tr g2) s2 _ fun ws F3 H3 g3 s3 h3 => q p _ F3 H3 (g2.tr g3) s3 (.c h3)
theorem n_d {xs : List Ar} {cc : Cs} {us : List V} (h : EvD K te σ F cs d cs1) (h2 : EvN K as σ F cs1 xs us cc cs2) : EvN K (tCons te as) σ F cs (.d d :: xs) us cc cs2 := fun F1 H1 g1 s Q q =>
  h F1 H1 g1 s _ fun v F2 H2 g2 s2 hv => h2 F2 H2 (g1.tr g2) s2 _ fun p vs F3 H3 g3 s3 h3 => q p _ F3 H3 (g2.tr g3) s3 (.d (hv.gr g3) h3)
theorem d_callM {α β : Type} {A : α → List Ar} {B : β → PyData} {C : β → List (List V)} {f : α → Option β} {x : α} {y : β} {E : XK} {cc cs' : Cs} {us : List V} (h : EvN K as σ F cs (A x) us cc cs2)
    (hp : ∀ p, Sb ((p, .lst us) :: cs2) ((p, .lst us) :: cc ++ cs')) (hf : f x = some y) (hq : ∀ p, Sb (upC ((p, .lst us) :: cc) (C y) ++ cs') cs3) : EvD K (tCall (spC K A B C f) [] E as) σ F cs (B y) cs3 := fun F1 H1 g1 s Q q =>
  h F1 H1 g1 s _ fun p vs F3 H3 g3 s3 h3 => ⟨F3, (p, .lst us) :: cc, cs', x, y, by rw [List.append_nil]; exact h3, hp p _ _ s3, hf, fun v F4 H4 g4 s4 h4 => q v F4 H4 (g3.tr g4) (hq p _ _ s4) h4⟩
theorem c_callM {α β : Type} {A : α → List Ar} {B : β → List PyData} {C : β → List (List V)} {f : α → Option β} {x : α} {y : β} {E : XK} {cc cs' : Cs} {us : List V} (h : EvN K as σ F cs (A x) us cc cs2)
    (hp : ∀ p, Sb ((p, .lst us) :: cs2) ((p, .lst us) :: cc ++ cs')) (hf : f x = some y) (hq : ∀ p z, Sb (z :: (upC ((p, .lst us) :: cc) (C y) ++ cs')) (z :: cs3)) : EvC K (tCall (spF K A B C f) [] E as) σ F cs (B y) cs3 := fun F1 H1 g1 s Q q =>
  h F1 H1 g1 s _ fun p vs F3 H3 g3 s3 h3 => ⟨F3, (p, .lst us) :: cc, cs', x, y, by rw [List.append_nil]; exact h3, hp p _ _ s3, hf, fun p' us' F4 H4 g4 s4 h4 => q p' us' F4 H4 (g3.tr g4) (hq p _ _ _ s4) h4⟩
theorem o_callRM {α β : Type} {A : α → List Ar} {C : β → List (List V)} {R : β → Hp → V → Cs → Prop} {f : α → Option β} {x : α} {y : β} {E : XK} {cc cs' : Cs} {us : List V} {H : Hp} {Q : VK} (s : Sta F cs H) (h : EvN K as σ F cs (A x) us cc cs2)
    (hp : ∀ p, Sb ((p, .lst us) :: cs2) ((p, .lst us) :: cc ++ cs')) (hf : f x = some y) (hq : ∀ p, Su (upC ((p, .lst us) :: cc) (C y) ++ cs') cs3) (q : ∀ v c F2 H2, Gr F F2 → Sta F2 (c ++ cs3) H2 → R y F2 v c → Q v H2) : tCall (spR K A C R f) [] E as σ H Q :=
  h F H .rfl s _ fun p vs F3 H3 g3 s3 h3 => ⟨F3, (p, .lst us) :: cc, cs', x, y, by rw [List.append_nil]; exact h3, hp p _ _ s3, hf, fun v c F4 H4 g4 s4 r => q v c F4 H4 (g3.tr g4) ((su_app (hq p)).sb _ _ s4) r⟩
theorem d_callRM {α β : Type} {A : α → List Ar} {C : β → List (List V)} {R : β → Hp → V → Cs → Prop} {B : β → PyData} {f : α → Option β} {x : α} {y : β} {E : XK} {cc cs' : Cs} {us : List V} (hR : ∀ y F H v c cs, R y F v c → Sta F (c ++ cs) H → ∃ F', Gr F F' ∧ Sta F' cs H ∧ Dt K F' v (B y)) (h : EvN K as σ F cs (A x) us cc cs2)
    (hp : ∀ p, Sb ((p, .lst us) :: cs2) ((p, .lst us) :: cc ++ cs')) (hf : f x = some y) (hq : ∀ p, Su (upC ((p, .lst us) :: cc) (C y) ++ cs') cs3) : EvD K (tCall (spR K A C R f) [] E as) σ F cs (B y) cs3 := fun F1 H1 g1 s Q q =>
  o_callRM s (fun F2 H2 g2 => h F2 H2 (g1.tr g2)) hp hf hq fun v c F3 H3 g3 s3 r => by
    obtain ⟨F4, g4, s4, d4⟩ := hR y F3 H3 v c cs3 r s3
    exact q v F4 H3 (g3.tr g4) s4 d4
/-! a function of one thing, a kept exception or None -/
def spX (K : PySem.W.Frag) (cl : List Str) {β : Type} (B : β → PyData) (f : Option Xe → Option β) : Sp := fun vs H Q _ => ∃ F cs v o y, vs = [v] ∧ Xv K cl F v o ∧ Sta F cs H ∧ f o = some y ∧ ∀ v2 F2 H2, Gr F F2 → Sta F2 cs H2 → Dt K F2 v2 (B y) → Q v2 H2
theorem d_callX1 {cl : List Str} {β : Type} {B : β → PyData} {f : Option Xe → Option β} {o : Option Xe} {y : β} {v : V} {i : Nat} {E : XK} (hi : σ[i]? = some (some v)) (hx : Xv K cl F v o) (hf : f o = some y) : EvD K (tCall (spX K cl B f) [] E (tCons (tVar i) tNil)) σ F cs (B y) cs := fun F1 H1 g1 s Q q =>
  ⟨v, hi, F1, cs, v, o, y, rfl, hx.gr g1, s, hf, fun v2 F2 H2 g2 s2 h2 => q v2 F2 H2 g2 s2 h2⟩
end
end Bw
namespace Bw
open PySem L2
section
variable {K : PySem.W.Frag} {σ : St} {F : Hp} {cs cs1 cs2 : Cs} {ta tb : TE}
/-! and, or: where a later part changes cells -/
theorem t_andC {t u : TT} {a r : Bool} (h1 : EvT t σ F cs a cs1) (h2 : a = true → EvT u σ F cs1 r cs2) (h4 : a = false → r = false ∧ cs1 = cs2) : EvT (tAnd t u) σ F cs r cs2 := fun F1 H1 g1 s Q q => h1 F1 H1 g1 s _ fun F2 H2 g2 s2 => by
  cases a with
  | true => exact h2 rfl F2 H2 (g1.tr g2) s2 Q fun F3 H3 g3 s3 => q F3 H3 (g2.tr g3) s3
  | false => obtain ⟨e1, e2⟩ := h4 rfl; rw [e1] at q; rw [e2] at s2; exact q F2 H2 g2 s2
theorem t_orC {t u : TT} {a r : Bool} (h1 : EvT t σ F cs a cs1) (h2 : a = false → EvT u σ F cs1 r cs2) (h4 : a = true → r = true ∧ cs1 = cs2) : EvT (tOr t u) σ F cs r cs2 := fun F1 H1 g1 s Q q => h1 F1 H1 g1 s _ fun F2 H2 g2 s2 => by
  cases a with
  | false => exact h2 rfl F2 H2 (g1.tr g2) s2 Q fun F3 H3 g3 s3 => q F3 H3 (g2.tr g3) s3
  | true => obtain ⟨e1, e2⟩ := h4 rfl; rw [e1] at q; rw [e2] at s2; exact q F2 H2 g2 s2
theorem d_andC {a r : Bool} (h1 : EvD K ta σ F cs (.bool a) cs1) (h2 : a = true → EvD K tb σ F cs1 (.bool r) cs2) (h4 : a = false → r = false ∧ cs1 = cs2) : EvD K (tAndV ta tb) σ F cs (.bool r) cs2 := fun F1 H1 g1 s Q q => h1 F1 H1 g1 s _ fun v F2 H2 g2 s2 hv => ⟨a, hv.toBl, by
  cases a with
  | true => exact h2 rfl F2 H2 (g1.tr g2) s2 Q fun v F3 H3 g3 s3 k => q v F3 H3 (g2.tr g3) s3 k
  | false => obtain ⟨e1, e2⟩ := h4 rfl; rw [e1] at q; rw [e2] at s2; exact q _ F2 H2 g2 s2 (.bl false)⟩
theorem d_orC {a r : Bool} (h1 : EvD K ta σ F cs (.bool a) cs1) (h2 : a = false → EvD K tb σ F cs1 (.bool r) cs2) (h4 : a = true → r = true ∧ cs1 = cs2) : EvD K (tOrV ta tb) σ F cs (.bool r) cs2 := fun F1 H1 g1 s Q q => h1 F1 H1 g1 s _ fun v F2 H2 g2 s2 hv => ⟨a, hv.toBl, by
  cases a with
  | false => exact h2 rfl F2 H2 (g1.tr g2) s2 Q fun v F3 H3 g3 s3 k => q v F3 H3 (g2.tr g3) s3 k
  | true => obtain ⟨e1, e2⟩ := h4 rfl; rw [e1] at q; rw [e2] at s2; exact q _ F2 H2 g2 s2 (.bl true)⟩
end
end Bw
namespace Bw
open PySem L2
def clsB : Stmt → List Stmt
  | .ClassDef (body := b) .. => b
  | _ => []
abbrev eT5 {α β γ δ ε : Type} (e : α → PyData) (f : β → PyData) (g : γ → PyData) (h : δ → PyData) (i : ε → PyData) (x : α × β × γ × δ × ε) : PyData := .tuple [e x.1, f x.2.1, g x.2.2.1, h x.2.2.2.1, i x.2.2.2.2]
end Bw

namespace L2
open PySem PySem.Spec PyProof.Rows
/-! an instance is made, and its __init__ may raise -/
def tMakeS (C : Addr) (sp : Sp) (E : St → XK) (t : TA) : TE := fun σ H Q => t σ H fun vs H1 => ∀ x dx, H1 x = none → H1 dx = none → dx ≠ x →
  sp (.ref x :: vs) (upd (upd H1 dx (.own x)) x (.ins C dx [])) (fun v H2 => v = .non ∧ Q (.ref x) H2) (E σ)
section
variable {X : Cx} {CX : CXT} {k : Nat} {f C : Addr} {fd : FuncData} {ps : List Str} {sp : Sp} {E : St → XK} {x m : Str} {p pos apos : Pos} {e o : Expr} {es : List Expr} {ta : TE} {t : TA}
theorem run_makeS {pins : List (Addr × Obj)} {σ : St} {H : Hp} {s : Shared} {Q : VK} {us : List Value} {vs : List V} (M : Mk X.K C f) (F : FnOk X.prog X.w X.K X.mg X.base CX k f fd ps sp) (hr : Room (k + 1) X.A) (hb : Binds X.K fd ps [])
    (hx : PassesAt CX X σ (E σ)) (I : Inv X pins σ H s) (r : Vals vs us)
    (h : ∀ x dx, H x = none → H dx = none → dx ≠ x → sp (.ref x :: vs) (upd (upd H dx (.own x)) x (.ins C dx [])) (fun v H2 => v = .non ∧ Q (.ref x) H2) (E σ)) :
    wpAny (model X.prog X.w) X.A (call (.ref C) us) (EP X pins σ Q) X.xe s := by
  have hq := h (s.heap.objs.size + 1) s.heap.objs.size (I.hok.fresh (Nat.le_succ _)) (I.hok.fresh (Nat.le_refl _)) (Nat.ne_of_lt (Nat.lt_succ_self _))
  have I2 := Inv.made (C := C) I
  have r2 : Vals (V.ref (s.heap.objs.size + 1) :: vs) (Value.ref (s.heap.objs.size + 1) :: us) := .cons rfl r
  have hl : (Value.ref (s.heap.objs.size + 1) :: us).length = ps.length := by
    have e := r2.length
    rw [F.len _ _ _ _ hq] at e
    exact e.symm
  have b := hb _ (Value.ref (s.heap.objs.size + 1) :: us) I2.kIn (by rw [List.append_nil]; exact hl)
  rw [List.append_nil] at b
  refine wpAny_call (make_map (f := f) I.kIn M.makes M.init (beq_iff_eq.mp M.fn) (codeAny_mono (F.run _ X.stack _ _ ⟨Value.ref (s.heap.objs.size + 1) :: us, []⟩ (Value.ref (s.heap.objs.size + 1) :: us) _ _ (E σ) (hr.make C us [])
    (I2.env0.make C us []) b r2 hq) fun r s' hq' => ?_))
  cases r with
  | error e => exact hx pins _ _ e s' I2 hq'
  | ok fl =>
    cases fl with
    | ret u =>
      obtain ⟨v, H', I3, rv, ev, q3⟩ := I2.after hq'
      subst ev
      exact ⟨rv, ⟨V.ref (s.heap.objs.size + 1), H', I3, rfl, q3⟩⟩
    | next => exact False.elim hq'
    | brk => exact False.elim hq'
    | cont => exact False.elim hq'
theorem pe_makeS (M : Mk X.K C f) (F : FnOk X.prog X.w X.K X.mg X.base CX k f fd ps sp) (hr : Room (k + 1) X.A) (hg : Gl X x) (hm : X.mg x = some (.ref C)) (hb : Binds X.K fd ps []) (hx : ∀ σ, PassesAt CX X σ (E σ))
    (ha : PA X (e :: es) t) (hdb : (x == ("__debug__" : Str)) = false := by decide) (he : starEach (e :: es) X.env = (false, eval e X.env) :: starEach es X.env := by rfl) (hpl : (backTo pos (starEach es X.env)).any (·.1) = false := by rfl) :
    PE X (.Call (.Name x p) (e :: es) [] pos) (tMakeS C sp E t) := by
  refine ⟨fun pins s σ H Q I h => ?_⟩
  refine wpAny_Call_Name_kw (ld_glob I hg hm ?_ hdb)
  refine PySem.W.callWith_K (h₀ := X.base) I.ok.mod.kin M.kp (thn (ha.run pos pins s σ H _ I h) fun us s1 ⟨vs, H1, I1, r, q⟩ => ⟨I1.kIn, ?_⟩) he hpl
  exact run_makeS M F hr hb (hx σ) I1 r q
end
end L2
namespace Bw
open PySem L2
/-- a promise of an __init__ that ends by an exception -/
def spMX (K : PySem.W.Frag) (C : Addr) {α : Type} (A : α → List PyData) (f : α → Option (Rs Unit)) : Sp := fun vs H _ E => ∃ F cs a dx ws x e, vs = .ref a :: ws ∧ Dts K F ws (A x) ∧ Sta F ((a, .ins C dx []) :: (dx, .own a) :: cs) H ∧ f x = some (.ex e) ∧
  ∀ d F2 H2, Gr F F2 → Sta F2 cs H2 → Xd K F2 e d → E (.ref (He.ga K e.1)) d H2
structure OkM (P : Program) (w : World) (K : PySem.W.Frag) (mg : Str → Option Value) (base : Heap) (k : Nat) (x : Str) (ps : List Str) (sp : Sp) : Prop where
  ex : ∃ fd, FnOk P w K mg base (L2.CX P w) k (He.ma K (He.ga K x) "__init__") fd ps sp ∧ Binds K fd ps []
  gm : mg x = some (.ref (He.ga K x))
  mkr : Mk K (He.ga K x) (He.ma K (He.ga K x) "__init__")
/-- a method's def -/
def DfM (K : PySem.W.Frag) (c m q : Str) (st : Stmt) : Prop := ∃ fd, FunD K m q (defArgs st) (defBody st) (defScope st) [] [] (He.ma K (He.ga K c) m) fd
section
variable {K : PySem.W.Frag} {σ : St} {F : Hp} {cs cs1 : Cs} {H : Hp} {as : TA} {W : WX}
theorem x_makeX {α : Type} {C : Addr} {A : α → List PyData} {f : α → Option (Rs Unit)} {x : α} {e : Xe} (h : EvDs K as σ F cs (A x) cs1) (hf : f x = some (.ex e)) : EvX K (tMakeS C (spMX K C A f) (WE W) as) W σ F cs (.ex e) cs1 := fun F1 H1 g1 s Q q qx =>
  h F1 H1 g1 s _ fun vs F2 H2 g2 s2 h2 => fun a dx ha hdx hne => by
    have s3 : Sta F2 ((dx, .own a) :: cs1) (upd H2 dx (.own a)) := s2.cell hdx
    have s4 : Sta F2 ((a, .ins C dx []) :: (dx, .own a) :: cs1) (upd (upd H2 dx (.own a)) a (.ins C dx [])) := s3.cell (by rw [upd_ne (Ne.symm hne)]; exact ha)
    exact ⟨F2, cs1, a, dx, vs, x, e, rfl, h2, s4, hf, fun d F3 H3 g3 s5 xd => qx e rfl d F3 H3 (g2.tr g3) s5 xd⟩
end
end Bw
namespace Bw
open PySem L2
theorem exinj {β : Type} {c e : Xe} (h : some (Rs.ex c : Rs β) = some (.ex e)) : c = e := by cases h; rfl
end Bw
namespace Bw
open PySem L2
theorem ref_inj {a b : Addr} (h : (some (Value.ref a) : Option Value) = some (Value.ref b)) : a = b := by cases h; rfl
end Bw
namespace Bw
open PySem L2
section
variable {K : PySem.W.Frag} {σ : St} {F : Hp} {te : TE}
theorem s_insGV {α : Type} {en : α → PyData} {k1 k2 m1 m2 l1 l2 : Cs} {to ti : TE} {p : Addr} {vs : List V} {xs ys : List α} {x : α} {k : Int} {nx bk ct : St → Hp → Prop} {rt : VK} {H : Hp} (s : Sta F (k1 ++ (p, .lst vs) :: k2) H) (hf : Dts K F vs (xs.map en)) (hi : VP to σ F (k1 ++ (p, .lst vs) :: k2) (.ref p))
    (h1 : EvD K ti σ F (k1 ++ (p, .lst vs) :: k2) (.int k) (m1 ++ (p, .lst vs) :: m2)) (h : EvD K te σ F (m1 ++ (p, .lst vs) :: m2) (en x) (l1 ++ (p, .lst vs) :: l2)) (hm : insM xs k x = some ys)
    (q : ∀ us F2 H2, Gr F F2 → Sta F2 (l1 ++ (p, .lst us) :: l2) H2 → Dts K F2 us (ys.map en) → nx σ H2) : tDrop (tBM K "list" rInsert to (tCons ti (tCons te tNil))) ⟨nx, rt, bk, ct⟩ σ H := by
  unfold insM at hm; split at hm
  · rename_i hl
    cases hm
    refine hi F H .rfl s _ ⟨.inl ⟨rfl, _, .inl (.inl s.getAt)⟩, h1 F H .rfl s _ fun v F2 H2 g2 s2 hv => h F2 H2 g2 s2 _ fun w F3 H3 g3 s3 hx => ⟨p, vs, k, w, rfl, by rw [hv.toInt], s3.getAt, by rw [hf.len, List.length_map]; exact szl hl.1, hl.2.1, hl.2.2, q _ F3 _ (g2.tr g3) s3.putAt ?_⟩⟩
    rw [List.map_append, List.map_append, List.map_take, List.map_drop]
    have hf3 := hf.gr (g2.tr g3)
    exact ((hf3.take _).app (.cons hx .nil)).app (hf3.drop _)
  · cases hm
end
end Bw

namespace Bw
open PySem L2
/-! a dict that is walked is locked the while -/
theorem nt_f {o : Obj} {kvs : List (Key × V)} : nTup (.frz o (.dK kvs)) := fun xs => ⟨fun z => (nomatch z), fun _ z => by cases z⟩
theorem Sta.lockAt {F : Hp} {l1 l2 : Cs} {H : Hp} {p : Addr} {o o' : HO} (s : Sta F (l1 ++ (p, o) :: l2) H) : Sta (upd F p o') (l1 ++ l2) (upd H p o') := (s.putAt (o' := o')).frozeAt
theorem Sta.unlockAt {F F2 : Hp} {l1 l2 : Cs} {H2 : Hp} {p : Addr} {o o' : HO} (g : Gr (upd F p o') F2) (s : Sta F2 (l1 ++ l2) H2) : Sta (cut F2 p) (l1 ++ (p, o) :: l2) (upd H2 p o) := (Sta.lent g s).putAt
section
variable {K : PySem.W.Frag} {σ : St} {F : Hp} {cs cs1 : Cs} {te : TE} {d : PyData}
theorem c_lock {l1 l2 m1 m2 : Cs} {p : Addr} {kvs : List (Key × V)} {ds : List PyData} (hn : noLs ds = true) (h : ∀ od F1, Gr F F1 → F1 p = none → EvC K te σ (upd F1 p (.frz od (.dK kvs))) (l1 ++ l2) ds (m1 ++ m2)) :
    EvC K (tLockE te) σ F (l1 ++ (p, .dK kvs) :: l2) ds (m1 ++ (p, .dK kvs) :: m2) := fun F1 H1 g1 s Q q => by
  refine ⟨p, .dK kvs, s.getAt, True.intro, fun od => ?_⟩
  refine h od F1 g1 s.freeAt (upd F1 p (.frz od (.dK kvs))) _ .rfl s.lockAt _ fun a vs F2 H2 g2 s2 h2 => ?_
  refine ⟨s2.fr _ _ (g2 p _ upd_same), ?_⟩
  exact q a vs (cut F2 p) _ (gr_cut s.freeAt g2) (Sta.unlockAt (l1 := (a, .lst vs) :: m1) g2 s2) (h2.cutO (g2 p _ upd_same) nt_f hn)
theorem src_items {κ ν : Type} {p : Addr} {od : Obj} {xs : List (κ × ν)} {kf : κ → Key} {vf : ν → V} {ek : κ → PyData} {ev : ν → PyData} (hk : ∀ F k, Dt K F (kV (kf k)) (ek k)) (hv : ∀ F x, Dt K F (vf x) (ev x)) (h : F p = some (.frz od (.dK (kvE kf vf xs)))) : Src K (Iti p od (kvE kf vf xs)) F (xs.map (eT2 ek ev)) := fun F1 c1 H1 g s => by
  have hH : H1 p = some (.frz od (.dK (kvE kf vf xs))) := s.fr _ _ (g _ _ h)
  have w := walk_items (d := p) (o := od) (kvs := kvE kf vf xs)
  have len : (kvE kf vf xs).length = xs.length := List.length_map ..
  refine ⟨fun i hi => w.goes i H1 (by rw [len]; simpa using hi) hH, ?_, fun i v H2 d e y => ?_⟩
  · have := w.stops H1 hH
    rw [len] at this
    rw [List.length_map]; exact this
  · rw [List.getElem?_map] at e
    cases ex : xs[i]? with
    | none => rw [ex] at e; cases e
    | some kv =>
      rw [ex] at e
      cases e
      have hi := (List.getElem?_eq_some_iff.mp ex).1
      obtain ⟨T, x, z, rfl, nT, rfl, hx, hz⟩ := w.yields i H1 v H2 (by rw [len]; exact hi) hH y
      have ek : (kvE kf vf xs)[i]? = some (kf kv.1, vf kv.2) := by unfold kvE; rw [List.getElem?_map, ex]; rfl
      dsimp only at hx hz
      rw [ek] at hx hz
      cases hx
      cases hz
      have gg := Gr.new (o := .tup [kV (kf kv.1), vf kv.2]) (s.fr.back nT)
      exact ⟨_, gg, s.lay nT, .tup (.inl (.inl upd_same)) (.cons (hk _ _) (.cons (hv _ _) .nil))⟩
theorem i_items {κ ν : Type} {p : Addr} {od : Obj} {xs : List (κ × ν)} {kf : κ → Key} {vf : ν → V} {ek : κ → PyData} {ev : ν → PyData} (hk : ∀ F k, Dt K F (kV (kf k)) (ek k)) (hv : ∀ F x, Dt K F (vf x) (ev x)) (hi : VP te σ F cs (.ref p)) (h : F p = some (.frz od (.dK (kvE kf vf xs)))) : EvI K (iItems te) σ F cs (xs.map (eT2 ek ev)) cs := fun F1 H1 g1 s R q =>
  hi F1 H1 g1 s _ ⟨p, od, _, rfl, s.fr _ _ (g1 _ _ h), q _ F1 H1 .rfl s (src_items hk hv (g1 _ _ h))⟩
end
end Bw

namespace Bw
open PySem L2
section
variable {K : PySem.W.Frag} {σ : St} {F : Hp} {cs cs1 cs2 : Cs} {te : TE} {d : PyData}
/-! comprehensions whose tests and elements change cells -/
theorem c_lcT {S α β : Type} {wi : TI} {g : TG} {tt : TT} {vs : List Nat} {xs : List α} {en : α → PyData} {em : β → PyData} {f : S → α → Option (S × Option β)} {ys : List β} {s0 s1 : S} (cc : S → Cs)
    (hi : EvI K wi σ F cs (xs.map en) (cc s0)) (hm : lcSC f s0 xs = some (s1, ys))
    (turn : ∀ x z z' o v F1 p us, Gr F F1 → Dt K F1 v (en x) → f z x = some (z', o) → ∃ (σ2 : St) (z1 : S), (∀ H (Q : St → Hp → Prop), Sta F1 ((p, .lst us) :: cc z) H → Q σ2 H → g v (wipe σ vs) H Q) ∧ wipe σ2 vs = wipe σ vs ∧
      EvT tt σ2 F1 ((p, .lst us) :: cc z) o.isSome ((p, .lst us) :: cc z1) ∧ (o = none → z' = z1) ∧ ∀ y, o = some y → EvD K te σ2 F1 ((p, .lst us) :: cc z1) (em y) ((p, .lst us) :: cc z')) :
    EvC K (tLc wi g tt te vs) σ F cs (ys.map em) (cc s1) := fun F1 H1 g1 s Q q => by
  unfold lcSC at hm
  split at hm
  case isFalse => cases hm
  rename_i hl
  refine hi F1 H1 g1 s _ fun J F2 H2 g2 s2 hs => ?_
  intro p hp
  have s3 : Sta F2 ((p, .lst []) :: cc s0) (upd H2 p (.lst [])) := s2.cell hp
  refine ⟨fun i m H4 => m = xs.length - i ∧ i ≤ xs.length ∧ ∃ us done rest z F4, us.length ≤ i ∧ Gr F2 F4 ∧ Sta F4 ((p, .lst us) :: cc z) H4 ∧ Dts K F4 us (done.map em) ∧ lcS f z (xs.drop i) = some (s1, rest) ∧ done ++ rest = ys,
    ⟨xs.length, by simp, Nat.zero_le _, [], [], ys, s0, F2, Nat.le_refl _, .rfl, s3, .nil, by simpa using hm, rfl⟩, ?_⟩
  rintro i m H4 ⟨rfl, hi, us, done, rest, z, F4, hu, g4, s4, hd, hr, he⟩
  obtain ⟨hgo, hstop, hy⟩ := hs F4 _ H4 g4 s4
  by_cases hlt : i < xs.length
  · rw [List.drop_eq_getElem_cons hlt] at hr
    obtain ⟨⟨z', o⟩, ho, hr⟩ := bnd (show (f z xs[i]).bind _ = some (s1, rest) from hr)
    obtain ⟨⟨s1', zs⟩, hz, hr⟩ := bnd hr
    dsimp only at hz hr
    refine .inr ⟨hgo i (by simpa using hlt), fun H' => i + 1 ≤ xs.length ∧ ∃ us done rest z F4, us.length ≤ i + 1 ∧ Gr F2 F4 ∧ Sta F4 ((p, .lst us) :: cc z) H' ∧ Dts K F4 us (done.map em) ∧ lcS f z (xs.drop (i + 1)) = some (s1, rest) ∧ done ++ rest = ys, fun H' h' => ⟨xs.length - (i + 1), by omega, rfl, h'⟩, fun x H' y => ?_⟩
    obtain ⟨F5, g5, s5, d5⟩ := hy i x H' (en xs[i]) (by rw [List.getElem?_map, List.getElem?_eq_getElem hlt]; rfl) y
    obtain ⟨σ2, z1, h1, h2, h3, hn, h4⟩ := turn xs[i] z z' o x F5 p us (g1.tr (g2.tr (g4.tr g5))) d5 ho
    refine h1 H' _ s5 ⟨h2, h3 F5 H' .rfl s5 _ fun F6 H6 g6 s6 => ?_⟩
    cases o with
    | none =>
      cases hr
      cases hn rfl
      exact ⟨hlt, us, done, zs, z', F6, Nat.le_succ_of_le hu, g4.tr (g5.tr g6), s6, hd.gr (g5.tr g6), hz, he⟩
    | some y1 =>
      cases hr
      refine (h4 y1 rfl) F6 H6 g6 s6 _ fun v F7 H7 g7 s7 hv => ⟨us, s7.at List.mem_cons_self, szl (by omega), hlt, us ++ [v], done ++ [y1], zs, z', F7, by rw [List.length_append]; exact Nat.succ_le_succ hu, g4.tr (g5.tr (g6.tr g7)), s7.put, ?_, hz, ?_⟩
      · rw [List.map_append]
        exact (hd.gr (g5.tr (g6.tr g7))).app (.cons hv .nil)
      · rw [List.append_assoc]; exact he
  · have e : i = xs.length := by omega
    subst e
    rw [List.drop_length] at hr
    cases hr
    rw [List.append_nil] at he
    subst he
    exact .inl ⟨by simpa using hstop, q p us F4 H4 (g2.tr g4) s4 hd⟩
/-! tests that may raise -/
def EvTX (K : PySem.W.Frag) (tt : TT) (W : WX) (σ : St) (F : Hp) (cs : Cs) (r : Rs Bool) (cs' : Cs) : Prop :=
  ∀ F1 H1, Gr F F1 → Sta F1 cs H1 → ∀ Q : Bool → Hp → Prop, (∀ b, r = .ok b → ∀ F2 H2, Gr F1 F2 → Sta F2 cs' H2 → Q b H2) → (∀ c, r = .ex c → ∀ d F2 H2, Gr F1 F2 → Sta F2 cs' H2 → Xd K F2 c d → W (.ref (He.ga K c.1)) d σ H2) → tt σ H1 Q
def andXM (a : Rs Bool) (b : Unit → Option (Rs Bool)) : Option (Rs Bool) := match a with
  | .ok true => b ()
  | .ok false => some (.ok false)
  | .ex c => some (.ex c)
def orXM (a : Rs Bool) (b : Unit → Option (Rs Bool)) : Option (Rs Bool) := match a with
  | .ok false => b ()
  | .ok true => some (.ok true)
  | .ex c => some (.ex c)
variable {W : WX} {t u : TT}
theorem tx_of {b : Bool} (h : EvT t σ F cs b cs1) : EvTX K t W σ F cs (.ok b) cs1 := fun F1 H1 g1 s Q q _ => h F1 H1 g1 s _ fun F2 H2 g2 s2 => q b rfl F2 H2 g2 s2
theorem tx_and {a r : Rs Bool} {b : Unit → Option (Rs Bool)} (h1 : EvTX K t W σ F cs a cs1) (hm : andXM a b = some r) (h2 : ∀ r', b () = some r' → EvTX K u W σ F cs1 r' cs1) : EvTX K (tAnd t u) W σ F cs r cs1 := fun F1 H1 g1 s Q q qx =>
  h1 F1 H1 g1 s _ (fun b' hb F2 H2 g2 s2 => by
    subst hb
    cases b' with
    | true => exact (h2 r hm) F2 H2 (g1.tr g2) s2 Q (fun b e F3 H3 g3 s3 => q b e F3 H3 (g2.tr g3) s3) fun c e d F3 H3 g3 s3 xd => qx c e d F3 H3 (g2.tr g3) s3 xd
    | false =>
      cases (show some (Rs.ok false) = some r from hm)
      exact q false rfl F2 H2 g2 s2) fun c hc d F2 H2 g2 s2 xd => by
    subst hc
    cases (show some (Rs.ex c) = some r from hm)
    exact qx c rfl d F2 H2 g2 s2 xd
theorem tx_or {a r : Rs Bool} {b : Unit → Option (Rs Bool)} (h1 : EvTX K t W σ F cs a cs1) (hm : orXM a b = some r) (h2 : ∀ r', b () = some r' → EvTX K u W σ F cs1 r' cs1) : EvTX K (tOr t u) W σ F cs r cs1 := fun F1 H1 g1 s Q q qx =>
  h1 F1 H1 g1 s _ (fun b' hb F2 H2 g2 s2 => by
    subst hb
    cases b' with
    | false => exact (h2 r hm) F2 H2 (g1.tr g2) s2 Q (fun b e F3 H3 g3 s3 => q b e F3 H3 (g2.tr g3) s3) fun c e d F3 H3 g3 s3 xd => qx c e d F3 H3 (g2.tr g3) s3 xd
    | true =>
      cases (show some (Rs.ok true) = some r from hm)
      exact q true rfl F2 H2 g2 s2) fun c hc d F2 H2 g2 s2 xd => by
    subst hc
    cases (show some (Rs.ex c) = some r from hm)
    exact qx c rfl d F2 H2 g2 s2 xd
theorem tx_v {r : Rs Bool} (h : EvX K te W σ F cs (r.map PyData.bool) cs1) : EvTX K (tB te) W σ F cs r cs1 := fun F1 H1 g1 s Q q qx =>
  h F1 H1 g1 s _ (fun d hd v F2 H2 g2 s2 hv => by
    cases r with
    | ok b => cases hd; exact ⟨b, hv.toBl, q b rfl F2 H2 g2 s2⟩
    | ex c => cases hd) fun c hc d F2 H2 g2 s2 xd => by
    cases r with
    | ok b => cases hc
    | ex c' => cases hc; exact qx c rfl d F2 H2 g2 s2 xd
theorem tx_test {r : Rs Bool} (h : EvX K te W σ F cs (r.map PyData.bool) cs1) : EvTX K (tTest te) W σ F cs r cs1 := tx_v h
theorem x_isN {α : Type} {r : Rs α} (h : EvX K te W σ F cs (r.map fun _ => PyData.none) cs1) : EvX K (tOp rIsN te (tC .non)) W σ F cs ((r.map fun _ => true).map PyData.bool) cs1 := fun F1 H1 g1 s Q q qx =>
  h F1 H1 g1 s _ (fun d hd v F2 H2 g2 s2 hv => by
    cases r with
    | ok b =>
      cases hd
      cases hv.toNon
      exact ⟨rfl, q _ rfl _ F2 H2 g2 s2 (.bl _)⟩
    | ex c => cases hd) fun c hc d F2 H2 g2 s2 xd => by
    cases r with
    | ok b => cases hc
    | ex c' => cases hc; exact qx c rfl d F2 H2 g2 s2 xd
theorem x_isi {α : Type} {e : α → PyData} {r : Rs α} {c : String} (hc : c ∈ isiK) (h : EvX K te W σ F cs (r.map e) cs1) : EvX K (tCB (rIsi K) (tCons te (tCons (tC (.ty c)) tNil))) W σ F cs ((r.map fun y => isiD c (e y)).map PyData.bool) cs1 := fun F1 H1 g1 s Q q qx =>
  h F1 H1 g1 s _ (fun d hd v F2 H2 g2 s2 hv => by
    cases r with
    | ok b =>
      cases hd
      exact ⟨v, .ty c, .type (kindD (e b)), .type c, isiD c (e b), rfl, .ty c, ty_of s2.fr hv, kit_isi hc (e b), q _ rfl _ F2 H2 g2 s2 (.bl _)⟩
    | ex c => cases hd) fun c hc d F2 H2 g2 s2 xd => by
    cases r with
    | ok b => cases hc
    | ex c' => cases hc; exact qx c rfl d F2 H2 g2 s2 xd
theorem s_ifX {c : TT} {r r' : Rs Bool} {t u : TS} {H : Hp} {nx bk ct : St → Hp → Prop} {rt : VK} (s : Sta F cs H) (h : EvTX K c W σ F cs r cs1) (e : r = r') (qt : r' = .ok true → ∀ F2 H2, Gr F F2 → Sta F2 cs1 H2 → t ⟨nx, rt, bk, ct⟩ σ H2) (qf : r' = .ok false → ∀ F2 H2, Gr F F2 → Sta F2 cs1 H2 → u ⟨nx, rt, bk, ct⟩ σ H2)
    (qx : ∀ c, r' = .ex c → ∀ d F2 H2, Gr F F2 → Sta F2 cs1 H2 → Xd K F2 c d → W (.ref (He.ga K c.1)) d σ H2) : tIfS c t u ⟨nx, rt, bk, ct⟩ σ H := by
  subst e
  exact h F H .rfl s _ (fun b hb F2 H2 g2 s2 => by
    cases b with
    | true => exact qt hb F2 H2 g2 s2
    | false => exact qf hb F2 H2 g2 s2) qx
end
end Bw
namespace Bw
open PySem L2
/-! in range(n) -/
abbrev rRange1 : List V → Hp → VK → Prop := fun vs H Q => ∃ j, vs = [V.int j] ∧ ∀ p, H p = none → Q (.ref p) (upd H p (.rng 0 j))
theorem cr_range1' {X : Cx} : CallR X (.type "range") rRange1 := by
  intro pins s σ H vs us Q I r h
  obtain ⟨j, rfl, q⟩ := h
  obtain ⟨u1, rfl, rj⟩ := vals1 r
  obtain ⟨u, rfl⟩ := rj
  refine call_range_1 ⟨.ref s.heap.objs.size, upd H s.heap.objs.size (.rng 0 j), I.laid (t' := s.toks + 1 + 1) (fun b o e => Heap.get?_push_of_some _ e) (Nat.le_refl _) ?_, rfl, q _ (I.hok.fresh (Nat.le_refl _))⟩
  exact ⟨s.toks, u, s.toks + 1, Heap.get?_push_size _ rfl⟩
section
variable {K : PySem.W.Frag} {σ : St} {F : Hp} {cs cs1 cs2 : Cs} {ta : TE} {as : TA} {a c : Int}
theorem d_inRng1 (ha : EvD K ta σ F cs (.int a) cs1) (hb : EvDs K as σ F cs1 [.int c] cs2) : EvD K (tOp rInRng ta (tCB rRange1 as)) σ F cs (.bool (decide (0 ≤ a ∧ a < c))) cs2 := fun F1 H1 g1 s Q q =>
  ha F1 H1 g1 s _ fun v F2 H2 g2 s2 h2 => hb F2 H2 (g1.tr g2) s2 _ fun vs F3 H3 g3 s3 h3 => by
    cases h2.toInt
    obtain ⟨w, rfl, k1⟩ := h3.one; cases k1.toInt
    exact ⟨c, rfl, fun p hp => ⟨a, p, 0, c, rfl, rfl, upd_same, q _ _ _ ((g2.tr g3).tr (Gr.new (s3.fr.back hp))) (s3.lay hp) (.bl _)⟩⟩
theorem d_ninRng1 (ha : EvD K ta σ F cs (.int a) cs1) (hb : EvDs K as σ F cs1 [.int c] cs2) : EvD K (tOp rNinRng ta (tCB rRange1 as)) σ F cs (.bool (!decide (0 ≤ a ∧ a < c))) cs2 := fun F1 H1 g1 s Q q =>
  ha F1 H1 g1 s _ fun v F2 H2 g2 s2 h2 => hb F2 H2 (g1.tr g2) s2 _ fun vs F3 H3 g3 s3 h3 => by
    cases h2.toInt
    obtain ⟨w, rfl, k1⟩ := h3.one; cases k1.toInt
    exact ⟨c, rfl, fun p hp => ⟨a, p, 0, c, rfl, rfl, upd_same, q _ _ _ ((g2.tr g3).tr (Gr.new (s3.fr.back hp))) (s3.lay hp) (.bl _)⟩⟩
end
end Bw
namespace Bw
open PySem L2
section
variable {K : PySem.W.Frag} {σ : St} {F : Hp} {cs cs1 cs2 : Cs} {ta tb : TE}
theorem d_inTI {x : Int} {xs : List Int} (ha : EvD K ta σ F cs (.int x) cs1) (hb : EvD K tb σ F cs1 (.tuple (xs.map eI)) cs2) : EvD K (tOp (rIn K false) ta tb) σ F cs (.bool (inL x xs)) cs2 :=
  d_op ha hb fun _ y F2 H2 hx hy s _ Q q => by
    cases hx.toInt
    obtain ⟨p, vs, rfl, hl, hd⟩ := hy.toTup
    cases hd.ints
    refine ⟨p, _, rfl, .inr (gr_T s.fr hl), rfl, flatI xs, q _ F2 H2 .rfl s ?_⟩
    rw [inV_int]; exact .bl _
theorem d_ninTI {x : Int} {xs : List Int} (ha : EvD K ta σ F cs (.int x) cs1) (hb : EvD K tb σ F cs1 (.tuple (xs.map eI)) cs2) : EvD K (tOp (rIn K true) ta tb) σ F cs (.bool (!inL x xs)) cs2 :=
  d_op ha hb fun _ y F2 H2 hx hy s _ Q q => by
    cases hx.toInt
    obtain ⟨p, vs, rfl, hl, hd⟩ := hy.toTup
    cases hd.ints
    refine ⟨p, _, rfl, .inr (gr_T s.fr hl), rfl, flatI xs, q _ F2 H2 .rfl s ?_⟩
    rw [inV_int]; exact .bl _
theorem d_inTS {x : Str} {xs : List Str} (ha : EvD K ta σ F cs (.str x) cs1) (hb : EvD K tb σ F cs1 (.tuple (xs.map eS)) cs2) : EvD K (tOp (rIn K false) ta tb) σ F cs (.bool (inL x xs)) cs2 :=
  d_op ha hb fun _ y F2 H2 hx hy s _ Q q => by
    cases hx.toStr
    obtain ⟨p, vs, rfl, hl, hd⟩ := hy.toTup
    cases hd.strs
    refine ⟨p, _, rfl, .inr (gr_T s.fr hl), rfl, flatS xs, q _ F2 H2 .rfl s ?_⟩
    rw [inV_str]; exact .bl _
theorem d_ninTS {x : Str} {xs : List Str} (ha : EvD K ta σ F cs (.str x) cs1) (hb : EvD K tb σ F cs1 (.tuple (xs.map eS)) cs2) : EvD K (tOp (rIn K true) ta tb) σ F cs (.bool (!inL x xs)) cs2 :=
  d_op ha hb fun _ y F2 H2 hx hy s _ Q q => by
    cases hx.toStr
    obtain ⟨p, vs, rfl, hl, hd⟩ := hy.toTup
    cases hd.strs
    refine ⟨p, _, rfl, .inr (gr_T s.fr hl), rfl, flatS xs, q _ F2 H2 .rfl s ?_⟩
    rw [inV_str]; exact .bl _
end
end Bw
namespace Bw
open PySem L2
/-! list(range(n)) -/
def lrgM (a b : Int) : Option (List Int) := (rngM a b).bind fun xs => if xs.length ≤ 100000 then some xs else none
theorem c_listRg1 {K : PySem.W.Frag} {σ : St} {F : Hp} {cs cs1 : Cs} {ta : TE} {n : Int} {xs : List Int} (h : EvD K ta σ F cs (.int n) cs1) (hm : lrgM 0 n = some xs) : EvC K (tLstRg (tRg1 ta)) σ F cs (xs.map eI) cs1 := fun F1 H1 g1 s Q q => by
  obtain ⟨ys, h1, h2⟩ := bnd hm
  obtain ⟨hr, rfl⟩ := rngM_some h1
  split at h2
  case isFalse => cases h2
  rename_i hl
  cases h2
  refine h F1 H1 g1 s _ fun v F2 H2 g2 s2 hv => ?_
  cases hv.toInt
  have e : rgV 0 n = (rngL 0 n).map V.int := by unfold rgV rngL; rw [List.map_map]; rfl
  refine ⟨n, rfl, ⟨hr.1, hr.2.1, hr.2.2.1, hr.2.2.2, ?_⟩, fun p hp => ?_⟩
  · unfold rngL at hl; rw [List.length_map, List.length_range] at hl; omega
  · rw [e]
    exact q p _ F2 _ g2 (s2.cell hp) (Dts.of_ints _)
end Bw

namespace Bw
open PySem L2
def top (i : Nat) : Stmt := PySem.Challenge.pw_baycart_k25_claims_of_papers.main.body.getD i (.Pass ⟨0, 0, 0, 0⟩)
abbrev s_source : Stmt := (top 30)
def f_source : (Int × Int) → Option (List Int) := fun (cell_here_1, k_2) => (letM (absI cell_here_1) fun number_7 => (letM (((((number_7 % (1000003 : Int)) + ((104729 : Int) * k_2)) + (7 : Int)) * (48271 : Int)) % (2147483647 : Int)) fun seed_13 => (((mulM number_7 (b2I (decide ((1000000000000000000 : Int) ≤ number_7))))).bind fun x15 => some ([x15, seed_13] : (List Int)))))
abbrev A_source : (Int × Int) → List Ar := fun x => [.d (eI x.1), .d (eI x.2)]
abbrev B_source : (List Int) → List PyData := fun y => y.map eI
abbrev C_source : (List Int) → List (List V) := fun y => []
abbrev N_source : List Str := ["_law_cell_here", "_law_k", "_law_number", "_law_seed"]
abbrev sp_source (K : PySem.W.Frag) : Sp := spF K A_source B_source C_source f_source
def t_source (K : PySem.W.Frag) : TS := (tSeq (tAsg (tCB rAbs (tCons (tVar 0) tNil)) (gName 2)) (tSeq (tAsg (tOp (rI (fun _ j => 0 < j) fun i j => .int (i % j)) (tOp (rI CMul fun i j => .int (i * j)) (tOp (rI0 fun i j => .int (i + j)) (tOp (rI0 fun i j => .int (i + j)) (tOp (rI (fun _ j => 0 < j) fun i j => .int (i % j)) (tVar 2) (tC (.int 1000003))) (tOp (rI CMul fun i j => .int (i * j)) (tC (.int 104729)) (tVar 1))) (tC (.int 7))) (tC (.int 48271))) (tC (.int 2147483647))) (gName 3)) (tRet (tLst (tCons (tOp (rI CMul fun i j => .int (i * j)) (tVar 2) (tCB rInt (tCons (tOp (rI0 fun i j => .bl (decide (j ≤ i))) (tVar 2) (tOp (rI CPow fun i j => .int (i ^ j.toNat)) (tC (.int 10)) (tC (.int 18)))) tNil))) (tCons (tVar 3) tNil))))))
theorem w_source {K : PySem.W.Frag} (vs : List V) (H : Hp) (Q : VK) (E : XK) (h : sp_source K vs H Q E) : t_source K { nx := fun _ H' => Q .non H', rt := Q } (start N_source vs) H := by
  obtain ⟨F0, cc, cs, ⟨cell_here_1, k_2⟩, y, h0, hS0, m, q⟩ := h
  obtain ⟨a0, _, rfl, ha0, h1⟩ := ArgR.hd h0
  obtain ⟨a1, _, rfl, ha1, h2⟩ := ArgR.hd h1
  obtain ⟨rfl, rfl⟩ := ArgR.no h2
  obtain rfl := Dt.toInt ha0
  obtain rfl := Dt.toInt ha1
  unfold f_source at m
  try dsimp only at m
  unfold t_source
  refine go (σ' := [some (.int cell_here_1), some (.int k_2), none, none]) rfl ?_
  obtain ⟨number_7, k8, m⟩ := lt m
  refine s_setV (K := K) (d := eI number_7) (i := 2) (σ' := [some (.int cell_here_1), some (.int k_2), some (.int number_7), none]) (fun _ _ h => Dt.toInt h) hS0 (d_is (d_abs (a_cons (d_var rfl (.int _)) a_nil)) (congrArg eI k8)) rfl (fun F3 H4 g5 hS6 => ?_)
  obtain ⟨seed_13, k14, m⟩ := lt m
  refine s_setV (K := K) (d := eI seed_13) (i := 3) (σ' := [some (.int cell_here_1), some (.int k_2), some (.int number_7), some (.int seed_13)]) (fun _ _ h => Dt.toInt h) hS6 (d_is (d_modC (d_mulC (d_add (d_add (d_modC (d_var rfl (.int _)) d_int (by decide)) (d_mulC d_int (d_var rfl (.int _)) (.inl ⟨by decide, by decide⟩))) d_int) d_int (.inr ⟨by decide, by decide⟩)) d_int (by decide)) (congrArg eI k14)) rfl (fun F9 H10 g11 hS12 => ?_)
  obtain ⟨x15, k16, m⟩ := bnd m
  refine s_retC (K := K) (ds := ([x15, seed_13] : (List Int)).map eI) hS12 (c_lst (a_cons (d_mul (d_var rfl (.int _)) (d_intB (a_cons (d_ge (d_var rfl (.int _)) (d_is (e := PyData.int 1000000000000000000) (d_powC d_int d_int ⟨by decide, by decide, by decide⟩) (congrArg PyData.int (by decide)))) a_nil)) k16) (a_cons (d_var rfl (.int _)) a_nil)) (Nat.le_of_ble_eq_true rfl)) (fun p21 us22 F17 H18 g19 hS20 hu23 => ?_)
  obtain rfl := sm m
  exact q _ _ _ _ (Gr.tr g5 (Gr.tr g11 g19)) hS20 hu23
theorem sc_source : FnScope N_source ["_law_cell_here", "_law_k"] (defScope s_source) := ⟨rfl, rfl, rfl, by decide +kernel, rfl, by decide +kernel, by decide +kernel⟩
theorem ok_source {P : Program} {w : World} {K : PySem.W.Frag} {mg : Str → Option Value} {base : Heap} (hF : Df K mg "_law_source" s_source) (m_abs : mg "abs" = none) (m_int : mg "int" = none) : Ok P w K mg base 1 "_law_source" ["_law_cell_here", "_law_k"] (sp_source K) := by
  obtain ⟨⟨fd, F⟩, gm⟩ := hF
  refine ⟨⟨fd, F.ok sc_source (fun vs H Q E h => ?_) (fun cdv A outer s H vs Q E hr h => ⟨t_source K, PSs.nox ?_, w_source vs H Q E h⟩), F.bindsN fun _ _ _ _ _ _ us hl => match us, hl with | [_, _], _ => rfl, lk_of F⟩, F.kp, gm⟩
  · obtain ⟨F0, cc, cs, x, y, h, _⟩ := h; exact ArgR.len h
  · exact (pss_cons (ps_set (i := 2) sc_source.nd rfl (Or.inl rfl) (pe_callB cr_abs (by rfl) m_abs (by decide +kernel) (pa_cons (pv 0) pa_nil))) (pss_cons (ps_set (i := 3) sc_source.nd rfl (Or.inl rfl) (pe_op op_mod (pe_op op_mul (pe_op op_add (pe_op op_add (pe_op op_mod (pv 2) pe_int) (pe_op op_mul pe_int (pv 1))) pe_int) pe_int) pe_int)) (pss_one (ps_ret (pe_lst (pa_cons (pe_op op_mul (pv 2) (pe_callTy cr_int (by rfl) m_int (by decide +kernel) (pa_cons (pe_cmpR op_ge (pv 2) (pe_op op_pow pe_int pe_int) (nomark _)) pa_nil))) (pa_cons (pv 3) pa_nil)))))))
abbrev s_draw : Stmt := (top 31)
def f_draw : ((List Int) × Int) → Option (Int × (List Int)) := fun (source_here_1, many_2) => (((atI source_here_1 (0 : Int))).bind fun x6 => (if (decide ((0 : Int) < x6)) = true then (((atI source_here_1 (0 : Int))).bind fun x15 => ((modM x15 many_2)).bind fun x17 => (((atI source_here_1 (0 : Int))).bind fun x26 => ((fdivM x26 many_2)).bind fun x28 => ((setM source_here_1 (0 : Int) x28)).bind fun source_here_30 => some (x17, source_here_30))) else (((atI source_here_1 (1 : Int))).bind fun x49 => ((setM source_here_1 (1 : Int) (((x49 * (48271 : Int)) + (11 : Int)) % (2147483647 : Int)))).bind fun source_here_51 => (((atI source_here_51 (1 : Int))).bind fun x60 => ((atI source_here_51 (1 : Int))).bind fun x62 => ((mulM x60 x62)).bind fun x64 => ((modM ((x64 % (2147483629 : Int)) / (64 : Int)) many_2)).bind fun x66 => some (x66, source_here_51)))))
abbrev A_draw : ((List Int) × Int) → List Ar := fun x => [.c (x.1.map V.int), .d (eI x.2)]
abbrev B_draw : (Int × (List Int)) → PyData := fun y => eI y.1
abbrev C_draw : (Int × (List Int)) → List (List V) := fun y => [y.2.map V.int]
abbrev N_draw : List Str := ["_law_source_here", "_law_many", "_law_digit"]
abbrev sp_draw (K : PySem.W.Frag) : Sp := spC K A_draw B_draw C_draw f_draw
def t_draw (K : PySem.W.Frag) : TS := (tSeq (tIfS (tTest (tOp (rI0 fun i j => .bl (decide (j < i))) (tOp (rIxL K) (tVar 0) (tC (.int 0))) (tC (.int 0)))) (tSeq (tAsg (tOp (rI (fun _ j => 0 < j) fun i j => .int (i % j)) (tOp (rIxL K) (tVar 0) (tC (.int 0))) (tVar 1)) (gName 2)) (tSeq (tAsg (tOp (rI CDiv fun i j => .int (i / j)) (tOp (rIxL K) (tVar 0) (tC (.int 0))) (tVar 1)) (gSub (tVar 0) (tC (.int 0)) rSetL)) (tRet (tVar 2)))) tNext) (tSeq (tAsg (tOp (rI (fun _ j => 0 < j) fun i j => .int (i % j)) (tOp (rI0 fun i j => .int (i + j)) (tOp (rI CMul fun i j => .int (i * j)) (tOp (rIxL K) (tVar 0) (tC (.int 1))) (tC (.int 48271))) (tC (.int 11))) (tC (.int 2147483647))) (gSub (tVar 0) (tC (.int 1)) rSetL)) (tRet (tOp (rI (fun _ j => 0 < j) fun i j => .int (i % j)) (tOp (rI CDiv fun i j => .int (i / j)) (tOp (rI (fun _ j => 0 < j) fun i j => .int (i % j)) (tOp (rI CMul fun i j => .int (i * j)) (tOp (rIxL K) (tVar 0) (tC (.int 1))) (tOp (rIxL K) (tVar 0) (tC (.int 1)))) (tC (.int 2147483629))) (tC (.int 64))) (tVar 1)))))
theorem w_draw {K : PySem.W.Frag} (vs : List V) (H : Hp) (Q : VK) (E : XK) (h : sp_draw K vs H Q E) : t_draw K { nx := fun _ H' => Q .non H', rt := Q } (start N_draw vs) H := by
  obtain ⟨F0, cc, cs, ⟨source_here_1, many_2⟩, y, h0, hS0, m, q⟩ := h
  obtain ⟨a0, _, _, rfl, rfl, h1⟩ := ArgR.hc h0
  obtain ⟨a1, _, rfl, ha1, h2⟩ := ArgR.hd h1
  obtain ⟨rfl, rfl⟩ := ArgR.no h2
  obtain rfl := Dt.toInt ha1
  unfold f_draw at m
  try dsimp only at m
  unfold t_draw
  refine go (σ' := [some (.ref a0), some (.int many_2), none]) rfl ?_
  obtain ⟨x6, k7, m⟩ := bnd m
  refine s_if (b := (decide ((0 : Int) < x6))) hS0 (t_lendX (l1 := []) (m1 := []) (fun F3 g4 hn5 => (t_test (K := K) (d_gt (d_ix (e := eI) (d_var rfl (lent_l hn5 (Dts.gr g4 (Dts.of_ints _)))) d_int k7) d_int)))) (fun hc F8 H9 g10 hS11 => ?_) (fun hc F42 H43 g44 hS45 => ?_)
  · rw [if_pos hc] at m
    obtain ⟨x15, k16, m⟩ := bnd m
    obtain ⟨x17, k18, m⟩ := bnd m
    refine s_setV (K := K) (d := eI x17) (i := 2) (σ' := [some (.ref a0), some (.int many_2), some (.int x17)]) (fun _ _ h => Dt.toInt h) hS11 (d_lendX (l1 := []) (m1 := []) (fun _ _ h => Dt.toInt h) (fun _ => (.int _)) (fun F12 g13 hn14 => (d_mod (d_ix (e := eI) (d_var rfl (lent_l hn14 (Dts.gr g13 (Dts.of_ints _)))) d_int k16) (d_var rfl (.int _)) k18))) rfl (fun F19 H20 g21 hS22 => ?_)
    obtain ⟨x26, k27, m⟩ := bnd m
    obtain ⟨x28, k29, m⟩ := bnd m
    obtain ⟨source_here_30, k31, m⟩ := bnd m
    refine s_itemFV (K := K) (k1 := []) (m1 := []) (x := x28) (l1 := []) (p := a0) (vf := V.int) (en := eI) (fun _ _ _ h => Dt.toInt h) hS22 (vp_var rfl) (d_lendX (l1 := []) (m1 := []) (fun _ _ h => Dt.toInt h) (fun _ => (.int _)) (fun F23 g24 hn25 => (d_fdiv (d_ix (e := eI) (d_var rfl (lent_l hn25 (Dts.gr g24 (Dts.of_ints _)))) d_int k27) (d_var rfl (.int _)) k29))) d_int k31 (fun F32 H33 g34 hS35 => ?_)
    refine s_ret (K := K) (d := eI x17) hS35 (d_var rfl (.int _)) (fun v40 F36 H37 g38 hS39 hv41 => ?_)
    obtain rfl := sm m
    exact q _ _ _ (Gr.tr g10 (Gr.tr g21 (Gr.tr g34 g38))) hS39 hv41
  · rw [if_neg (bf hc)] at m
    refine nxt ?_
    obtain ⟨x49, k50, m⟩ := bnd m
    obtain ⟨source_here_51, k52, m⟩ := bnd m
    refine s_itemFV (K := K) (k1 := []) (m1 := []) (x := (((x49 * (48271 : Int)) + (11 : Int)) % (2147483647 : Int))) (l1 := []) (p := a0) (vf := V.int) (en := eI) (fun _ _ _ h => Dt.toInt h) hS45 (vp_var rfl) (d_lendX (l1 := []) (m1 := []) (fun _ _ h => Dt.toInt h) (fun _ => (.int _)) (fun F46 g47 hn48 => (d_modC (d_add (d_mulC (d_ix (e := eI) (d_var rfl (lent_l hn48 (Dts.gr g47 (Dts.of_ints _)))) d_int k50) d_int (.inr ⟨by decide, by decide⟩)) d_int) d_int (by decide)))) d_int k52 (fun F53 H54 g55 hS56 => ?_)
    obtain ⟨x60, k61, m⟩ := bnd m
    obtain ⟨x62, k63, m⟩ := bnd m
    obtain ⟨x64, k65, m⟩ := bnd m
    obtain ⟨x66, k67, m⟩ := bnd m
    refine s_ret (K := K) (d := eI x66) hS56 (d_lendX (l1 := []) (m1 := []) (fun _ _ h => Dt.toInt h) (fun _ => (.int _)) (fun F57 g58 hn59 => (d_mod (d_fdivC (d_modC (d_mul (d_ix (e := eI) (d_var rfl (lent_l hn59 (Dts.gr g58 (Dts.of_ints _)))) d_int k61) (d_ix (e := eI) (d_var rfl (lent_l hn59 (Dts.gr g58 (Dts.of_ints _)))) d_int k63) k65) d_int (by decide)) d_int ⟨by decide, by decide⟩) (d_var rfl (.int _)) k67))) (fun v72 F68 H69 g70 hS71 hv73 => ?_)
    obtain rfl := sm m
    exact q _ _ _ (Gr.tr g44 (Gr.tr g55 g70)) hS71 hv73
theorem sc_draw : FnScope N_draw ["_law_source_here", "_law_many"] (defScope s_draw) := ⟨rfl, rfl, rfl, by decide +kernel, rfl, by decide +kernel, by decide +kernel⟩
theorem ok_draw {P : Program} {w : World} {K : PySem.W.Frag} {mg : Str → Option Value} {base : Heap} (hF : Df K mg "_law_draw" s_draw) : Ok P w K mg base 1 "_law_draw" ["_law_source_here", "_law_many"] (sp_draw K) := by
  obtain ⟨⟨fd, F⟩, gm⟩ := hF
  refine ⟨⟨fd, F.ok sc_draw (fun vs H Q E h => ?_) (fun cdv A outer s H vs Q E hr h => ⟨t_draw K, PSs.nox ?_, w_draw vs H Q E h⟩), F.bindsN fun _ _ _ _ _ _ us hl => match us, hl with | [_, _], _ => rfl, lk_of F⟩, F.kp, gm⟩
  · obtain ⟨F0, cc, cs, x, y, h, _⟩ := h; exact ArgR.len h
  · exact (pss_cons (ps_if (pt_cmpR op_gt (pe_ix ix_list (pv 0) pe_int (fun _ _ => rfl)) pe_int (nomark _)) (pss_cons (ps_set (i := 2) sc_draw.nd rfl (Or.inl rfl) (pe_op op_mod (pe_ix ix_list (pv 0) pe_int (fun _ _ => rfl)) (pv 1))) (pss_cons (ps_asg (pe_op op_fdiv (pe_ix ix_list (pv 0) pe_int (fun _ _ => rfl)) (pv 1)) (pg_sub (pv 0) pe_int set_list)) (pss_one (ps_ret (pv 2))))) pss_nil) (pss_cons (ps_asg (pe_op op_mod (pe_op op_add (pe_op op_mul (pe_ix ix_list (pv 0) pe_int (fun _ _ => rfl)) pe_int) pe_int) pe_int) (pg_sub (pv 0) pe_int set_list)) (pss_one (ps_ret (pe_op op_mod (pe_op op_fdiv (pe_op op_mod (pe_op op_mul (pe_ix ix_list (pv 0) pe_int (fun _ _ => rfl)) (pe_ix ix_list (pv 0) pe_int (fun _ _ => rfl))) pe_int) pe_int) (pv 1))))))
abbrev s_cell : Stmt := (top 29)
def f_cell : ((List Int) × Int) → Option Int := fun (script_1, k_2) => (if (decide (k_2 < (script_1.length : Int))) = true then (((atI script_1 k_2)).bind fun x7 => some x7) else some (0 : Int))
abbrev A_cell : ((List Int) × Int) → List PyData := fun x => [(eL eI) x.1, eI x.2]
abbrev N_cell : List Str := ["_law_script", "_law_k"]
abbrev sp_cell (K : PySem.W.Frag) : Sp := spP K A_cell eI f_cell
def t_cell (K : PySem.W.Frag) : TS := (tSeq (tIfS (tTest (tOp (rI0 fun i j => .bl (decide (i < j))) (tVar 1) (tCB (rLenL K) (tCons (tVar 0) tNil)))) (tRet (tOp (rIxL K) (tVar 0) (tVar 1))) tNext) (tRet (tC (.int 0))))
theorem w_cell {K : PySem.W.Frag} (vs : List V) (H : Hp) (Q : VK) (E : XK) (h : sp_cell K vs H Q E) : t_cell K { nx := fun _ H' => Q .non H', rt := Q } (start N_cell vs) H := by
  obtain ⟨F0, cs, ⟨script_1, k_2⟩, y, h, hS0, m, q⟩ := h
  obtain ⟨a0, _, rfl, ha0, h⟩ := Dts.hd h
  obtain ⟨a1, _, rfl, ha1, h⟩ := Dts.hd h
  obtain rfl := Dts.no h
  obtain rfl := Dt.toInt ha1
  unfold f_cell at m
  try dsimp only at m
  unfold t_cell
  refine go (σ' := [some a0, some (.int k_2)]) rfl ?_
  refine s_if (b := (decide (k_2 < (script_1.length : Int)))) hS0 (t_test (K := K) (d_lt (d_var rfl (.int _)) (d_len (e := eI) (a_cons (d_var rfl ha0) a_nil)))) (fun hc F3 H4 g5 hS6 => ?_) (fun hc F15 H16 g17 hS18 => ?_)
  · rw [if_pos hc] at m
    obtain ⟨x7, k8, m⟩ := bnd m
    refine s_ret (K := K) (d := eI x7) hS6 (d_ix (e := eI) (d_var rfl (Dt.gr g5 ha0)) (d_var rfl (.int _)) k8) (fun v13 F9 H10 g11 hS12 hv14 => ?_)
    obtain rfl := sm m
    exact q _ _ _ (Gr.tr g5 g11) hS12 hv14
  · rw [if_neg (bf hc)] at m
    refine nxt ?_
    refine s_ret (K := K) (d := eI (0 : Int)) hS18 d_int (fun v23 F19 H20 g21 hS22 hv24 => ?_)
    obtain rfl := sm m
    exact q _ _ _ (Gr.tr g17 g21) hS22 hv24
theorem sc_cell : FnScope N_cell ["_law_script", "_law_k"] (defScope s_cell) := ⟨rfl, rfl, rfl, by decide +kernel, rfl, by decide +kernel, by decide +kernel⟩
theorem ok_cell {P : Program} {w : World} {K : PySem.W.Frag} {mg : Str → Option Value} {base : Heap} (hF : Df K mg "_law_cell" s_cell) (m_len : mg "len" = none) : Ok P w K mg base 1 "_law_cell" ["_law_script", "_law_k"] (sp_cell K) := by
  obtain ⟨⟨fd, F⟩, gm⟩ := hF
  refine ⟨⟨fd, F.ok sc_cell (fun vs H Q E h => ?_) (fun cdv A outer s H vs Q E hr h => ⟨t_cell K, PSs.nox ?_, w_cell vs H Q E h⟩), F.bindsN fun _ _ _ _ _ _ us hl => match us, hl with | [_, _], _ => rfl, lk_of F⟩, F.kp, gm⟩
  · obtain ⟨F0, cs, x, y, h, _⟩ := h; exact Dts.len h
  · exact (pss_cons (ps_if (pt_cmpR op_lt (pv 1) (pe_callB cr_lenL (by rfl) m_len PySem.boot_len (pa_cons (pv 0) pa_nil)) (nomark _)) (pss_one (ps_ret (pe_ix ix_list (pv 0) (pv 1) (fun _ _ => rfl)))) pss_nil) (pss_one (ps_ret pe_int)))
abbrev s_name : Stmt := (top 32)
def f_name : (Int × Int) → Option Str := fun (salt_1, k_2) => (letM ("abcdefghijklmnopqrstuvwxyz" : Str) fun letters_7 => (((ixS letters_7 ((salt_1 + ((7 : Int) * k_2)) % (26 : Int)))).bind fun x9 => (if ((decide (((salt_1 / (26 : Int)) % (4 : Int)) = (0 : Int))) && (decide (k_2 < (26 : Int)))) = true then some x9 else (if (decide (((salt_1 / (26 : Int)) % (4 : Int)) = (1 : Int))) = true then (((ixS letters_7 ((salt_1 + ((7 : Int) * (k_2 / (3 : Int)))) % (26 : Int)))).bind fun x33 => (((scatM ("q" : Str) x33)).bind fun x39 => ((scatM x33 ("nq" : Str))).bind fun x41 => ((atI ([x33, x39, x41] : (List Str)) (k_2 % (3 : Int)))).bind fun x43 => some x43)) else (((srepM ("n" : Str) ((salt_1 / (104 : Int)) % (4 : Int)))).bind fun x55 => (((ixS letters_7 (k_2 / (26 : Int)))).bind fun x61 => ((scatM x55 x61)).bind fun x63 => ((scatM x63 x9)).bind fun x65 => ((mulM (salt_1 / (416 : Int)) (k_2 + (1 : Int)))).bind fun x67 => ((srepM ("q" : Str) (x67 % (4 : Int)))).bind fun x69 => ((scatM x65 x69)).bind fun x71 => some x71))))))
abbrev A_name : (Int × Int) → List PyData := fun x => [eI x.1, eI x.2]
abbrev N_name : List Str := ["_law_salt", "_law_k", "_law_letters", "_law_one", "_law_front", "_law_stem"]
abbrev sp_name (K : PySem.W.Frag) : Sp := spP K A_name eS f_name
def t_name (K : PySem.W.Frag) : TS := (tSeq (tAsg (tC (.str "abcdefghijklmnopqrstuvwxyz")) (gName 2)) (tSeq (tAsg (tOp rIxS (tVar 2) (tOp (rI (fun _ j => 0 < j) fun i j => .int (i % j)) (tOp (rI0 fun i j => .int (i + j)) (tVar 0) (tOp (rI CMul fun i j => .int (i * j)) (tC (.int 7)) (tVar 1))) (tC (.int 26)))) (gName 3)) (tSeq (tIfS (tAnd (tTest (tOp rEq (tOp (rI (fun _ j => 0 < j) fun i j => .int (i % j)) (tOp (rI CDiv fun i j => .int (i / j)) (tVar 0) (tC (.int 26))) (tC (.int 4))) (tC (.int 0)))) (tTest (tOp (rI0 fun i j => .bl (decide (i < j))) (tVar 1) (tC (.int 26))))) (tRet (tVar 3)) tNext) (tSeq (tIfS (tTest (tOp rEq (tOp (rI (fun _ j => 0 < j) fun i j => .int (i % j)) (tOp (rI CDiv fun i j => .int (i / j)) (tVar 0) (tC (.int 26))) (tC (.int 4))) (tC (.int 1)))) (tSeq (tAsg (tOp rIxS (tVar 2) (tOp (rI (fun _ j => 0 < j) fun i j => .int (i % j)) (tOp (rI0 fun i j => .int (i + j)) (tVar 0) (tOp (rI CMul fun i j => .int (i * j)) (tC (.int 7)) (tOp (rI CDiv fun i j => .int (i / j)) (tVar 1) (tC (.int 3))))) (tC (.int 26)))) (gName 5)) (tRet (tOp (rIxL K) (tLst (tCons (tVar 5) (tCons (tOp rScat (tC (.str "q")) (tVar 5)) (tCons (tOp rScat (tVar 5) (tC (.str "nq"))) tNil)))) (tOp (rI (fun _ j => 0 < j) fun i j => .int (i % j)) (tVar 1) (tC (.int 3)))))) tNext) (tSeq (tAsg (tOp rSrep (tC (.str "n")) (tOp (rI (fun _ j => 0 < j) fun i j => .int (i % j)) (tOp (rI CDiv fun i j => .int (i / j)) (tVar 0) (tC (.int 104))) (tC (.int 4)))) (gName 4)) (tRet (tOp rScat (tOp rScat (tOp rScat (tVar 4) (tOp rIxS (tVar 2) (tOp (rI CDiv fun i j => .int (i / j)) (tVar 1) (tC (.int 26))))) (tVar 3)) (tOp rSrep (tC (.str "q")) (tOp (rI (fun _ j => 0 < j) fun i j => .int (i % j)) (tOp (rI CMul fun i j => .int (i * j)) (tOp (rI CDiv fun i j => .int (i / j)) (tVar 0) (tC (.int 416))) (tOp (rI0 fun i j => .int (i + j)) (tVar 1) (tC (.int 1)))) (tC (.int 4)))))))))))
theorem w_name {K : PySem.W.Frag} (vs : List V) (H : Hp) (Q : VK) (E : XK) (h : sp_name K vs H Q E) : t_name K { nx := fun _ H' => Q .non H', rt := Q } (start N_name vs) H := by
  obtain ⟨F0, cs, ⟨salt_1, k_2⟩, y, h, hS0, m, q⟩ := h
  obtain ⟨a0, _, rfl, ha0, h⟩ := Dts.hd h
  obtain ⟨a1, _, rfl, ha1, h⟩ := Dts.hd h
  obtain rfl := Dts.no h
  obtain rfl := Dt.toInt ha0
  obtain rfl := Dt.toInt ha1
  unfold f_name at m
  try dsimp only at m
  unfold t_name
  refine go (σ' := [some (.int salt_1), some (.int k_2), none, none, none, none]) rfl ?_
  obtain ⟨letters_7, k8, m⟩ := lt m
  refine s_setV (K := K) (d := eS letters_7) (i := 2) (σ' := [some (.int salt_1), some (.int k_2), some (.str letters_7), none, none, none]) (fun _ _ h => Dt.toStr h) hS0 (d_is d_str (congrArg eS k8)) rfl (fun F3 H4 g5 hS6 => ?_)
  obtain ⟨x9, k10, m⟩ := bnd m
  refine s_setV (K := K) (d := eS x9) (i := 3) (σ' := [some (.int salt_1), some (.int k_2), some (.str letters_7), some (.str x9), none, none]) (fun _ _ h => Dt.toStr h) hS6 (d_ixS (d_var rfl (.str _)) (d_modC (d_add (d_var rfl (.int _)) (d_mulC d_int (d_var rfl (.int _)) (.inl ⟨by decide, by decide⟩))) d_int (by decide)) k10) rfl (fun F11 H12 g13 hS14 => ?_)
  refine s_if (b := ((decide (((salt_1 / (26 : Int)) % (4 : Int)) = (0 : Int))) && (decide (k_2 < (26 : Int))))) hS14 (t_andP (t_test (K := K) (d_eqI (d_modC (d_fdivC (d_var rfl (.int _)) d_int ⟨by decide, by decide⟩) d_int (by decide)) d_int)) (fun hc => (t_test (K := K) (d_lt (d_var rfl (.int _)) d_int)))) (fun hc F15 H16 g17 hS18 => ?_) (fun hc F25 H26 g27 hS28 => ?_)
  · rw [if_pos hc] at m
    refine s_ret (K := K) (d := eS x9) hS18 (d_var rfl (.str _)) (fun v23 F19 H20 g21 hS22 hv24 => ?_)
    obtain rfl := sm m
    exact q _ _ _ (Gr.tr g5 (Gr.tr g13 (Gr.tr g17 g21))) hS22 hv24
  · rw [if_neg (bf hc)] at m
    refine nxt ?_
    refine s_if (b := (decide (((salt_1 / (26 : Int)) % (4 : Int)) = (1 : Int)))) hS28 (t_test (K := K) (d_eqI (d_modC (d_fdivC (d_var rfl (.int _)) d_int ⟨by decide, by decide⟩) d_int (by decide)) d_int)) (fun hc F29 H30 g31 hS32 => ?_) (fun hc F51 H52 g53 hS54 => ?_)
    · rw [if_pos hc] at m
      obtain ⟨x33, k34, m⟩ := bnd m
      refine s_setV (K := K) (d := eS x33) (i := 5) (σ' := [some (.int salt_1), some (.int k_2), some (.str letters_7), some (.str x9), none, some (.str x33)]) (fun _ _ h => Dt.toStr h) hS32 (d_ixS (d_var rfl (.str _)) (d_modC (d_add (d_var rfl (.int _)) (d_mulC d_int (d_fdivC (d_var rfl (.int _)) d_int ⟨by decide, by decide⟩) (.inl ⟨by decide, by decide⟩))) d_int (by decide)) k34) rfl (fun F35 H36 g37 hS38 => ?_)
      obtain ⟨x39, k40, m⟩ := bnd m
      obtain ⟨x41, k42, m⟩ := bnd m
      obtain ⟨x43, k44, m⟩ := bnd m
      refine s_ret (K := K) (d := eS x43) hS38 (d_ix (e := eS) (d_lst (a_cons (d_var rfl (.str _)) (a_cons (d_scat d_str (d_var rfl (.str _)) k40) (a_cons (d_scat (d_var rfl (.str _)) d_str k42) a_nil))) (Nat.le_of_ble_eq_true rfl)) (d_modC (d_var rfl (.int _)) d_int (by decide)) k44) (fun v49 F45 H46 g47 hS48 hv50 => ?_)
      obtain rfl := sm m
      exact q _ _ _ (Gr.tr g5 (Gr.tr g13 (Gr.tr g27 (Gr.tr g31 (Gr.tr g37 g47))))) hS48 hv50
    · rw [if_neg (bf hc)] at m
      refine nxt ?_
      obtain ⟨x55, k56, m⟩ := bnd m
      refine s_setV (K := K) (d := eS x55) (i := 4) (σ' := [some (.int salt_1), some (.int k_2), some (.str letters_7), some (.str x9), some (.str x55), none]) (fun _ _ h => Dt.toStr h) hS54 (d_srep d_str (d_modC (d_fdivC (d_var rfl (.int _)) d_int ⟨by decide, by decide⟩) d_int (by decide)) k56) rfl (fun F57 H58 g59 hS60 => ?_)
      obtain ⟨x61, k62, m⟩ := bnd m
      obtain ⟨x63, k64, m⟩ := bnd m
      obtain ⟨x65, k66, m⟩ := bnd m
      obtain ⟨x67, k68, m⟩ := bnd m
      obtain ⟨x69, k70, m⟩ := bnd m
      obtain ⟨x71, k72, m⟩ := bnd m
      refine s_ret (K := K) (d := eS x71) hS60 (d_scat (d_scat (d_scat (d_var rfl (.str _)) (d_ixS (d_var rfl (.str _)) (d_fdivC (d_var rfl (.int _)) d_int ⟨by decide, by decide⟩) k62) k64) (d_var rfl (.str _)) k66) (d_srep d_str (d_modC (d_mul (d_fdivC (d_var rfl (.int _)) d_int ⟨by decide, by decide⟩) (d_add (d_var rfl (.int _)) d_int) k68) d_int (by decide)) k70) k72) (fun v77 F73 H74 g75 hS76 hv78 => ?_)
      obtain rfl := sm m
      exact q _ _ _ (Gr.tr g5 (Gr.tr g13 (Gr.tr g27 (Gr.tr g53 (Gr.tr g59 g75))))) hS76 hv78
theorem sc_name : FnScope N_name ["_law_salt", "_law_k"] (defScope s_name) := ⟨rfl, rfl, rfl, by decide +kernel, rfl, by decide +kernel, by decide +kernel⟩
theorem ok_name {P : Program} {w : World} {K : PySem.W.Frag} {mg : Str → Option Value} {base : Heap} (hF : Df K mg "_law_name" s_name) : Ok P w K mg base 1 "_law_name" ["_law_salt", "_law_k"] (sp_name K) := by
  obtain ⟨⟨fd, F⟩, gm⟩ := hF
  refine ⟨⟨fd, F.ok sc_name (fun vs H Q E h => ?_) (fun cdv A outer s H vs Q E hr h => ⟨t_name K, PSs.nox ?_, w_name vs H Q E h⟩), F.bindsN fun _ _ _ _ _ _ us hl => match us, hl with | [_, _], _ => rfl, lk_of F⟩, F.kp, gm⟩
  · obtain ⟨F0, cs, x, y, h, _⟩ := h; exact Dts.len h
  · exact (pss_cons (ps_set (i := 2) sc_name.nd rfl (Or.inl rfl) pe_str) (pss_cons (ps_set (i := 3) sc_name.nd rfl (Or.inl rfl) (pe_ix ix_str (pv 2) (pe_op op_mod (pe_op op_add (pv 0) (pe_op op_mul pe_int (pv 1))) pe_int) (fun _ _ => rfl))) (pss_cons (ps_if (PW.pt (pw_and (pt_cmpR op_eq (pe_op op_mod (pe_op op_fdiv (pv 0) pe_int) pe_int) pe_int (nomark _)) (pw_and1 (pt_cmpR op_lt (pv 1) pe_int (nomark _))))) (pss_one (ps_ret (pv 3))) pss_nil) (pss_cons (ps_if (pt_cmpR op_eq (pe_op op_mod (pe_op op_fdiv (pv 0) pe_int) pe_int) pe_int (nomark _)) (pss_cons (ps_set (i := 5) sc_name.nd rfl (Or.inl rfl) (pe_ix ix_str (pv 2) (pe_op op_mod (pe_op op_add (pv 0) (pe_op op_mul pe_int (pe_op op_fdiv (pv 1) pe_int))) pe_int) (fun _ _ => rfl))) (pss_one (ps_ret (pe_ix ix_list (pe_lst (pa_cons (pv 5) (pa_cons (pe_op op_scatR pe_str (pv 5)) (pa_cons (pe_op op_scatR (pv 5) pe_str) pa_nil)))) (pe_op op_mod (pv 1) pe_int) (fun _ _ => rfl))))) pss_nil) (pss_cons (ps_set (i := 4) sc_name.nd rfl (Or.inl rfl) (pe_op op_srep pe_str (pe_op op_mod (pe_op op_fdiv (pv 0) pe_int) pe_int))) (pss_one (ps_ret (pe_op op_scatR (pe_op op_scatR (pe_op op_scatR (pv 4) (pe_ix ix_str (pv 2) (pe_op op_fdiv (pv 1) pe_int) (fun _ _ => rfl))) (pv 3)) (pe_op op_srep pe_str (pe_op op_mod (pe_op op_mul (pe_op op_fdiv (pv 0) pe_int) (pe_op op_add (pv 1) pe_int)) pe_int))))))))))
abbrev s_box : Stmt := (top 33)
def f_box : ((List Int) × Int × Int × (List Int) × (List Int)) → Option ((List (Str × Int × Int)) × (List Int) × (List Int) × (List Int)) := fun (source_here_1, salt_2, k_3, here_4, there_5) => (((rngM (0 : Int) (here_4.length : Int))).bind fun x9 => ((lcC (fun bay_11 => (((atI here_4 bay_11)).bind fun x22 => if (decide ((0 : Int) < x22)) = true then (some (some bay_11)) else some none)) x9)).bind fun x24 => (((rngM (0 : Int) (there_5.length : Int))).bind fun x35 => ((lcC (fun bay_37 => (((atI there_5 bay_37)).bind fun x48 => if (decide ((0 : Int) < x48)) = true then (some (some bay_37)) else some none)) x35)).bind fun x50 => (if (decide (x24 = ([] : (List Int)))) = true then some (([] : (List (Str × Int × Int))), source_here_1, here_4, there_5) else (((f_draw (source_here_1, (x24.length : Int)))).bind fun (x73, source_here_75) => ((atI x24 x73)).bind fun x76 => (((f_draw (source_here_75, (x50.length : Int)))).bind fun (x82, source_here_84) => ((atI x50 x82)).bind fun x85 => (((f_draw (source_here_84, (4 : Int)))).bind fun (x94, source_here_96) => ((if (decide (x94 = (1 : Int))) = true then (((atI there_5 x76)).bind fun x97 => some (decide ((0 : Int) < x97))) else some false)).bind fun x99 => ((if x99 = true then some x76 else some x85)).bind fun to_101 => (((atI here_4 x76)).bind fun x111 => ((setM here_4 x76 (x111 - (1 : Int)))).bind fun here_113 => (((atI there_5 to_101)).bind fun x119 => ((setM there_5 to_101 (x119 - (1 : Int)))).bind fun there_121 => (((f_name (salt_2, k_3))).bind fun x127 => some (([(x127, x76, to_101)] : (List (Str × Int × Int))), source_here_96, here_113, there_121))))))))))
abbrev A_box : ((List Int) × Int × Int × (List Int) × (List Int)) → List Ar := fun x => [.c (x.1.map V.int), .d (eI x.2.1), .d (eI x.2.2.1), .c (x.2.2.2.1.map V.int), .c (x.2.2.2.2.map V.int)]
abbrev B_box : ((List (Str × Int × Int)) × (List Int) × (List Int) × (List Int)) → List PyData := fun y => y.1.map (eT3 eS eI eI)
abbrev C_box : ((List (Str × Int × Int)) × (List Int) × (List Int) × (List Int)) → List (List V) := fun y => [y.2.1.map V.int, y.2.2.1.map V.int, y.2.2.2.map V.int]
abbrev N_box : List Str := ["_law_source_here", "_law_salt", "_law_k", "_law_here", "_law_there", "_law_first", "_law_last", "_law_at", "_law_to", "_law_bay"]
abbrev sp_box (K : PySem.W.Frag) : Sp := spF K A_box B_box C_box f_box
def t_box (K : PySem.W.Frag) : TS := (tSeq (tAsg (tLc (iRng1 (tCons (tCB (rLenL K) (tCons (tVar 3) tNil)) tNil)) (gName 9) (tTest (tOp (rI0 fun i j => .bl (decide (j < i))) (tOp (rIxL K) (tVar 3) (tVar 9)) (tC (.int 0)))) (tVar 9) [9]) (gName 5)) (tSeq (tAsg (tLc (iRng1 (tCons (tCB (rLenL K) (tCons (tVar 4) tNil)) tNil)) (gName 9) (tTest (tOp (rI0 fun i j => .bl (decide (j < i))) (tOp (rIxL K) (tVar 4) (tVar 9)) (tC (.int 0)))) (tVar 9) [9]) (gName 6)) (tSeq (tIfS (tTest (tOp (rEqD K) (tVar 5) (tLst tNil))) (tRet (tLst tNil)) tNext) (tSeq (tAsg (tOp (rIxL K) (tVar 5) (tCall (sp_draw K) [] E0 (tCons (tVar 0) (tCons (tCB (rLenL K) (tCons (tVar 5) tNil)) tNil)))) (gName 7)) (tSeq (tAsg (tOp (rIxL K) (tVar 6) (tCall (sp_draw K) [] E0 (tCons (tVar 0) (tCons (tCB (rLenL K) (tCons (tVar 6) tNil)) tNil)))) (gName 8)) (tSeq (tIfS (tAnd (tTest (tOp rEq (tCall (sp_draw K) [] E0 (tCons (tVar 0) (tCons (tC (.int 4)) tNil))) (tC (.int 1)))) (tTest (tOp (rI0 fun i j => .bl (decide (j < i))) (tOp (rIxL K) (tVar 4) (tVar 7)) (tC (.int 0))))) (tAsg (tVar 7) (gName 8)) tNext) (tSeq (tAugS (tVar 3) (tVar 7) (tC (.int 1)) (rIxL K) (ipI fun i j => i - j) rSetL) (tSeq (tAugS (tVar 4) (tVar 8) (tC (.int 1)) (rIxL K) (ipI fun i j => i - j) rSetL) (tRet (tLst (tCons (tTup (tCons (tCall (sp_name K) [] E0 (tCons (tVar 1) (tCons (tVar 2) tNil))) (tCons (tVar 7) (tCons (tVar 8) tNil)))) tNil)))))))))))
theorem w_box {K : PySem.W.Frag} (vs : List V) (H : Hp) (Q : VK) (E : XK) (h : sp_box K vs H Q E) : t_box K { nx := fun _ H' => Q .non H', rt := Q } (start N_box vs) H := by
  obtain ⟨F0, cc, cs, ⟨source_here_1, salt_2, k_3, here_4, there_5⟩, y, h0, hS0, m, q⟩ := h
  obtain ⟨a0, _, _, rfl, rfl, h1⟩ := ArgR.hc h0
  obtain ⟨a1, _, rfl, ha1, h2⟩ := ArgR.hd h1
  obtain ⟨a2, _, rfl, ha2, h3⟩ := ArgR.hd h2
  obtain ⟨a3, _, _, rfl, rfl, h4⟩ := ArgR.hc h3
  obtain ⟨a4, _, _, rfl, rfl, h5⟩ := ArgR.hc h4
  obtain ⟨rfl, rfl⟩ := ArgR.no h5
  obtain rfl := Dt.toInt ha1
  obtain rfl := Dt.toInt ha2
  unfold f_box at m
  try dsimp only at m
  unfold t_box
  refine go (σ' := [some (.ref a0), some (.int salt_2), some (.int k_3), some (.ref a3), some (.ref a4), none, none, none, none, none]) rfl ?_
  obtain ⟨x9, k10, m⟩ := bnd m
  obtain ⟨x24, k25, m⟩ := bnd m
  refine s_set (K := K) (d := (eL eI) x24) (i := 5) (σ' := fun v30 => [some (.ref a0), some (.int salt_2), some (.int k_3), some (.ref a3), some (.ref a4), some v30, none, none, none, none]) hS0 (EvC.dd (c_lendX (l1 := [(a0, HO.lst (source_here_1.map V.int))]) (m1 := [(a0, HO.lst (source_here_1.map V.int))]) (fun _ _ h => Dts.ints h) (fun _ => Dts.of_ints _) (fun F6 g7 hn8 => (c_lcC (K := K) (f := (fun bay_11 => (((atI here_4 bay_11)).bind fun x22 => if (decide ((0 : Int) < x22)) = true then (some (some bay_11)) else some none))) (em := eI) (i_rng1 (a_cons (d_len (e := eI) (a_cons (d_var rfl (lent_l hn8 (Dts.gr g7 (Dts.of_ints _)))) a_nil)) a_nil) k10) k25 (fun bay_11 o18 v19 F12 p13 us14 g15 hv16 ho17 => by obtain rfl := Dt.toInt hv16; obtain ⟨x22, k23, ho17⟩ := bnd ho17; by_cases hc : (decide ((0 : Int) < x22)) = true; (rw [if_pos hc] at ho17; obtain rfl := sm ho17; refine ⟨[some (.ref a0), some (.int salt_2), some (.int k_3), some (.ref a3), some (.ref a4), none, none, none, none, some (.int bay_11)], fun H21 Q hS20 hq => (fun Q hq => hq) Q hq, rfl, ?_, ?_⟩; (rw [show (some bay_11).isSome = (decide ((0 : Int) < x22)) from hc.symm]; exact (t_test (K := K) (d_gt (d_ix (e := eI) (d_var rfl (Dt.gr g15 (lent_l hn8 (Dts.gr g7 (Dts.of_ints _))))) (d_var rfl (.int _)) k23) d_int))); (intro y hy; obtain rfl := sm hy; exact (d_var rfl (.int _)))); (rw [if_neg hc] at ho17; obtain rfl := sm ho17; refine ⟨[some (.ref a0), some (.int salt_2), some (.int k_3), some (.ref a3), some (.ref a4), none, none, none, none, some (.int bay_11)], fun H21 Q hS20 hq => (fun Q hq => hq) Q hq, rfl, ?_, ?_⟩; (rw [show (none : Option Int).isSome = (decide ((0 : Int) < x22)) from (bt hc).symm]; exact (t_test (K := K) (d_gt (d_ix (e := eI) (d_var rfl (Dt.gr g15 (lent_l hn8 (Dts.gr g7 (Dts.of_ints _))))) (d_var rfl (.int _)) k23) d_int))); (intro y hy; cases hy))))))) (fun _ => rfl) (fun v30 F26 H27 g28 hS29 hv31 => ?_)
  obtain ⟨x35, k36, m⟩ := bnd m
  obtain ⟨x50, k51, m⟩ := bnd m
  refine s_set (K := K) (d := (eL eI) x50) (i := 6) (σ' := fun v56 => [some (.ref a0), some (.int salt_2), some (.int k_3), some (.ref a3), some (.ref a4), some v30, some v56, none, none, none]) hS29 (EvC.dd (c_lendX (l1 := [(a0, HO.lst (source_here_1.map V.int)), (a3, HO.lst (here_4.map V.int))]) (m1 := [(a0, HO.lst (source_here_1.map V.int)), (a3, HO.lst (here_4.map V.int))]) (fun _ _ h => Dts.ints h) (fun _ => Dts.of_ints _) (fun F32 g33 hn34 => (c_lcC (K := K) (f := (fun bay_37 => (((atI there_5 bay_37)).bind fun x48 => if (decide ((0 : Int) < x48)) = true then (some (some bay_37)) else some none))) (em := eI) (i_rng1 (a_cons (d_len (e := eI) (a_cons (d_var rfl (lent_l hn34 (Dts.gr g33 (Dts.of_ints _)))) a_nil)) a_nil) k36) k51 (fun bay_37 o44 v45 F38 p39 us40 g41 hv42 ho43 => by obtain rfl := Dt.toInt hv42; obtain ⟨x48, k49, ho43⟩ := bnd ho43; by_cases hc : (decide ((0 : Int) < x48)) = true; (rw [if_pos hc] at ho43; obtain rfl := sm ho43; refine ⟨[some (.ref a0), some (.int salt_2), some (.int k_3), some (.ref a3), some (.ref a4), some v30, none, none, none, some (.int bay_37)], fun H47 Q hS46 hq => (fun Q hq => hq) Q hq, rfl, ?_, ?_⟩; (rw [show (some bay_37).isSome = (decide ((0 : Int) < x48)) from hc.symm]; exact (t_test (K := K) (d_gt (d_ix (e := eI) (d_var rfl (Dt.gr g41 (lent_l hn34 (Dts.gr g33 (Dts.of_ints _))))) (d_var rfl (.int _)) k49) d_int))); (intro y hy; obtain rfl := sm hy; exact (d_var rfl (.int _)))); (rw [if_neg hc] at ho43; obtain rfl := sm ho43; refine ⟨[some (.ref a0), some (.int salt_2), some (.int k_3), some (.ref a3), some (.ref a4), some v30, none, none, none, some (.int bay_37)], fun H47 Q hS46 hq => (fun Q hq => hq) Q hq, rfl, ?_, ?_⟩; (rw [show (none : Option Int).isSome = (decide ((0 : Int) < x48)) from (bt hc).symm]; exact (t_test (K := K) (d_gt (d_ix (e := eI) (d_var rfl (Dt.gr g41 (lent_l hn34 (Dts.gr g33 (Dts.of_ints _))))) (d_var rfl (.int _)) k49) d_int))); (intro y hy; cases hy))))))) (fun _ => rfl) (fun v56 F52 H53 g54 hS55 hv57 => ?_)
  refine s_if (b := (decide (x24 = ([] : (List Int))))) hS55 (t_test (K := K) (d_eqT (e := (eL eI)) (EqE.l eqE_I) (ShE.l sh_I) (by decide) (d_var rfl (Dt.gr g54 hv31)) (d_lst a_nil (Nat.le_of_ble_eq_true rfl)))) (fun hc F58 H59 g60 hS61 => ?_) (fun hc F69 H70 g71 hS72 => ?_)
  · rw [if_pos hc] at m
    refine s_retC (K := K) (ds := ([] : (List (Str × Int × Int))).map (eT3 eS eI eI)) hS61 (c_lst a_nil (Nat.le_of_ble_eq_true rfl)) (fun p66 us67 F62 H63 g64 hS65 hu68 => ?_)
    obtain rfl := sm m
    exact q _ _ _ _ (Gr.tr g28 (Gr.tr g54 (Gr.tr g60 g64))) hS65 hu68
  · rw [if_neg (bf hc)] at m
    refine nxt ?_
    obtain ⟨⟨x73, source_here_75⟩, k74, m⟩ := bnd m; (try dsimp only at m)
    obtain ⟨x76, k77, m⟩ := bnd m
    refine s_setV (K := K) (d := eI x76) (i := 7) (σ' := [some (.ref a0), some (.int salt_2), some (.int k_3), some (.ref a3), some (.ref a4), some v30, some v56, some (.int x76), none, none]) (fun _ _ h => Dt.toInt h) hS72 (d_ix (e := eI) (d_var rfl (Dt.gr (Gr.tr g54 g71) hv31)) (d_callX (A := A_draw) (B := B_draw) (C := C_draw) (x := (source_here_1, (x24.length : Int))) (y := (x73, source_here_75)) (cs2 := ((a0, HO.lst (source_here_75.map V.int)) :: (a3, HO.lst (here_4.map V.int)) :: (a4, HO.lst (there_5.map V.int)) :: cs)) (cc := [(a0, HO.lst (source_here_1.map V.int))]) (cs' := ((a3, HO.lst (here_4.map V.int)) :: (a4, HO.lst (there_5.map V.int)) :: cs)) (r_c rfl (r_d (d_len (e := eI) (a_cons (d_var rfl (Dt.gr (Gr.tr g54 g71) hv31)) a_nil)) r_nil)) sb_rfl k74 sb_rfl) k77) rfl (fun F78 H79 g80 hS81 => ?_)
    obtain ⟨⟨x82, source_here_84⟩, k83, m⟩ := bnd m; (try dsimp only at m)
    obtain ⟨x85, k86, m⟩ := bnd m
    refine s_setV (K := K) (d := eI x85) (i := 8) (σ' := [some (.ref a0), some (.int salt_2), some (.int k_3), some (.ref a3), some (.ref a4), some v30, some v56, some (.int x76), some (.int x85), none]) (fun _ _ h => Dt.toInt h) hS81 (d_ix (e := eI) (d_var rfl (Dt.gr (Gr.tr g71 g80) hv57)) (d_callX (A := A_draw) (B := B_draw) (C := C_draw) (x := (source_here_75, (x50.length : Int))) (y := (x82, source_here_84)) (cs2 := ((a0, HO.lst (source_here_84.map V.int)) :: (a3, HO.lst (here_4.map V.int)) :: (a4, HO.lst (there_5.map V.int)) :: cs)) (cc := [(a0, HO.lst (source_here_75.map V.int))]) (cs' := ((a3, HO.lst (here_4.map V.int)) :: (a4, HO.lst (there_5.map V.int)) :: cs)) (r_c rfl (r_d (d_len (e := eI) (a_cons (d_var rfl (Dt.gr (Gr.tr g71 g80) hv57)) a_nil)) r_nil)) sb_rfl k83 sb_rfl) k86) rfl (fun F87 H88 g89 hS90 => ?_)
    obtain ⟨⟨x94, source_here_96⟩, k95, m⟩ := bnd m; (try dsimp only at m)
    obtain ⟨x99, k100, m⟩ := bnd m
    obtain ⟨to_101, k103, m⟩ := bnd m
    refine s_ifJ (b := x99) (fun σ H => ∃ (F : Hp) (c : Cs), Gr F87 F ∧ Sta F c H ∧ ∃ (j9 : Option V), σ = [some (.ref a0), some (.int salt_2), some (.int k_3), some (.ref a3), some (.ref a4), some v30, some v56, some (.int x76), some (.int to_101), j9] ∧ (a0, .lst (source_here_96.map V.int)) :: (a3, .lst (here_4.map V.int)) :: (a4, .lst (there_5.map V.int)) :: cs = c) hS90 (t_lendX (l1 := [(a0, HO.lst (source_here_84.map V.int)), (a3, HO.lst (here_4.map V.int))]) (m1 := [(a0, HO.lst (source_here_96.map V.int)), (a3, HO.lst (here_4.map V.int))]) (fun F91 g92 hn93 => (t_andM (r := x99) (t_test (K := K) (d_eqI (d_callX (A := A_draw) (B := B_draw) (C := C_draw) (x := (source_here_84, (4 : Int))) (y := (x94, source_here_96)) (cs2 := ((a0, HO.lst (source_here_96.map V.int)) :: (a3, HO.lst (here_4.map V.int)) :: cs)) (cc := [(a0, HO.lst (source_here_84.map V.int))]) (cs' := ((a3, HO.lst (here_4.map V.int)) :: cs)) (r_c rfl (r_d d_int r_nil)) sb_rfl k95 sb_rfl) d_int)) (fun hc => by rw [if_pos hc] at k100; obtain ⟨x97, k98, k100⟩ := bnd k100; obtain rfl := sm k100; exact (t_test (K := K) (d_gt (d_ix (e := eI) (d_var rfl (lent_l hn93 (Dts.gr g92 (Dts.of_ints _)))) (d_var rfl (.int _)) k98) d_int))) (fun hc => by rw [if_neg (bf hc)] at k100; exact (sm k100).symm)))) ?_ (fun jn102 hc F136 H137 g138 hS139 => ?_) (fun jn102 hc F144 H145 g146 hS147 => ?_)
    · rintro σ109 H105 ⟨F104, c108, g106, hS107, u110, rfl, rfl⟩
      obtain ⟨x111, k112, m⟩ := bnd m
      obtain ⟨here_113, k114, m⟩ := bnd m
      refine s_augSV (K := K) (k1 := [(a0, .lst (source_here_96.map V.int))]) (m1 := [(a0, .lst (source_here_96.map V.int))]) (l1 := [(a0, .lst (source_here_96.map V.int))]) (p := a3) hS107 (vp_var rfl) (d_var rfl (.int _)) k112 d_int k114 (fun F115 H116 g117 hS118 => ?_)
      obtain ⟨x119, k120, m⟩ := bnd m
      obtain ⟨there_121, k122, m⟩ := bnd m
      refine s_augSV (K := K) (k1 := [(a0, .lst (source_here_96.map V.int)), (a3, .lst (here_113.map V.int))]) (m1 := [(a0, .lst (source_here_96.map V.int)), (a3, .lst (here_113.map V.int))]) (l1 := [(a0, .lst (source_here_96.map V.int)), (a3, .lst (here_113.map V.int))]) (p := a4) hS118 (vp_var rfl) (d_var rfl (.int _)) k120 d_int k122 (fun F123 H124 g125 hS126 => ?_)
      obtain ⟨x127, k128, m⟩ := bnd m
      refine s_retC (K := K) (ds := ([(x127, x76, to_101)] : (List (Str × Int × Int))).map (eT3 eS eI eI)) hS126 (c_lst (a_cons (d_tup (a_cons (d_call (A := A_name) (B := eS) (x := (salt_2, k_3)) (a_cons (d_var rfl (.int _)) (a_cons (d_var rfl (.int _)) a_nil)) k128) (a_cons (d_var rfl (.int _)) (a_cons (d_var rfl (.int _)) a_nil))) (Nat.le_of_ble_eq_true rfl)) a_nil) (Nat.le_of_ble_eq_true rfl)) (fun p133 us134 F129 H130 g131 hS132 hu135 => ?_)
      obtain rfl := sm m
      exact q _ _ _ _ (Gr.tr g28 (Gr.tr g54 (Gr.tr g71 (Gr.tr g80 (Gr.tr g89 (Gr.tr g106 (Gr.tr g117 (Gr.tr g125 g131)))))))) hS132 hu135
    · rw [if_pos hc] at k103
      refine s_setV (K := K) (d := eI x76) (i := 8) (σ' := [some (.ref a0), some (.int salt_2), some (.int k_3), some (.ref a3), some (.ref a4), some v30, some v56, some (.int x76), some (.int x76), none]) (fun _ _ h => Dt.toInt h) hS139 (d_var rfl (.int _)) rfl (fun F140 H141 g142 hS143 => ?_)
      obtain rfl := sm k103
      exact jn102 _ _ ⟨_, _, (Gr.tr g138 g142), hS143, _, rfl, rfl⟩
    · rw [if_neg (bf hc)] at k103
      refine nxt ?_
      obtain rfl := sm k103
      exact jn102 _ _ ⟨_, _, g146, hS147, _, rfl, rfl⟩
theorem sc_box : FnScope N_box ["_law_source_here", "_law_salt", "_law_k", "_law_here", "_law_there"] (defScope s_box) := ⟨rfl, rfl, rfl, by decide +kernel, rfl, by decide +kernel, by decide +kernel⟩
theorem ok_box {P : Program} {w : World} {K : PySem.W.Frag} {mg : Str → Option Value} {base : Heap} (hF : Df K mg "_law_box" s_box) (m_len : mg "len" = none) (m_range : mg "range" = none) (o_name : Ok P w K mg base 1 "_law_name" ["_law_salt", "_law_k"] (sp_name K)) (o_draw : Ok P w K mg base 1 "_law_draw" ["_law_source_here", "_law_many"] (sp_draw K)) : Ok P w K mg base 2 "_law_box" ["_law_source_here", "_law_salt", "_law_k", "_law_here", "_law_there"] (sp_box K) := by
  obtain ⟨⟨_, G_name, bd_name, _⟩, kp_name, gm_name⟩ := o_name
  obtain ⟨⟨_, G_draw, bd_draw, _⟩, kp_draw, gm_draw⟩ := o_draw
  obtain ⟨⟨fd, F⟩, gm⟩ := hF
  refine ⟨⟨fd, F.ok sc_box (fun vs H Q E h => ?_) (fun cdv A outer s H vs Q E hr h => ⟨t_box K, PSs.nox ?_, w_box vs H Q E h⟩), F.bindsN fun _ _ _ _ _ _ us hl => match us, hl with | [_, _, _, _, _], _ => rfl, lk_of F⟩, F.kp, gm⟩
  · obtain ⟨F0, cc, cs, x, y, h, _⟩ := h; exact ArgR.len h
  · exact (pss_cons (ps_setLc (i := 5) (own := [("_law_bay", 9)]) (g := (gName 9)) (tt := (tTest (tOp (rI0 fun i j => .bl (decide (j < i))) (tOp (rIxL K) (tVar 3) (tVar 9)) (tC (.int 0))))) (te := (tVar 9)) (by rfl) sc_box.nd rfl rfl (sw_true rfl rfl rfl (by decide +kernel)) (pi_range1 (by rfl) m_range (pa_cons (pe_callB cr_lenL (by rfl) m_len PySem.boot_len (pa_cons (pv 3) pa_nil)) pa_nil)) (blkOk_by (own := [("_law_bay", 9)]) (N := N_box) (sc := defScope s_box) (by decide +kernel)) (fun _ _ _ _ _ => (pg_name (i := 9) sc_box.nd rfl (Or.inl rfl))) (fun _ _ _ _ _ => (pts_one (pt_cmpR op_gt (pe_ix ix_list (pv 3) (pv 9) (fun _ _ => rfl)) pe_int (nomark _)))) (fun _ _ _ _ _ => (pv 9))) (pss_cons (ps_setLc (i := 6) (own := [("_law_bay", 9)]) (g := (gName 9)) (tt := (tTest (tOp (rI0 fun i j => .bl (decide (j < i))) (tOp (rIxL K) (tVar 4) (tVar 9)) (tC (.int 0))))) (te := (tVar 9)) (by rfl) sc_box.nd rfl rfl (sw_true rfl rfl rfl (by decide +kernel)) (pi_range1 (by rfl) m_range (pa_cons (pe_callB cr_lenL (by rfl) m_len PySem.boot_len (pa_cons (pv 4) pa_nil)) pa_nil)) (blkOk_by (own := [("_law_bay", 9)]) (N := N_box) (sc := defScope s_box) (by decide +kernel)) (fun _ _ _ _ _ => (pg_name (i := 9) sc_box.nd rfl (Or.inl rfl))) (fun _ _ _ _ _ => (pts_one (pt_cmpR op_gt (pe_ix ix_list (pv 4) (pv 9) (fun _ _ => rfl)) pe_int (nomark _)))) (fun _ _ _ _ _ => (pv 9))) (pss_cons (ps_if (pt_cmpR (op_eqD hr.units) (pv 5) (pe_lst pa_nil) (nomark _)) (pss_one (ps_ret (pe_lst pa_nil))) pss_nil) (pss_cons (ps_set (i := 7) sc_box.nd rfl (Or.inl rfl) (pe_ix ix_list (pv 5) (pe_call G_draw (hr.mono (by decide)) (by rfl) gm_draw kp_draw bd_draw .nil pass0 (pa_cons (pv 0) (pa_cons (pe_callB cr_lenL (by rfl) m_len PySem.boot_len (pa_cons (pv 5) pa_nil)) pa_nil))) (fun _ _ => rfl))) (pss_cons (ps_set (i := 8) sc_box.nd rfl (Or.inl rfl) (pe_ix ix_list (pv 6) (pe_call G_draw (hr.mono (by decide)) (by rfl) gm_draw kp_draw bd_draw .nil pass0 (pa_cons (pv 0) (pa_cons (pe_callB cr_lenL (by rfl) m_len PySem.boot_len (pa_cons (pv 6) pa_nil)) pa_nil))) (fun _ _ => rfl))) (pss_cons (ps_if (PW.pt (pw_and (pt_cmpR op_eq (pe_call G_draw (hr.mono (by decide)) (by rfl) gm_draw kp_draw bd_draw .nil pass0 (pa_cons (pv 0) (pa_cons pe_int pa_nil))) pe_int (nomark _)) (pw_and1 (pt_cmpR op_gt (pe_ix ix_list (pv 4) (pv 7) (fun _ _ => rfl)) pe_int (nomark _))))) (pss_one (ps_set (i := 8) sc_box.nd rfl (Or.inl rfl) (pv 7))) pss_nil) (pss_cons (ps_augS (pv 3) (pv 7) get_list pe_int ip_sub set_list) (pss_cons (ps_augS (pv 4) (pv 8) get_list pe_int ip_sub set_list) (pss_one (ps_ret (pe_lst (pa_cons (pe_tup (pa_cons (pe_call G_name (hr.mono (by decide)) (by rfl) gm_name kp_name bd_name .nil pass0 (pa_cons (pv 1) (pa_cons (pv 2) pa_nil))) (pa_cons (pv 7) (pa_cons (pv 8) pa_nil)))) pa_nil))))))))))))
abbrev s_store : Stmt := (top 34)
def f_store_b159 (script_1 : (List Int)) (x13 : Int) : ((List (Str × Int × Int)) × (List Int) × (List Int)) → Int → Option ((List (Str × Int × Int)) × (List Int) × (List Int)) := fun (boxes_162, here_163, there_164) k_165 => (((atI script_1 k_165)).bind fun x186 => ((f_source (x186, k_165))).bind fun x188 => ((f_box (x188, x13, (k_165 - (3 : Int)), here_163, there_164))).bind fun (x190, w194, here_192, there_193) => ((catM boxes_162 x190)).bind fun x195 => some (x195, here_192, there_193))
def f_store : (List Int) → Option (((List Int) × (List Int) × Int × (List (Str × Int × Int)))) := fun script_1 => (((f_cell (script_1, (0 : Int)))).bind fun x2 => ((f_source (x2, (0 : Int)))).bind fun x4 => (((f_draw (x4, (1664 : Int)))).bind fun (x13, source_here_15) => (((f_draw (source_here_15, (3 : Int)))).bind fun (x20, source_here_22) => ((atI ([(3 : Int), (7 : Int), (15 : Int)] : (List Int)) x20)).bind fun x23 => ((f_draw (source_here_22, x23))).bind fun (x25, source_here_27) => letM ((2 : Int) + x25) fun bays_32 => (((f_draw (source_here_27, (4 : Int)))).bind fun (x34, source_here_36) => ((atI ([(1 : Int), (2 : Int), (6 : Int), (40 : Int)] : (List Int)) x34)).bind fun x37 => (((f_draw (source_here_36, (3 : Int)))).bind fun (x43, source_here_45) => ((atI ([(2 : Int), (5 : Int), (20 : Int)] : (List Int)) x43)).bind fun x46 => ((f_draw (source_here_45, x46))).bind fun (x48, source_here_50) => letM ((1 : Int) + x48) fun most_55 => (((rngM (0 : Int) bays_32)).bind fun x57 => ((lcSC (fun (source_here_68 : (List Int)) k_59 => (((f_draw (source_here_68, x37))).bind fun (x71, source_here_73) => some (source_here_73, some ((1 : Int) + x71)))) source_here_50 x57)).bind fun (source_here_78, x76) => (((f_cell (script_1, (1 : Int)))).bind fun x86 => ((f_source (x86, (1 : Int)))).bind fun x88 => (((f_draw (x88, (2 : Int)))).bind fun (x97, source_here_99) => ((atI ([(5 : Int), (1000000000 : Int)] : (List Int)) x97)).bind fun x100 => (((rngM (0 : Int) (bays_32 - (1 : Int)))).bind fun x106 => ((lcSC (fun (source_here_117 : (List Int)) k_108 => (((f_draw (source_here_117, x100))).bind fun (x120, source_here_122) => some (source_here_122, some ((1 : Int) + x120)))) source_here_99 x106)).bind fun (source_here_127, x125) => (letM ([] : (List (Str × Int × Int))) fun boxes_153 => (((rngM (3 : Int) (minI (script_1.length : Int) (63 : Int)))).bind fun x157 => (x157.foldlM (f_store_b159 script_1 x13) (boxes_153, x76, x76)).bind fun (boxes_209, here_210, there_211) => some (x76, x125, most_55, boxes_209))))))))))))
abbrev A_store : (List Int) → List PyData := fun x => [(eL eI) x]
abbrev N_store : List Str := ["_law_script", "_law_source_here", "_law_salt", "_law_bays", "_law_wide", "_law_most", "_law_rooms", "_law_far", "_law_gaps", "_law_here", "_law_there", "_law_boxes", "_law_k"]
abbrev sp_store (K : PySem.W.Frag) : Sp := spP K A_store (eT4 (eL eI) (eL eI) eI (eL (eT3 eS eI eI))) f_store
def t_store (K : PySem.W.Frag) : TS := (tSeq (tAsg (tCall (sp_source K) [] E0 (tCons (tCall (sp_cell K) [] E0 (tCons (tVar 0) (tCons (tC (.int 0)) tNil))) (tCons (tC (.int 0)) tNil))) (gName 1)) (tSeq (tAsg (tCall (sp_draw K) [] E0 (tCons (tVar 1) (tCons (tC (.int 1664)) tNil))) (gName 2)) (tSeq (tAsg (tOp (rI0 fun i j => .int (i + j)) (tC (.int 2)) (tCall (sp_draw K) [] E0 (tCons (tVar 1) (tCons (tOp (rIxL K) (tLst (tCons (tC (.int 3)) (tCons (tC (.int 7)) (tCons (tC (.int 15)) tNil)))) (tCall (sp_draw K) [] E0 (tCons (tVar 1) (tCons (tC (.int 3)) tNil)))) tNil)))) (gName 3)) (tSeq (tAsg (tOp (rIxL K) (tLst (tCons (tC (.int 1)) (tCons (tC (.int 2)) (tCons (tC (.int 6)) (tCons (tC (.int 40)) tNil))))) (tCall (sp_draw K) [] E0 (tCons (tVar 1) (tCons (tC (.int 4)) tNil)))) (gName 4)) (tSeq (tAsg (tOp (rI0 fun i j => .int (i + j)) (tC (.int 1)) (tCall (sp_draw K) [] E0 (tCons (tVar 1) (tCons (tOp (rIxL K) (tLst (tCons (tC (.int 2)) (tCons (tC (.int 5)) (tCons (tC (.int 20)) tNil)))) (tCall (sp_draw K) [] E0 (tCons (tVar 1) (tCons (tC (.int 3)) tNil)))) tNil)))) (gName 5)) (tSeq (tAsg (tLc (iRng1 (tCons (tVar 3) tNil)) (gName 12) tYes (tOp (rI0 fun i j => .int (i + j)) (tC (.int 1)) (tCall (sp_draw K) [] E0 (tCons (tVar 1) (tCons (tVar 4) tNil)))) [12]) (gName 6)) (tSeq (tAsg (tCall (sp_source K) [] E0 (tCons (tCall (sp_cell K) [] E0 (tCons (tVar 0) (tCons (tC (.int 1)) tNil))) (tCons (tC (.int 1)) tNil))) (gName 1)) (tSeq (tAsg (tOp (rIxL K) (tLst (tCons (tC (.int 5)) (tCons (tOp (rI CPow fun i j => .int (i ^ j.toNat)) (tC (.int 10)) (tC (.int 9))) tNil))) (tCall (sp_draw K) [] E0 (tCons (tVar 1) (tCons (tC (.int 2)) tNil)))) (gName 7)) (tSeq (tAsg (tLc (iRng1 (tCons (tOp (rI0 fun i j => .int (i - j)) (tVar 3) (tC (.int 1))) tNil)) (gName 12) tYes (tOp (rI0 fun i j => .int (i + j)) (tC (.int 1)) (tCall (sp_draw K) [] E0 (tCons (tVar 1) (tCons (tVar 7) tNil)))) [12]) (gName 8)) (tSeq (tAsg (tCB (rListS K) (tCons (tVar 6) tNil)) (gName 9)) (tSeq (tAsg (tCB (rListS K) (tCons (tVar 6) tNil)) (gName 10)) (tSeq (tAsg (tLst tNil) (gName 11)) (tSeq (tFor (iRng2 (tCons (tC (.int 3)) (tCons (tCB rMin2 (tCons (tCB (rLenL K) (tCons (tVar 0) tNil)) (tCons (tC (.int 63)) tNil))) tNil))) (gName 12) (tAsg (tOp (rCatS K) (tVar 11) (tCall (sp_box K) [] E0 (tCons (tCall (sp_source K) [] E0 (tCons (tOp (rIxL K) (tVar 0) (tVar 12)) (tCons (tVar 12) tNil))) (tCons (tVar 2) (tCons (tOp (rI0 fun i j => .int (i - j)) (tVar 12) (tC (.int 3))) (tCons (tVar 9) (tCons (tVar 10) tNil))))))) (gName 11))) (tRet (tTup (tCons (tVar 6) (tCons (tVar 8) (tCons (tVar 5) (tCons (tVar 11) tNil)))))))))))))))))))
theorem w_store {K : PySem.W.Frag} (vs : List V) (H : Hp) (Q : VK) (E : XK) (h : sp_store K vs H Q E) : t_store K { nx := fun _ H' => Q .non H', rt := Q } (start N_store vs) H := by
  obtain ⟨F0, cs, script_1, y, h, hS0, m, q⟩ := h
  obtain ⟨a0, _, rfl, ha0, h⟩ := Dts.hd h
  obtain rfl := Dts.no h
  unfold f_store at m
  try dsimp only at m
  unfold t_store
  refine go (σ' := [some a0, none, none, none, none, none, none, none, none, none, none, none, none]) rfl ?_
  obtain ⟨x2, k3, m⟩ := bnd m
  obtain ⟨x4, k5, m⟩ := bnd m
  refine s_setC (K := K) (ds := x4.map eI) (i := 1) (σ' := fun p10 => [some a0, some (.ref p10), none, none, none, none, none, none, none, none, none, none, none]) hS0 (c_callX (A := A_source) (B := B_source) (C := C_source) (x := (x2, (0 : Int))) (y := x4) (cs2 := (cs)) (cc := []) (cs' := (cs)) (r_d (d_call (A := A_cell) (B := eI) (x := (script_1, (0 : Int))) (a_cons (d_var rfl ha0) (a_cons d_int a_nil)) k3) (r_d d_int r_nil)) sb_rfl k5 (fun _ => sb_rfl)) (fun _ => rfl) (fun p10 us11 F6 H7 g8 hS9 hu12 => ?_)
  obtain rfl := Dts.ints hu12
  obtain ⟨⟨x13, source_here_15⟩, k14, m⟩ := bnd m; (try dsimp only at m)
  refine s_setV (K := K) (d := eI x13) (i := 2) (σ' := [some a0, some (.ref p10), some (.int x13), none, none, none, none, none, none, none, none, none, none]) (fun _ _ h => Dt.toInt h) hS9 (d_callX (A := A_draw) (B := B_draw) (C := C_draw) (x := (x4, (1664 : Int))) (y := (x13, source_here_15)) (cs2 := ((p10, HO.lst (source_here_15.map V.int)) :: cs)) (cc := [(p10, HO.lst (x4.map V.int))]) (cs' := (cs)) (r_c rfl (r_d d_int r_nil)) sb_rfl k14 sb_rfl) rfl (fun F16 H17 g18 hS19 => ?_)
  obtain ⟨⟨x20, source_here_22⟩, k21, m⟩ := bnd m; (try dsimp only at m)
  obtain ⟨x23, k24, m⟩ := bnd m
  obtain ⟨⟨x25, source_here_27⟩, k26, m⟩ := bnd m; (try dsimp only at m)
  obtain ⟨bays_32, k33, m⟩ := lt m
  refine s_setV (K := K) (d := eI bays_32) (i := 3) (σ' := [some a0, some (.ref p10), some (.int x13), some (.int bays_32), none, none, none, none, none, none, none, none, none]) (fun _ _ h => Dt.toInt h) hS19 (d_is (d_add d_int (d_callX (A := A_draw) (B := B_draw) (C := C_draw) (x := (source_here_22, x23)) (y := (x25, source_here_27)) (cs2 := ((p10, HO.lst (source_here_27.map V.int)) :: cs)) (cc := [(p10, HO.lst (source_here_22.map V.int))]) (cs' := (cs)) (r_c rfl (r_d (d_ix (e := eI) (d_lst (a_cons d_int (a_cons d_int (a_cons d_int a_nil))) (Nat.le_of_ble_eq_true rfl)) (d_callX (A := A_draw) (B := B_draw) (C := C_draw) (x := (source_here_15, (3 : Int))) (y := (x20, source_here_22)) (cs2 := ((p10, HO.lst (source_here_22.map V.int)) :: cs)) (cc := [(p10, HO.lst (source_here_15.map V.int))]) (cs' := (cs)) (r_c rfl (r_d d_int r_nil)) sb_rfl k21 sb_rfl) k24) r_nil)) sb_rfl k26 sb_rfl)) (congrArg eI k33)) rfl (fun F28 H29 g30 hS31 => ?_)
  obtain ⟨⟨x34, source_here_36⟩, k35, m⟩ := bnd m; (try dsimp only at m)
  obtain ⟨x37, k38, m⟩ := bnd m
  refine s_setV (K := K) (d := eI x37) (i := 4) (σ' := [some a0, some (.ref p10), some (.int x13), some (.int bays_32), some (.int x37), none, none, none, none, none, none, none, none]) (fun _ _ h => Dt.toInt h) hS31 (d_ix (e := eI) (d_lst (a_cons d_int (a_cons d_int (a_cons d_int (a_cons d_int a_nil)))) (Nat.le_of_ble_eq_true rfl)) (d_callX (A := A_draw) (B := B_draw) (C := C_draw) (x := (source_here_27, (4 : Int))) (y := (x34, source_here_36)) (cs2 := ((p10, HO.lst (source_here_36.map V.int)) :: cs)) (cc := [(p10, HO.lst (source_here_27.map V.int))]) (cs' := (cs)) (r_c rfl (r_d d_int r_nil)) sb_rfl k35 sb_rfl) k38) rfl (fun F39 H40 g41 hS42 => ?_)
  obtain ⟨⟨x43, source_here_45⟩, k44, m⟩ := bnd m; (try dsimp only at m)
  obtain ⟨x46, k47, m⟩ := bnd m
  obtain ⟨⟨x48, source_here_50⟩, k49, m⟩ := bnd m; (try dsimp only at m)
  obtain ⟨most_55, k56, m⟩ := lt m
  refine s_setV (K := K) (d := eI most_55) (i := 5) (σ' := [some a0, some (.ref p10), some (.int x13), some (.int bays_32), some (.int x37), some (.int most_55), none, none, none, none, none, none, none]) (fun _ _ h => Dt.toInt h) hS42 (d_is (d_add d_int (d_callX (A := A_draw) (B := B_draw) (C := C_draw) (x := (source_here_45, x46)) (y := (x48, source_here_50)) (cs2 := ((p10, HO.lst (source_here_50.map V.int)) :: cs)) (cc := [(p10, HO.lst (source_here_45.map V.int))]) (cs' := (cs)) (r_c rfl (r_d (d_ix (e := eI) (d_lst (a_cons d_int (a_cons d_int (a_cons d_int a_nil))) (Nat.le_of_ble_eq_true rfl)) (d_callX (A := A_draw) (B := B_draw) (C := C_draw) (x := (source_here_36, (3 : Int))) (y := (x43, source_here_45)) (cs2 := ((p10, HO.lst (source_here_45.map V.int)) :: cs)) (cc := [(p10, HO.lst (source_here_36.map V.int))]) (cs' := (cs)) (r_c rfl (r_d d_int r_nil)) sb_rfl k44 sb_rfl) k47) r_nil)) sb_rfl k49 sb_rfl)) (congrArg eI k56)) rfl (fun F51 H52 g53 hS54 => ?_)
  obtain ⟨x57, k58, m⟩ := bnd m
  obtain ⟨⟨source_here_78, x76⟩, k77, m⟩ := bnd m; (try dsimp only at m)
  refine s_set (K := K) (d := (eL eI) x76) (i := 6) (σ' := fun v83 => [some a0, some (.ref p10), some (.int x13), some (.int bays_32), some (.int x37), some (.int most_55), some v83, none, none, none, none, none, none]) hS54 (EvC.dd (c_lcT (K := K) (f := (fun (source_here_68 : (List Int)) k_59 => (((f_draw (source_here_68, x37))).bind fun (x71, source_here_73) => some (source_here_73, some ((1 : Int) + x71))))) (em := eI) (s0 := source_here_50) (s1 := source_here_78) (fun (z : (List Int)) => (p10, .lst (z.map V.int)) :: cs) (i_rng1 (a_cons (d_var rfl (.int _)) a_nil) k58) k77 (fun k_59 source_here_68 z74 o66 v67 F60 p61 us62 g63 hv64 ho65 => by obtain rfl := Dt.toInt hv64; obtain ⟨⟨x71, source_here_73⟩, k72, ho65⟩ := bnd ho65; (try dsimp only at ho65); obtain ⟨rfl, rfl⟩ := pr2 (sm ho65); exact ⟨[some a0, some (.ref p10), some (.int x13), some (.int bays_32), some (.int x37), some (.int most_55), none, none, none, none, none, none, some (.int k_59)], source_here_68, fun H70 Q hS69 hq => (fun Q hq => hq) Q hq, rfl, t_yes, (fun hy => by cases hy), fun y hy => by obtain rfl := sm hy; exact (d_add d_int (d_callX (A := A_draw) (B := B_draw) (C := C_draw) (x := (source_here_68, x37)) (y := (x71, source_here_73)) (cs2 := ((p61, HO.lst us62) :: (p10, HO.lst (source_here_73.map V.int)) :: cs)) (cc := [(p10, HO.lst (source_here_68.map V.int))]) (cs' := ((p61, HO.lst us62) :: cs)) (r_c rfl (r_d (d_var rfl (.int _)) r_nil)) (sb_perm (List.perm_middle (l₁ := [(p61, HO.lst us62)]))) k72 (sb_perm (List.Perm.symm (List.perm_middle (l₁ := [(p61, HO.lst us62)]))))))⟩))) (fun _ => rfl) (fun v83 F79 H80 g81 hS82 hv84 => ?_)
  have hS85 := Sta.frozeAt (l1 := []) hS82
  obtain ⟨x86, k87, m⟩ := bnd m
  obtain ⟨x88, k89, m⟩ := bnd m
  refine s_setC (K := K) (ds := x88.map eI) (i := 1) (σ' := fun p94 => [some a0, some (.ref p94), some (.int x13), some (.int bays_32), some (.int x37), some (.int most_55), some v83, none, none, none, none, none, none]) hS85 (c_callX (A := A_source) (B := B_source) (C := C_source) (x := (x86, (1 : Int))) (y := x88) (cs2 := (cs)) (cc := []) (cs' := (cs)) (r_d (d_call (A := A_cell) (B := eI) (x := (script_1, (1 : Int))) (a_cons (d_var rfl (Dt.gr (Gr.tr g8 (Gr.tr g18 (Gr.tr g30 (Gr.tr g41 (Gr.tr g53 (Gr.tr g81 (Gr.new (Sta.freeAt (l1 := []) hS82)))))))) ha0)) (a_cons d_int a_nil)) k87) (r_d d_int r_nil)) sb_rfl k89 (fun _ => sb_rfl)) (fun _ => rfl) (fun p94 us95 F90 H91 g92 hS93 hu96 => ?_)
  obtain rfl := Dts.ints hu96
  obtain ⟨⟨x97, source_here_99⟩, k98, m⟩ := bnd m; (try dsimp only at m)
  obtain ⟨x100, k101, m⟩ := bnd m
  refine s_setV (K := K) (d := eI x100) (i := 7) (σ' := [some a0, some (.ref p94), some (.int x13), some (.int bays_32), some (.int x37), some (.int most_55), some v83, some (.int x100), none, none, none, none, none]) (fun _ _ h => Dt.toInt h) hS93 (d_ix (e := eI) (d_lst (a_cons d_int (a_cons (d_is (e := PyData.int 1000000000) (d_powC d_int d_int ⟨by decide, by decide, by decide⟩) (congrArg PyData.int (by decide))) a_nil)) (Nat.le_of_ble_eq_true rfl)) (d_callX (A := A_draw) (B := B_draw) (C := C_draw) (x := (x88, (2 : Int))) (y := (x97, source_here_99)) (cs2 := ((p94, HO.lst (source_here_99.map V.int)) :: cs)) (cc := [(p94, HO.lst (x88.map V.int))]) (cs' := (cs)) (r_c rfl (r_d d_int r_nil)) sb_rfl k98 sb_rfl) k101) rfl (fun F102 H103 g104 hS105 => ?_)
  obtain ⟨x106, k107, m⟩ := bnd m
  obtain ⟨⟨source_here_127, x125⟩, k126, m⟩ := bnd m; (try dsimp only at m)
  refine s_set (K := K) (d := (eL eI) x125) (i := 8) (σ' := fun v132 => [some a0, some (.ref p94), some (.int x13), some (.int bays_32), some (.int x37), some (.int most_55), some v83, some (.int x100), some v132, none, none, none, none]) hS105 (EvC.dd (c_lcT (K := K) (f := (fun (source_here_117 : (List Int)) k_108 => (((f_draw (source_here_117, x100))).bind fun (x120, source_here_122) => some (source_here_122, some ((1 : Int) + x120))))) (em := eI) (s0 := source_here_99) (s1 := source_here_127) (fun (z : (List Int)) => (p94, .lst (z.map V.int)) :: cs) (i_rng1 (a_cons (d_sub (d_var rfl (.int _)) d_int) a_nil) k107) k126 (fun k_108 source_here_117 z123 o115 v116 F109 p110 us111 g112 hv113 ho114 => by obtain rfl := Dt.toInt hv113; obtain ⟨⟨x120, source_here_122⟩, k121, ho114⟩ := bnd ho114; (try dsimp only at ho114); obtain ⟨rfl, rfl⟩ := pr2 (sm ho114); exact ⟨[some a0, some (.ref p94), some (.int x13), some (.int bays_32), some (.int x37), some (.int most_55), some v83, some (.int x100), none, none, none, none, some (.int k_108)], source_here_117, fun H119 Q hS118 hq => (fun Q hq => hq) Q hq, rfl, t_yes, (fun hy => by cases hy), fun y hy => by obtain rfl := sm hy; exact (d_add d_int (d_callX (A := A_draw) (B := B_draw) (C := C_draw) (x := (source_here_117, x100)) (y := (x120, source_here_122)) (cs2 := ((p110, HO.lst us111) :: (p94, HO.lst (source_here_122.map V.int)) :: cs)) (cc := [(p94, HO.lst (source_here_117.map V.int))]) (cs' := ((p110, HO.lst us111) :: cs)) (r_c rfl (r_d (d_var rfl (.int _)) r_nil)) (sb_perm (List.perm_middle (l₁ := [(p110, HO.lst us111)]))) k121 (sb_perm (List.Perm.symm (List.perm_middle (l₁ := [(p110, HO.lst us111)]))))))⟩))) (fun _ => rfl) (fun v132 F128 H129 g130 hS131 hv133 => ?_)
  have hS134 := Sta.frozeAt (l1 := []) hS131
  refine s_setC (K := K) (ds := x76.map eI) (i := 9) (σ' := fun p139 => [some a0, some (.ref p94), some (.int x13), some (.int bays_32), some (.int x37), some (.int most_55), some v83, some (.int x100), some v132, some (.ref p139), none, none, none]) hS134 (c_list (a_cons (d_var rfl (Dt.gr (Gr.tr (Gr.new (Sta.freeAt (l1 := []) hS82)) (Gr.tr g92 (Gr.tr g104 (Gr.tr g130 (Gr.new (Sta.freeAt (l1 := []) hS131)))))) hv84)) a_nil)) (fun _ => rfl) (fun p139 us140 F135 H136 g137 hS138 hu141 => ?_)
  obtain rfl := Dts.ints hu141
  refine s_setC (K := K) (ds := x76.map eI) (i := 10) (σ' := fun p146 => [some a0, some (.ref p94), some (.int x13), some (.int bays_32), some (.int x37), some (.int most_55), some v83, some (.int x100), some v132, some (.ref p139), some (.ref p146), none, none]) hS138 (c_list (a_cons (d_var rfl (Dt.gr (Gr.tr (Gr.new (Sta.freeAt (l1 := []) hS82)) (Gr.tr g92 (Gr.tr g104 (Gr.tr g130 (Gr.tr (Gr.new (Sta.freeAt (l1 := []) hS131)) g137))))) hv84)) a_nil)) (fun _ => rfl) (fun p146 us147 F142 H143 g144 hS145 hu148 => ?_)
  obtain rfl := Dts.ints hu148
  obtain ⟨boxes_153, k154, m⟩ := lt m
  refine s_set (K := K) (d := (eL (eT3 eS eI eI)) boxes_153) (i := 11) (σ' := fun v155 => [some a0, some (.ref p94), some (.int x13), some (.int bays_32), some (.int x37), some (.int most_55), some v83, some (.int x100), some v132, some (.ref p139), some (.ref p146), some v155, none]) hS145 (d_is (d_lst a_nil (Nat.le_of_ble_eq_true rfl)) (congrArg (eL (eT3 eS eI eI)) k154)) (fun _ => rfl) (fun v155 F149 H150 g151 hS152 hv156 => ?_)
  obtain ⟨x157, k158, m⟩ := bnd m
  obtain ⟨⟨boxes_209, here_210, there_211⟩, k161, m⟩ := bnd m
  try dsimp only at m
  refine s_for (K := K) (xs := x157) (en := eI) (body := (f_store_b159 script_1 x13)) (s0 := (boxes_153, x76, x76)) (r := (boxes_209, here_210, there_211)) (fun (a : (List (Str × Int × Int)) × (List Int) × (List Int)) F σ c => ∃ (j11 : V) (j12 : Option V), σ = [some a0, some (.ref p94), some (.int x13), some (.int bays_32), some (.int x37), some (.int most_55), some v83, some (.int x100), some v132, some (.ref p139), some (.ref p146), some j11, j12] ∧ (p146, .lst (a.2.2.map V.int)) :: (p139, .lst (a.2.1.map V.int)) :: cs = c ∧ Dt K F j11 ((eL (eT3 eS eI eI)) a.1)) hS152 (i_rng2 (a_cons d_int (a_cons (d_min2 (a_cons (d_len (e := eI) (a_cons (d_var rfl (Dt.gr (Gr.tr g8 (Gr.tr g18 (Gr.tr g30 (Gr.tr g41 (Gr.tr g53 (Gr.tr g81 (Gr.tr (Gr.new (Sta.freeAt (l1 := []) hS82)) (Gr.tr g92 (Gr.tr g104 (Gr.tr g130 (Gr.tr (Gr.new (Sta.freeAt (l1 := []) hS131)) (Gr.tr g137 (Gr.tr g144 g151))))))))))))) ha0)) a_nil)) (a_cons d_int a_nil))) a_nil)) k158) (fun _ _ => ⟨_, _, rfl, rfl, (Dt.gr ‹_› hv156)⟩) k161 ?_ ?_
  · rintro k_165 ⟨boxes_162, here_163, there_164⟩ b174 F166 F167 σ180 c181 H168 v173 N175 g169 ⟨v183, u184, rfl, rfl, h185⟩ g170 hS171 hv172 m182 hN177
    obtain rfl := Dt.toInt hv172
    refine tg (σ' := [some a0, some (.ref p94), some (.int x13), some (.int bays_32), some (.int x37), some (.int most_55), some v83, some (.int x100), some v132, some (.ref p139), some (.ref p146), some v183, some (.int k_165)]) (fun Q hq => hq) ?_
    unfold f_store_b159 at m182
    try dsimp only at m182
    obtain ⟨x186, k187, m182⟩ := bnd m182
    obtain ⟨x188, k189, m182⟩ := bnd m182
    obtain ⟨⟨x190, w194, here_192, there_193⟩, k191, m182⟩ := bnd m182; (try dsimp only at m182)
    obtain ⟨x195, k196, m182⟩ := bnd m182
    refine s_set (K := K) (d := (eL (eT3 eS eI eI)) x195) (i := 11) (σ' := fun v201 => [some a0, some (.ref p94), some (.int x13), some (.int bays_32), some (.int x37), some (.int most_55), some v83, some (.int x100), some v132, some (.ref p139), some (.ref p146), some v201, some (.int k_165)]) hS171 (EvC.dd (c_cat (en := (eT3 eS eI eI)) (d_var rfl (Dt.gr g170 h185)) (EvC.dd (c_callM (A := A_box) (B := B_box) (C := C_box) (x := (x188, x13, (k_165 - (3 : Int)), here_163, there_164)) (y := (x190, w194, here_192, there_193)) (cs3 := ((p146, HO.lst (there_193.map V.int)) :: (p139, HO.lst (here_192.map V.int)) :: cs)) (us := (x188.map V.int)) (cc := [(p139, HO.lst (here_163.map V.int)), (p146, HO.lst (there_164.map V.int))]) (cs' := (cs)) (n_new (c_callX (A := A_source) (B := B_source) (C := C_source) (x := (x186, k_165)) (y := x188) (cs2 := ((p146, HO.lst (there_164.map V.int)) :: (p139, HO.lst (here_163.map V.int)) :: cs)) (cc := []) (cs' := ((p146, HO.lst (there_164.map V.int)) :: (p139, HO.lst (here_163.map V.int)) :: cs)) (r_d (d_ix (e := eI) (d_var rfl (Dt.gr (Gr.tr g8 (Gr.tr g18 (Gr.tr g30 (Gr.tr g41 (Gr.tr g53 (Gr.tr g81 (Gr.tr (Gr.new (Sta.freeAt (l1 := []) hS82)) (Gr.tr g92 (Gr.tr g104 (Gr.tr g130 (Gr.tr (Gr.new (Sta.freeAt (l1 := []) hS131)) (Gr.tr g137 (Gr.tr g144 (Gr.tr g151 (Gr.tr g169 g170))))))))))))))) ha0)) (d_var rfl (.int _)) k187) (r_d (d_var rfl (.int _)) r_nil)) sb_rfl k189 (fun _ => sb_rfl)) (fun _ _ h => Dts.ints h) (fun _ => (r_d (d_var rfl (.int _)) (r_d (d_sub (d_var rfl (.int _)) d_int) (r_c rfl (r_c rfl r_nil)))))) (fun _ => sb_perm (List.Perm.cons _ (List.perm_middle (l₁ := [(p146, HO.lst (there_164.map V.int))])))) k191 (fun _ _ => Sb.tr sb_drop2 (sb_perm (List.Perm.cons _ (List.Perm.symm (List.perm_middle (l₁ := [(p146, HO.lst (there_193.map V.int))])))))))) k196)) (fun _ => rfl) (fun v201 F197 H198 g199 hS200 hv202 => ?_)
    obtain rfl := sm m182
    exact hN177 _ _ _ _ g199 hS200 ⟨_, _, rfl, rfl, hv202⟩
  · rintro F203 σ208 c207 H204 g205 hS206 ⟨v212, u213, rfl, rfl, h214⟩
    have hS215 := Sta.frozeAt (l1 := []) hS206
    have hS216 := Sta.frozeAt (l1 := []) hS215
    refine s_ret (K := K) (d := (eT4 (eL eI) (eL eI) eI (eL (eT3 eS eI eI))) (x76, x125, most_55, boxes_209)) hS216 (d_tup (a_cons (d_var rfl (Dt.gr (Gr.tr (Gr.new (Sta.freeAt (l1 := []) hS82)) (Gr.tr g92 (Gr.tr g104 (Gr.tr g130 (Gr.tr (Gr.new (Sta.freeAt (l1 := []) hS131)) (Gr.tr g137 (Gr.tr g144 (Gr.tr g151 (Gr.tr g205 (Gr.tr (Gr.new (Sta.freeAt (l1 := []) hS206)) (Gr.new (Sta.freeAt (l1 := []) hS215)))))))))))) hv84)) (a_cons (d_var rfl (Dt.gr (Gr.tr (Gr.new (Sta.freeAt (l1 := []) hS131)) (Gr.tr g137 (Gr.tr g144 (Gr.tr g151 (Gr.tr g205 (Gr.tr (Gr.new (Sta.freeAt (l1 := []) hS206)) (Gr.new (Sta.freeAt (l1 := []) hS215)))))))) hv133)) (a_cons (d_var rfl (.int _)) (a_cons (d_var rfl (Dt.gr (Gr.tr (Gr.new (Sta.freeAt (l1 := []) hS206)) (Gr.new (Sta.freeAt (l1 := []) hS215))) h214)) a_nil)))) (Nat.le_of_ble_eq_true rfl)) (fun v221 F217 H218 g219 hS220 hv222 => ?_)
    obtain rfl := sm m
    exact q _ _ _ (Gr.tr g8 (Gr.tr g18 (Gr.tr g30 (Gr.tr g41 (Gr.tr g53 (Gr.tr g81 (Gr.tr (Gr.new (Sta.freeAt (l1 := []) hS82)) (Gr.tr g92 (Gr.tr g104 (Gr.tr g130 (Gr.tr (Gr.new (Sta.freeAt (l1 := []) hS131)) (Gr.tr g137 (Gr.tr g144 (Gr.tr g151 (Gr.tr g205 (Gr.tr (Gr.new (Sta.freeAt (l1 := []) hS206)) (Gr.tr (Gr.new (Sta.freeAt (l1 := []) hS215)) g219))))))))))))))))) hS220 hv222
theorem sc_store : FnScope N_store ["_law_script"] (defScope s_store) := ⟨rfl, rfl, rfl, by decide +kernel, rfl, by decide +kernel, by decide +kernel⟩
theorem ok_store {P : Program} {w : World} {K : PySem.W.Frag} {mg : Str → Option Value} {base : Heap} (hF : Df K mg "_law_store" s_store) (m_len : mg "len" = none) (m_list : mg "list" = none) (m_min : mg "min" = none) (m_range : mg "range" = none) (o_box : Ok P w K mg base 2 "_law_box" ["_law_source_here", "_law_salt", "_law_k", "_law_here", "_law_there"] (sp_box K)) (o_source : Ok P w K mg base 1 "_law_source" ["_law_cell_here", "_law_k"] (sp_source K)) (o_draw : Ok P w K mg base 1 "_law_draw" ["_law_source_here", "_law_many"] (sp_draw K)) (o_cell : Ok P w K mg base 1 "_law_cell" ["_law_script", "_law_k"] (sp_cell K)) : Ok P w K mg base 3 "_law_store" ["_law_script"] (sp_store K) := by
  obtain ⟨⟨_, G_box, bd_box, _⟩, kp_box, gm_box⟩ := o_box
  obtain ⟨⟨_, G_source, bd_source, _⟩, kp_source, gm_source⟩ := o_source
  obtain ⟨⟨_, G_draw, bd_draw, _⟩, kp_draw, gm_draw⟩ := o_draw
  obtain ⟨⟨_, G_cell, bd_cell, _⟩, kp_cell, gm_cell⟩ := o_cell
  obtain ⟨⟨fd, F⟩, gm⟩ := hF
  refine ⟨⟨fd, F.ok sc_store (fun vs H Q E h => ?_) (fun cdv A outer s H vs Q E hr h => ⟨t_store K, PSs.nox ?_, w_store vs H Q E h⟩), F.bindsN fun _ _ _ _ _ _ us hl => match us, hl with | [_], _ => rfl, lk_of F⟩, F.kp, gm⟩
  · obtain ⟨F0, cs, x, y, h, _⟩ := h; exact Dts.len h
  · exact (pss_cons (ps_set (i := 1) sc_store.nd rfl (Or.inr rfl) (pe_call G_source (hr.mono (by decide)) (by rfl) gm_source kp_source bd_source .nil pass0 (pa_cons (pe_call G_cell (hr.mono (by decide)) (by rfl) gm_cell kp_cell bd_cell .nil pass0 (pa_cons (pv 0) (pa_cons pe_int pa_nil))) (pa_cons pe_int pa_nil)))) (pss_cons (ps_set (i := 2) sc_store.nd rfl (Or.inl rfl) (pe_call G_draw (hr.mono (by decide)) (by rfl) gm_draw kp_draw bd_draw .nil pass0 (pa_cons (pv 1) (pa_cons pe_int pa_nil)))) (pss_cons (ps_set (i := 3) sc_store.nd rfl (Or.inl rfl) (pe_op op_add pe_int (pe_call G_draw (hr.mono (by decide)) (by rfl) gm_draw kp_draw bd_draw .nil pass0 (pa_cons (pv 1) (pa_cons (pe_ix ix_list (pe_lst (pa_cons pe_int (pa_cons pe_int (pa_cons pe_int pa_nil)))) (pe_call G_draw (hr.mono (by decide)) (by rfl) gm_draw kp_draw bd_draw .nil pass0 (pa_cons (pv 1) (pa_cons pe_int pa_nil))) (fun _ _ => rfl)) pa_nil))))) (pss_cons (ps_set (i := 4) sc_store.nd rfl (Or.inr rfl) (pe_ix ix_list (pe_lst (pa_cons pe_int (pa_cons pe_int (pa_cons pe_int (pa_cons pe_int pa_nil))))) (pe_call G_draw (hr.mono (by decide)) (by rfl) gm_draw kp_draw bd_draw .nil pass0 (pa_cons (pv 1) (pa_cons pe_int pa_nil))) (fun _ _ => rfl))) (pss_cons (ps_set (i := 5) sc_store.nd rfl (Or.inl rfl) (pe_op op_add pe_int (pe_call G_draw (hr.mono (by decide)) (by rfl) gm_draw kp_draw bd_draw .nil pass0 (pa_cons (pv 1) (pa_cons (pe_ix ix_list (pe_lst (pa_cons pe_int (pa_cons pe_int (pa_cons pe_int pa_nil)))) (pe_call G_draw (hr.mono (by decide)) (by rfl) gm_draw kp_draw bd_draw .nil pass0 (pa_cons (pv 1) (pa_cons pe_int pa_nil))) (fun _ _ => rfl)) pa_nil))))) (pss_cons (ps_setLc (i := 6) (own := [("_law_k", 12)]) (g := (gName 12)) (tt := tYes) (te := (tOp (rI0 fun i j => .int (i + j)) (tC (.int 1)) (tCall (sp_draw K) [] E0 (tCons (tVar 1) (tCons (tVar 4) tNil))))) (by rfl) sc_store.nd rfl rfl (sw_true rfl rfl rfl (by decide +kernel)) (pi_range1 (by rfl) m_range (pa_cons (pv 3) pa_nil)) (blkOk_by (own := [("_law_k", 12)]) (N := N_store) (sc := defScope s_store) (by decide +kernel)) (fun _ _ _ _ _ => (pg_name (i := 12) sc_store.nd rfl (Or.inl rfl))) (fun _ _ _ _ _ => pts_nil) (fun _ _ _ _ _ => (pe_op op_add pe_int (pe_call G_draw (hr.mono (by decide)) (by rfl) gm_draw kp_draw bd_draw .nil pass0 (pa_cons (pv 1) (pa_cons (pv 4) pa_nil)))))) (pss_cons (ps_set (i := 1) sc_store.nd rfl (Or.inr rfl) (pe_call G_source (hr.mono (by decide)) (by rfl) gm_source kp_source bd_source .nil pass0 (pa_cons (pe_call G_cell (hr.mono (by decide)) (by rfl) gm_cell kp_cell bd_cell .nil pass0 (pa_cons (pv 0) (pa_cons pe_int pa_nil))) (pa_cons pe_int pa_nil)))) (pss_cons (ps_set (i := 7) sc_store.nd rfl (Or.inr rfl) (pe_ix ix_list (pe_lst (pa_cons pe_int (pa_cons (pe_op op_pow pe_int pe_int) pa_nil))) (pe_call G_draw (hr.mono (by decide)) (by rfl) gm_draw kp_draw bd_draw .nil pass0 (pa_cons (pv 1) (pa_cons pe_int pa_nil))) (fun _ _ => rfl))) (pss_cons (ps_setLc (i := 8) (own := [("_law_k", 12)]) (g := (gName 12)) (tt := tYes) (te := (tOp (rI0 fun i j => .int (i + j)) (tC (.int 1)) (tCall (sp_draw K) [] E0 (tCons (tVar 1) (tCons (tVar 7) tNil))))) (by rfl) sc_store.nd rfl rfl (sw_true rfl rfl rfl (by decide +kernel)) (pi_range1 (by rfl) m_range (pa_cons (pe_op op_sub (pv 3) pe_int) pa_nil)) (blkOk_by (own := [("_law_k", 12)]) (N := N_store) (sc := defScope s_store) (by decide +kernel)) (fun _ _ _ _ _ => (pg_name (i := 12) sc_store.nd rfl (Or.inl rfl))) (fun _ _ _ _ _ => pts_nil) (fun _ _ _ _ _ => (pe_op op_add pe_int (pe_call G_draw (hr.mono (by decide)) (by rfl) gm_draw kp_draw bd_draw .nil pass0 (pa_cons (pv 1) (pa_cons (pv 7) pa_nil)))))) (pss_cons (ps_set (i := 9) sc_store.nd rfl (Or.inl rfl) (pe_callTy cr_list (by rfl) m_list (by decide +kernel) (pa_cons (pv 6) pa_nil))) (pss_cons (ps_set (i := 10) sc_store.nd rfl (Or.inl rfl) (pe_callTy cr_list (by rfl) m_list (by decide +kernel) (pa_cons (pv 6) pa_nil))) (pss_cons (ps_set (i := 11) sc_store.nd rfl (Or.inl rfl) (pe_lst pa_nil)) (pss_cons (ps_for PassesOwn.never rfl (pi_range2 (by rfl) m_range (pa_cons pe_int (pa_cons (pe_callB (cr_min2 rfl) (by rfl) m_min (by decide +kernel) (pa_cons (pe_callB cr_lenL (by rfl) m_len PySem.boot_len (pa_cons (pv 0) pa_nil)) (pa_cons pe_int pa_nil))) pa_nil))) (pg_name (i := 12) sc_store.nd rfl (Or.inl rfl)) (pss_one (ps_set (i := 11) sc_store.nd rfl (Or.inl rfl) (pe_op op_catS (pv 11) (pe_call G_box (hr.mono (by decide)) (by rfl) gm_box kp_box bd_box .nil pass0 (pa_cons (pe_call G_source (hr.mono (by decide)) (by rfl) gm_source kp_source bd_source .nil pass0 (pa_cons (pe_ix ix_list (pv 0) (pv 12) (fun _ _ => rfl)) (pa_cons (pv 12) pa_nil))) (pa_cons (pv 2) (pa_cons (pe_op op_sub (pv 12) pe_int) (pa_cons (pv 9) (pa_cons (pv 10) pa_nil)))))))))) (pss_one (ps_ret (pe_tup (pa_cons (pv 6) (pa_cons (pv 8) (pa_cons (pv 5) (pa_cons (pv 11) pa_nil))))))))))))))))))))
abbrev s_able : Stmt := (top 37)
def f_able : (((List Int) × (List Int) × Int × (List (Str × Int × Int))) × Str × Int) → Option (List Str) := fun (store_here_1, word_2, gap_3) => (if (decide (word_2 = ("up" : Str))) = true then (((filC (fun (name_here_8, at_9, to_10) => (decide (at_9 ≤ gap_3) && decide (gap_3 < to_10))) (fun (name_here_8, at_9, to_10) => name_here_8) store_here_1.2.2.2)).bind fun x29 => some x29) else (if (decide (word_2 = ("down" : Str))) = true then (((filC (fun (name_here_46, at_47, to_48) => (decide (to_48 ≤ gap_3) && decide (gap_3 < at_47))) (fun (name_here_46, at_47, to_48) => name_here_46) store_here_1.2.2.2)).bind fun x67 => some x67) else (((filC (fun (name_here_80, at_81, to_82) => ((!decide (at_81 = to_82)) && (decide (gap_3 < (minI at_81 to_82))))) (fun (name_here_80, at_81, to_82) => name_here_80) store_here_1.2.2.2)).bind fun x101 => some x101)))
abbrev A_able : (((List Int) × (List Int) × Int × (List (Str × Int × Int))) × Str × Int) → List Ar := fun x => [.d ((eT4 (eL eI) (eL eI) eI (eL (eT3 eS eI eI))) x.1), .d (eS x.2.1), .d (eI x.2.2)]
abbrev B_able : (List Str) → List PyData := fun y => y.map eS
abbrev C_able : (List Str) → List (List V) := fun y => []
abbrev N_able : List Str := ["_law_store_here", "_law_word", "_law_gap", "_law_name_here", "_law_at", "_law_to"]
abbrev sp_able (K : PySem.W.Frag) : Sp := spF K A_able B_able C_able f_able
def t_able (K : PySem.W.Frag) : TS := (tSeq (tIfS (tTest (tOp rEq (tVar 1) (tC (.str "up")))) (tRet (tLc (iList K (tOp (rIxT K) (tVar 0) (tC (.int 3)))) (gTup K 3 (gCons (gName 3) (gCons (gName 4) (gCons (gName 5) gNil)))) (tTest (tChain (rI0 fun i j => .bl (decide (i ≤ j))) (rI0 fun i j => .bl (decide (i < j))) (tVar 4) (tVar 2) (tVar 5))) (tVar 3) [3, 4, 5])) tNext) (tSeq (tIfS (tTest (tOp rEq (tVar 1) (tC (.str "down")))) (tRet (tLc (iList K (tOp (rIxT K) (tVar 0) (tC (.int 3)))) (gTup K 3 (gCons (gName 3) (gCons (gName 4) (gCons (gName 5) gNil)))) (tTest (tChain (rI0 fun i j => .bl (decide (i ≤ j))) (rI0 fun i j => .bl (decide (i < j))) (tVar 5) (tVar 2) (tVar 4))) (tVar 3) [3, 4, 5])) tNext) (tRet (tLc (iList K (tOp (rIxT K) (tVar 0) (tC (.int 3)))) (gTup K 3 (gCons (gName 3) (gCons (gName 4) (gCons (gName 5) gNil)))) (tAnd (tTest (tOp rNe (tVar 4) (tVar 5))) (tTest (tOp (rI0 fun i j => .bl (decide (j < i))) (tCB rMin2 (tCons (tVar 4) (tCons (tVar 5) tNil))) (tVar 2)))) (tVar 3) [3, 4, 5]))))
theorem w_able {K : PySem.W.Frag} (vs : List V) (H : Hp) (Q : VK) (E : XK) (h : sp_able K vs H Q E) : t_able K { nx := fun _ H' => Q .non H', rt := Q } (start N_able vs) H := by
  obtain ⟨F0, cc, cs, ⟨store_here_1, word_2, gap_3⟩, y, h0, hS0, m, q⟩ := h
  obtain ⟨a0, _, rfl, ha0, h1⟩ := ArgR.hd h0
  obtain ⟨a1, _, rfl, ha1, h2⟩ := ArgR.hd h1
  obtain ⟨a2, _, rfl, ha2, h3⟩ := ArgR.hd h2
  obtain ⟨rfl, rfl⟩ := ArgR.no h3
  obtain rfl := Dt.toStr ha1
  obtain rfl := Dt.toInt ha2
  unfold f_able at m
  try dsimp only at m
  unfold t_able
  refine go (σ' := [some a0, some (.str word_2), some (.int gap_3), none, none, none]) rfl ?_
  refine s_if (b := (decide (word_2 = ("up" : Str)))) hS0 (t_test (K := K) (d_eqS (d_var rfl (.str _)) d_str)) (fun hc F4 H5 g6 hS7 => ?_) (fun hc F38 H39 g40 hS41 => ?_)
  · rw [if_pos hc] at m
    obtain ⟨x29, k30, m⟩ := bnd m
    refine s_retC (K := K) (ds := x29.map eS) hS7 (c_filC (K := K) (p := (fun (name_here_8, at_9, to_10) => (decide (at_9 ≤ gap_3) && decide (gap_3 < to_10)))) (f := (fun (name_here_8, at_9, to_10) => name_here_8)) (em := eS) (i_list (en := (eT3 eS eI eI)) (d_ixT (d_var rfl (Dt.gr g6 ha0)) d_int rfl)) k30 (fun ⟨name_here_8, at_9, to_10⟩ o17 v18 F11 p12 us13 g14 hv15 ho16 => by obtain ⟨p21, w23, w24, w25, rfl, hT22, hw26, hw27, hw28⟩ := u3 hv15; obtain rfl := Dt.toStr hw26; obtain rfl := Dt.toInt hw27; obtain rfl := Dt.toInt hw28; obtain rfl := sm ho16; refine ⟨[some a0, some (.str word_2), some (.int gap_3), some (.str name_here_8), some (.int at_9), some (.int to_10)], fun H20 Q hS19 hq => (fun Q hq => ⟨p21, [_, _, _], rfl, gr_T hS19.fr hT22, rfl, _, _, rfl, _, _, rfl, _, _, rfl, rfl, hq⟩) Q hq, rfl, ?_, ?_⟩; (rw [isS]; exact (t_test (K := K) (d_chain (d_var rfl (.int _)) (d_var rfl (.int _)) (d_var rfl (.int _))))); (intro y hy; obtain rfl := isSm hy; exact (d_var rfl (.str _))))) (fun p35 us36 F31 H32 g33 hS34 hu37 => ?_)
    obtain rfl := sm m
    exact q _ _ _ _ (Gr.tr g6 g33) hS34 hu37
  · rw [if_neg (bf hc)] at m
    refine nxt ?_
    refine s_if (b := (decide (word_2 = ("down" : Str)))) hS41 (t_test (K := K) (d_eqS (d_var rfl (.str _)) d_str)) (fun hc F42 H43 g44 hS45 => ?_) (fun hc F76 H77 g78 hS79 => ?_)
    · rw [if_pos hc] at m
      obtain ⟨x67, k68, m⟩ := bnd m
      refine s_retC (K := K) (ds := x67.map eS) hS45 (c_filC (K := K) (p := (fun (name_here_46, at_47, to_48) => (decide (to_48 ≤ gap_3) && decide (gap_3 < at_47)))) (f := (fun (name_here_46, at_47, to_48) => name_here_46)) (em := eS) (i_list (en := (eT3 eS eI eI)) (d_ixT (d_var rfl (Dt.gr (Gr.tr g40 g44) ha0)) d_int rfl)) k68 (fun ⟨name_here_46, at_47, to_48⟩ o55 v56 F49 p50 us51 g52 hv53 ho54 => by obtain ⟨p59, w61, w62, w63, rfl, hT60, hw64, hw65, hw66⟩ := u3 hv53; obtain rfl := Dt.toStr hw64; obtain rfl := Dt.toInt hw65; obtain rfl := Dt.toInt hw66; obtain rfl := sm ho54; refine ⟨[some a0, some (.str word_2), some (.int gap_3), some (.str name_here_46), some (.int at_47), some (.int to_48)], fun H58 Q hS57 hq => (fun Q hq => ⟨p59, [_, _, _], rfl, gr_T hS57.fr hT60, rfl, _, _, rfl, _, _, rfl, _, _, rfl, rfl, hq⟩) Q hq, rfl, ?_, ?_⟩; (rw [isS]; exact (t_test (K := K) (d_chain (d_var rfl (.int _)) (d_var rfl (.int _)) (d_var rfl (.int _))))); (intro y hy; obtain rfl := isSm hy; exact (d_var rfl (.str _))))) (fun p73 us74 F69 H70 g71 hS72 hu75 => ?_)
      obtain rfl := sm m
      exact q _ _ _ _ (Gr.tr g40 (Gr.tr g44 g71)) hS72 hu75
    · rw [if_neg (bf hc)] at m
      refine nxt ?_
      obtain ⟨x101, k102, m⟩ := bnd m
      refine s_retC (K := K) (ds := x101.map eS) hS79 (c_filC (K := K) (p := (fun (name_here_80, at_81, to_82) => ((!decide (at_81 = to_82)) && (decide (gap_3 < (minI at_81 to_82)))))) (f := (fun (name_here_80, at_81, to_82) => name_here_80)) (em := eS) (i_list (en := (eT3 eS eI eI)) (d_ixT (d_var rfl (Dt.gr (Gr.tr g40 g78) ha0)) d_int rfl)) k102 (fun ⟨name_here_80, at_81, to_82⟩ o89 v90 F83 p84 us85 g86 hv87 ho88 => by obtain ⟨p93, w95, w96, w97, rfl, hT94, hw98, hw99, hw100⟩ := u3 hv87; obtain rfl := Dt.toStr hw98; obtain rfl := Dt.toInt hw99; obtain rfl := Dt.toInt hw100; obtain rfl := sm ho88; refine ⟨[some a0, some (.str word_2), some (.int gap_3), some (.str name_here_80), some (.int at_81), some (.int to_82)], fun H92 Q hS91 hq => (fun Q hq => ⟨p93, [_, _, _], rfl, gr_T hS91.fr hT94, rfl, _, _, rfl, _, _, rfl, _, _, rfl, rfl, hq⟩) Q hq, rfl, ?_, ?_⟩; (rw [isS]; exact (t_andP (t_test (K := K) (d_neI (d_var rfl (.int _)) (d_var rfl (.int _)))) (fun hc => (t_test (K := K) (d_gt (d_min2 (a_cons (d_var rfl (.int _)) (a_cons (d_var rfl (.int _)) a_nil))) (d_var rfl (.int _))))))); (intro y hy; obtain rfl := isSm hy; exact (d_var rfl (.str _))))) (fun p107 us108 F103 H104 g105 hS106 hu109 => ?_)
      obtain rfl := sm m
      exact q _ _ _ _ (Gr.tr g40 (Gr.tr g78 g105)) hS106 hu109
theorem sc_able : FnScope N_able ["_law_store_here", "_law_word", "_law_gap"] (defScope s_able) := ⟨rfl, rfl, rfl, by decide +kernel, rfl, by decide +kernel, by decide +kernel⟩
theorem ok_able {P : Program} {w : World} {K : PySem.W.Frag} {mg : Str → Option Value} {base : Heap} (hF : Df K mg "_law_able" s_able) (m_min : mg "min" = none) : Ok P w K mg base 1 "_law_able" ["_law_store_here", "_law_word", "_law_gap"] (sp_able K) := by
  obtain ⟨⟨fd, F⟩, gm⟩ := hF
  refine ⟨⟨fd, F.ok sc_able (fun vs H Q E h => ?_) (fun cdv A outer s H vs Q E hr h => ⟨t_able K, PSs.nox ?_, w_able vs H Q E h⟩), F.bindsN fun _ _ _ _ _ _ us hl => match us, hl with | [_, _, _], _ => rfl, lk_of F⟩, F.kp, gm⟩
  · obtain ⟨F0, cc, cs, x, y, h, _⟩ := h; exact ArgR.len h
  · exact (pss_cons (ps_if (pt_cmpR op_eq (pv 1) pe_str (nomark _)) (pss_one (ps_ret (pe_lc (own := [("_law_name_here", 3), ("_law_at", 4), ("_law_to", 5)]) (g := (gTup K 3 (gCons (gName 3) (gCons (gName 4) (gCons (gName 5) gNil))))) (tt := (tTest (tChain (rI0 fun i j => .bl (decide (i ≤ j))) (rI0 fun i j => .bl (decide (i < j))) (tVar 4) (tVar 2) (tVar 5)))) (te := (tVar 3)) (by rfl) sc_able.nd (pi_list (pe_ix ix_tup (pv 0) pe_int (fun _ _ => rfl))) (blkOk_by (own := [("_law_name_here", 3), ("_law_at", 4), ("_law_to", 5)]) (N := N_able) (sc := defScope s_able) (by decide +kernel)) (fun _ _ _ _ _ => (pg_tup rfl (pgs_cons (pg_name (i := 3) sc_able.nd rfl (Or.inl rfl)) (pgs_cons (pg_name (i := 4) sc_able.nd rfl (Or.inl rfl)) (pgs_cons (pg_name (i := 5) sc_able.nd rfl (Or.inl rfl)) pgs_nil))))) (fun _ _ _ _ _ => (pts_one (pt_chain op_le op_lt (pv 4) (pv 2) (pv 5)))) (fun _ _ _ _ _ => (pv 3))))) pss_nil) (pss_cons (ps_if (pt_cmpR op_eq (pv 1) pe_str (nomark _)) (pss_one (ps_ret (pe_lc (own := [("_law_name_here", 3), ("_law_at", 4), ("_law_to", 5)]) (g := (gTup K 3 (gCons (gName 3) (gCons (gName 4) (gCons (gName 5) gNil))))) (tt := (tTest (tChain (rI0 fun i j => .bl (decide (i ≤ j))) (rI0 fun i j => .bl (decide (i < j))) (tVar 5) (tVar 2) (tVar 4)))) (te := (tVar 3)) (by rfl) sc_able.nd (pi_list (pe_ix ix_tup (pv 0) pe_int (fun _ _ => rfl))) (blkOk_by (own := [("_law_name_here", 3), ("_law_at", 4), ("_law_to", 5)]) (N := N_able) (sc := defScope s_able) (by decide +kernel)) (fun _ _ _ _ _ => (pg_tup rfl (pgs_cons (pg_name (i := 3) sc_able.nd rfl (Or.inl rfl)) (pgs_cons (pg_name (i := 4) sc_able.nd rfl (Or.inl rfl)) (pgs_cons (pg_name (i := 5) sc_able.nd rfl (Or.inl rfl)) pgs_nil))))) (fun _ _ _ _ _ => (pts_one (pt_chain op_le op_lt (pv 5) (pv 2) (pv 4)))) (fun _ _ _ _ _ => (pv 3))))) pss_nil) (pss_one (ps_ret (pe_lc (own := [("_law_name_here", 3), ("_law_at", 4), ("_law_to", 5)]) (g := (gTup K 3 (gCons (gName 3) (gCons (gName 4) (gCons (gName 5) gNil))))) (tt := (tAnd (tTest (tOp rNe (tVar 4) (tVar 5))) (tTest (tOp (rI0 fun i j => .bl (decide (j < i))) (tCB rMin2 (tCons (tVar 4) (tCons (tVar 5) tNil))) (tVar 2))))) (te := (tVar 3)) (by rfl) sc_able.nd (pi_list (pe_ix ix_tup (pv 0) pe_int (fun _ _ => rfl))) (blkOk_by (own := [("_law_name_here", 3), ("_law_at", 4), ("_law_to", 5)]) (N := N_able) (sc := defScope s_able) (by decide +kernel)) (fun _ _ _ _ _ => (pg_tup rfl (pgs_cons (pg_name (i := 3) sc_able.nd rfl (Or.inl rfl)) (pgs_cons (pg_name (i := 4) sc_able.nd rfl (Or.inl rfl)) (pgs_cons (pg_name (i := 5) sc_able.nd rfl (Or.inl rfl)) pgs_nil))))) (fun _ _ _ _ _ => (pts_one (PW.pt (pw_and (pt_cmpR op_ne (pv 4) (pv 5) (nomark _)) (pw_and1 (pt_cmpR op_gt (pe_callB (cr_min2 rfl) (by rfl) m_min (by decide +kernel) (pa_cons (pv 4) (pa_cons (pv 5) pa_nil))) (pv 2) (nomark _))))))) (fun _ _ _ _ _ => (pv 3)))))))
abbrev s_paper : Stmt := (top 38)
def f_paper_b14 (store_here_1 : ((List Int) × (List Int) × Int × (List (Str × Int × Int)))) : ((List Int) × (List (Str × Int × PyData))) → Int → Option ((List Int) × (List (Str × Int × PyData))) := fun (source_here_17, paper_here_18) gap_19 => (((f_draw (source_here_17, (5 : Int)))).bind fun (x45, source_here_47) => ((atI ([("up" : Str), ("down" : Str), ("past" : Str), ("up" : Str), ("down" : Str)] : (List Str)) x45)).bind fun x48 => (((f_able (store_here_1, x48, gap_19))).bind fun x54 => (((lcSC (fun (source_here_71 : (List Int)) name_here_62 => (((f_draw (source_here_71, (4 : Int)))).bind fun (x74, source_here_76) => if (decide ((0 : Int) < x74)) = true then (some (source_here_76, some name_here_62)) else some (source_here_76, none))) source_here_47 x54)).bind fun (source_here_81, x79) => (((f_draw (source_here_81, (2 : Int)))).bind fun (x88, source_here_90) => ((if (decide (x88 = (1 : Int))) = true then (letM (x79).reverse fun names_150 => some names_150) else some x79)).bind fun names_91 => (((eqTM (eL eS) names_91 ([] : (List Str)))).bind fun x104 => (if ((!x104) && (decide (x48 = ("past" : Str)))) = true then (((atI names_91 (0 : Int))).bind fun x110 => ((appM paper_here_18 (x48, gap_19, (eS x110)))).bind fun paper_here_112 => some (source_here_90, paper_here_112)) else (((eqTM (eL eS) names_91 ([] : (List Str)))).bind fun x124 => (if (!x124) = true then (((appM paper_here_18 (x48, gap_19, ((eL eS) names_91)))).bind fun paper_here_130 => some (source_here_90, paper_here_130)) else some (source_here_90, paper_here_18)))))))))
def f_paper : (((List Int) × (List Int) × Int × (List (Str × Int × Int))) × (List Int)) → Option ((List (Str × Int × PyData)) × (List Int)) := fun (store_here_1, source_here_2) => (letM ([] : (List (Str × Int × PyData))) fun paper_here_7 => (((rngM (0 : Int) (store_here_1.2.1.length : Int))).bind fun x12 => (x12.foldlM (f_paper_b14 store_here_1) (source_here_2, paper_here_7)).bind fun (source_here_164, paper_here_165) => (((f_draw (source_here_164, (2 : Int)))).bind fun (x175, source_here_177) => ((if (decide (x175 = (1 : Int))) = true then (letM (paper_here_165).reverse fun paper_here_218 => some paper_here_218) else some paper_here_165)).bind fun paper_here_178 => (((f_draw (source_here_177, ((paper_here_178.length : Int) + (1 : Int))))).bind fun (x195, source_here_197) => (((catM (cutL paper_here_178 (some x195) none) (cutL paper_here_178 none (some x195)))).bind fun x202 => some (x202, source_here_197))))))
abbrev A_paper : (((List Int) × (List Int) × Int × (List (Str × Int × Int))) × (List Int)) → List Ar := fun x => [.d ((eT4 (eL eI) (eL eI) eI (eL (eT3 eS eI eI))) x.1), .c (x.2.map V.int)]
abbrev B_paper : ((List (Str × Int × PyData)) × (List Int)) → PyData := fun y => (eL (eT3 eS eI eD)) y.1
abbrev C_paper : ((List (Str × Int × PyData)) × (List Int)) → List (List V) := fun y => [y.2.map V.int]
abbrev N_paper : List Str := ["_law_store_here", "_law_source_here", "_law_paper_here", "_law_gap", "_law_turn", "_law_word", "_law_some", "_law_names", "_law_name_here"]
abbrev sp_paper (K : PySem.W.Frag) : Sp := spC K A_paper B_paper C_paper f_paper
def t_paper (K : PySem.W.Frag) : TS := (tSeq (tAsg (tLst tNil) (gName 2)) (tSeq (tFor (iRng1 (tCons (tCB (rLenL K) (tCons (tOp (rIxT K) (tVar 0) (tC (.int 1))) tNil)) tNil)) (gName 3) (tSeq (tAsg (tOp (rIxL K) (tLst (tCons (tC (.str "up")) (tCons (tC (.str "down")) (tCons (tC (.str "past")) (tCons (tC (.str "up")) (tCons (tC (.str "down")) tNil)))))) (tCall (sp_draw K) [] E0 (tCons (tVar 1) (tCons (tC (.int 5)) tNil)))) (gName 5)) (tSeq (tAsg (tCall (sp_able K) [] E0 (tCons (tVar 0) (tCons (tVar 5) (tCons (tVar 3) tNil)))) (gName 6)) (tSeq (tAsg (tLc (iList K (tVar 6)) (gName 8) (tTest (tOp (rI0 fun i j => .bl (decide (j < i))) (tCall (sp_draw K) [] E0 (tCons (tVar 1) (tCons (tC (.int 4)) tNil))) (tC (.int 0)))) (tVar 8) [8]) (gName 7)) (tSeq (tIfS (tTest (tOp rEq (tCall (sp_draw K) [] E0 (tCons (tVar 1) (tCons (tC (.int 2)) tNil))) (tC (.int 1)))) (tAsg (tRevL K (tVar 7)) (gName 7)) tNext) (tIfS (tAnd (tTest (tOp (rNeD K) (tVar 7) (tLst tNil))) (tTest (tOp rEq (tVar 5) (tC (.str "past"))))) (tDrop (tBM K "list" rAppend (tVar 2) (tCons (tTup (tCons (tVar 5) (tCons (tVar 3) (tCons (tOp (rIxL K) (tVar 7) (tC (.int 0))) tNil)))) tNil))) (tIfS (tTest (tOp (rNeD K) (tVar 7) (tLst tNil))) (tDrop (tBM K "list" rAppend (tVar 2) (tCons (tTup (tCons (tVar 5) (tCons (tVar 3) (tCons (tVar 7) tNil)))) tNil))) tNext))))))) (tSeq (tIfS (tTest (tOp rEq (tCall (sp_draw K) [] E0 (tCons (tVar 1) (tCons (tC (.int 2)) tNil))) (tC (.int 1)))) (tAsg (tRevL K (tVar 2)) (gName 2)) tNext) (tSeq (tAsg (tCall (sp_draw K) [] E0 (tCons (tVar 1) (tCons (tOp (rI0 fun i j => .int (i + j)) (tCB (rLenL K) (tCons (tVar 2) tNil)) (tC (.int 1))) tNil))) (gName 4)) (tRet (tOp (rCatS K) (tSl (rSlL K) (tVar 2) (tPart (tVar 4)) tNoPart) (tSl (rSlL K) (tVar 2) tNoPart (tPart (tVar 4)))))))))
theorem w_paper {K : PySem.W.Frag} (vs : List V) (H : Hp) (Q : VK) (E : XK) (h : sp_paper K vs H Q E) : t_paper K { nx := fun _ H' => Q .non H', rt := Q } (start N_paper vs) H := by
  obtain ⟨F0, cc, cs, ⟨store_here_1, source_here_2⟩, y, h0, hS0, m, q⟩ := h
  obtain ⟨a0, _, rfl, ha0, h1⟩ := ArgR.hd h0
  obtain ⟨a1, _, _, rfl, rfl, h2⟩ := ArgR.hc h1
  obtain ⟨rfl, rfl⟩ := ArgR.no h2
  unfold f_paper at m
  try dsimp only at m
  unfold t_paper
  refine go (σ' := [some a0, some (.ref a1), none, none, none, none, none, none, none]) rfl ?_
  obtain ⟨paper_here_7, k8, m⟩ := lt m
  refine s_setC (K := K) (ds := paper_here_7.map (eT3 eS eI eD)) (i := 2) (σ' := fun p9 => [some a0, some (.ref a1), some (.ref p9), none, none, none, none, none, none]) hS0 (c_is (c_lst a_nil (Nat.le_of_ble_eq_true rfl)) (congrArg (List.map (eT3 eS eI eD)) k8)) (fun _ => rfl) (fun p9 us10 F3 H4 g5 hS6 hu11 => ?_)
  obtain ⟨x12, k13, m⟩ := bnd m
  obtain ⟨⟨source_here_164, paper_here_165⟩, k16, m⟩ := bnd m
  try dsimp only at m
  refine s_for (K := K) (xs := x12) (en := eI) (body := (f_paper_b14 store_here_1)) (s0 := (source_here_2, paper_here_7)) (r := (source_here_164, paper_here_165)) (fun (a : (List Int) × (List (Str × Int × PyData))) F σ c => ∃ (j3 : Option V) (j4 : Option V) (j5 : Option V) (j6 : Option V) (j7 : Option V) (j8 : Option V) (z2 : List V), σ = [some a0, some (.ref a1), some (.ref p9), j3, j4, j5, j6, j7, j8] ∧ (p9, .lst z2) :: (a1, .lst (a.1.map V.int)) :: cs = c ∧ Dts K F z2 (a.2.map (eT3 eS eI eD))) hS6 (i_rng1 (a_cons (d_len (e := eI) (a_cons (d_ixT (d_var rfl (Dt.gr g5 ha0)) d_int rfl) a_nil)) a_nil) k13) (fun _ _ => ⟨_, _, _, _, _, _, _, rfl, rfl, (Dts.gr ‹_› hu11)⟩) k16 ?_ ?_
  · rintro gap_19 ⟨source_here_17, paper_here_18⟩ b28 F20 F21 σ34 c35 H22 v27 N29 g23 ⟨u37, u38, u39, u40, u41, u42, us43, rfl, rfl, h44⟩ g24 hS25 hv26 m36 hN31
    obtain rfl := Dt.toInt hv26
    refine tg (σ' := [some a0, some (.ref a1), some (.ref p9), some (.int gap_19), u38, u39, u40, u41, u42]) (fun Q hq => hq) ?_
    unfold f_paper_b14 at m36
    try dsimp only at m36
    obtain ⟨⟨x45, source_here_47⟩, k46, m36⟩ := bnd m36; (try dsimp only at m36)
    obtain ⟨x48, k49, m36⟩ := bnd m36
    refine s_setV (K := K) (d := eS x48) (i := 5) (σ' := [some a0, some (.ref a1), some (.ref p9), some (.int gap_19), u38, some (.str x48), u40, u41, u42]) (fun _ _ h => Dt.toStr h) hS25 (d_ix (e := eS) (d_lst (a_cons d_str (a_cons d_str (a_cons d_str (a_cons d_str (a_cons d_str a_nil))))) (Nat.le_of_ble_eq_true rfl)) (d_callX (A := A_draw) (B := B_draw) (C := C_draw) (x := (source_here_17, (5 : Int))) (y := (x45, source_here_47)) (cs2 := ((p9, HO.lst us43) :: (a1, HO.lst (source_here_47.map V.int)) :: cs)) (cc := [(a1, HO.lst (source_here_17.map V.int))]) (cs' := ((p9, HO.lst us43) :: cs)) (r_c rfl (r_d d_int r_nil)) (sb_perm (List.perm_middle (l₁ := [(p9, HO.lst us43)]))) k46 (sb_perm (List.Perm.symm (List.perm_middle (l₁ := [(p9, HO.lst us43)]))))) k49) rfl (fun F50 H51 g52 hS53 => ?_)
    obtain ⟨x54, k55, m36⟩ := bnd m36
    refine s_set (K := K) (d := (eL eS) x54) (i := 6) (σ' := fun v60 => [some a0, some (.ref a1), some (.ref p9), some (.int gap_19), u38, some (.str x48), some v60, u41, u42]) hS53 (EvC.dd (c_callX (A := A_able) (B := B_able) (C := C_able) (x := (store_here_1, x48, gap_19)) (y := x54) (cs2 := ((p9, HO.lst us43) :: (a1, HO.lst (source_here_47.map V.int)) :: cs)) (cc := []) (cs' := ((p9, HO.lst us43) :: (a1, HO.lst (source_here_47.map V.int)) :: cs)) (r_d (d_var rfl (Dt.gr (Gr.tr g5 (Gr.tr g23 (Gr.tr g24 g52))) ha0)) (r_d (d_var rfl (.str _)) (r_d (d_var rfl (.int _)) r_nil))) sb_rfl k55 (fun _ => sb_rfl))) (fun _ => rfl) (fun v60 F56 H57 g58 hS59 hv61 => ?_)
    obtain ⟨⟨source_here_81, x79⟩, k80, m36⟩ := bnd m36; (try dsimp only at m36)
    refine s_set (K := K) (d := (eL eS) x79) (i := 7) (σ' := fun v86 => [some a0, some (.ref a1), some (.ref p9), some (.int gap_19), u38, some (.str x48), some v60, some v86, u42]) hS59 (EvC.dd (c_lcT (K := K) (f := (fun (source_here_71 : (List Int)) name_here_62 => (((f_draw (source_here_71, (4 : Int)))).bind fun (x74, source_here_76) => if (decide ((0 : Int) < x74)) = true then (some (source_here_76, some name_here_62)) else some (source_here_76, none)))) (em := eS) (s0 := source_here_47) (s1 := source_here_81) (fun (z : (List Int)) => (p9, .lst us43) :: (a1, .lst (z.map V.int)) :: cs) (i_list (en := eS) (d_var rfl hv61)) k80 (fun name_here_62 source_here_71 z77 o69 v70 F63 p64 us65 g66 hv67 ho68 => by obtain rfl := Dt.toStr hv67; obtain ⟨⟨x74, source_here_76⟩, k75, ho68⟩ := bnd ho68; (try dsimp only at ho68); by_cases hc : (decide ((0 : Int) < x74)) = true; (rw [if_pos hc] at ho68; obtain ⟨rfl, rfl⟩ := pr2 (sm ho68); refine ⟨[some a0, some (.ref a1), some (.ref p9), some (.int gap_19), u38, some (.str x48), some v60, u41, some (.str name_here_62)], source_here_76, fun H73 Q hS72 hq => (fun Q hq => hq) Q hq, rfl, ?_, ?_, ?_⟩; (rw [show (some name_here_62).isSome = (decide ((0 : Int) < x74)) from hc.symm]; exact (t_test (K := K) (d_gt (d_callX (A := A_draw) (B := B_draw) (C := C_draw) (x := (source_here_71, (4 : Int))) (y := (x74, source_here_76)) (cs2 := ((p64, HO.lst us65) :: (p9, HO.lst us43) :: (a1, HO.lst (source_here_76.map V.int)) :: cs)) (cc := [(a1, HO.lst (source_here_71.map V.int))]) (cs' := ((p64, HO.lst us65) :: (p9, HO.lst us43) :: cs)) (r_c rfl (r_d d_int r_nil)) (sb_perm (List.perm_middle (l₁ := [(p64, HO.lst us65), (p9, HO.lst us43)]))) k75 (sb_perm (List.Perm.symm (List.perm_middle (l₁ := [(p64, HO.lst us65), (p9, HO.lst us43)]))))) d_int))); (intro hy; cases hy); (intro y hy; obtain rfl := sm hy; exact (d_var rfl (.str _)))); (rw [if_neg hc] at ho68; obtain ⟨rfl, rfl⟩ := pr2 (sm ho68); refine ⟨[some a0, some (.ref a1), some (.ref p9), some (.int gap_19), u38, some (.str x48), some v60, u41, some (.str name_here_62)], source_here_76, fun H73 Q hS72 hq => (fun Q hq => hq) Q hq, rfl, ?_, ?_, ?_⟩; (rw [show (none : Option Str).isSome = (decide ((0 : Int) < x74)) from (bt hc).symm]; exact (t_test (K := K) (d_gt (d_callX (A := A_draw) (B := B_draw) (C := C_draw) (x := (source_here_71, (4 : Int))) (y := (x74, source_here_76)) (cs2 := ((p64, HO.lst us65) :: (p9, HO.lst us43) :: (a1, HO.lst (source_here_76.map V.int)) :: cs)) (cc := [(a1, HO.lst (source_here_71.map V.int))]) (cs' := ((p64, HO.lst us65) :: (p9, HO.lst us43) :: cs)) (r_c rfl (r_d d_int r_nil)) (sb_perm (List.perm_middle (l₁ := [(p64, HO.lst us65), (p9, HO.lst us43)]))) k75 (sb_perm (List.Perm.symm (List.perm_middle (l₁ := [(p64, HO.lst us65), (p9, HO.lst us43)]))))) d_int))); (intro hy; rfl); (intro y hy; cases hy))))) (fun _ => rfl) (fun v86 F82 H83 g84 hS85 hv87 => ?_)
    obtain ⟨⟨x88, source_here_90⟩, k89, m36⟩ := bnd m36; (try dsimp only at m36)
    obtain ⟨names_91, k93, m36⟩ := bnd m36
    refine s_ifJ (b := (decide (x88 = (1 : Int)))) (fun σ H => ∃ (F : Hp) (c : Cs), Gr F82 F ∧ Sta F c H ∧ ∃ (j4 : Option V) (j7 : V) (j8 : Option V), σ = [some a0, some (.ref a1), some (.ref p9), some (.int gap_19), j4, some (.str x48), some v60, some j7, j8] ∧ (p9, .lst us43) :: (a1, .lst (source_here_90.map V.int)) :: cs = c ∧ Dt K F j7 ((eL eS) names_91)) hS85 (t_test (K := K) (d_eqI (d_callX (A := A_draw) (B := B_draw) (C := C_draw) (x := (source_here_81, (2 : Int))) (y := (x88, source_here_90)) (cs2 := ((p9, HO.lst us43) :: (a1, HO.lst (source_here_90.map V.int)) :: cs)) (cc := [(a1, HO.lst (source_here_81.map V.int))]) (cs' := ((p9, HO.lst us43) :: cs)) (r_c rfl (r_d d_int r_nil)) (sb_perm (List.perm_middle (l₁ := [(p9, HO.lst us43)]))) k89 (sb_perm (List.Perm.symm (List.perm_middle (l₁ := [(p9, HO.lst us43)]))))) d_int)) ?_ (fun jn92 hc F142 H143 g144 hS145 => ?_) (fun jn92 hc F154 H155 g156 hS157 => ?_)
    · rintro σ99 H95 ⟨F94, c98, g96, hS97, u100, v101, u102, rfl, rfl, h103⟩
      obtain ⟨x104, k105, m36⟩ := bnd m36
      refine s_if (b := ((!x104) && (decide (x48 = ("past" : Str))))) hS97 (t_andP (t_test (K := K) (d_neTM (EqE.l eqE_S) (d_var rfl h103) (d_lst a_nil (Nat.le_of_ble_eq_true rfl)) k105)) (fun hc => (t_test (K := K) (d_eqS (d_var rfl (.str _)) d_str)))) (fun hc F106 H107 g108 hS109 => ?_) (fun hc F120 H121 g122 hS123 => ?_)
      · rw [if_pos hc] at m36
        obtain ⟨x110, k111, m36⟩ := bnd m36
        obtain ⟨paper_here_112, k113, m36⟩ := bnd m36
        refine s_appGV (K := K) (k1 := []) (x := (x48, gap_19, (eS x110))) (l1 := []) (p := p9) (en := (eT3 eS eI eD)) hS109 (Dts.gr (Gr.tr g24 (Gr.tr g52 (Gr.tr g58 (Gr.tr g84 (Gr.tr g96 g108))))) h44) (vp_var rfl) (d_tup (a_cons (d_var rfl (.str _)) (a_cons (d_var rfl (.int _)) (a_cons (d_ix (e := eS) (d_var rfl (Dt.gr g108 h103)) d_int k111) a_nil))) (Nat.le_of_ble_eq_true rfl)) k113 (fun us118 F114 H115 g116 hS117 hu119 => ?_)
        obtain rfl := sm m36
        exact hN31 _ _ _ _ (Gr.tr g52 (Gr.tr g58 (Gr.tr g84 (Gr.tr g96 (Gr.tr g108 g116))))) hS117 ⟨_, _, _, _, _, _, _, rfl, rfl, hu119⟩
      · rw [if_neg (bf hc)] at m36
        obtain ⟨x124, k125, m36⟩ := bnd m36
        refine s_if (b := (!x124)) hS123 (t_test (K := K) (d_neTM (EqE.l eqE_S) (d_var rfl (Dt.gr g122 h103)) (d_lst a_nil (Nat.le_of_ble_eq_true rfl)) k125)) (fun hc F126 H127 g128 hS129 => ?_) (fun hc F138 H139 g140 hS141 => ?_)
        · rw [if_pos hc] at m36
          obtain ⟨paper_here_130, k131, m36⟩ := bnd m36
          refine s_appGV (K := K) (k1 := []) (x := (x48, gap_19, ((eL eS) names_91))) (l1 := []) (p := p9) (en := (eT3 eS eI eD)) hS129 (Dts.gr (Gr.tr g24 (Gr.tr g52 (Gr.tr g58 (Gr.tr g84 (Gr.tr g96 (Gr.tr g122 g128)))))) h44) (vp_var rfl) (d_tup (a_cons (d_var rfl (.str _)) (a_cons (d_var rfl (.int _)) (a_cons (d_var rfl (Dt.gr (Gr.tr g122 g128) h103)) a_nil))) (Nat.le_of_ble_eq_true rfl)) k131 (fun us136 F132 H133 g134 hS135 hu137 => ?_)
          obtain rfl := sm m36
          exact hN31 _ _ _ _ (Gr.tr g52 (Gr.tr g58 (Gr.tr g84 (Gr.tr g96 (Gr.tr g122 (Gr.tr g128 g134)))))) hS135 ⟨_, _, _, _, _, _, _, rfl, rfl, hu137⟩
        · rw [if_neg (bf hc)] at m36
          refine nxt ?_
          obtain rfl := sm m36
          exact hN31 _ _ _ _ (Gr.tr g52 (Gr.tr g58 (Gr.tr g84 (Gr.tr g96 (Gr.tr g122 g140))))) hS141 ⟨_, _, _, _, _, _, _, rfl, rfl, (Dts.gr (Gr.tr g24 (Gr.tr g52 (Gr.tr g58 (Gr.tr g84 (Gr.tr g96 (Gr.tr g122 g140)))))) h44)⟩
    · rw [if_pos hc] at k93
      obtain ⟨names_150, k151, k93⟩ := lt k93
      refine s_set (K := K) (d := (eL eS) names_150) (i := 7) (σ' := fun v152 => [some a0, some (.ref a1), some (.ref p9), some (.int gap_19), u38, some (.str x48), some v60, some v152, u42]) hS145 (d_is (EvC.dd (c_rev (d_var rfl (Dt.gr g144 hv87)))) (congrArg (eL eS) k151)) (fun _ => rfl) (fun v152 F146 H147 g148 hS149 hv153 => ?_)
      obtain rfl := sm k93
      exact jn92 _ _ ⟨_, _, (Gr.tr g144 g148), hS149, _, _, _, rfl, rfl, hv153⟩
    · rw [if_neg (bf hc)] at k93
      refine nxt ?_
      obtain rfl := sm k93
      exact jn92 _ _ ⟨_, _, g156, hS157, _, _, _, rfl, rfl, (Dt.gr g156 hv87)⟩
  · rintro F158 σ163 c162 H159 g160 hS161 ⟨u166, u167, u168, u169, u170, u171, us172, rfl, rfl, h173⟩
    have hS174 := Sta.frozeAt (l1 := []) hS161
    obtain ⟨⟨x175, source_here_177⟩, k176, m⟩ := bnd m; (try dsimp only at m)
    obtain ⟨paper_here_178, k180, m⟩ := bnd m
    refine s_ifJ (b := (decide (x175 = (1 : Int)))) (fun σ H => ∃ (F : Hp) (c : Cs), Gr (upd F158 p9 (.lst us172)) F ∧ Sta F c H ∧ ∃ (j2 : V) (j3 : Option V) (j4 : Option V) (j5 : Option V) (j6 : Option V) (j7 : Option V) (j8 : Option V), σ = [some a0, some (.ref a1), some j2, j3, j4, j5, j6, j7, j8] ∧ (a1, .lst (source_here_177.map V.int)) :: cs = c ∧ Dt K F j2 ((eL (eT3 eS eI eD)) paper_here_178)) hS174 (t_test (K := K) (d_eqI (d_callX (A := A_draw) (B := B_draw) (C := C_draw) (x := (source_here_164, (2 : Int))) (y := (x175, source_here_177)) (cs2 := ((a1, HO.lst (source_here_177.map V.int)) :: cs)) (cc := [(a1, HO.lst (source_here_164.map V.int))]) (cs' := (cs)) (r_c rfl (r_d d_int r_nil)) sb_rfl k176 sb_rfl) d_int)) ?_ (fun jn179 hc F210 H211 g212 hS213 => ?_) (fun jn179 hc F222 H223 g224 hS225 => ?_)
    · rintro σ186 H182 ⟨F181, c185, g183, hS184, v187, u188, u189, u190, u191, u192, u193, rfl, rfl, h194⟩
      obtain ⟨⟨x195, source_here_197⟩, k196, m⟩ := bnd m; (try dsimp only at m)
      refine s_setV (K := K) (d := eI x195) (i := 4) (σ' := [some a0, some (.ref a1), some v187, u188, some (.int x195), u190, u191, u192, u193]) (fun _ _ h => Dt.toInt h) hS184 (d_callX (A := A_draw) (B := B_draw) (C := C_draw) (x := (source_here_177, ((paper_here_178.length : Int) + (1 : Int)))) (y := (x195, source_here_197)) (cs2 := ((a1, HO.lst (source_here_197.map V.int)) :: cs)) (cc := [(a1, HO.lst (source_here_177.map V.int))]) (cs' := (cs)) (r_c rfl (r_d (d_add (d_len (e := (eT3 eS eI eD)) (a_cons (d_var rfl h194) a_nil)) d_int) r_nil)) sb_rfl k196 sb_rfl) rfl (fun F198 H199 g200 hS201 => ?_)
      obtain ⟨x202, k203, m⟩ := bnd m
      refine s_ret (K := K) (d := (eL (eT3 eS eI eD)) x202) hS201 (EvC.dd (c_cat (en := (eT3 eS eI eD)) (d_sl (d_var rfl (Dt.gr g200 h194)) (o_some (K := K) (d_var rfl (.int _))) o_none) (d_sl (d_var rfl (Dt.gr g200 h194)) o_none (o_some (K := K) (d_var rfl (.int _)))) k203)) (fun v208 F204 H205 g206 hS207 hv209 => ?_)
      obtain rfl := sm m
      exact q _ _ _ (Gr.tr g5 (Gr.tr g160 (Gr.tr (Gr.new (Sta.freeAt (l1 := []) hS161)) (Gr.tr g183 (Gr.tr g200 g206))))) hS207 hv209
    · rw [if_pos hc] at k180
      obtain ⟨paper_here_218, k219, k180⟩ := lt k180
      refine s_set (K := K) (d := (eL (eT3 eS eI eD)) paper_here_218) (i := 2) (σ' := fun v220 => [some a0, some (.ref a1), some v220, u166, u167, u168, u169, u170, u171]) hS213 (d_is (EvC.dd (c_rev (d_var rfl (Dt.gr g212 (Dt.lst (.inl (.inl upd_same)) (Dts.gr (Gr.new (Sta.freeAt (l1 := []) hS161)) h173)))))) (congrArg (eL (eT3 eS eI eD)) k219)) (fun _ => rfl) (fun v220 F214 H215 g216 hS217 hv221 => ?_)
      obtain rfl := sm k180
      exact jn179 _ _ ⟨_, _, (Gr.tr g212 g216), hS217, _, _, _, _, _, _, _, rfl, rfl, hv221⟩
    · rw [if_neg (bf hc)] at k180
      refine nxt ?_
      obtain rfl := sm k180
      exact jn179 _ _ ⟨_, _, g224, hS225, _, _, _, _, _, _, _, rfl, rfl, (Dt.gr g224 (Dt.lst (.inl (.inl upd_same)) (Dts.gr (Gr.new (Sta.freeAt (l1 := []) hS161)) h173)))⟩
theorem sc_paper : FnScope N_paper ["_law_store_here", "_law_source_here"] (defScope s_paper) := ⟨rfl, rfl, rfl, by decide +kernel, rfl, by decide +kernel, by decide +kernel⟩
theorem ok_paper {P : Program} {w : World} {K : PySem.W.Frag} {mg : Str → Option Value} {base : Heap} (hF : Df K mg "_law_paper" s_paper) (m_len : mg "len" = none) (m_range : mg "range" = none) (o_draw : Ok P w K mg base 1 "_law_draw" ["_law_source_here", "_law_many"] (sp_draw K)) (o_able : Ok P w K mg base 1 "_law_able" ["_law_store_here", "_law_word", "_law_gap"] (sp_able K)) : Ok P w K mg base 2 "_law_paper" ["_law_store_here", "_law_source_here"] (sp_paper K) := by
  obtain ⟨⟨_, G_draw, bd_draw, _⟩, kp_draw, gm_draw⟩ := o_draw
  obtain ⟨⟨_, G_able, bd_able, _⟩, kp_able, gm_able⟩ := o_able
  obtain ⟨⟨fd, F⟩, gm⟩ := hF
  refine ⟨⟨fd, F.ok sc_paper (fun vs H Q E h => ?_) (fun cdv A outer s H vs Q E hr h => ⟨t_paper K, PSs.nox ?_, w_paper vs H Q E h⟩), F.bindsN fun _ _ _ _ _ _ us hl => match us, hl with | [_, _], _ => rfl, lk_of F⟩, F.kp, gm⟩
  · obtain ⟨F0, cc, cs, x, y, h, _⟩ := h; exact ArgR.len h
  · exact (pss_cons (ps_set (i := 2) sc_paper.nd rfl (Or.inl rfl) (pe_lst pa_nil)) (pss_cons (ps_for PassesOwn.never rfl (pi_range1 (by rfl) m_range (pa_cons (pe_callB cr_lenL (by rfl) m_len PySem.boot_len (pa_cons (pe_ix ix_tup (pv 0) pe_int (fun _ _ => rfl)) pa_nil)) pa_nil)) (pg_name (i := 3) sc_paper.nd rfl (Or.inl rfl)) (pss_cons (ps_set (i := 5) sc_paper.nd rfl (Or.inl rfl) (pe_ix ix_list (pe_lst (pa_cons pe_str (pa_cons pe_str (pa_cons pe_str (pa_cons pe_str (pa_cons pe_str pa_nil)))))) (pe_call G_draw (hr.mono (by decide)) (by rfl) gm_draw kp_draw bd_draw .nil pass0 (pa_cons (pv 1) (pa_cons pe_int pa_nil))) (fun _ _ => rfl))) (pss_cons (ps_set (i := 6) sc_paper.nd rfl (Or.inl rfl) (pe_call G_able (hr.mono (by decide)) (by rfl) gm_able kp_able bd_able .nil pass0 (pa_cons (pv 0) (pa_cons (pv 5) (pa_cons (pv 3) pa_nil))))) (pss_cons (ps_setLc (i := 7) (own := [("_law_name_here", 8)]) (g := (gName 8)) (tt := (tTest (tOp (rI0 fun i j => .bl (decide (j < i))) (tCall (sp_draw K) [] E0 (tCons (tVar 1) (tCons (tC (.int 4)) tNil))) (tC (.int 0))))) (te := (tVar 8)) (by rfl) sc_paper.nd rfl rfl (sw_true rfl rfl rfl (by decide +kernel)) (pi_list (pv 6)) (blkOk_by (own := [("_law_name_here", 8)]) (N := N_paper) (sc := defScope s_paper) (by decide +kernel)) (fun _ _ _ _ _ => (pg_name (i := 8) sc_paper.nd rfl (Or.inl rfl))) (fun _ _ _ _ _ => (pts_one (pt_cmpR op_gt (pe_call G_draw (hr.mono (by decide)) (by rfl) gm_draw kp_draw bd_draw .nil pass0 (pa_cons (pv 1) (pa_cons pe_int pa_nil))) pe_int (nomark _)))) (fun _ _ _ _ _ => (pv 8))) (pss_cons (ps_if (pt_cmpR op_eq (pe_call G_draw (hr.mono (by decide)) (by rfl) gm_draw kp_draw bd_draw .nil pass0 (pa_cons (pv 1) (pa_cons pe_int pa_nil))) pe_int (nomark _)) (pss_one (ps_set (i := 7) sc_paper.nd rfl (Or.inl rfl) (pe_revL (pv 7)))) pss_nil) (pss_one (ps_if (PW.pt (pw_and (pt_cmpR (op_neD hr.units) (pv 7) (pe_lst pa_nil) (nomark _)) (pw_and1 (pt_cmpR op_eq (pv 5) pe_str (nomark _))))) (pss_one (ps_expr (pe_bm PySem.F.plainAttrs_list PySem.F.slot_list_append PySem.F.type_list_append mt_append (pv 2) (pa_cons (pe_tup (pa_cons (pv 5) (pa_cons (pv 3) (pa_cons (pe_ix ix_list (pv 7) pe_int (fun _ _ => rfl)) pa_nil)))) pa_nil)))) (pss_one (ps_if (pt_cmpR (op_neD hr.units) (pv 7) (pe_lst pa_nil) (nomark _)) (pss_one (ps_expr (pe_bm PySem.F.plainAttrs_list PySem.F.slot_list_append PySem.F.type_list_append mt_append (pv 2) (pa_cons (pe_tup (pa_cons (pv 5) (pa_cons (pv 3) (pa_cons (pv 7) pa_nil)))) pa_nil)))) pss_nil))))))))) (pss_cons (ps_if (pt_cmpR op_eq (pe_call G_draw (hr.mono (by decide)) (by rfl) gm_draw kp_draw bd_draw .nil pass0 (pa_cons (pv 1) (pa_cons pe_int pa_nil))) pe_int (nomark _)) (pss_one (ps_set (i := 2) sc_paper.nd rfl (Or.inl rfl) (pe_revL (pv 2)))) pss_nil) (pss_cons (ps_set (i := 4) sc_paper.nd rfl (Or.inl rfl) (pe_call G_draw (hr.mono (by decide)) (by rfl) gm_draw kp_draw bd_draw .nil pass0 (pa_cons (pv 1) (pa_cons (pe_op op_add (pe_callB cr_lenL (by rfl) m_len PySem.boot_len (pa_cons (pv 2) pa_nil)) pe_int) pa_nil)))) (pss_one (ps_ret (pe_op op_catS (pe_slice sl_list (pv 2) (po_some (pv 4)) po_none) (pe_slice sl_list (pv 2) po_none (po_some (pv 4))))))))))
abbrev s_copy : Stmt := (top 35)
def f_copy : ((List Int) × (List Int) × Int × (List (Str × Int × Int))) → Option (((List Int) × (List Int) × Int × (List (Str × Int × Int)))) := fun store_here_1 => some (store_here_1.1, store_here_1.2.1, store_here_1.2.2.1, store_here_1.2.2.2)
abbrev A_copy : ((List Int) × (List Int) × Int × (List (Str × Int × Int))) → List PyData := fun x => [(eT4 (eL eI) (eL eI) eI (eL (eT3 eS eI eI))) x]
abbrev N_copy : List Str := ["_law_store_here"]
abbrev sp_copy (K : PySem.W.Frag) : Sp := spP K A_copy (eT4 (eL eI) (eL eI) eI (eL (eT3 eS eI eI))) f_copy
def t_copy (K : PySem.W.Frag) : TS := (tRet (tTup (tCons (tCB (rListS K) (tCons (tOp (rIxT K) (tVar 0) (tC (.int 0))) tNil)) (tCons (tCB (rListS K) (tCons (tOp (rIxT K) (tVar 0) (tC (.int 1))) tNil)) (tCons (tOp (rIxT K) (tVar 0) (tC (.int 2))) (tCons (tCB (rListS K) (tCons (tOp (rIxT K) (tVar 0) (tC (.int 3))) tNil)) tNil))))))
theorem w_copy {K : PySem.W.Frag} (vs : List V) (H : Hp) (Q : VK) (E : XK) (h : sp_copy K vs H Q E) : t_copy K { nx := fun _ H' => Q .non H', rt := Q } (start N_copy vs) H := by
  obtain ⟨F0, cs, store_here_1, y, h, hS0, m, q⟩ := h
  obtain ⟨a0, _, rfl, ha0, h⟩ := Dts.hd h
  obtain rfl := Dts.no h
  unfold f_copy at m
  try dsimp only at m
  unfold t_copy
  refine go (σ' := [some a0]) rfl ?_
  refine s_ret (K := K) (d := (eT4 (eL eI) (eL eI) eI (eL (eT3 eS eI eI))) (store_here_1.1, store_here_1.2.1, store_here_1.2.2.1, store_here_1.2.2.2)) hS0 (d_tup (a_cons (d_listL (a_cons (d_ixT (d_var rfl ha0) d_int rfl) a_nil)) (a_cons (d_listL (a_cons (d_ixT (d_var rfl ha0) d_int rfl) a_nil)) (a_cons (d_ixT (d_var rfl ha0) d_int rfl) (a_cons (d_listL (a_cons (d_ixT (d_var rfl ha0) d_int rfl) a_nil)) a_nil)))) (Nat.le_of_ble_eq_true rfl)) (fun v6 F2 H3 g4 hS5 hv7 => ?_)
  obtain rfl := sm m
  exact q _ _ _ g4 hS5 hv7
theorem sc_copy : FnScope N_copy ["_law_store_here"] (defScope s_copy) := ⟨rfl, rfl, rfl, by decide +kernel, rfl, by decide +kernel, by decide +kernel⟩
theorem ok_copy {P : Program} {w : World} {K : PySem.W.Frag} {mg : Str → Option Value} {base : Heap} (hF : Df K mg "_law_copy" s_copy) (m_list : mg "list" = none) : Ok P w K mg base 1 "_law_copy" ["_law_store_here"] (sp_copy K) := by
  obtain ⟨⟨fd, F⟩, gm⟩ := hF
  refine ⟨⟨fd, F.ok sc_copy (fun vs H Q E h => ?_) (fun cdv A outer s H vs Q E hr h => ⟨t_copy K, PSs.nox ?_, w_copy vs H Q E h⟩), F.bindsN fun _ _ _ _ _ _ us hl => match us, hl with | [_], _ => rfl, lk_of F⟩, F.kp, gm⟩
  · obtain ⟨F0, cs, x, y, h, _⟩ := h; exact Dts.len h
  · exact (pss_one (ps_ret (pe_tup (pa_cons (pe_callTy cr_list (by rfl) m_list (by decide +kernel) (pa_cons (pe_ix ix_tup (pv 0) pe_int (fun _ _ => rfl)) pa_nil)) (pa_cons (pe_callTy cr_list (by rfl) m_list (by decide +kernel) (pa_cons (pe_ix ix_tup (pv 0) pe_int (fun _ _ => rfl)) pa_nil)) (pa_cons (pe_ix ix_tup (pv 0) pe_int (fun _ _ => rfl)) (pa_cons (pe_callTy cr_list (by rfl) m_list (by decide +kernel) (pa_cons (pe_ix ix_tup (pv 0) pe_int (fun _ _ => rfl)) pa_nil)) pa_nil)))))))
abbrev s_copied_r0 : Stmt := (top 39)
def f_copied_r0 : PyData → Option PyData := fun thing_1 => (if (isiD "tuple" thing_1) = true then none else (if (isiD "list" thing_1) = true then none else some thing_1))
abbrev A_copied_r0 : PyData → List PyData := fun x => [eD x]
abbrev N_copied_r0 : List Str := ["_law_thing", "_law_part"]
abbrev sp_copied_r0 (K : PySem.W.Frag) : Sp := spP K A_copied_r0 eD f_copied_r0
def t_copied_r0 (K : PySem.W.Frag) : TS := (tSeq (tIfS (tB (tCB (rIsi K) (tCons (tVar 0) (tCons (tC (.ty "tuple")) tNil)))) tNever tNext) (tSeq (tIfS (tB (tCB (rIsi K) (tCons (tVar 0) (tCons (tC (.ty "list")) tNil)))) tNever tNext) (tRet (tVar 0))))
theorem w_copied_r0 {K : PySem.W.Frag} (vs : List V) (H : Hp) (Q : VK) (E : XK) (h : sp_copied_r0 K vs H Q E) : t_copied_r0 K { nx := fun _ H' => Q .non H', rt := Q } (start N_copied_r0 vs) H := by
  obtain ⟨F0, cs, thing_1, y, h, hS0, m, q⟩ := h
  obtain ⟨a0, _, rfl, ha0, h⟩ := Dts.hd h
  obtain rfl := Dts.no h
  unfold f_copied_r0 at m
  try dsimp only at m
  unfold t_copied_r0
  refine go (σ' := [some a0, none]) rfl ?_
  refine s_if (b := (isiD "tuple" thing_1)) hS0 (t_B (K := K) (d_isiD (c := "tuple") (by decide) (d_var rfl ha0))) (fun hc F2 H3 g4 hS5 => ?_) (fun hc F6 H7 g8 hS9 => ?_)
  · rw [if_pos hc] at m
    cases m
  · rw [if_neg (bf hc)] at m
    refine nxt ?_
    refine s_if (b := (isiD "list" thing_1)) hS9 (t_B (K := K) (d_isiD (c := "list") (by decide) (d_var rfl (Dt.gr g8 ha0)))) (fun hc F10 H11 g12 hS13 => ?_) (fun hc F14 H15 g16 hS17 => ?_)
    · rw [if_pos hc] at m
      cases m
    · rw [if_neg (bf hc)] at m
      refine nxt ?_
      refine s_ret (K := K) (d := eD thing_1) hS17 (d_var rfl (Dt.gr (Gr.tr g8 g16) ha0)) (fun v22 F18 H19 g20 hS21 hv23 => ?_)
      obtain rfl := sm m
      exact q _ _ _ (Gr.tr g8 (Gr.tr g16 g20)) hS21 hv23
theorem sc_copied_r0 : FnScope N_copied_r0 ["_law_thing"] (defScope s_copied_r0) := ⟨rfl, rfl, rfl, by decide +kernel, rfl, by decide +kernel, by decide +kernel⟩
theorem ok_copied_r0 {P : Program} {w : World} {K : PySem.W.Frag} {mg : Str → Option Value} {base : Heap} (hF : Df K mg "_law_copied" s_copied_r0) (m_isinstance : mg "isinstance" = none) (m_list : mg "list" = none) (m_tuple : mg "tuple" = none) : Ok P w K mg base 1 "_law_copied" ["_law_thing"] (sp_copied_r0 K) := by
  obtain ⟨⟨fd, F⟩, gm⟩ := hF
  refine ⟨⟨fd, F.ok sc_copied_r0 (fun vs H Q E h => ?_) (fun cdv A outer s H vs Q E hr h => ⟨t_copied_r0 K, PSs.nox ?_, w_copied_r0 vs H Q E h⟩), F.bindsN fun _ _ _ _ _ _ us hl => match us, hl with | [_], _ => rfl, lk_of F⟩, F.kp, gm⟩
  · obtain ⟨F0, cs, x, y, h, _⟩ := h; exact Dts.len h
  · exact (pss_cons (ps_if (pt_val (pe_callB call_isi (by rfl) m_isinstance (by decide +kernel) (pa_cons (pv 0) (pa_cons (pe_bltn (v := .ty "tuple") (by rfl) m_tuple (by decide +kernel) rfl) pa_nil)))) (pss_one ps_never) pss_nil) (pss_cons (ps_if (pt_val (pe_callB call_isi (by rfl) m_isinstance (by decide +kernel) (pa_cons (pv 0) (pa_cons (pe_bltn (v := .ty "list") (by rfl) m_list (by decide +kernel) rfl) pa_nil)))) (pss_one ps_never) pss_nil) (pss_one (ps_ret (pv 0)))))
abbrev s_copied_r1 : Stmt := (top 39)
def f_copied_r1 : PyData → Option PyData := fun thing_1 => (if (isiD "tuple" thing_1) = true then (((asTD thing_1)).bind fun x6 => ((lcC (fun part_8 => (((f_copied_r0 part_8)).bind fun x19 => some (some x19))) x6)).bind fun x21 => some (PyData.tuple (x21.map eD))) else (if (isiD "list" thing_1) = true then (((asLD thing_1)).bind fun x37 => ((lcC (fun part_39 => (((f_copied_r0 part_39)).bind fun x50 => some (some x50))) x37)).bind fun x52 => some ((eL eD) x52)) else some thing_1))
abbrev A_copied_r1 : PyData → List PyData := fun x => [eD x]
abbrev N_copied_r1 : List Str := ["_law_thing", "_law_part"]
abbrev sp_copied_r1 (K : PySem.W.Frag) : Sp := spP K A_copied_r1 eD f_copied_r1
def t_copied_r1 (K : PySem.W.Frag) : TS := (tSeq (tIfS (tB (tCB (rIsi K) (tCons (tVar 0) (tCons (tC (.ty "tuple")) tNil)))) (tRet (tCB (rTupleL K) (tCons (tLc (iTup K (tVar 0)) (gName 1) tYes (tCall (sp_copied_r0 K) [] E0 (tCons (tVar 1) tNil)) [1]) tNil))) tNext) (tSeq (tIfS (tB (tCB (rIsi K) (tCons (tVar 0) (tCons (tC (.ty "list")) tNil)))) (tRet (tLc (iList K (tVar 0)) (gName 1) tYes (tCall (sp_copied_r0 K) [] E0 (tCons (tVar 1) tNil)) [1])) tNext) (tRet (tVar 0))))
theorem w_copied_r1 {K : PySem.W.Frag} (vs : List V) (H : Hp) (Q : VK) (E : XK) (h : sp_copied_r1 K vs H Q E) : t_copied_r1 K { nx := fun _ H' => Q .non H', rt := Q } (start N_copied_r1 vs) H := by
  obtain ⟨F0, cs, thing_1, y, h, hS0, m, q⟩ := h
  obtain ⟨a0, _, rfl, ha0, h⟩ := Dts.hd h
  obtain rfl := Dts.no h
  unfold f_copied_r1 at m
  try dsimp only at m
  unfold t_copied_r1
  refine go (σ' := [some a0, none]) rfl ?_
  refine s_if (b := (isiD "tuple" thing_1)) hS0 (t_B (K := K) (d_isiD (c := "tuple") (by decide) (d_var rfl ha0))) (fun hc F2 H3 g4 hS5 => ?_) (fun hc F29 H30 g31 hS32 => ?_)
  · rw [if_pos hc] at m
    obtain ⟨x6, k7, m⟩ := bnd m
    obtain ⟨x21, k22, m⟩ := bnd m
    refine s_ret (K := K) (d := eD (PyData.tuple (x21.map eD))) hS5 (d_tupleL (a_cons (EvC.dd (c_lcC (K := K) (f := (fun part_8 => (((f_copied_r0 part_8)).bind fun x19 => some (some x19)))) (em := eD) (i_tupM (en := eD) (xs := x6) (d_is (d_var rfl (Dt.gr g4 ha0)) ((ck_TD k7).trans (congrArg PyData.tuple (List.map_id' _).symm)))) k22 (fun part_8 o15 v16 F9 p10 us11 g12 hv13 ho14 => by obtain ⟨x19, k20, ho14⟩ := bnd ho14; obtain rfl := sm ho14; exact ⟨[some a0, some v16], fun H18 Q hS17 hq => (fun Q hq => hq) Q hq, rfl, t_yes, fun y hy => by obtain rfl := sm hy; exact (d_call (A := A_copied_r0) (B := eD) (x := part_8) (a_cons (d_var rfl hv13) a_nil) k20)⟩))) a_nil)) (fun v27 F23 H24 g25 hS26 hv28 => ?_)
    obtain rfl := sm m
    exact q _ _ _ (Gr.tr g4 g25) hS26 hv28
  · rw [if_neg (bf hc)] at m
    refine nxt ?_
    refine s_if (b := (isiD "list" thing_1)) hS32 (t_B (K := K) (d_isiD (c := "list") (by decide) (d_var rfl (Dt.gr g31 ha0)))) (fun hc F33 H34 g35 hS36 => ?_) (fun hc F60 H61 g62 hS63 => ?_)
    · rw [if_pos hc] at m
      obtain ⟨x37, k38, m⟩ := bnd m
      obtain ⟨x52, k53, m⟩ := bnd m
      refine s_ret (K := K) (d := eD ((eL eD) x52)) hS36 (EvC.dd (c_lcC (K := K) (f := (fun part_39 => (((f_copied_r0 part_39)).bind fun x50 => some (some x50)))) (em := eD) (i_list (en := eD) (d_is (d_var rfl (Dt.gr (Gr.tr g31 g35) ha0)) (ck_LD _ _ k38))) k53 (fun part_39 o46 v47 F40 p41 us42 g43 hv44 ho45 => by obtain ⟨x50, k51, ho45⟩ := bnd ho45; obtain rfl := sm ho45; exact ⟨[some a0, some v47], fun H49 Q hS48 hq => (fun Q hq => hq) Q hq, rfl, t_yes, fun y hy => by obtain rfl := sm hy; exact (d_call (A := A_copied_r0) (B := eD) (x := part_39) (a_cons (d_var rfl hv44) a_nil) k51)⟩))) (fun v58 F54 H55 g56 hS57 hv59 => ?_)
      obtain rfl := sm m
      exact q _ _ _ (Gr.tr g31 (Gr.tr g35 g56)) hS57 hv59
    · rw [if_neg (bf hc)] at m
      refine nxt ?_
      refine s_ret (K := K) (d := eD thing_1) hS63 (d_var rfl (Dt.gr (Gr.tr g31 g62) ha0)) (fun v68 F64 H65 g66 hS67 hv69 => ?_)
      obtain rfl := sm m
      exact q _ _ _ (Gr.tr g31 (Gr.tr g62 g66)) hS67 hv69
theorem sc_copied_r1 : FnScope N_copied_r1 ["_law_thing"] (defScope s_copied_r1) := ⟨rfl, rfl, rfl, by decide +kernel, rfl, by decide +kernel, by decide +kernel⟩
theorem ok_copied_r1 {P : Program} {w : World} {K : PySem.W.Frag} {mg : Str → Option Value} {base : Heap} (hF : Df K mg "_law_copied" s_copied_r1) (m_isinstance : mg "isinstance" = none) (m_list : mg "list" = none) (m_tuple : mg "tuple" = none) (o_copied_r0 : Ok P w K mg base 1 "_law_copied" ["_law_thing"] (sp_copied_r0 K)) : Ok P w K mg base 2 "_law_copied" ["_law_thing"] (sp_copied_r1 K) := by
  obtain ⟨⟨_, G_copied_r0, bd_copied_r0, _⟩, kp_copied_r0, gm_copied_r0⟩ := o_copied_r0
  obtain ⟨⟨fd, F⟩, gm⟩ := hF
  refine ⟨⟨fd, F.ok sc_copied_r1 (fun vs H Q E h => ?_) (fun cdv A outer s H vs Q E hr h => ⟨t_copied_r1 K, PSs.nox ?_, w_copied_r1 vs H Q E h⟩), F.bindsN fun _ _ _ _ _ _ us hl => match us, hl with | [_], _ => rfl, lk_of F⟩, F.kp, gm⟩
  · obtain ⟨F0, cs, x, y, h, _⟩ := h; exact Dts.len h
  · exact (pss_cons (ps_if (pt_val (pe_callB call_isi (by rfl) m_isinstance (by decide +kernel) (pa_cons (pv 0) (pa_cons (pe_bltn (v := .ty "tuple") (by rfl) m_tuple (by decide +kernel) rfl) pa_nil)))) (pss_one (ps_ret (pe_callTy cr_tuple (by rfl) m_tuple (by decide +kernel) (pa_cons (pe_lc (own := [("_law_part", 1)]) (g := (gName 1)) (tt := tYes) (te := (tCall (sp_copied_r0 K) [] E0 (tCons (tVar 1) tNil))) (by rfl) sc_copied_r1.nd (pi_tup (pv 0)) (blkOk_by (own := [("_law_part", 1)]) (N := N_copied_r1) (sc := defScope s_copied_r1) (by decide +kernel)) (fun _ _ _ _ _ => (pg_name (i := 1) sc_copied_r1.nd rfl (Or.inl rfl))) (fun _ _ _ _ _ => pts_nil) (fun _ _ _ _ _ => (pe_call G_copied_r0 (hr.mono (by decide)) (by rfl) gm_copied_r0 kp_copied_r0 bd_copied_r0 .nil pass0 (pa_cons (pv 1) pa_nil)))) pa_nil)))) pss_nil) (pss_cons (ps_if (pt_val (pe_callB call_isi (by rfl) m_isinstance (by decide +kernel) (pa_cons (pv 0) (pa_cons (pe_bltn (v := .ty "list") (by rfl) m_list (by decide +kernel) rfl) pa_nil)))) (pss_one (ps_ret (pe_lc (own := [("_law_part", 1)]) (g := (gName 1)) (tt := tYes) (te := (tCall (sp_copied_r0 K) [] E0 (tCons (tVar 1) tNil))) (by rfl) sc_copied_r1.nd (pi_list (pv 0)) (blkOk_by (own := [("_law_part", 1)]) (N := N_copied_r1) (sc := defScope s_copied_r1) (by decide +kernel)) (fun _ _ _ _ _ => (pg_name (i := 1) sc_copied_r1.nd rfl (Or.inl rfl))) (fun _ _ _ _ _ => pts_nil) (fun _ _ _ _ _ => (pe_call G_copied_r0 (hr.mono (by decide)) (by rfl) gm_copied_r0 kp_copied_r0 bd_copied_r0 .nil pass0 (pa_cons (pv 1) pa_nil)))))) pss_nil) (pss_one (ps_ret (pv 0)))))
abbrev s_copied_r2 : Stmt := (top 39)
def f_copied_r2 : PyData → Option PyData := fun thing_1 => (if (isiD "tuple" thing_1) = true then (((asTD thing_1)).bind fun x6 => ((lcC (fun part_8 => (((f_copied_r1 part_8)).bind fun x19 => some (some x19))) x6)).bind fun x21 => some (PyData.tuple (x21.map eD))) else (if (isiD "list" thing_1) = true then (((asLD thing_1)).bind fun x37 => ((lcC (fun part_39 => (((f_copied_r1 part_39)).bind fun x50 => some (some x50))) x37)).bind fun x52 => some ((eL eD) x52)) else some thing_1))
abbrev A_copied_r2 : PyData → List PyData := fun x => [eD x]
abbrev N_copied_r2 : List Str := ["_law_thing", "_law_part"]
abbrev sp_copied_r2 (K : PySem.W.Frag) : Sp := spP K A_copied_r2 eD f_copied_r2
def t_copied_r2 (K : PySem.W.Frag) : TS := (tSeq (tIfS (tB (tCB (rIsi K) (tCons (tVar 0) (tCons (tC (.ty "tuple")) tNil)))) (tRet (tCB (rTupleL K) (tCons (tLc (iTup K (tVar 0)) (gName 1) tYes (tCall (sp_copied_r1 K) [] E0 (tCons (tVar 1) tNil)) [1]) tNil))) tNext) (tSeq (tIfS (tB (tCB (rIsi K) (tCons (tVar 0) (tCons (tC (.ty "list")) tNil)))) (tRet (tLc (iList K (tVar 0)) (gName 1) tYes (tCall (sp_copied_r1 K) [] E0 (tCons (tVar 1) tNil)) [1])) tNext) (tRet (tVar 0))))
theorem w_copied_r2 {K : PySem.W.Frag} (vs : List V) (H : Hp) (Q : VK) (E : XK) (h : sp_copied_r2 K vs H Q E) : t_copied_r2 K { nx := fun _ H' => Q .non H', rt := Q } (start N_copied_r2 vs) H := by
  obtain ⟨F0, cs, thing_1, y, h, hS0, m, q⟩ := h
  obtain ⟨a0, _, rfl, ha0, h⟩ := Dts.hd h
  obtain rfl := Dts.no h
  unfold f_copied_r2 at m
  try dsimp only at m
  unfold t_copied_r2
  refine go (σ' := [some a0, none]) rfl ?_
  refine s_if (b := (isiD "tuple" thing_1)) hS0 (t_B (K := K) (d_isiD (c := "tuple") (by decide) (d_var rfl ha0))) (fun hc F2 H3 g4 hS5 => ?_) (fun hc F29 H30 g31 hS32 => ?_)
  · rw [if_pos hc] at m
    obtain ⟨x6, k7, m⟩ := bnd m
    obtain ⟨x21, k22, m⟩ := bnd m
    refine s_ret (K := K) (d := eD (PyData.tuple (x21.map eD))) hS5 (d_tupleL (a_cons (EvC.dd (c_lcC (K := K) (f := (fun part_8 => (((f_copied_r1 part_8)).bind fun x19 => some (some x19)))) (em := eD) (i_tupM (en := eD) (xs := x6) (d_is (d_var rfl (Dt.gr g4 ha0)) ((ck_TD k7).trans (congrArg PyData.tuple (List.map_id' _).symm)))) k22 (fun part_8 o15 v16 F9 p10 us11 g12 hv13 ho14 => by obtain ⟨x19, k20, ho14⟩ := bnd ho14; obtain rfl := sm ho14; exact ⟨[some a0, some v16], fun H18 Q hS17 hq => (fun Q hq => hq) Q hq, rfl, t_yes, fun y hy => by obtain rfl := sm hy; exact (d_call (A := A_copied_r1) (B := eD) (x := part_8) (a_cons (d_var rfl hv13) a_nil) k20)⟩))) a_nil)) (fun v27 F23 H24 g25 hS26 hv28 => ?_)
    obtain rfl := sm m
    exact q _ _ _ (Gr.tr g4 g25) hS26 hv28
  · rw [if_neg (bf hc)] at m
    refine nxt ?_
    refine s_if (b := (isiD "list" thing_1)) hS32 (t_B (K := K) (d_isiD (c := "list") (by decide) (d_var rfl (Dt.gr g31 ha0)))) (fun hc F33 H34 g35 hS36 => ?_) (fun hc F60 H61 g62 hS63 => ?_)
    · rw [if_pos hc] at m
      obtain ⟨x37, k38, m⟩ := bnd m
      obtain ⟨x52, k53, m⟩ := bnd m
      refine s_ret (K := K) (d := eD ((eL eD) x52)) hS36 (EvC.dd (c_lcC (K := K) (f := (fun part_39 => (((f_copied_r1 part_39)).bind fun x50 => some (some x50)))) (em := eD) (i_list (en := eD) (d_is (d_var rfl (Dt.gr (Gr.tr g31 g35) ha0)) (ck_LD _ _ k38))) k53 (fun part_39 o46 v47 F40 p41 us42 g43 hv44 ho45 => by obtain ⟨x50, k51, ho45⟩ := bnd ho45; obtain rfl := sm ho45; exact ⟨[some a0, some v47], fun H49 Q hS48 hq => (fun Q hq => hq) Q hq, rfl, t_yes, fun y hy => by obtain rfl := sm hy; exact (d_call (A := A_copied_r1) (B := eD) (x := part_39) (a_cons (d_var rfl hv44) a_nil) k51)⟩))) (fun v58 F54 H55 g56 hS57 hv59 => ?_)
      obtain rfl := sm m
      exact q _ _ _ (Gr.tr g31 (Gr.tr g35 g56)) hS57 hv59
    · rw [if_neg (bf hc)] at m
      refine nxt ?_
      refine s_ret (K := K) (d := eD thing_1) hS63 (d_var rfl (Dt.gr (Gr.tr g31 g62) ha0)) (fun v68 F64 H65 g66 hS67 hv69 => ?_)
      obtain rfl := sm m
      exact q _ _ _ (Gr.tr g31 (Gr.tr g62 g66)) hS67 hv69
theorem sc_copied_r2 : FnScope N_copied_r2 ["_law_thing"] (defScope s_copied_r2) := ⟨rfl, rfl, rfl, by decide +kernel, rfl, by decide +kernel, by decide +kernel⟩
theorem ok_copied_r2 {P : Program} {w : World} {K : PySem.W.Frag} {mg : Str → Option Value} {base : Heap} (hF : Df K mg "_law_copied" s_copied_r2) (m_isinstance : mg "isinstance" = none) (m_list : mg "list" = none) (m_tuple : mg "tuple" = none) (o_copied_r1 : Ok P w K mg base 2 "_law_copied" ["_law_thing"] (sp_copied_r1 K)) : Ok P w K mg base 3 "_law_copied" ["_law_thing"] (sp_copied_r2 K) := by
  obtain ⟨⟨_, G_copied_r1, bd_copied_r1, _⟩, kp_copied_r1, gm_copied_r1⟩ := o_copied_r1
  obtain ⟨⟨fd, F⟩, gm⟩ := hF
  refine ⟨⟨fd, F.ok sc_copied_r2 (fun vs H Q E h => ?_) (fun cdv A outer s H vs Q E hr h => ⟨t_copied_r2 K, PSs.nox ?_, w_copied_r2 vs H Q E h⟩), F.bindsN fun _ _ _ _ _ _ us hl => match us, hl with | [_], _ => rfl, lk_of F⟩, F.kp, gm⟩
  · obtain ⟨F0, cs, x, y, h, _⟩ := h; exact Dts.len h
  · exact (pss_cons (ps_if (pt_val (pe_callB call_isi (by rfl) m_isinstance (by decide +kernel) (pa_cons (pv 0) (pa_cons (pe_bltn (v := .ty "tuple") (by rfl) m_tuple (by decide +kernel) rfl) pa_nil)))) (pss_one (ps_ret (pe_callTy cr_tuple (by rfl) m_tuple (by decide +kernel) (pa_cons (pe_lc (own := [("_law_part", 1)]) (g := (gName 1)) (tt := tYes) (te := (tCall (sp_copied_r1 K) [] E0 (tCons (tVar 1) tNil))) (by rfl) sc_copied_r2.nd (pi_tup (pv 0)) (blkOk_by (own := [("_law_part", 1)]) (N := N_copied_r2) (sc := defScope s_copied_r2) (by decide +kernel)) (fun _ _ _ _ _ => (pg_name (i := 1) sc_copied_r2.nd rfl (Or.inl rfl))) (fun _ _ _ _ _ => pts_nil) (fun _ _ _ _ _ => (pe_call G_copied_r1 (hr.mono (by decide)) (by rfl) gm_copied_r1 kp_copied_r1 bd_copied_r1 .nil pass0 (pa_cons (pv 1) pa_nil)))) pa_nil)))) pss_nil) (pss_cons (ps_if (pt_val (pe_callB call_isi (by rfl) m_isinstance (by decide +kernel) (pa_cons (pv 0) (pa_cons (pe_bltn (v := .ty "list") (by rfl) m_list (by decide +kernel) rfl) pa_nil)))) (pss_one (ps_ret (pe_lc (own := [("_law_part", 1)]) (g := (gName 1)) (tt := tYes) (te := (tCall (sp_copied_r1 K) [] E0 (tCons (tVar 1) tNil))) (by rfl) sc_copied_r2.nd (pi_list (pv 0)) (blkOk_by (own := [("_law_part", 1)]) (N := N_copied_r2) (sc := defScope s_copied_r2) (by decide +kernel)) (fun _ _ _ _ _ => (pg_name (i := 1) sc_copied_r2.nd rfl (Or.inl rfl))) (fun _ _ _ _ _ => pts_nil) (fun _ _ _ _ _ => (pe_call G_copied_r1 (hr.mono (by decide)) (by rfl) gm_copied_r1 kp_copied_r1 bd_copied_r1 .nil pass0 (pa_cons (pv 1) pa_nil)))))) pss_nil) (pss_one (ps_ret (pv 0)))))
abbrev s_copied_r3 : Stmt := (top 39)
def f_copied_r3 : PyData → Option PyData := fun thing_1 => (if (isiD "tuple" thing_1) = true then (((asTD thing_1)).bind fun x6 => ((lcC (fun part_8 => (((f_copied_r2 part_8)).bind fun x19 => some (some x19))) x6)).bind fun x21 => some (PyData.tuple (x21.map eD))) else (if (isiD "list" thing_1) = true then (((asLD thing_1)).bind fun x37 => ((lcC (fun part_39 => (((f_copied_r2 part_39)).bind fun x50 => some (some x50))) x37)).bind fun x52 => some ((eL eD) x52)) else some thing_1))
abbrev A_copied_r3 : PyData → List PyData := fun x => [eD x]
abbrev N_copied_r3 : List Str := ["_law_thing", "_law_part"]
abbrev sp_copied_r3 (K : PySem.W.Frag) : Sp := spP K A_copied_r3 eD f_copied_r3
def t_copied_r3 (K : PySem.W.Frag) : TS := (tSeq (tIfS (tB (tCB (rIsi K) (tCons (tVar 0) (tCons (tC (.ty "tuple")) tNil)))) (tRet (tCB (rTupleL K) (tCons (tLc (iTup K (tVar 0)) (gName 1) tYes (tCall (sp_copied_r2 K) [] E0 (tCons (tVar 1) tNil)) [1]) tNil))) tNext) (tSeq (tIfS (tB (tCB (rIsi K) (tCons (tVar 0) (tCons (tC (.ty "list")) tNil)))) (tRet (tLc (iList K (tVar 0)) (gName 1) tYes (tCall (sp_copied_r2 K) [] E0 (tCons (tVar 1) tNil)) [1])) tNext) (tRet (tVar 0))))
theorem w_copied_r3 {K : PySem.W.Frag} (vs : List V) (H : Hp) (Q : VK) (E : XK) (h : sp_copied_r3 K vs H Q E) : t_copied_r3 K { nx := fun _ H' => Q .non H', rt := Q } (start N_copied_r3 vs) H := by
  obtain ⟨F0, cs, thing_1, y, h, hS0, m, q⟩ := h
  obtain ⟨a0, _, rfl, ha0, h⟩ := Dts.hd h
  obtain rfl := Dts.no h
  unfold f_copied_r3 at m
  try dsimp only at m
  unfold t_copied_r3
  refine go (σ' := [some a0, none]) rfl ?_
  refine s_if (b := (isiD "tuple" thing_1)) hS0 (t_B (K := K) (d_isiD (c := "tuple") (by decide) (d_var rfl ha0))) (fun hc F2 H3 g4 hS5 => ?_) (fun hc F29 H30 g31 hS32 => ?_)
  · rw [if_pos hc] at m
    obtain ⟨x6, k7, m⟩ := bnd m
    obtain ⟨x21, k22, m⟩ := bnd m
    refine s_ret (K := K) (d := eD (PyData.tuple (x21.map eD))) hS5 (d_tupleL (a_cons (EvC.dd (c_lcC (K := K) (f := (fun part_8 => (((f_copied_r2 part_8)).bind fun x19 => some (some x19)))) (em := eD) (i_tupM (en := eD) (xs := x6) (d_is (d_var rfl (Dt.gr g4 ha0)) ((ck_TD k7).trans (congrArg PyData.tuple (List.map_id' _).symm)))) k22 (fun part_8 o15 v16 F9 p10 us11 g12 hv13 ho14 => by obtain ⟨x19, k20, ho14⟩ := bnd ho14; obtain rfl := sm ho14; exact ⟨[some a0, some v16], fun H18 Q hS17 hq => (fun Q hq => hq) Q hq, rfl, t_yes, fun y hy => by obtain rfl := sm hy; exact (d_call (A := A_copied_r2) (B := eD) (x := part_8) (a_cons (d_var rfl hv13) a_nil) k20)⟩))) a_nil)) (fun v27 F23 H24 g25 hS26 hv28 => ?_)
    obtain rfl := sm m
    exact q _ _ _ (Gr.tr g4 g25) hS26 hv28
  · rw [if_neg (bf hc)] at m
    refine nxt ?_
    refine s_if (b := (isiD "list" thing_1)) hS32 (t_B (K := K) (d_isiD (c := "list") (by decide) (d_var rfl (Dt.gr g31 ha0)))) (fun hc F33 H34 g35 hS36 => ?_) (fun hc F60 H61 g62 hS63 => ?_)
    · rw [if_pos hc] at m
      obtain ⟨x37, k38, m⟩ := bnd m
      obtain ⟨x52, k53, m⟩ := bnd m
      refine s_ret (K := K) (d := eD ((eL eD) x52)) hS36 (EvC.dd (c_lcC (K := K) (f := (fun part_39 => (((f_copied_r2 part_39)).bind fun x50 => some (some x50)))) (em := eD) (i_list (en := eD) (d_is (d_var rfl (Dt.gr (Gr.tr g31 g35) ha0)) (ck_LD _ _ k38))) k53 (fun part_39 o46 v47 F40 p41 us42 g43 hv44 ho45 => by obtain ⟨x50, k51, ho45⟩ := bnd ho45; obtain rfl := sm ho45; exact ⟨[some a0, some v47], fun H49 Q hS48 hq => (fun Q hq => hq) Q hq, rfl, t_yes, fun y hy => by obtain rfl := sm hy; exact (d_call (A := A_copied_r2) (B := eD) (x := part_39) (a_cons (d_var rfl hv44) a_nil) k51)⟩))) (fun v58 F54 H55 g56 hS57 hv59 => ?_)
      obtain rfl := sm m
      exact q _ _ _ (Gr.tr g31 (Gr.tr g35 g56)) hS57 hv59
    · rw [if_neg (bf hc)] at m
      refine nxt ?_
      refine s_ret (K := K) (d := eD thing_1) hS63 (d_var rfl (Dt.gr (Gr.tr g31 g62) ha0)) (fun v68 F64 H65 g66 hS67 hv69 => ?_)
      obtain rfl := sm m
      exact q _ _ _ (Gr.tr g31 (Gr.tr g62 g66)) hS67 hv69
theorem sc_copied_r3 : FnScope N_copied_r3 ["_law_thing"] (defScope s_copied_r3) := ⟨rfl, rfl, rfl, by decide +kernel, rfl, by decide +kernel, by decide +kernel⟩
theorem ok_copied_r3 {P : Program} {w : World} {K : PySem.W.Frag} {mg : Str → Option Value} {base : Heap} (hF : Df K mg "_law_copied" s_copied_r3) (m_isinstance : mg "isinstance" = none) (m_list : mg "list" = none) (m_tuple : mg "tuple" = none) (o_copied_r2 : Ok P w K mg base 3 "_law_copied" ["_law_thing"] (sp_copied_r2 K)) : Ok P w K mg base 4 "_law_copied" ["_law_thing"] (sp_copied_r3 K) := by
  obtain ⟨⟨_, G_copied_r2, bd_copied_r2, _⟩, kp_copied_r2, gm_copied_r2⟩ := o_copied_r2
  obtain ⟨⟨fd, F⟩, gm⟩ := hF
  refine ⟨⟨fd, F.ok sc_copied_r3 (fun vs H Q E h => ?_) (fun cdv A outer s H vs Q E hr h => ⟨t_copied_r3 K, PSs.nox ?_, w_copied_r3 vs H Q E h⟩), F.bindsN fun _ _ _ _ _ _ us hl => match us, hl with | [_], _ => rfl, lk_of F⟩, F.kp, gm⟩
  · obtain ⟨F0, cs, x, y, h, _⟩ := h; exact Dts.len h
  · exact (pss_cons (ps_if (pt_val (pe_callB call_isi (by rfl) m_isinstance (by decide +kernel) (pa_cons (pv 0) (pa_cons (pe_bltn (v := .ty "tuple") (by rfl) m_tuple (by decide +kernel) rfl) pa_nil)))) (pss_one (ps_ret (pe_callTy cr_tuple (by rfl) m_tuple (by decide +kernel) (pa_cons (pe_lc (own := [("_law_part", 1)]) (g := (gName 1)) (tt := tYes) (te := (tCall (sp_copied_r2 K) [] E0 (tCons (tVar 1) tNil))) (by rfl) sc_copied_r3.nd (pi_tup (pv 0)) (blkOk_by (own := [("_law_part", 1)]) (N := N_copied_r3) (sc := defScope s_copied_r3) (by decide +kernel)) (fun _ _ _ _ _ => (pg_name (i := 1) sc_copied_r3.nd rfl (Or.inl rfl))) (fun _ _ _ _ _ => pts_nil) (fun _ _ _ _ _ => (pe_call G_copied_r2 (hr.mono (by decide)) (by rfl) gm_copied_r2 kp_copied_r2 bd_copied_r2 .nil pass0 (pa_cons (pv 1) pa_nil)))) pa_nil)))) pss_nil) (pss_cons (ps_if (pt_val (pe_callB call_isi (by rfl) m_isinstance (by decide +kernel) (pa_cons (pv 0) (pa_cons (pe_bltn (v := .ty "list") (by rfl) m_list (by decide +kernel) rfl) pa_nil)))) (pss_one (ps_ret (pe_lc (own := [("_law_part", 1)]) (g := (gName 1)) (tt := tYes) (te := (tCall (sp_copied_r2 K) [] E0 (tCons (tVar 1) tNil))) (by rfl) sc_copied_r3.nd (pi_list (pv 0)) (blkOk_by (own := [("_law_part", 1)]) (N := N_copied_r3) (sc := defScope s_copied_r3) (by decide +kernel)) (fun _ _ _ _ _ => (pg_name (i := 1) sc_copied_r3.nd rfl (Or.inl rfl))) (fun _ _ _ _ _ => pts_nil) (fun _ _ _ _ _ => (pe_call G_copied_r2 (hr.mono (by decide)) (by rfl) gm_copied_r2 kp_copied_r2 bd_copied_r2 .nil pass0 (pa_cons (pv 1) pa_nil)))))) pss_nil) (pss_one (ps_ret (pv 0)))))
abbrev s_copied_r4 : Stmt := (top 39)
def f_copied_r4 : PyData → Option PyData := fun thing_1 => (if (isiD "tuple" thing_1) = true then (((asTD thing_1)).bind fun x6 => ((lcC (fun part_8 => (((f_copied_r3 part_8)).bind fun x19 => some (some x19))) x6)).bind fun x21 => some (PyData.tuple (x21.map eD))) else (if (isiD "list" thing_1) = true then (((asLD thing_1)).bind fun x37 => ((lcC (fun part_39 => (((f_copied_r3 part_39)).bind fun x50 => some (some x50))) x37)).bind fun x52 => some ((eL eD) x52)) else some thing_1))
abbrev A_copied_r4 : PyData → List PyData := fun x => [eD x]
abbrev N_copied_r4 : List Str := ["_law_thing", "_law_part"]
abbrev sp_copied_r4 (K : PySem.W.Frag) : Sp := spP K A_copied_r4 eD f_copied_r4
def t_copied_r4 (K : PySem.W.Frag) : TS := (tSeq (tIfS (tB (tCB (rIsi K) (tCons (tVar 0) (tCons (tC (.ty "tuple")) tNil)))) (tRet (tCB (rTupleL K) (tCons (tLc (iTup K (tVar 0)) (gName 1) tYes (tCall (sp_copied_r3 K) [] E0 (tCons (tVar 1) tNil)) [1]) tNil))) tNext) (tSeq (tIfS (tB (tCB (rIsi K) (tCons (tVar 0) (tCons (tC (.ty "list")) tNil)))) (tRet (tLc (iList K (tVar 0)) (gName 1) tYes (tCall (sp_copied_r3 K) [] E0 (tCons (tVar 1) tNil)) [1])) tNext) (tRet (tVar 0))))
theorem w_copied_r4 {K : PySem.W.Frag} (vs : List V) (H : Hp) (Q : VK) (E : XK) (h : sp_copied_r4 K vs H Q E) : t_copied_r4 K { nx := fun _ H' => Q .non H', rt := Q } (start N_copied_r4 vs) H := by
  obtain ⟨F0, cs, thing_1, y, h, hS0, m, q⟩ := h
  obtain ⟨a0, _, rfl, ha0, h⟩ := Dts.hd h
  obtain rfl := Dts.no h
  unfold f_copied_r4 at m
  try dsimp only at m
  unfold t_copied_r4
  refine go (σ' := [some a0, none]) rfl ?_
  refine s_if (b := (isiD "tuple" thing_1)) hS0 (t_B (K := K) (d_isiD (c := "tuple") (by decide) (d_var rfl ha0))) (fun hc F2 H3 g4 hS5 => ?_) (fun hc F29 H30 g31 hS32 => ?_)
  · rw [if_pos hc] at m
    obtain ⟨x6, k7, m⟩ := bnd m
    obtain ⟨x21, k22, m⟩ := bnd m
    refine s_ret (K := K) (d := eD (PyData.tuple (x21.map eD))) hS5 (d_tupleL (a_cons (EvC.dd (c_lcC (K := K) (f := (fun part_8 => (((f_copied_r3 part_8)).bind fun x19 => some (some x19)))) (em := eD) (i_tupM (en := eD) (xs := x6) (d_is (d_var rfl (Dt.gr g4 ha0)) ((ck_TD k7).trans (congrArg PyData.tuple (List.map_id' _).symm)))) k22 (fun part_8 o15 v16 F9 p10 us11 g12 hv13 ho14 => by obtain ⟨x19, k20, ho14⟩ := bnd ho14; obtain rfl := sm ho14; exact ⟨[some a0, some v16], fun H18 Q hS17 hq => (fun Q hq => hq) Q hq, rfl, t_yes, fun y hy => by obtain rfl := sm hy; exact (d_call (A := A_copied_r3) (B := eD) (x := part_8) (a_cons (d_var rfl hv13) a_nil) k20)⟩))) a_nil)) (fun v27 F23 H24 g25 hS26 hv28 => ?_)
    obtain rfl := sm m
    exact q _ _ _ (Gr.tr g4 g25) hS26 hv28
  · rw [if_neg (bf hc)] at m
    refine nxt ?_
    refine s_if (b := (isiD "list" thing_1)) hS32 (t_B (K := K) (d_isiD (c := "list") (by decide) (d_var rfl (Dt.gr g31 ha0)))) (fun hc F33 H34 g35 hS36 => ?_) (fun hc F60 H61 g62 hS63 => ?_)
    · rw [if_pos hc] at m
      obtain ⟨x37, k38, m⟩ := bnd m
      obtain ⟨x52, k53, m⟩ := bnd m
      refine s_ret (K := K) (d := eD ((eL eD) x52)) hS36 (EvC.dd (c_lcC (K := K) (f := (fun part_39 => (((f_copied_r3 part_39)).bind fun x50 => some (some x50)))) (em := eD) (i_list (en := eD) (d_is (d_var rfl (Dt.gr (Gr.tr g31 g35) ha0)) (ck_LD _ _ k38))) k53 (fun part_39 o46 v47 F40 p41 us42 g43 hv44 ho45 => by obtain ⟨x50, k51, ho45⟩ := bnd ho45; obtain rfl := sm ho45; exact ⟨[some a0, some v47], fun H49 Q hS48 hq => (fun Q hq => hq) Q hq, rfl, t_yes, fun y hy => by obtain rfl := sm hy; exact (d_call (A := A_copied_r3) (B := eD) (x := part_39) (a_cons (d_var rfl hv44) a_nil) k51)⟩))) (fun v58 F54 H55 g56 hS57 hv59 => ?_)
      obtain rfl := sm m
      exact q _ _ _ (Gr.tr g31 (Gr.tr g35 g56)) hS57 hv59
    · rw [if_neg (bf hc)] at m
      refine nxt ?_
      refine s_ret (K := K) (d := eD thing_1) hS63 (d_var rfl (Dt.gr (Gr.tr g31 g62) ha0)) (fun v68 F64 H65 g66 hS67 hv69 => ?_)
      obtain rfl := sm m
      exact q _ _ _ (Gr.tr g31 (Gr.tr g62 g66)) hS67 hv69
theorem sc_copied_r4 : FnScope N_copied_r4 ["_law_thing"] (defScope s_copied_r4) := ⟨rfl, rfl, rfl, by decide +kernel, rfl, by decide +kernel, by decide +kernel⟩
theorem ok_copied_r4 {P : Program} {w : World} {K : PySem.W.Frag} {mg : Str → Option Value} {base : Heap} (hF : Df K mg "_law_copied" s_copied_r4) (m_isinstance : mg "isinstance" = none) (m_list : mg "list" = none) (m_tuple : mg "tuple" = none) (o_copied_r3 : Ok P w K mg base 4 "_law_copied" ["_law_thing"] (sp_copied_r3 K)) : Ok P w K mg base 5 "_law_copied" ["_law_thing"] (sp_copied_r4 K) := by
  obtain ⟨⟨_, G_copied_r3, bd_copied_r3, _⟩, kp_copied_r3, gm_copied_r3⟩ := o_copied_r3
  obtain ⟨⟨fd, F⟩, gm⟩ := hF
  refine ⟨⟨fd, F.ok sc_copied_r4 (fun vs H Q E h => ?_) (fun cdv A outer s H vs Q E hr h => ⟨t_copied_r4 K, PSs.nox ?_, w_copied_r4 vs H Q E h⟩), F.bindsN fun _ _ _ _ _ _ us hl => match us, hl with | [_], _ => rfl, lk_of F⟩, F.kp, gm⟩
  · obtain ⟨F0, cs, x, y, h, _⟩ := h; exact Dts.len h
  · exact (pss_cons (ps_if (pt_val (pe_callB call_isi (by rfl) m_isinstance (by decide +kernel) (pa_cons (pv 0) (pa_cons (pe_bltn (v := .ty "tuple") (by rfl) m_tuple (by decide +kernel) rfl) pa_nil)))) (pss_one (ps_ret (pe_callTy cr_tuple (by rfl) m_tuple (by decide +kernel) (pa_cons (pe_lc (own := [("_law_part", 1)]) (g := (gName 1)) (tt := tYes) (te := (tCall (sp_copied_r3 K) [] E0 (tCons (tVar 1) tNil))) (by rfl) sc_copied_r4.nd (pi_tup (pv 0)) (blkOk_by (own := [("_law_part", 1)]) (N := N_copied_r4) (sc := defScope s_copied_r4) (by decide +kernel)) (fun _ _ _ _ _ => (pg_name (i := 1) sc_copied_r4.nd rfl (Or.inl rfl))) (fun _ _ _ _ _ => pts_nil) (fun _ _ _ _ _ => (pe_call G_copied_r3 (hr.mono (by decide)) (by rfl) gm_copied_r3 kp_copied_r3 bd_copied_r3 .nil pass0 (pa_cons (pv 1) pa_nil)))) pa_nil)))) pss_nil) (pss_cons (ps_if (pt_val (pe_callB call_isi (by rfl) m_isinstance (by decide +kernel) (pa_cons (pv 0) (pa_cons (pe_bltn (v := .ty "list") (by rfl) m_list (by decide +kernel) rfl) pa_nil)))) (pss_one (ps_ret (pe_lc (own := [("_law_part", 1)]) (g := (gName 1)) (tt := tYes) (te := (tCall (sp_copied_r3 K) [] E0 (tCons (tVar 1) tNil))) (by rfl) sc_copied_r4.nd (pi_list (pv 0)) (blkOk_by (own := [("_law_part", 1)]) (N := N_copied_r4) (sc := defScope s_copied_r4) (by decide +kernel)) (fun _ _ _ _ _ => (pg_name (i := 1) sc_copied_r4.nd rfl (Or.inl rfl))) (fun _ _ _ _ _ => pts_nil) (fun _ _ _ _ _ => (pe_call G_copied_r3 (hr.mono (by decide)) (by rfl) gm_copied_r3 kp_copied_r3 bd_copied_r3 .nil pass0 (pa_cons (pv 1) pa_nil)))))) pss_nil) (pss_one (ps_ret (pv 0)))))
abbrev s_copied_r5 : Stmt := (top 39)
def f_copied_r5 : PyData → Option PyData := fun thing_1 => (if (isiD "tuple" thing_1) = true then (((asTD thing_1)).bind fun x6 => ((lcC (fun part_8 => (((f_copied_r4 part_8)).bind fun x19 => some (some x19))) x6)).bind fun x21 => some (PyData.tuple (x21.map eD))) else (if (isiD "list" thing_1) = true then (((asLD thing_1)).bind fun x37 => ((lcC (fun part_39 => (((f_copied_r4 part_39)).bind fun x50 => some (some x50))) x37)).bind fun x52 => some ((eL eD) x52)) else some thing_1))
abbrev A_copied_r5 : PyData → List PyData := fun x => [eD x]
abbrev N_copied_r5 : List Str := ["_law_thing", "_law_part"]
abbrev sp_copied_r5 (K : PySem.W.Frag) : Sp := spP K A_copied_r5 eD f_copied_r5
def t_copied_r5 (K : PySem.W.Frag) : TS := (tSeq (tIfS (tB (tCB (rIsi K) (tCons (tVar 0) (tCons (tC (.ty "tuple")) tNil)))) (tRet (tCB (rTupleL K) (tCons (tLc (iTup K (tVar 0)) (gName 1) tYes (tCall (sp_copied_r4 K) [] E0 (tCons (tVar 1) tNil)) [1]) tNil))) tNext) (tSeq (tIfS (tB (tCB (rIsi K) (tCons (tVar 0) (tCons (tC (.ty "list")) tNil)))) (tRet (tLc (iList K (tVar 0)) (gName 1) tYes (tCall (sp_copied_r4 K) [] E0 (tCons (tVar 1) tNil)) [1])) tNext) (tRet (tVar 0))))
theorem w_copied_r5 {K : PySem.W.Frag} (vs : List V) (H : Hp) (Q : VK) (E : XK) (h : sp_copied_r5 K vs H Q E) : t_copied_r5 K { nx := fun _ H' => Q .non H', rt := Q } (start N_copied_r5 vs) H := by
  obtain ⟨F0, cs, thing_1, y, h, hS0, m, q⟩ := h
  obtain ⟨a0, _, rfl, ha0, h⟩ := Dts.hd h
  obtain rfl := Dts.no h
  unfold f_copied_r5 at m
  try dsimp only at m
  unfold t_copied_r5
  refine go (σ' := [some a0, none]) rfl ?_
  refine s_if (b := (isiD "tuple" thing_1)) hS0 (t_B (K := K) (d_isiD (c := "tuple") (by decide) (d_var rfl ha0))) (fun hc F2 H3 g4 hS5 => ?_) (fun hc F29 H30 g31 hS32 => ?_)
  · rw [if_pos hc] at m
    obtain ⟨x6, k7, m⟩ := bnd m
    obtain ⟨x21, k22, m⟩ := bnd m
    refine s_ret (K := K) (d := eD (PyData.tuple (x21.map eD))) hS5 (d_tupleL (a_cons (EvC.dd (c_lcC (K := K) (f := (fun part_8 => (((f_copied_r4 part_8)).bind fun x19 => some (some x19)))) (em := eD) (i_tupM (en := eD) (xs := x6) (d_is (d_var rfl (Dt.gr g4 ha0)) ((ck_TD k7).trans (congrArg PyData.tuple (List.map_id' _).symm)))) k22 (fun part_8 o15 v16 F9 p10 us11 g12 hv13 ho14 => by obtain ⟨x19, k20, ho14⟩ := bnd ho14; obtain rfl := sm ho14; exact ⟨[some a0, some v16], fun H18 Q hS17 hq => (fun Q hq => hq) Q hq, rfl, t_yes, fun y hy => by obtain rfl := sm hy; exact (d_call (A := A_copied_r4) (B := eD) (x := part_8) (a_cons (d_var rfl hv13) a_nil) k20)⟩))) a_nil)) (fun v27 F23 H24 g25 hS26 hv28 => ?_)
    obtain rfl := sm m
    exact q _ _ _ (Gr.tr g4 g25) hS26 hv28
  · rw [if_neg (bf hc)] at m
    refine nxt ?_
    refine s_if (b := (isiD "list" thing_1)) hS32 (t_B (K := K) (d_isiD (c := "list") (by decide) (d_var rfl (Dt.gr g31 ha0)))) (fun hc F33 H34 g35 hS36 => ?_) (fun hc F60 H61 g62 hS63 => ?_)
    · rw [if_pos hc] at m
      obtain ⟨x37, k38, m⟩ := bnd m
      obtain ⟨x52, k53, m⟩ := bnd m
      refine s_ret (K := K) (d := eD ((eL eD) x52)) hS36 (EvC.dd (c_lcC (K := K) (f := (fun part_39 => (((f_copied_r4 part_39)).bind fun x50 => some (some x50)))) (em := eD) (i_list (en := eD) (d_is (d_var rfl (Dt.gr (Gr.tr g31 g35) ha0)) (ck_LD _ _ k38))) k53 (fun part_39 o46 v47 F40 p41 us42 g43 hv44 ho45 => by obtain ⟨x50, k51, ho45⟩ := bnd ho45; obtain rfl := sm ho45; exact ⟨[some a0, some v47], fun H49 Q hS48 hq => (fun Q hq => hq) Q hq, rfl, t_yes, fun y hy => by obtain rfl := sm hy; exact (d_call (A := A_copied_r4) (B := eD) (x := part_39) (a_cons (d_var rfl hv44) a_nil) k51)⟩))) (fun v58 F54 H55 g56 hS57 hv59 => ?_)
      obtain rfl := sm m
      exact q _ _ _ (Gr.tr g31 (Gr.tr g35 g56)) hS57 hv59
    · rw [if_neg (bf hc)] at m
      refine nxt ?_
      refine s_ret (K := K) (d := eD thing_1) hS63 (d_var rfl (Dt.gr (Gr.tr g31 g62) ha0)) (fun v68 F64 H65 g66 hS67 hv69 => ?_)
      obtain rfl := sm m
      exact q _ _ _ (Gr.tr g31 (Gr.tr g62 g66)) hS67 hv69
theorem sc_copied_r5 : FnScope N_copied_r5 ["_law_thing"] (defScope s_copied_r5) := ⟨rfl, rfl, rfl, by decide +kernel, rfl, by decide +kernel, by decide +kernel⟩
theorem ok_copied_r5 {P : Program} {w : World} {K : PySem.W.Frag} {mg : Str → Option Value} {base : Heap} (hF : Df K mg "_law_copied" s_copied_r5) (m_isinstance : mg "isinstance" = none) (m_list : mg "list" = none) (m_tuple : mg "tuple" = none) (o_copied_r4 : Ok P w K mg base 5 "_law_copied" ["_law_thing"] (sp_copied_r4 K)) : Ok P w K mg base 6 "_law_copied" ["_law_thing"] (sp_copied_r5 K) := by
  obtain ⟨⟨_, G_copied_r4, bd_copied_r4, _⟩, kp_copied_r4, gm_copied_r4⟩ := o_copied_r4
  obtain ⟨⟨fd, F⟩, gm⟩ := hF
  refine ⟨⟨fd, F.ok sc_copied_r5 (fun vs H Q E h => ?_) (fun cdv A outer s H vs Q E hr h => ⟨t_copied_r5 K, PSs.nox ?_, w_copied_r5 vs H Q E h⟩), F.bindsN fun _ _ _ _ _ _ us hl => match us, hl with | [_], _ => rfl, lk_of F⟩, F.kp, gm⟩
  · obtain ⟨F0, cs, x, y, h, _⟩ := h; exact Dts.len h
  · exact (pss_cons (ps_if (pt_val (pe_callB call_isi (by rfl) m_isinstance (by decide +kernel) (pa_cons (pv 0) (pa_cons (pe_bltn (v := .ty "tuple") (by rfl) m_tuple (by decide +kernel) rfl) pa_nil)))) (pss_one (ps_ret (pe_callTy cr_tuple (by rfl) m_tuple (by decide +kernel) (pa_cons (pe_lc (own := [("_law_part", 1)]) (g := (gName 1)) (tt := tYes) (te := (tCall (sp_copied_r4 K) [] E0 (tCons (tVar 1) tNil))) (by rfl) sc_copied_r5.nd (pi_tup (pv 0)) (blkOk_by (own := [("_law_part", 1)]) (N := N_copied_r5) (sc := defScope s_copied_r5) (by decide +kernel)) (fun _ _ _ _ _ => (pg_name (i := 1) sc_copied_r5.nd rfl (Or.inl rfl))) (fun _ _ _ _ _ => pts_nil) (fun _ _ _ _ _ => (pe_call G_copied_r4 (hr.mono (by decide)) (by rfl) gm_copied_r4 kp_copied_r4 bd_copied_r4 .nil pass0 (pa_cons (pv 1) pa_nil)))) pa_nil)))) pss_nil) (pss_cons (ps_if (pt_val (pe_callB call_isi (by rfl) m_isinstance (by decide +kernel) (pa_cons (pv 0) (pa_cons (pe_bltn (v := .ty "list") (by rfl) m_list (by decide +kernel) rfl) pa_nil)))) (pss_one (ps_ret (pe_lc (own := [("_law_part", 1)]) (g := (gName 1)) (tt := tYes) (te := (tCall (sp_copied_r4 K) [] E0 (tCons (tVar 1) tNil))) (by rfl) sc_copied_r5.nd (pi_list (pv 0)) (blkOk_by (own := [("_law_part", 1)]) (N := N_copied_r5) (sc := defScope s_copied_r5) (by decide +kernel)) (fun _ _ _ _ _ => (pg_name (i := 1) sc_copied_r5.nd rfl (Or.inl rfl))) (fun _ _ _ _ _ => pts_nil) (fun _ _ _ _ _ => (pe_call G_copied_r4 (hr.mono (by decide)) (by rfl) gm_copied_r4 kp_copied_r4 bd_copied_r4 .nil pass0 (pa_cons (pv 1) pa_nil)))))) pss_nil) (pss_one (ps_ret (pv 0)))))
abbrev s_copied_r6 : Stmt := (top 39)
def f_copied_r6 : PyData → Option PyData := fun thing_1 => (if (isiD "tuple" thing_1) = true then (((asTD thing_1)).bind fun x6 => ((lcC (fun part_8 => (((f_copied_r5 part_8)).bind fun x19 => some (some x19))) x6)).bind fun x21 => some (PyData.tuple (x21.map eD))) else (if (isiD "list" thing_1) = true then (((asLD thing_1)).bind fun x37 => ((lcC (fun part_39 => (((f_copied_r5 part_39)).bind fun x50 => some (some x50))) x37)).bind fun x52 => some ((eL eD) x52)) else some thing_1))
abbrev A_copied_r6 : PyData → List PyData := fun x => [eD x]
abbrev N_copied_r6 : List Str := ["_law_thing", "_law_part"]
abbrev sp_copied_r6 (K : PySem.W.Frag) : Sp := spP K A_copied_r6 eD f_copied_r6
def t_copied_r6 (K : PySem.W.Frag) : TS := (tSeq (tIfS (tB (tCB (rIsi K) (tCons (tVar 0) (tCons (tC (.ty "tuple")) tNil)))) (tRet (tCB (rTupleL K) (tCons (tLc (iTup K (tVar 0)) (gName 1) tYes (tCall (sp_copied_r5 K) [] E0 (tCons (tVar 1) tNil)) [1]) tNil))) tNext) (tSeq (tIfS (tB (tCB (rIsi K) (tCons (tVar 0) (tCons (tC (.ty "list")) tNil)))) (tRet (tLc (iList K (tVar 0)) (gName 1) tYes (tCall (sp_copied_r5 K) [] E0 (tCons (tVar 1) tNil)) [1])) tNext) (tRet (tVar 0))))
theorem w_copied_r6 {K : PySem.W.Frag} (vs : List V) (H : Hp) (Q : VK) (E : XK) (h : sp_copied_r6 K vs H Q E) : t_copied_r6 K { nx := fun _ H' => Q .non H', rt := Q } (start N_copied_r6 vs) H := by
  obtain ⟨F0, cs, thing_1, y, h, hS0, m, q⟩ := h
  obtain ⟨a0, _, rfl, ha0, h⟩ := Dts.hd h
  obtain rfl := Dts.no h
  unfold f_copied_r6 at m
  try dsimp only at m
  unfold t_copied_r6
  refine go (σ' := [some a0, none]) rfl ?_
  refine s_if (b := (isiD "tuple" thing_1)) hS0 (t_B (K := K) (d_isiD (c := "tuple") (by decide) (d_var rfl ha0))) (fun hc F2 H3 g4 hS5 => ?_) (fun hc F29 H30 g31 hS32 => ?_)
  · rw [if_pos hc] at m
    obtain ⟨x6, k7, m⟩ := bnd m
    obtain ⟨x21, k22, m⟩ := bnd m
    refine s_ret (K := K) (d := eD (PyData.tuple (x21.map eD))) hS5 (d_tupleL (a_cons (EvC.dd (c_lcC (K := K) (f := (fun part_8 => (((f_copied_r5 part_8)).bind fun x19 => some (some x19)))) (em := eD) (i_tupM (en := eD) (xs := x6) (d_is (d_var rfl (Dt.gr g4 ha0)) ((ck_TD k7).trans (congrArg PyData.tuple (List.map_id' _).symm)))) k22 (fun part_8 o15 v16 F9 p10 us11 g12 hv13 ho14 => by obtain ⟨x19, k20, ho14⟩ := bnd ho14; obtain rfl := sm ho14; exact ⟨[some a0, some v16], fun H18 Q hS17 hq => (fun Q hq => hq) Q hq, rfl, t_yes, fun y hy => by obtain rfl := sm hy; exact (d_call (A := A_copied_r5) (B := eD) (x := part_8) (a_cons (d_var rfl hv13) a_nil) k20)⟩))) a_nil)) (fun v27 F23 H24 g25 hS26 hv28 => ?_)
    obtain rfl := sm m
    exact q _ _ _ (Gr.tr g4 g25) hS26 hv28
  · rw [if_neg (bf hc)] at m
    refine nxt ?_
    refine s_if (b := (isiD "list" thing_1)) hS32 (t_B (K := K) (d_isiD (c := "list") (by decide) (d_var rfl (Dt.gr g31 ha0)))) (fun hc F33 H34 g35 hS36 => ?_) (fun hc F60 H61 g62 hS63 => ?_)
    · rw [if_pos hc] at m
      obtain ⟨x37, k38, m⟩ := bnd m
      obtain ⟨x52, k53, m⟩ := bnd m
      refine s_ret (K := K) (d := eD ((eL eD) x52)) hS36 (EvC.dd (c_lcC (K := K) (f := (fun part_39 => (((f_copied_r5 part_39)).bind fun x50 => some (some x50)))) (em := eD) (i_list (en := eD) (d_is (d_var rfl (Dt.gr (Gr.tr g31 g35) ha0)) (ck_LD _ _ k38))) k53 (fun part_39 o46 v47 F40 p41 us42 g43 hv44 ho45 => by obtain ⟨x50, k51, ho45⟩ := bnd ho45; obtain rfl := sm ho45; exact ⟨[some a0, some v47], fun H49 Q hS48 hq => (fun Q hq => hq) Q hq, rfl, t_yes, fun y hy => by obtain rfl := sm hy; exact (d_call (A := A_copied_r5) (B := eD) (x := part_39) (a_cons (d_var rfl hv44) a_nil) k51)⟩))) (fun v58 F54 H55 g56 hS57 hv59 => ?_)
      obtain rfl := sm m
      exact q _ _ _ (Gr.tr g31 (Gr.tr g35 g56)) hS57 hv59
    · rw [if_neg (bf hc)] at m
      refine nxt ?_
      refine s_ret (K := K) (d := eD thing_1) hS63 (d_var rfl (Dt.gr (Gr.tr g31 g62) ha0)) (fun v68 F64 H65 g66 hS67 hv69 => ?_)
      obtain rfl := sm m
      exact q _ _ _ (Gr.tr g31 (Gr.tr g62 g66)) hS67 hv69
theorem sc_copied_r6 : FnScope N_copied_r6 ["_law_thing"] (defScope s_copied_r6) := ⟨rfl, rfl, rfl, by decide +kernel, rfl, by decide +kernel, by decide +kernel⟩
theorem ok_copied_r6 {P : Program} {w : World} {K : PySem.W.Frag} {mg : Str → Option Value} {base : Heap} (hF : Df K mg "_law_copied" s_copied_r6) (m_isinstance : mg "isinstance" = none) (m_list : mg "list" = none) (m_tuple : mg "tuple" = none) (o_copied_r5 : Ok P w K mg base 6 "_law_copied" ["_law_thing"] (sp_copied_r5 K)) : Ok P w K mg base 7 "_law_copied" ["_law_thing"] (sp_copied_r6 K) := by
  obtain ⟨⟨_, G_copied_r5, bd_copied_r5, _⟩, kp_copied_r5, gm_copied_r5⟩ := o_copied_r5
  obtain ⟨⟨fd, F⟩, gm⟩ := hF
  refine ⟨⟨fd, F.ok sc_copied_r6 (fun vs H Q E h => ?_) (fun cdv A outer s H vs Q E hr h => ⟨t_copied_r6 K, PSs.nox ?_, w_copied_r6 vs H Q E h⟩), F.bindsN fun _ _ _ _ _ _ us hl => match us, hl with | [_], _ => rfl, lk_of F⟩, F.kp, gm⟩
  · obtain ⟨F0, cs, x, y, h, _⟩ := h; exact Dts.len h
  · exact (pss_cons (ps_if (pt_val (pe_callB call_isi (by rfl) m_isinstance (by decide +kernel) (pa_cons (pv 0) (pa_cons (pe_bltn (v := .ty "tuple") (by rfl) m_tuple (by decide +kernel) rfl) pa_nil)))) (pss_one (ps_ret (pe_callTy cr_tuple (by rfl) m_tuple (by decide +kernel) (pa_cons (pe_lc (own := [("_law_part", 1)]) (g := (gName 1)) (tt := tYes) (te := (tCall (sp_copied_r5 K) [] E0 (tCons (tVar 1) tNil))) (by rfl) sc_copied_r6.nd (pi_tup (pv 0)) (blkOk_by (own := [("_law_part", 1)]) (N := N_copied_r6) (sc := defScope s_copied_r6) (by decide +kernel)) (fun _ _ _ _ _ => (pg_name (i := 1) sc_copied_r6.nd rfl (Or.inl rfl))) (fun _ _ _ _ _ => pts_nil) (fun _ _ _ _ _ => (pe_call G_copied_r5 (hr.mono (by decide)) (by rfl) gm_copied_r5 kp_copied_r5 bd_copied_r5 .nil pass0 (pa_cons (pv 1) pa_nil)))) pa_nil)))) pss_nil) (pss_cons (ps_if (pt_val (pe_callB call_isi (by rfl) m_isinstance (by decide +kernel) (pa_cons (pv 0) (pa_cons (pe_bltn (v := .ty "list") (by rfl) m_list (by decide +kernel) rfl) pa_nil)))) (pss_one (ps_ret (pe_lc (own := [("_law_part", 1)]) (g := (gName 1)) (tt := tYes) (te := (tCall (sp_copied_r5 K) [] E0 (tCons (tVar 1) tNil))) (by rfl) sc_copied_r6.nd (pi_list (pv 0)) (blkOk_by (own := [("_law_part", 1)]) (N := N_copied_r6) (sc := defScope s_copied_r6) (by decide +kernel)) (fun _ _ _ _ _ => (pg_name (i := 1) sc_copied_r6.nd rfl (Or.inl rfl))) (fun _ _ _ _ _ => pts_nil) (fun _ _ _ _ _ => (pe_call G_copied_r5 (hr.mono (by decide)) (by rfl) gm_copied_r5 kp_copied_r5 bd_copied_r5 .nil pass0 (pa_cons (pv 1) pa_nil)))))) pss_nil) (pss_one (ps_ret (pv 0)))))
abbrev s_is_whole : Stmt := (top 7)
def f_is_whole : Int → Option Bool := fun thing_1 => some (true && (!false))
abbrev A_is_whole : Int → List PyData := fun x => [eI x]
abbrev N_is_whole : List Str := ["thing"]
abbrev sp_is_whole (K : PySem.W.Frag) : Sp := spP K A_is_whole eB f_is_whole
def t_is_whole (K : PySem.W.Frag) : TS := (tRet (tAndV (tCB (rIsi K) (tCons (tVar 0) (tCons (tC (.ty "int")) tNil))) (tNotV (tCB (rIsi K) (tCons (tVar 0) (tCons (tC (.ty "bool")) tNil))))))
theorem w_is_whole {K : PySem.W.Frag} (vs : List V) (H : Hp) (Q : VK) (E : XK) (h : sp_is_whole K vs H Q E) : t_is_whole K { nx := fun _ H' => Q .non H', rt := Q } (start N_is_whole vs) H := by
  obtain ⟨F0, cs, thing_1, y, h, hS0, m, q⟩ := h
  obtain ⟨a0, _, rfl, ha0, h⟩ := Dts.hd h
  obtain rfl := Dts.no h
  obtain rfl := Dt.toInt ha0
  unfold f_is_whole at m
  try dsimp only at m
  unfold t_is_whole
  refine go (σ' := [some (.int thing_1)]) rfl ?_
  refine s_ret (K := K) (d := eB (true && (!false))) hS0 (d_andP (d_is (e := PyData.bool true) (d_isiD (c := "int") (by decide) (d_var rfl (.int _))) (congrArg PyData.bool (by rfl))) (fun hc => (d_notV (d_is (e := PyData.bool false) (d_isiD (c := "bool") (by decide) (d_var rfl (.int _))) (congrArg PyData.bool (by rfl)))))) (fun v6 F2 H3 g4 hS5 hv7 => ?_)
  obtain rfl := sm m
  exact q _ _ _ g4 hS5 hv7
theorem sc_is_whole : FnScope N_is_whole ["thing"] (defScope s_is_whole) := ⟨rfl, rfl, rfl, by decide +kernel, rfl, by decide +kernel, by decide +kernel⟩
theorem ok_is_whole {P : Program} {w : World} {K : PySem.W.Frag} {mg : Str → Option Value} {base : Heap} (hF : Df K mg "is_whole" s_is_whole) (m_bool : mg "bool" = none) (m_int : mg "int" = none) (m_isinstance : mg "isinstance" = none) : Ok P w K mg base 1 "is_whole" ["thing"] (sp_is_whole K) := by
  obtain ⟨⟨fd, F⟩, gm⟩ := hF
  refine ⟨⟨fd, F.ok sc_is_whole (fun vs H Q E h => ?_) (fun cdv A outer s H vs Q E hr h => ⟨t_is_whole K, PSs.nox ?_, w_is_whole vs H Q E h⟩), F.bindsN fun _ _ _ _ _ _ us hl => match us, hl with | [_], _ => rfl, lk_of F⟩, F.kp, gm⟩
  · obtain ⟨F0, cs, x, y, h, _⟩ := h; exact Dts.len h
  · exact (pss_one (ps_ret (pe_and (pe_callB call_isi (by rfl) m_isinstance (by decide +kernel) (pa_cons (pv 0) (pa_cons (pe_bltn (v := .ty "int") (by rfl) m_int (by decide +kernel) rfl) pa_nil))) (pe_one (pe_not (pe_callB call_isi (by rfl) m_isinstance (by decide +kernel) (pa_cons (pv 0) (pa_cons (pe_bltn (v := .ty "bool") (by rfl) m_bool (by decide +kernel) rfl) pa_nil))))))))
abbrev s_is_whole_D : Stmt := (top 7)
def f_is_whole_D : PyData → Option Bool := fun thing_1 => some ((isiD "int" thing_1) && (!(isiD "bool" thing_1)))
abbrev A_is_whole_D : PyData → List PyData := fun x => [eD x]
abbrev N_is_whole_D : List Str := ["thing"]
abbrev sp_is_whole_D (K : PySem.W.Frag) : Sp := spP K A_is_whole_D eB f_is_whole_D
def t_is_whole_D (K : PySem.W.Frag) : TS := (tRet (tAndV (tCB (rIsi K) (tCons (tVar 0) (tCons (tC (.ty "int")) tNil))) (tNotV (tCB (rIsi K) (tCons (tVar 0) (tCons (tC (.ty "bool")) tNil))))))
theorem w_is_whole_D {K : PySem.W.Frag} (vs : List V) (H : Hp) (Q : VK) (E : XK) (h : sp_is_whole_D K vs H Q E) : t_is_whole_D K { nx := fun _ H' => Q .non H', rt := Q } (start N_is_whole_D vs) H := by
  obtain ⟨F0, cs, thing_1, y, h, hS0, m, q⟩ := h
  obtain ⟨a0, _, rfl, ha0, h⟩ := Dts.hd h
  obtain rfl := Dts.no h
  unfold f_is_whole_D at m
  try dsimp only at m
  unfold t_is_whole_D
  refine go (σ' := [some a0]) rfl ?_
  refine s_ret (K := K) (d := eB ((isiD "int" thing_1) && (!(isiD "bool" thing_1)))) hS0 (d_andP (d_isiD (c := "int") (by decide) (d_var rfl ha0)) (fun hc => (d_notV (d_isiD (c := "bool") (by decide) (d_var rfl ha0))))) (fun v6 F2 H3 g4 hS5 hv7 => ?_)
  obtain rfl := sm m
  exact q _ _ _ g4 hS5 hv7
theorem sc_is_whole_D : FnScope N_is_whole_D ["thing"] (defScope s_is_whole_D) := ⟨rfl, rfl, rfl, by decide +kernel, rfl, by decide +kernel, by decide +kernel⟩
theorem ok_is_whole_D {P : Program} {w : World} {K : PySem.W.Frag} {mg : Str → Option Value} {base : Heap} (hF : Df K mg "is_whole" s_is_whole_D) (m_bool : mg "bool" = none) (m_int : mg "int" = none) (m_isinstance : mg "isinstance" = none) : Ok P w K mg base 1 "is_whole" ["thing"] (sp_is_whole_D K) := by
  obtain ⟨⟨fd, F⟩, gm⟩ := hF
  refine ⟨⟨fd, F.ok sc_is_whole_D (fun vs H Q E h => ?_) (fun cdv A outer s H vs Q E hr h => ⟨t_is_whole_D K, PSs.nox ?_, w_is_whole_D vs H Q E h⟩), F.bindsN fun _ _ _ _ _ _ us hl => match us, hl with | [_], _ => rfl, lk_of F⟩, F.kp, gm⟩
  · obtain ⟨F0, cs, x, y, h, _⟩ := h; exact Dts.len h
  · exact (pss_one (ps_ret (pe_and (pe_callB call_isi (by rfl) m_isinstance (by decide +kernel) (pa_cons (pv 0) (pa_cons (pe_bltn (v := .ty "int") (by rfl) m_int (by decide +kernel) rfl) pa_nil))) (pe_one (pe_not (pe_callB call_isi (by rfl) m_isinstance (by decide +kernel) (pa_cons (pv 0) (pa_cons (pe_bltn (v := .ty "bool") (by rfl) m_bool (by decide +kernel) rfl) pa_nil))))))))
abbrev s_is_within : Stmt := (top 8)
def f_is_within : (Int × Int × Int) → Option Bool := fun (thing_1, least_2, greatest_3) => (((f_is_whole thing_1)).bind fun x4 => some (x4 && (decide (least_2 ≤ thing_1) && decide (thing_1 ≤ greatest_3))))
abbrev A_is_within : (Int × Int × Int) → List PyData := fun x => [eI x.1, eI x.2.1, eI x.2.2]
abbrev N_is_within : List Str := ["thing", "least", "greatest"]
abbrev sp_is_within (K : PySem.W.Frag) : Sp := spP K A_is_within eB f_is_within
def t_is_within (K : PySem.W.Frag) : TS := (tRet (tAndV (tCall (sp_is_whole K) [] E0 (tCons (tVar 0) tNil)) (tChain (rI0 fun i j => .bl (decide (i ≤ j))) (rI0 fun i j => .bl (decide (i ≤ j))) (tVar 1) (tVar 0) (tVar 2))))
theorem w_is_within {K : PySem.W.Frag} (vs : List V) (H : Hp) (Q : VK) (E : XK) (h : sp_is_within K vs H Q E) : t_is_within K { nx := fun _ H' => Q .non H', rt := Q } (start N_is_within vs) H := by
  obtain ⟨F0, cs, ⟨thing_1, least_2, greatest_3⟩, y, h, hS0, m, q⟩ := h
  obtain ⟨a0, _, rfl, ha0, h⟩ := Dts.hd h
  obtain ⟨a1, _, rfl, ha1, h⟩ := Dts.hd h
  obtain ⟨a2, _, rfl, ha2, h⟩ := Dts.hd h
  obtain rfl := Dts.no h
  obtain rfl := Dt.toInt ha0
  obtain rfl := Dt.toInt ha1
  obtain rfl := Dt.toInt ha2
  unfold f_is_within at m
  try dsimp only at m
  unfold t_is_within
  refine go (σ' := [some (.int thing_1), some (.int least_2), some (.int greatest_3)]) rfl ?_
  obtain ⟨x4, k5, m⟩ := bnd m
  refine s_ret (K := K) (d := eB (x4 && (decide (least_2 ≤ thing_1) && decide (thing_1 ≤ greatest_3)))) hS0 (d_andP (d_call (A := A_is_whole) (B := eB) (x := thing_1) (a_cons (d_var rfl (.int _)) a_nil) k5) (fun hc => (d_chain (d_var rfl (.int _)) (d_var rfl (.int _)) (d_var rfl (.int _))))) (fun v10 F6 H7 g8 hS9 hv11 => ?_)
  obtain rfl := sm m
  exact q _ _ _ g8 hS9 hv11
theorem sc_is_within : FnScope N_is_within ["thing", "least", "greatest"] (defScope s_is_within) := ⟨rfl, rfl, rfl, by decide +kernel, rfl, by decide +kernel, by decide +kernel⟩
theorem ok_is_within {P : Program} {w : World} {K : PySem.W.Frag} {mg : Str → Option Value} {base : Heap} (hF : Df K mg "is_within" s_is_within) (o_is_whole : Ok P w K mg base 1 "is_whole" ["thing"] (sp_is_whole K)) : Ok P w K mg base 2 "is_within" ["thing", "least", "greatest"] (sp_is_within K) := by
  obtain ⟨⟨_, G_is_whole, bd_is_whole, _⟩, kp_is_whole, gm_is_whole⟩ := o_is_whole
  obtain ⟨⟨fd, F⟩, gm⟩ := hF
  refine ⟨⟨fd, F.ok sc_is_within (fun vs H Q E h => ?_) (fun cdv A outer s H vs Q E hr h => ⟨t_is_within K, PSs.nox ?_, w_is_within vs H Q E h⟩), F.bindsN fun _ _ _ _ _ _ us hl => match us, hl with | [_, _, _], _ => rfl, lk_of F⟩, F.kp, gm⟩
  · obtain ⟨F0, cs, x, y, h, _⟩ := h; exact Dts.len h
  · exact (pss_one (ps_ret (pe_and (pe_call G_is_whole (hr.mono (by decide)) (by rfl) gm_is_whole kp_is_whole bd_is_whole .nil pass0 (pa_cons (pv 0) pa_nil)) (pe_one (pe_chain op_le op_le (pv 1) (pv 0) (pv 2))))))
abbrev s_has_names_twice : Stmt := (top 19)
def f_has_names_twice : (List (Str × Int × Int)) → Option Bool := fun boxes_1 => (((mapC (fun box_2 => box_2.1) boxes_1)).bind fun x13 => ((setLenM x13)).bind fun x15 => some (!decide (x15 = (boxes_1.length : Int))))
abbrev A_has_names_twice : (List (Str × Int × Int)) → List PyData := fun x => [(eL (eT3 eS eI eI)) x]
abbrev N_has_names_twice : List Str := ["boxes", "box"]
abbrev sp_has_names_twice (K : PySem.W.Frag) : Sp := spP K A_has_names_twice eB f_has_names_twice
def t_has_names_twice (K : PySem.W.Frag) : TS := (tRet (tOp rNe (tLenSetS K (tLc (iList K (tVar 0)) (gName 1) tYes (tOp (rIxT K) (tVar 1) (tC (.int 0))) [1])) (tCB (rLenL K) (tCons (tVar 0) tNil))))
theorem w_has_names_twice {K : PySem.W.Frag} (vs : List V) (H : Hp) (Q : VK) (E : XK) (h : sp_has_names_twice K vs H Q E) : t_has_names_twice K { nx := fun _ H' => Q .non H', rt := Q } (start N_has_names_twice vs) H := by
  obtain ⟨F0, cs, boxes_1, y, h, hS0, m, q⟩ := h
  obtain ⟨a0, _, rfl, ha0, h⟩ := Dts.hd h
  obtain rfl := Dts.no h
  unfold f_has_names_twice at m
  try dsimp only at m
  unfold t_has_names_twice
  refine go (σ' := [some a0, none]) rfl ?_
  obtain ⟨x13, k14, m⟩ := bnd m
  obtain ⟨x15, k16, m⟩ := bnd m
  refine s_ret (K := K) (d := eB (!decide (x15 = (boxes_1.length : Int)))) hS0 (d_neI (d_setLen (EvC.dd (c_mapC (K := K) (f := (fun box_2 => box_2.1)) (em := eS) (i_list (en := (eT3 eS eI eI)) (d_var rfl ha0)) k14 (fun box_2 o9 v10 F3 p4 us5 g6 hv7 ho8 => by obtain rfl := sm ho8; exact ⟨[some a0, some v10], fun H12 Q hS11 hq => (fun Q hq => hq) Q hq, rfl, t_yes, fun y hy => by obtain rfl := sm hy; exact (d_ixT (d_var rfl hv7) d_int rfl)⟩))) k16) (d_len (e := (eT3 eS eI eI)) (a_cons (d_var rfl ha0) a_nil))) (fun v21 F17 H18 g19 hS20 hv22 => ?_)
  obtain rfl := sm m
  exact q _ _ _ g19 hS20 hv22
theorem sc_has_names_twice : FnScope N_has_names_twice ["boxes"] (defScope s_has_names_twice) := ⟨rfl, rfl, rfl, by decide +kernel, rfl, by decide +kernel, by decide +kernel⟩
theorem ok_has_names_twice {P : Program} {w : World} {K : PySem.W.Frag} {mg : Str → Option Value} {base : Heap} (hF : Df K mg "has_names_twice" s_has_names_twice) (m_len : mg "len" = none) (m_set : mg "set" = none) : Ok P w K mg base 1 "has_names_twice" ["boxes"] (sp_has_names_twice K) := by
  obtain ⟨⟨fd, F⟩, gm⟩ := hF
  refine ⟨⟨fd, F.ok sc_has_names_twice (fun vs H Q E h => ?_) (fun cdv A outer s H vs Q E hr h => ⟨t_has_names_twice K, PSs.nox ?_, w_has_names_twice vs H Q E h⟩), F.bindsN fun _ _ _ _ _ _ us hl => match us, hl with | [_], _ => rfl, lk_of F⟩, F.kp, gm⟩
  · obtain ⟨F0, cs, x, y, h, _⟩ := h; exact Dts.len h
  · exact (pss_one (ps_ret (pe_cmpR op_ne (pe_lenSetS rfl (by rfl) m_len (by rfl) m_set (pe_lc (own := [("box", 1)]) (g := (gName 1)) (tt := tYes) (te := (tOp (rIxT K) (tVar 1) (tC (.int 0)))) (by rfl) sc_has_names_twice.nd (pi_list (pv 0)) (blkOk_by (own := [("box", 1)]) (N := N_has_names_twice) (sc := defScope s_has_names_twice) (by decide +kernel)) (fun _ _ _ _ _ => (pg_name (i := 1) sc_has_names_twice.nd rfl (Or.inl rfl))) (fun _ _ _ _ _ => pts_nil) (fun _ _ _ _ _ => (pe_ix ix_tup (pv 1) pe_int (fun _ _ => rfl))))) (pe_callB cr_lenL (by rfl) m_len PySem.boot_len (pa_cons (pv 0) pa_nil)) (nomark _))))
abbrev s_has_room : Stmt := (top 20)
def f_has_room_b4 (boxes_2 : (List (Str × Int × Int))) (place_3 : Int) : Unit → (Int × Int) → Option (Fl Unit Bool) := fun _ (bay_7, room_8) => (((lcC (fun box_35 => (((atI [eS box_35.1, eI box_35.2.1, eI box_35.2.2] place_3)).bind fun x46 => ((eqDM x46 (eI bay_7))).bind fun x48 => if (x48) = true then (some (some box_35)) else some none)) boxes_2)).bind fun x50 => (if (decide (room_8 < (x50.length : Int))) = true then some (Fl.rt false) else some (Fl.nx ())))
def f_has_room : ((List Int) × (List (Str × Int × Int)) × Int) → Option Bool := fun (rooms_1, boxes_2, place_3) => (forF (f_has_room_b4 boxes_2 place_3) (enumM rooms_1) ()).bind fun r5 => match r5 with | .nx _ => some true | .br _ => none | .rt z82 => some z82
abbrev A_has_room : ((List Int) × (List (Str × Int × Int)) × Int) → List PyData := fun x => [(eL eI) x.1, (eL (eT3 eS eI eI)) x.2.1, eI x.2.2]
abbrev N_has_room : List Str := ["rooms", "boxes", "place", "bay", "room", "box"]
abbrev sp_has_room (K : PySem.W.Frag) : Sp := spP K A_has_room eB f_has_room
def t_has_room (K : PySem.W.Frag) : TS := (tSeq (tFor (iEnum K (tCons (tVar 0) tNil)) (gTup K 2 (gCons (gName 3) (gCons (gName 4) gNil))) (tIfS (tTest (tOp (rI0 fun i j => .bl (decide (j < i))) (tCB (rLenL K) (tCons (tLc (iList K (tVar 1)) (gName 5) (tTest (tOp (rEqD K) (tOp (rIxT K) (tVar 5) (tVar 2)) (tVar 3))) (tVar 5) [5]) tNil)) (tVar 4))) (tRet (tC (.bl false))) tNext)) (tRet (tC (.bl true))))
theorem w_has_room {K : PySem.W.Frag} (vs : List V) (H : Hp) (Q : VK) (E : XK) (h : sp_has_room K vs H Q E) : t_has_room K { nx := fun _ H' => Q .non H', rt := Q } (start N_has_room vs) H := by
  obtain ⟨F0, cs, ⟨rooms_1, boxes_2, place_3⟩, y, h, hS0, m, q⟩ := h
  obtain ⟨a0, _, rfl, ha0, h⟩ := Dts.hd h
  obtain ⟨a1, _, rfl, ha1, h⟩ := Dts.hd h
  obtain ⟨a2, _, rfl, ha2, h⟩ := Dts.hd h
  obtain rfl := Dts.no h
  obtain rfl := Dt.toInt ha2
  unfold f_has_room at m
  try dsimp only at m
  unfold t_has_room
  refine go (σ' := [some a0, some a1, some (.int place_3), none, none, none]) rfl ?_
  obtain ⟨r5, k6, m⟩ := bnd m
  refine s_forF (K := K) (xs := (enumM rooms_1)) (en := (eT2 eI eI)) (body := (f_has_room_b4 boxes_2 place_3)) (s0 := ()) (r := r5) (fun (a : Unit) F σ c => ∃ (j3 : Option V) (j4 : Option V) (j5 : Option V), σ = [some a0, some a1, some (.int place_3), j3, j4, j5] ∧ cs = c) hS0 (i_enum (en := eI) (a_cons (d_var rfl ha0) a_nil)) (fun _ _ => ⟨_, _, _, rfl, rfl⟩) k6 ?_ ?_
  · rintro ⟨⟩ F67 σ72 c71 H68 hz83 g69 hS70 ⟨u73, u74, u75, rfl, rfl⟩
    rcases hz83.symm with rfl | rfl
    · cases (show (none : Option _) = some _ from m)
    try dsimp only at m
    refine s_ret (K := K) (d := eB true) hS70 d_bl (fun v80 F76 H77 g78 hS79 hv81 => ?_)
    obtain rfl := sm m
    exact q _ _ _ (Gr.tr g69 g78) hS79 hv81
  · rintro ⟨bay_7, room_8⟩ ⟨⟩ b17 F9 F10 σ23 c24 H11 v16 N18 B19 g12 ⟨u26, u27, u28, rfl, rfl⟩ g13 hS14 hv15 m25 hN20 hB21 hR22
    obtain ⟨p29, w31, w32, rfl, hT30, hw33, hw34⟩ := u2 hv15
    obtain rfl := Dt.toInt hw33
    obtain rfl := Dt.toInt hw34
    refine tg (σ' := [some a0, some a1, some (.int place_3), some (.int bay_7), some (.int room_8), u28]) (fun Q hq => ⟨p29, [_, _], rfl, gr_T hS14.fr hT30, rfl, _, _, rfl, _, _, rfl, rfl, hq⟩) ?_
    unfold f_has_room_b4 at m25
    try dsimp only at m25
    obtain ⟨x50, k51, m25⟩ := bnd m25
    refine s_if (b := (decide (room_8 < (x50.length : Int)))) hS14 (t_test (K := K) (d_gt (d_len (e := (eT3 eS eI eI)) (a_cons (EvC.dd (c_lcC (K := K) (f := (fun box_35 => (((atI [eS box_35.1, eI box_35.2.1, eI box_35.2.2] place_3)).bind fun x46 => ((eqDM x46 (eI bay_7))).bind fun x48 => if (x48) = true then (some (some box_35)) else some none))) (em := (eT3 eS eI eI)) (i_list (en := (eT3 eS eI eI)) (d_var rfl (Dt.gr (Gr.tr g12 g13) ha1))) k51 (fun box_35 o42 v43 F36 p37 us38 g39 hv40 ho41 => by obtain ⟨x46, k47, ho41⟩ := bnd ho41; obtain ⟨x48, k49, ho41⟩ := bnd ho41; by_cases hc : (x48) = true; (rw [if_pos hc] at ho41; obtain rfl := sm ho41; refine ⟨[some a0, some a1, some (.int place_3), some (.int bay_7), some (.int room_8), some v43], fun H45 Q hS44 hq => (fun Q hq => hq) Q hq, rfl, ?_, ?_⟩; (rw [show (some box_35).isSome = (x48) from hc.symm]; exact (t_test (K := K) (d_eqDM (d_ixT (d_var rfl hv40) (d_var rfl (.int _)) k47) (d_var rfl (.int _)) k49))); (intro y hy; obtain rfl := sm hy; exact (d_var rfl hv40))); (rw [if_neg hc] at ho41; obtain rfl := sm ho41; refine ⟨[some a0, some a1, some (.int place_3), some (.int bay_7), some (.int room_8), some v43], fun H45 Q hS44 hq => (fun Q hq => hq) Q hq, rfl, ?_, ?_⟩; (rw [show (none : Option (Str × Int × Int)).isSome = (x48) from (bt hc).symm]; exact (t_test (K := K) (d_eqDM (d_ixT (d_var rfl hv40) (d_var rfl (.int _)) k47) (d_var rfl (.int _)) k49))); (intro y hy; cases hy))))) a_nil)) (d_var rfl (.int _)))) (fun hc F52 H53 g54 hS55 => ?_) (fun hc F63 H64 g65 hS66 => ?_)
    · rw [if_pos hc] at m25
      refine s_ret (K := K) (d := eB false) hS55 d_bl (fun v60 F56 H57 g58 hS59 hv61 => ?_)
      obtain rfl := sm m25
      have hr62 := hR22 _ rfl
      subst hr62
      obtain rfl := sm m
      exact q _ _ _ (Gr.tr g12 (Gr.tr g13 (Gr.tr g54 g58))) hS59 hv61
    · rw [if_neg (bf hc)] at m25
      refine nxt ?_
      obtain rfl := sm m25
      exact hN20 _ _ _ _ _ rfl g65 hS66 ⟨_, _, _, rfl, rfl⟩
theorem sc_has_room : FnScope N_has_room ["rooms", "boxes", "place"] (defScope s_has_room) := ⟨rfl, rfl, rfl, by decide +kernel, rfl, by decide +kernel, by decide +kernel⟩
theorem ok_has_room {P : Program} {w : World} {K : PySem.W.Frag} {mg : Str → Option Value} {base : Heap} (hF : Df K mg "has_room" s_has_room) (m_enumerate : mg "enumerate" = none) (m_len : mg "len" = none) : Ok P w K mg base 1 "has_room" ["rooms", "boxes", "place"] (sp_has_room K) := by
  obtain ⟨⟨fd, F⟩, gm⟩ := hF
  refine ⟨⟨fd, F.ok sc_has_room (fun vs H Q E h => ?_) (fun cdv A outer s H vs Q E hr h => ⟨t_has_room K, PSs.nox ?_, w_has_room vs H Q E h⟩), F.bindsN fun _ _ _ _ _ _ us hl => match us, hl with | [_, _, _], _ => rfl, lk_of F⟩, F.kp, gm⟩
  · obtain ⟨F0, cs, x, y, h, _⟩ := h; exact Dts.len h
  · exact (pss_cons (ps_for PassesOwn.never rfl (pi_enum (by rfl) m_enumerate (pa_cons (pv 0) pa_nil)) (pg_tup rfl (pgs_cons (pg_name (i := 3) sc_has_room.nd rfl (Or.inr rfl)) (pgs_cons (pg_name (i := 4) sc_has_room.nd rfl (Or.inl rfl)) pgs_nil))) (pss_one (ps_if (pt_cmpR op_gt (pe_callB cr_lenL (by rfl) m_len PySem.boot_len (pa_cons (pe_lc (own := [("box", 5)]) (g := (gName 5)) (tt := (tTest (tOp (rEqD K) (tOp (rIxT K) (tVar 5) (tVar 2)) (tVar 3)))) (te := (tVar 5)) (by rfl) sc_has_room.nd (pi_list (pv 1)) (blkOk_by (own := [("box", 5)]) (N := N_has_room) (sc := defScope s_has_room) (by decide +kernel)) (fun _ _ _ _ _ => (pg_name (i := 5) sc_has_room.nd rfl (Or.inl rfl))) (fun _ _ _ _ _ => (pts_one (pt_cmpR (op_eqD hr.units) (pe_ix ix_tup (pv 5) (pv 2) (fun _ _ => rfl)) (pv 3) (nomark _)))) (fun _ _ _ _ _ => (pv 5))) pa_nil)) (pv 4) (nomark _)) (pss_one (ps_ret pe_bl)) pss_nil))) (pss_one (ps_ret pe_bl)))
abbrev s_is_name : Stmt := (top 9)
def f_is_name : Str → Option Bool := fun thing_1 => (((if (!true) = true then some true else (((lenS thing_1)).bind fun x2 => some (!(decide ((1 : Int) ≤ x2) && decide (x2 ≤ (8 : Int))))))).bind fun x4 => (if x4 = true then some false else (((mapC (fun sign_20 => (inS sign_20 ("abcdefghijklmnopqrstuvwxyz" : Str))) (signs thing_1))).bind fun x31 => some ((x31).all id))))
abbrev A_is_name : Str → List PyData := fun x => [eS x]
abbrev N_is_name : List Str := ["thing", "sign"]
abbrev sp_is_name (K : PySem.W.Frag) : Sp := spP K A_is_name eB f_is_name
def t_is_name (K : PySem.W.Frag) : TS := (tSeq (tIfS (tOr (tNot (tB (tCB (rIsi K) (tCons (tVar 0) (tCons (tC (.ty "str")) tNil))))) (tNot (tTest (tChain (rI0 fun i j => .bl (decide (i ≤ j))) (rI0 fun i j => .bl (decide (i ≤ j))) (tC (.int 1)) (tCB rLenS (tCons (tVar 0) tNil)) (tC (.int 8)))))) (tRet (tC (.bl false))) tNext) (tRet (tCB (rAll K) (tCons (tLc (iStr (tVar 0)) (gName 1) tYes (tOp rInS (tVar 1) (tC (.str "abcdefghijklmnopqrstuvwxyz"))) [1]) tNil))))
theorem w_is_name {K : PySem.W.Frag} (vs : List V) (H : Hp) (Q : VK) (E : XK) (h : sp_is_name K vs H Q E) : t_is_name K { nx := fun _ H' => Q .non H', rt := Q } (start N_is_name vs) H := by
  obtain ⟨F0, cs, thing_1, y, h, hS0, m, q⟩ := h
  obtain ⟨a0, _, rfl, ha0, h⟩ := Dts.hd h
  obtain rfl := Dts.no h
  obtain rfl := Dt.toStr ha0
  unfold f_is_name at m
  try dsimp only at m
  unfold t_is_name
  refine go (σ' := [some (.str thing_1), none]) rfl ?_
  obtain ⟨x4, k5, m⟩ := bnd m
  refine s_if (b := x4) hS0 (t_orM (r := x4) (t_not (t_B (K := K) (d_is (e := PyData.bool true) (d_isiD (c := "str") (by decide) (d_var rfl (.str _))) (congrArg PyData.bool (by rfl))))) (fun hc => by rw [if_neg (bf hc)] at k5; obtain ⟨x2, k3, k5⟩ := bnd k5; obtain rfl := sm k5; exact (t_not (t_test (K := K) (d_chain d_int (d_lenS (a_cons (d_var rfl (.str _)) a_nil) k3) d_int)))) (fun hc => by rw [if_pos hc] at k5; exact (sm k5).symm)) (fun hc F6 H7 g8 hS9 => ?_) (fun hc F16 H17 g18 hS19 => ?_)
  · rw [if_pos hc] at m
    refine s_ret (K := K) (d := eB false) hS9 d_bl (fun v14 F10 H11 g12 hS13 hv15 => ?_)
    obtain rfl := sm m
    exact q _ _ _ (Gr.tr g8 g12) hS13 hv15
  · rw [if_neg (bf hc)] at m
    refine nxt ?_
    obtain ⟨x31, k32, m⟩ := bnd m
    refine s_ret (K := K) (d := eB ((x31).all id)) hS19 (d_all (a_cons (EvC.dd (c_mapC (K := K) (f := (fun sign_20 => (inS sign_20 ("abcdefghijklmnopqrstuvwxyz" : Str)))) (em := eB) (i_str (d_var rfl (.str _))) k32 (fun sign_20 o27 v28 F21 p22 us23 g24 hv25 ho26 => by obtain rfl := Dt.toStr hv25; obtain rfl := sm ho26; exact ⟨[some (.str thing_1), some (.str sign_20)], fun H30 Q hS29 hq => (fun Q hq => hq) Q hq, rfl, t_yes, fun y hy => by obtain rfl := sm hy; exact (d_inS (d_var rfl (.str _)) d_str)⟩))) a_nil)) (fun v37 F33 H34 g35 hS36 hv38 => ?_)
    obtain rfl := sm m
    exact q _ _ _ (Gr.tr g18 g35) hS36 hv38
theorem sc_is_name : FnScope N_is_name ["thing"] (defScope s_is_name) := ⟨rfl, rfl, rfl, by decide +kernel, rfl, by decide +kernel, by decide +kernel⟩
theorem ok_is_name {P : Program} {w : World} {K : PySem.W.Frag} {mg : Str → Option Value} {base : Heap} (hF : Df K mg "is_name" s_is_name) (m_all : mg "all" = none) (m_isinstance : mg "isinstance" = none) (m_len : mg "len" = none) (m_str : mg "str" = none) (c_LETTERS : ∃ t, mg "LETTERS" = some (.str "abcdefghijklmnopqrstuvwxyz" t)) (c_LONGEST : ∃ t, mg "LONGEST" = some (.int 8 t)) : Ok P w K mg base 1 "is_name" ["thing"] (sp_is_name K) := by
  obtain ⟨_, c_LETTERS⟩ := c_LETTERS
  obtain ⟨_, c_LONGEST⟩ := c_LONGEST
  obtain ⟨⟨fd, F⟩, gm⟩ := hF
  refine ⟨⟨fd, F.ok sc_is_name (fun vs H Q E h => ?_) (fun cdv A outer s H vs Q E hr h => ⟨t_is_name K, PSs.nox ?_, w_is_name vs H Q E h⟩), F.bindsN fun _ _ _ _ _ _ us hl => match us, hl with | [_], _ => rfl, lk_of F⟩, F.kp, gm⟩
  · obtain ⟨F0, cs, x, y, h, _⟩ := h; exact Dts.len h
  · exact (pss_cons (ps_if (PW.pt (pw_or (pt_not (pt_val (pe_callB call_isi (by rfl) m_isinstance (by decide +kernel) (pa_cons (pv 0) (pa_cons (pe_bltn (v := .ty "str") (by rfl) m_str (by decide +kernel) rfl) pa_nil))))) (pw_or1 (pt_not (pt_chain op_le op_le pe_int (pe_callB cr_lenS (by rfl) m_len PySem.boot_len (pa_cons (pv 0) pa_nil)) (pe_glob (v := .int 8) (by rfl) c_LONGEST ⟨_, rfl⟩)))))) (pss_one (ps_ret pe_bl)) pss_nil) (pss_one (ps_ret (pe_callB (cr_all rfl) (by rfl) m_all (by decide +kernel) (pa_cons (pe_lc (own := [("sign", 1)]) (g := (gName 1)) (tt := tYes) (te := (tOp rInS (tVar 1) (tC (.str "abcdefghijklmnopqrstuvwxyz")))) (by rfl) sc_is_name.nd (pi_str (pv 0)) (blkOk_by (own := [("sign", 1)]) (N := N_is_name) (sc := defScope s_is_name) (by decide +kernel)) (fun _ _ _ _ _ => (pg_name (i := 1) sc_is_name.nd rfl (Or.inl rfl))) (fun _ _ _ _ _ => pts_nil) (fun _ _ _ _ _ => (pe_cmpR op_inR (pv 1) (pe_glob (v := .str "abcdefghijklmnopqrstuvwxyz") (by rfl) c_LETTERS ⟨_, rfl⟩) (by rfl)))) pa_nil)))))
abbrev s_is_box : Stmt := (top 18)
def f_is_box : ((Str × Int × Int) × Int) → Option Bool := fun (thing_1, many_2) => (((if (!true) = true then some true else (((if (!decide ((3 : Int) = (3 : Int))) = true then some true else (((f_is_name thing_1.1)).bind fun x3 => some (!x3)))).bind fun x5 => some x5))).bind fun x7 => (if x7 = true then some false else (((f_is_within (thing_1.2.1, (0 : Int), (many_2 - (1 : Int))))).bind fun x23 => ((if x23 = true then (((f_is_within (thing_1.2.2, (0 : Int), (many_2 - (1 : Int))))).bind fun x25 => some x25) else some false)).bind fun x27 => some x27)))
abbrev A_is_box : ((Str × Int × Int) × Int) → List PyData := fun x => [(eT3 eS eI eI) x.1, eI x.2]
abbrev N_is_box : List Str := ["thing", "many"]
abbrev sp_is_box (K : PySem.W.Frag) : Sp := spP K A_is_box eB f_is_box
def t_is_box (K : PySem.W.Frag) : TS := (tSeq (tIfS (tOr (tNot (tB (tCB (rIsi K) (tCons (tVar 0) (tCons (tC (.ty "tuple")) tNil))))) (tOr (tTest (tOp rNe (tCB (rLenL K) (tCons (tVar 0) tNil)) (tC (.int 3)))) (tNot (tB (tCall (sp_is_name K) [] E0 (tCons (tOp (rIxT K) (tVar 0) (tC (.int 0))) tNil)))))) (tRet (tC (.bl false))) tNext) (tRet (tAndV (tCall (sp_is_within K) [] E0 (tCons (tOp (rIxT K) (tVar 0) (tC (.int 1))) (tCons (tC (.int 0)) (tCons (tOp (rI0 fun i j => .int (i - j)) (tVar 1) (tC (.int 1))) tNil)))) (tCall (sp_is_within K) [] E0 (tCons (tOp (rIxT K) (tVar 0) (tC (.int 2))) (tCons (tC (.int 0)) (tCons (tOp (rI0 fun i j => .int (i - j)) (tVar 1) (tC (.int 1))) tNil)))))))
theorem w_is_box {K : PySem.W.Frag} (vs : List V) (H : Hp) (Q : VK) (E : XK) (h : sp_is_box K vs H Q E) : t_is_box K { nx := fun _ H' => Q .non H', rt := Q } (start N_is_box vs) H := by
  obtain ⟨F0, cs, ⟨thing_1, many_2⟩, y, h, hS0, m, q⟩ := h
  obtain ⟨a0, _, rfl, ha0, h⟩ := Dts.hd h
  obtain ⟨a1, _, rfl, ha1, h⟩ := Dts.hd h
  obtain rfl := Dts.no h
  obtain rfl := Dt.toInt ha1
  unfold f_is_box at m
  try dsimp only at m
  unfold t_is_box
  refine go (σ' := [some a0, some (.int many_2)]) rfl ?_
  obtain ⟨x7, k8, m⟩ := bnd m
  refine s_if (b := x7) hS0 (t_orM (r := x7) (t_not (t_B (K := K) (d_is (e := PyData.bool true) (d_isiD (c := "tuple") (by decide) (d_var rfl ha0)) (congrArg PyData.bool (by rfl))))) (fun hc => by rw [if_neg (bf hc)] at k8; obtain ⟨x5, k6, k8⟩ := bnd k8; obtain rfl := sm k8; exact (t_orM (r := x5) (t_test (K := K) (d_neI (d_is (e := PyData.int 3) (d_lenT (a_cons (d_var rfl ha0) a_nil)) (congrArg PyData.int (by rfl))) d_int)) (fun hc => by rw [if_neg (bf hc)] at k6; obtain ⟨x3, k4, k6⟩ := bnd k6; obtain rfl := sm k6; exact (t_not (t_B (K := K) (d_call (A := A_is_name) (B := eB) (x := thing_1.1) (a_cons (d_ixT (d_var rfl ha0) d_int rfl) a_nil) k4)))) (fun hc => by rw [if_pos hc] at k6; exact (sm k6).symm))) (fun hc => by rw [if_pos hc] at k8; exact (sm k8).symm)) (fun hc F9 H10 g11 hS12 => ?_) (fun hc F19 H20 g21 hS22 => ?_)
  · rw [if_pos hc] at m
    refine s_ret (K := K) (d := eB false) hS12 d_bl (fun v17 F13 H14 g15 hS16 hv18 => ?_)
    obtain rfl := sm m
    exact q _ _ _ (Gr.tr g11 g15) hS16 hv18
  · rw [if_neg (bf hc)] at m
    refine nxt ?_
    obtain ⟨x23, k24, m⟩ := bnd m
    obtain ⟨x27, k28, m⟩ := bnd m
    refine s_ret (K := K) (d := eB x27) hS22 (d_andM (r := x27) (d_call (A := A_is_within) (B := eB) (x := (thing_1.2.1, (0 : Int), (many_2 - (1 : Int)))) (a_cons (d_ixT (d_var rfl (Dt.gr g21 ha0)) d_int rfl) (a_cons d_int (a_cons (d_sub (d_var rfl (.int _)) d_int) a_nil))) k24) (fun hc => by rw [if_pos hc] at k28; obtain ⟨x25, k26, k28⟩ := bnd k28; obtain rfl := sm k28; exact (d_call (A := A_is_within) (B := eB) (x := (thing_1.2.2, (0 : Int), (many_2 - (1 : Int)))) (a_cons (d_ixT (d_var rfl (Dt.gr g21 ha0)) d_int rfl) (a_cons d_int (a_cons (d_sub (d_var rfl (.int _)) d_int) a_nil))) k26)) (fun hc => by rw [if_neg (bf hc)] at k28; exact (sm k28).symm)) (fun v33 F29 H30 g31 hS32 hv34 => ?_)
    obtain rfl := sm m
    exact q _ _ _ (Gr.tr g21 g31) hS32 hv34
theorem sc_is_box : FnScope N_is_box ["thing", "many"] (defScope s_is_box) := ⟨rfl, rfl, rfl, by decide +kernel, rfl, by decide +kernel, by decide +kernel⟩
theorem ok_is_box {P : Program} {w : World} {K : PySem.W.Frag} {mg : Str → Option Value} {base : Heap} (hF : Df K mg "is_box" s_is_box) (m_isinstance : mg "isinstance" = none) (m_len : mg "len" = none) (m_tuple : mg "tuple" = none) (o_is_within : Ok P w K mg base 2 "is_within" ["thing", "least", "greatest"] (sp_is_within K)) (o_is_name : Ok P w K mg base 1 "is_name" ["thing"] (sp_is_name K)) : Ok P w K mg base 3 "is_box" ["thing", "many"] (sp_is_box K) := by
  obtain ⟨⟨_, G_is_within, bd_is_within, _⟩, kp_is_within, gm_is_within⟩ := o_is_within
  obtain ⟨⟨_, G_is_name, bd_is_name, _⟩, kp_is_name, gm_is_name⟩ := o_is_name
  obtain ⟨⟨fd, F⟩, gm⟩ := hF
  refine ⟨⟨fd, F.ok sc_is_box (fun vs H Q E h => ?_) (fun cdv A outer s H vs Q E hr h => ⟨t_is_box K, PSs.nox ?_, w_is_box vs H Q E h⟩), F.bindsN fun _ _ _ _ _ _ us hl => match us, hl with | [_, _], _ => rfl, lk_of F⟩, F.kp, gm⟩
  · obtain ⟨F0, cs, x, y, h, _⟩ := h; exact Dts.len h
  · exact (pss_cons (ps_if (PW.pt (pw_or (pt_not (pt_val (pe_callB call_isi (by rfl) m_isinstance (by decide +kernel) (pa_cons (pv 0) (pa_cons (pe_bltn (v := .ty "tuple") (by rfl) m_tuple (by decide +kernel) rfl) pa_nil))))) (pw_or (pt_cmpR op_ne (pe_callB cr_lenL (by rfl) m_len PySem.boot_len (pa_cons (pv 0) pa_nil)) pe_int (nomark _)) (pw_or1 (pt_not (pt_val (pe_call G_is_name (hr.mono (by decide)) (by rfl) gm_is_name kp_is_name bd_is_name .nil pass0 (pa_cons (pe_ix ix_tup (pv 0) pe_int (fun _ _ => rfl)) pa_nil)))))))) (pss_one (ps_ret pe_bl)) pss_nil) (pss_one (ps_ret (pe_and (pe_call G_is_within (hr.mono (by decide)) (by rfl) gm_is_within kp_is_within bd_is_within .nil pass0 (pa_cons (pe_ix ix_tup (pv 0) pe_int (fun _ _ => rfl)) (pa_cons pe_int (pa_cons (pe_op op_sub (pv 1) pe_int) pa_nil)))) (pe_one (pe_call G_is_within (hr.mono (by decide)) (by rfl) gm_is_within kp_is_within bd_is_within .nil pass0 (pa_cons (pe_ix ix_tup (pv 0) pe_int (fun _ _ => rfl)) (pa_cons pe_int (pa_cons (pe_op op_sub (pv 1) pe_int) pa_nil)))))))))
abbrev s_are_boxes : Stmt := (top 21)
def f_are_boxes : ((List Int) × (List (Str × Int × Int))) → Option Bool := fun (rooms_1, thing_2) => (if ((!true) || (decide ((60 : Int) < (thing_2.length : Int)))) = true then some false else (((lcC (fun one_17 => (((f_is_box (one_17, (rooms_1.length : Int)))).bind fun x28 => some (some x28))) thing_2)).bind fun x30 => ((if (!((x30).all id)) = true then some true else (((f_has_names_twice thing_2)).bind fun x32 => some x32))).bind fun x34 => (if x34 = true then some false else (((f_has_room (rooms_1, thing_2, (1 : Int)))).bind fun x50 => ((if x50 = true then (((f_has_room (rooms_1, thing_2, (2 : Int)))).bind fun x52 => some x52) else some false)).bind fun x54 => some x54))))
abbrev A_are_boxes : ((List Int) × (List (Str × Int × Int))) → List PyData := fun x => [(eL eI) x.1, (eL (eT3 eS eI eI)) x.2]
abbrev N_are_boxes : List Str := ["rooms", "thing", "one"]
abbrev sp_are_boxes (K : PySem.W.Frag) : Sp := spP K A_are_boxes eB f_are_boxes
def t_are_boxes (K : PySem.W.Frag) : TS := (tSeq (tIfS (tOr (tNot (tB (tCB (rIsi K) (tCons (tVar 1) (tCons (tC (.ty "list")) tNil))))) (tTest (tOp (rI0 fun i j => .bl (decide (j < i))) (tCB (rLenL K) (tCons (tVar 1) tNil)) (tC (.int 60))))) (tRet (tC (.bl false))) tNext) (tSeq (tIfS (tOr (tNot (tB (tCB (rAll K) (tCons (tLc (iList K (tVar 1)) (gName 2) tYes (tCall (sp_is_box K) [] E0 (tCons (tVar 2) (tCons (tCB (rLenL K) (tCons (tVar 0) tNil)) tNil))) [2]) tNil)))) (tB (tCall (sp_has_names_twice K) [] E0 (tCons (tVar 1) tNil)))) (tRet (tC (.bl false))) tNext) (tRet (tAndV (tCall (sp_has_room K) [] E0 (tCons (tVar 0) (tCons (tVar 1) (tCons (tC (.int 1)) tNil)))) (tCall (sp_has_room K) [] E0 (tCons (tVar 0) (tCons (tVar 1) (tCons (tC (.int 2)) tNil))))))))
theorem w_are_boxes {K : PySem.W.Frag} (vs : List V) (H : Hp) (Q : VK) (E : XK) (h : sp_are_boxes K vs H Q E) : t_are_boxes K { nx := fun _ H' => Q .non H', rt := Q } (start N_are_boxes vs) H := by
  obtain ⟨F0, cs, ⟨rooms_1, thing_2⟩, y, h, hS0, m, q⟩ := h
  obtain ⟨a0, _, rfl, ha0, h⟩ := Dts.hd h
  obtain ⟨a1, _, rfl, ha1, h⟩ := Dts.hd h
  obtain rfl := Dts.no h
  unfold f_are_boxes at m
  try dsimp only at m
  unfold t_are_boxes
  refine go (σ' := [some a0, some a1, none]) rfl ?_
  refine s_if (b := ((!true) || (decide ((60 : Int) < (thing_2.length : Int))))) hS0 (t_orP (t_not (t_B (K := K) (d_is (e := PyData.bool true) (d_isiD (c := "list") (by decide) (d_var rfl ha1)) (congrArg PyData.bool (by rfl))))) (fun hc => (t_test (K := K) (d_gt (d_len (e := (eT3 eS eI eI)) (a_cons (d_var rfl ha1) a_nil)) d_int)))) (fun hc F3 H4 g5 hS6 => ?_) (fun hc F13 H14 g15 hS16 => ?_)
  · rw [if_pos hc] at m
    refine s_ret (K := K) (d := eB false) hS6 d_bl (fun v11 F7 H8 g9 hS10 hv12 => ?_)
    obtain rfl := sm m
    exact q _ _ _ (Gr.tr g5 g9) hS10 hv12
  · rw [if_neg (bf hc)] at m
    refine nxt ?_
    obtain ⟨x30, k31, m⟩ := bnd m
    obtain ⟨x34, k35, m⟩ := bnd m
    refine s_if (b := x34) hS16 (t_orM (r := x34) (t_not (t_B (K := K) (d_all (a_cons (EvC.dd (c_lcC (K := K) (f := (fun one_17 => (((f_is_box (one_17, (rooms_1.length : Int)))).bind fun x28 => some (some x28)))) (em := eB) (i_list (en := (eT3 eS eI eI)) (d_var rfl (Dt.gr g15 ha1))) k31 (fun one_17 o24 v25 F18 p19 us20 g21 hv22 ho23 => by obtain ⟨x28, k29, ho23⟩ := bnd ho23; obtain rfl := sm ho23; exact ⟨[some a0, some a1, some v25], fun H27 Q hS26 hq => (fun Q hq => hq) Q hq, rfl, t_yes, fun y hy => by obtain rfl := sm hy; exact (d_call (A := A_is_box) (B := eB) (x := (one_17, (rooms_1.length : Int))) (a_cons (d_var rfl hv22) (a_cons (d_len (e := eI) (a_cons (d_var rfl (Dt.gr (Gr.tr g15 g21) ha0)) a_nil)) a_nil)) k29)⟩))) a_nil)))) (fun hc => by rw [if_neg (bf hc)] at k35; obtain ⟨x32, k33, k35⟩ := bnd k35; obtain rfl := sm k35; exact (t_B (K := K) (d_call (A := A_has_names_twice) (B := eB) (x := thing_2) (a_cons (d_var rfl (Dt.gr g15 ha1)) a_nil) k33))) (fun hc => by rw [if_pos hc] at k35; exact (sm k35).symm)) (fun hc F36 H37 g38 hS39 => ?_) (fun hc F46 H47 g48 hS49 => ?_)
    · rw [if_pos hc] at m
      refine s_ret (K := K) (d := eB false) hS39 d_bl (fun v44 F40 H41 g42 hS43 hv45 => ?_)
      obtain rfl := sm m
      exact q _ _ _ (Gr.tr g15 (Gr.tr g38 g42)) hS43 hv45
    · rw [if_neg (bf hc)] at m
      refine nxt ?_
      obtain ⟨x50, k51, m⟩ := bnd m
      obtain ⟨x54, k55, m⟩ := bnd m
      refine s_ret (K := K) (d := eB x54) hS49 (d_andM (r := x54) (d_call (A := A_has_room) (B := eB) (x := (rooms_1, thing_2, (1 : Int))) (a_cons (d_var rfl (Dt.gr (Gr.tr g15 g48) ha0)) (a_cons (d_var rfl (Dt.gr (Gr.tr g15 g48) ha1)) (a_cons d_int a_nil))) k51) (fun hc => by rw [if_pos hc] at k55; obtain ⟨x52, k53, k55⟩ := bnd k55; obtain rfl := sm k55; exact (d_call (A := A_has_room) (B := eB) (x := (rooms_1, thing_2, (2 : Int))) (a_cons (d_var rfl (Dt.gr (Gr.tr g15 g48) ha0)) (a_cons (d_var rfl (Dt.gr (Gr.tr g15 g48) ha1)) (a_cons d_int a_nil))) k53)) (fun hc => by rw [if_neg (bf hc)] at k55; exact (sm k55).symm)) (fun v60 F56 H57 g58 hS59 hv61 => ?_)
      obtain rfl := sm m
      exact q _ _ _ (Gr.tr g15 (Gr.tr g48 g58)) hS59 hv61
theorem sc_are_boxes : FnScope N_are_boxes ["rooms", "thing"] (defScope s_are_boxes) := ⟨rfl, rfl, rfl, by decide +kernel, rfl, by decide +kernel, by decide +kernel⟩
theorem ok_are_boxes {P : Program} {w : World} {K : PySem.W.Frag} {mg : Str → Option Value} {base : Heap} (hF : Df K mg "are_boxes" s_are_boxes) (m_all : mg "all" = none) (m_isinstance : mg "isinstance" = none) (m_len : mg "len" = none) (m_list : mg "list" = none) (c_MOST_BOXES : ∃ t, mg "MOST_BOXES" = some (.int 60 t)) (o_has_room : Ok P w K mg base 1 "has_room" ["rooms", "boxes", "place"] (sp_has_room K)) (o_is_box : Ok P w K mg base 3 "is_box" ["thing", "many"] (sp_is_box K)) (o_has_names_twice : Ok P w K mg base 1 "has_names_twice" ["boxes"] (sp_has_names_twice K)) : Ok P w K mg base 4 "are_boxes" ["rooms", "thing"] (sp_are_boxes K) := by
  obtain ⟨_, c_MOST_BOXES⟩ := c_MOST_BOXES
  obtain ⟨⟨_, G_has_room, bd_has_room, _⟩, kp_has_room, gm_has_room⟩ := o_has_room
  obtain ⟨⟨_, G_is_box, bd_is_box, _⟩, kp_is_box, gm_is_box⟩ := o_is_box
  obtain ⟨⟨_, G_has_names_twice, bd_has_names_twice, _⟩, kp_has_names_twice, gm_has_names_twice⟩ := o_has_names_twice
  obtain ⟨⟨fd, F⟩, gm⟩ := hF
  refine ⟨⟨fd, F.ok sc_are_boxes (fun vs H Q E h => ?_) (fun cdv A outer s H vs Q E hr h => ⟨t_are_boxes K, PSs.nox ?_, w_are_boxes vs H Q E h⟩), F.bindsN fun _ _ _ _ _ _ us hl => match us, hl with | [_, _], _ => rfl, lk_of F⟩, F.kp, gm⟩
  · obtain ⟨F0, cs, x, y, h, _⟩ := h; exact Dts.len h
  · exact (pss_cons (ps_if (PW.pt (pw_or (pt_not (pt_val (pe_callB call_isi (by rfl) m_isinstance (by decide +kernel) (pa_cons (pv 1) (pa_cons (pe_bltn (v := .ty "list") (by rfl) m_list (by decide +kernel) rfl) pa_nil))))) (pw_or1 (pt_cmpR op_gt (pe_callB cr_lenL (by rfl) m_len PySem.boot_len (pa_cons (pv 1) pa_nil)) (pe_glob (v := .int 60) (by rfl) c_MOST_BOXES ⟨_, rfl⟩) (nomark _))))) (pss_one (ps_ret pe_bl)) pss_nil) (pss_cons (ps_if (PW.pt (pw_or (pt_not (pt_val (pe_callB (cr_all rfl) (by rfl) m_all (by decide +kernel) (pa_cons (pe_lc (own := [("one", 2)]) (g := (gName 2)) (tt := tYes) (te := (tCall (sp_is_box K) [] E0 (tCons (tVar 2) (tCons (tCB (rLenL K) (tCons (tVar 0) tNil)) tNil)))) (by rfl) sc_are_boxes.nd (pi_list (pv 1)) (blkOk_by (own := [("one", 2)]) (N := N_are_boxes) (sc := defScope s_are_boxes) (by decide +kernel)) (fun _ _ _ _ _ => (pg_name (i := 2) sc_are_boxes.nd rfl (Or.inl rfl))) (fun _ _ _ _ _ => pts_nil) (fun _ _ _ _ _ => (pe_call G_is_box (hr.mono (by decide)) (by rfl) gm_is_box kp_is_box bd_is_box .nil pass0 (pa_cons (pv 2) (pa_cons (pe_callB cr_lenL (by rfl) m_len PySem.boot_len (pa_cons (pv 0) pa_nil)) pa_nil))))) pa_nil)))) (pw_or1 (pt_val (pe_call G_has_names_twice (hr.mono (by decide)) (by rfl) gm_has_names_twice kp_has_names_twice bd_has_names_twice .nil pass0 (pa_cons (pv 1) pa_nil)))))) (pss_one (ps_ret pe_bl)) pss_nil) (pss_one (ps_ret (pe_and (pe_call G_has_room (hr.mono (by decide)) (by rfl) gm_has_room kp_has_room bd_has_room .nil pass0 (pa_cons (pv 0) (pa_cons (pv 1) (pa_cons pe_int pa_nil)))) (pe_one (pe_call G_has_room (hr.mono (by decide)) (by rfl) gm_has_room kp_has_room bd_has_room .nil pass0 (pa_cons (pv 0) (pa_cons (pv 1) (pa_cons pe_int pa_nil))))))))))
abbrev s_are_within : Stmt := (top 17)
def f_are_within : ((List Int) × Int × Int) → Option Bool := fun (thing_1, least_2, greatest_3) => (((if true = true then (((lcC (fun one_4 => (((f_is_within (one_4, least_2, greatest_3))).bind fun x15 => some (some x15))) thing_1)).bind fun x17 => some ((x17).all id)) else some false)).bind fun x19 => some x19)
abbrev A_are_within : ((List Int) × Int × Int) → List PyData := fun x => [(eL eI) x.1, eI x.2.1, eI x.2.2]
abbrev N_are_within : List Str := ["thing", "least", "greatest", "one"]
abbrev sp_are_within (K : PySem.W.Frag) : Sp := spP K A_are_within eB f_are_within
def t_are_within (K : PySem.W.Frag) : TS := (tRet (tAndV (tCB (rIsi K) (tCons (tVar 0) (tCons (tC (.ty "list")) tNil))) (tCB (rAll K) (tCons (tLc (iList K (tVar 0)) (gName 3) tYes (tCall (sp_is_within K) [] E0 (tCons (tVar 3) (tCons (tVar 1) (tCons (tVar 2) tNil)))) [3]) tNil))))
theorem w_are_within {K : PySem.W.Frag} (vs : List V) (H : Hp) (Q : VK) (E : XK) (h : sp_are_within K vs H Q E) : t_are_within K { nx := fun _ H' => Q .non H', rt := Q } (start N_are_within vs) H := by
  obtain ⟨F0, cs, ⟨thing_1, least_2, greatest_3⟩, y, h, hS0, m, q⟩ := h
  obtain ⟨a0, _, rfl, ha0, h⟩ := Dts.hd h
  obtain ⟨a1, _, rfl, ha1, h⟩ := Dts.hd h
  obtain ⟨a2, _, rfl, ha2, h⟩ := Dts.hd h
  obtain rfl := Dts.no h
  obtain rfl := Dt.toInt ha1
  obtain rfl := Dt.toInt ha2
  unfold f_are_within at m
  try dsimp only at m
  unfold t_are_within
  refine go (σ' := [some a0, some (.int least_2), some (.int greatest_3), none]) rfl ?_
  obtain ⟨x19, k20, m⟩ := bnd m
  refine s_ret (K := K) (d := eB x19) hS0 (d_andM (r := x19) (d_is (e := PyData.bool true) (d_isiD (c := "list") (by decide) (d_var rfl ha0)) (congrArg PyData.bool (by rfl))) (fun hc => by rw [if_pos hc] at k20; obtain ⟨x17, k18, k20⟩ := bnd k20; obtain rfl := sm k20; exact (d_all (a_cons (EvC.dd (c_lcC (K := K) (f := (fun one_4 => (((f_is_within (one_4, least_2, greatest_3))).bind fun x15 => some (some x15)))) (em := eB) (i_list (en := eI) (d_var rfl ha0)) k18 (fun one_4 o11 v12 F5 p6 us7 g8 hv9 ho10 => by obtain rfl := Dt.toInt hv9; obtain ⟨x15, k16, ho10⟩ := bnd ho10; obtain rfl := sm ho10; exact ⟨[some a0, some (.int least_2), some (.int greatest_3), some (.int one_4)], fun H14 Q hS13 hq => (fun Q hq => hq) Q hq, rfl, t_yes, fun y hy => by obtain rfl := sm hy; exact (d_call (A := A_is_within) (B := eB) (x := (one_4, least_2, greatest_3)) (a_cons (d_var rfl (.int _)) (a_cons (d_var rfl (.int _)) (a_cons (d_var rfl (.int _)) a_nil))) k16)⟩))) a_nil))) (fun hc => by rw [if_neg (bf hc)] at k20; exact (sm k20).symm)) (fun v25 F21 H22 g23 hS24 hv26 => ?_)
  obtain rfl := sm m
  exact q _ _ _ g23 hS24 hv26
theorem sc_are_within : FnScope N_are_within ["thing", "least", "greatest"] (defScope s_are_within) := ⟨rfl, rfl, rfl, by decide +kernel, rfl, by decide +kernel, by decide +kernel⟩
theorem ok_are_within {P : Program} {w : World} {K : PySem.W.Frag} {mg : Str → Option Value} {base : Heap} (hF : Df K mg "are_within" s_are_within) (m_all : mg "all" = none) (m_isinstance : mg "isinstance" = none) (m_list : mg "list" = none) (o_is_within : Ok P w K mg base 2 "is_within" ["thing", "least", "greatest"] (sp_is_within K)) : Ok P w K mg base 3 "are_within" ["thing", "least", "greatest"] (sp_are_within K) := by
  obtain ⟨⟨_, G_is_within, bd_is_within, _⟩, kp_is_within, gm_is_within⟩ := o_is_within
  obtain ⟨⟨fd, F⟩, gm⟩ := hF
  refine ⟨⟨fd, F.ok sc_are_within (fun vs H Q E h => ?_) (fun cdv A outer s H vs Q E hr h => ⟨t_are_within K, PSs.nox ?_, w_are_within vs H Q E h⟩), F.bindsN fun _ _ _ _ _ _ us hl => match us, hl with | [_, _, _], _ => rfl, lk_of F⟩, F.kp, gm⟩
  · obtain ⟨F0, cs, x, y, h, _⟩ := h; exact Dts.len h
  · exact (pss_one (ps_ret (pe_and (pe_callB call_isi (by rfl) m_isinstance (by decide +kernel) (pa_cons (pv 0) (pa_cons (pe_bltn (v := .ty "list") (by rfl) m_list (by decide +kernel) rfl) pa_nil))) (pe_one (pe_callB (cr_all rfl) (by rfl) m_all (by decide +kernel) (pa_cons (pe_lc (own := [("one", 3)]) (g := (gName 3)) (tt := tYes) (te := (tCall (sp_is_within K) [] E0 (tCons (tVar 3) (tCons (tVar 1) (tCons (tVar 2) tNil))))) (by rfl) sc_are_within.nd (pi_list (pv 0)) (blkOk_by (own := [("one", 3)]) (N := N_are_within) (sc := defScope s_are_within) (by decide +kernel)) (fun _ _ _ _ _ => (pg_name (i := 3) sc_are_within.nd rfl (Or.inl rfl))) (fun _ _ _ _ _ => pts_nil) (fun _ _ _ _ _ => (pe_call G_is_within (hr.mono (by decide)) (by rfl) gm_is_within kp_is_within bd_is_within .nil pass0 (pa_cons (pv 3) (pa_cons (pv 1) (pa_cons (pv 2) pa_nil)))))) pa_nil))))))
abbrev s_look_at_store : Stmt := (top 22)
def f_look_at_store : ((List Int) × (List Int) × Int × (List (Str × Int × Int))) → Option Unit := fun thing_1 => (if ((!true) || (!decide ((4 : Int) = (4 : Int)))) = true then none else (letM thing_1.1 fun rooms_16 => letM thing_1.2.1 fun gaps_18 => letM thing_1.2.2.1 fun most_20 => letM thing_1.2.2.2 fun boxes_22 => (((f_are_within (rooms_16, (1 : Int), (40 : Int)))).bind fun x34 => (if ((!x34) || (!(decide ((2 : Int) ≤ (rooms_16.length : Int)) && decide ((rooms_16.length : Int) ≤ (16 : Int))))) = true then none else (((f_are_within (gaps_18, (1 : Int), (1000000000 : Int)))).bind fun x44 => (if ((!x44) || (!decide ((gaps_18.length : Int) = ((rooms_16.length : Int) - (1 : Int))))) = true then none else (((f_is_within (most_20, (1 : Int), (20 : Int)))).bind fun x54 => (if (!x54) = true then none else (((f_are_boxes (rooms_16, boxes_22))).bind fun x64 => (if (!x64) = true then none else some ()))))))))))
abbrev A_look_at_store : ((List Int) × (List Int) × Int × (List (Str × Int × Int))) → List PyData := fun x => [(eT4 (eL eI) (eL eI) eI (eL (eT3 eS eI eI))) x]
abbrev N_look_at_store : List Str := ["thing", "rooms", "gaps", "most", "boxes"]
abbrev sp_look_at_store (K : PySem.W.Frag) : Sp := spP K A_look_at_store eN f_look_at_store
def t_look_at_store (K : PySem.W.Frag) : TS := (tSeq (tIfS (tOr (tNot (tB (tCB (rIsi K) (tCons (tVar 0) (tCons (tC (.ty "tuple")) tNil))))) (tTest (tOp rNe (tCB (rLenL K) (tCons (tVar 0) tNil)) (tC (.int 4))))) tNever tNext) (tSeq (tAsg (tVar 0) (gTup K 4 (gCons (gName 1) (gCons (gName 2) (gCons (gName 3) (gCons (gName 4) gNil)))))) (tSeq (tIfS (tOr (tNot (tB (tCall (sp_are_within K) [] E0 (tCons (tVar 1) (tCons (tC (.int 1)) (tCons (tC (.int 40)) tNil)))))) (tNot (tTest (tChain (rI0 fun i j => .bl (decide (i ≤ j))) (rI0 fun i j => .bl (decide (i ≤ j))) (tC (.int 2)) (tCB (rLenL K) (tCons (tVar 1) tNil)) (tC (.int 16)))))) tNever tNext) (tSeq (tIfS (tOr (tNot (tB (tCall (sp_are_within K) [] E0 (tCons (tVar 2) (tCons (tC (.int 1)) (tCons (tC (.int 1000000000)) tNil)))))) (tTest (tOp rNe (tCB (rLenL K) (tCons (tVar 2) tNil)) (tOp (rI0 fun i j => .int (i - j)) (tCB (rLenL K) (tCons (tVar 1) tNil)) (tC (.int 1)))))) tNever tNext) (tSeq (tIfS (tNot (tB (tCall (sp_is_within K) [] E0 (tCons (tVar 3) (tCons (tC (.int 1)) (tCons (tC (.int 20)) tNil)))))) tNever tNext) (tIfS (tNot (tB (tCall (sp_are_boxes K) [] E0 (tCons (tVar 1) (tCons (tVar 4) tNil))))) tNever tNext))))))
theorem w_look_at_store {K : PySem.W.Frag} (vs : List V) (H : Hp) (Q : VK) (E : XK) (h : sp_look_at_store K vs H Q E) : t_look_at_store K { nx := fun _ H' => Q .non H', rt := Q } (start N_look_at_store vs) H := by
  obtain ⟨F0, cs, thing_1, y, h, hS0, m, q⟩ := h
  obtain ⟨a0, _, rfl, ha0, h⟩ := Dts.hd h
  obtain rfl := Dts.no h
  unfold f_look_at_store at m
  try dsimp only at m
  unfold t_look_at_store
  refine go (σ' := [some a0, none, none, none, none]) rfl ?_
  refine s_if (b := ((!true) || (!decide ((4 : Int) = (4 : Int))))) hS0 (t_orP (t_not (t_B (K := K) (d_is (e := PyData.bool true) (d_isiD (c := "tuple") (by decide) (d_var rfl ha0)) (congrArg PyData.bool (by rfl))))) (fun hc => (t_test (K := K) (d_neI (d_is (e := PyData.int 4) (d_lenT (a_cons (d_var rfl ha0) a_nil)) (congrArg PyData.int (by rfl))) d_int)))) (fun hc F2 H3 g4 hS5 => ?_) (fun hc F6 H7 g8 hS9 => ?_)
  · rw [if_pos hc] at m
    cases m
  · rw [if_neg (bf hc)] at m
    refine nxt ?_
    refine s_asg (K := K) (d := (eT4 (eL eI) (eL eI) eI (eL (eT3 eS eI eI))) thing_1) hS9 (d_var rfl (Dt.gr g8 ha0)) (fun v14 F10 H11 g12 hS13 hv15 => ?_)
    obtain ⟨rooms_16, k17, m⟩ := lt m
    obtain ⟨gaps_18, k19, m⟩ := lt m
    obtain ⟨most_20, k21, m⟩ := lt m
    obtain ⟨boxes_22, k23, m⟩ := lt m
    obtain ⟨p24, w26, w27, w28, w29, rfl, hT25, hw30, hw31, hw32, hw33⟩ := u4 hv15
    rw [k17] at hw30
    rw [k19] at hw31
    rw [k21] at hw32
    obtain rfl := Dt.toInt hw32
    rw [k23] at hw33
    refine tg (σ' := [some a0, some w26, some w27, some (.int most_20), some w29]) (fun Q hq => ⟨p24, [_, _, _, _], rfl, gr_T hS13.fr hT25, rfl, _, _, rfl, _, _, rfl, _, _, rfl, _, _, rfl, rfl, hq⟩) ?_
    obtain ⟨x34, k35, m⟩ := bnd m
    refine s_if (b := ((!x34) || (!(decide ((2 : Int) ≤ (rooms_16.length : Int)) && decide ((rooms_16.length : Int) ≤ (16 : Int)))))) hS13 (t_orP (t_not (t_B (K := K) (d_call (A := A_are_within) (B := eB) (x := (rooms_16, (1 : Int), (40 : Int))) (a_cons (d_var rfl hw30) (a_cons d_int (a_cons d_int a_nil))) k35))) (fun hc => (t_not (t_test (K := K) (d_chain d_int (d_len (e := eI) (a_cons (d_var rfl hw30) a_nil)) d_int))))) (fun hc F36 H37 g38 hS39 => ?_) (fun hc F40 H41 g42 hS43 => ?_)
    · rw [if_pos hc] at m
      cases m
    · rw [if_neg (bf hc)] at m
      refine nxt ?_
      obtain ⟨x44, k45, m⟩ := bnd m
      refine s_if (b := ((!x44) || (!decide ((gaps_18.length : Int) = ((rooms_16.length : Int) - (1 : Int)))))) hS43 (t_orP (t_not (t_B (K := K) (d_call (A := A_are_within) (B := eB) (x := (gaps_18, (1 : Int), (1000000000 : Int))) (a_cons (d_var rfl (Dt.gr g42 hw31)) (a_cons d_int (a_cons d_int a_nil))) k45))) (fun hc => (t_test (K := K) (d_neI (d_len (e := eI) (a_cons (d_var rfl (Dt.gr g42 hw31)) a_nil)) (d_sub (d_len (e := eI) (a_cons (d_var rfl (Dt.gr g42 hw30)) a_nil)) d_int))))) (fun hc F46 H47 g48 hS49 => ?_) (fun hc F50 H51 g52 hS53 => ?_)
      · rw [if_pos hc] at m
        cases m
      · rw [if_neg (bf hc)] at m
        refine nxt ?_
        obtain ⟨x54, k55, m⟩ := bnd m
        refine s_if (b := (!x54)) hS53 (t_not (t_B (K := K) (d_call (A := A_is_within) (B := eB) (x := (most_20, (1 : Int), (20 : Int))) (a_cons (d_var rfl (.int _)) (a_cons d_int (a_cons d_int a_nil))) k55))) (fun hc F56 H57 g58 hS59 => ?_) (fun hc F60 H61 g62 hS63 => ?_)
        · rw [if_pos hc] at m
          cases m
        · rw [if_neg (bf hc)] at m
          refine nxt ?_
          obtain ⟨x64, k65, m⟩ := bnd m
          refine s_if (b := (!x64)) hS63 (t_not (t_B (K := K) (d_call (A := A_are_boxes) (B := eB) (x := (rooms_16, boxes_22)) (a_cons (d_var rfl (Dt.gr (Gr.tr g42 (Gr.tr g52 g62)) hw30)) (a_cons (d_var rfl (Dt.gr (Gr.tr g42 (Gr.tr g52 g62)) hw33)) a_nil)) k65))) (fun hc F66 H67 g68 hS69 => ?_) (fun hc F70 H71 g72 hS73 => ?_)
          · rw [if_pos hc] at m
            cases m
          · rw [if_neg (bf hc)] at m
            refine nxt ?_
            obtain rfl := sm m
            exact q _ _ _ (Gr.tr g8 (Gr.tr g12 (Gr.tr g42 (Gr.tr g52 (Gr.tr g62 g72))))) hS73 Dt.non
theorem sc_look_at_store : FnScope N_look_at_store ["thing"] (defScope s_look_at_store) := ⟨rfl, rfl, rfl, by decide +kernel, rfl, by decide +kernel, by decide +kernel⟩
theorem ok_look_at_store {P : Program} {w : World} {K : PySem.W.Frag} {mg : Str → Option Value} {base : Heap} (hF : Df K mg "look_at_store" s_look_at_store) (m_isinstance : mg "isinstance" = none) (m_len : mg "len" = none) (m_tuple : mg "tuple" = none) (c_FARTHEST : ∃ t, mg "FARTHEST" = some (.int 1000000000 t)) (c_FEWEST_BAYS : ∃ t, mg "FEWEST_BAYS" = some (.int 2 t)) (c_MOST_BAYS : ∃ t, mg "MOST_BAYS" = some (.int 16 t)) (c_MOST_LOAD : ∃ t, mg "MOST_LOAD" = some (.int 20 t)) (c_MOST_ROOM : ∃ t, mg "MOST_ROOM" = some (.int 40 t)) (o_are_boxes : Ok P w K mg base 4 "are_boxes" ["rooms", "thing"] (sp_are_boxes K)) (o_is_within : Ok P w K mg base 2 "is_within" ["thing", "least", "greatest"] (sp_is_within K)) (o_are_within : Ok P w K mg base 3 "are_within" ["thing", "least", "greatest"] (sp_are_within K)) : Ok P w K mg base 5 "look_at_store" ["thing"] (sp_look_at_store K) := by
  obtain ⟨_, c_FARTHEST⟩ := c_FARTHEST
  obtain ⟨_, c_FEWEST_BAYS⟩ := c_FEWEST_BAYS
  obtain ⟨_, c_MOST_BAYS⟩ := c_MOST_BAYS
  obtain ⟨_, c_MOST_LOAD⟩ := c_MOST_LOAD
  obtain ⟨_, c_MOST_ROOM⟩ := c_MOST_ROOM
  obtain ⟨⟨_, G_are_boxes, bd_are_boxes, _⟩, kp_are_boxes, gm_are_boxes⟩ := o_are_boxes
  obtain ⟨⟨_, G_is_within, bd_is_within, _⟩, kp_is_within, gm_is_within⟩ := o_is_within
  obtain ⟨⟨_, G_are_within, bd_are_within, _⟩, kp_are_within, gm_are_within⟩ := o_are_within
  obtain ⟨⟨fd, F⟩, gm⟩ := hF
  refine ⟨⟨fd, F.ok sc_look_at_store (fun vs H Q E h => ?_) (fun cdv A outer s H vs Q E hr h => ⟨t_look_at_store K, PSs.nox ?_, w_look_at_store vs H Q E h⟩), F.bindsN fun _ _ _ _ _ _ us hl => match us, hl with | [_], _ => rfl, lk_of F⟩, F.kp, gm⟩
  · obtain ⟨F0, cs, x, y, h, _⟩ := h; exact Dts.len h
  · exact (pss_cons (ps_if (PW.pt (pw_or (pt_not (pt_val (pe_callB call_isi (by rfl) m_isinstance (by decide +kernel) (pa_cons (pv 0) (pa_cons (pe_bltn (v := .ty "tuple") (by rfl) m_tuple (by decide +kernel) rfl) pa_nil))))) (pw_or1 (pt_cmpR op_ne (pe_callB cr_lenL (by rfl) m_len PySem.boot_len (pa_cons (pv 0) pa_nil)) pe_int (nomark _))))) (pss_one ps_never) pss_nil) (pss_cons (ps_asg (pv 0) (pg_tup rfl (pgs_cons (pg_name (i := 1) sc_look_at_store.nd rfl (Or.inl rfl)) (pgs_cons (pg_name (i := 2) sc_look_at_store.nd rfl (Or.inl rfl)) (pgs_cons (pg_name (i := 3) sc_look_at_store.nd rfl (Or.inl rfl)) (pgs_cons (pg_name (i := 4) sc_look_at_store.nd rfl (Or.inl rfl)) pgs_nil)))))) (pss_cons (ps_if (PW.pt (pw_or (pt_not (pt_val (pe_call G_are_within (hr.mono (by decide)) (by rfl) gm_are_within kp_are_within bd_are_within .nil pass0 (pa_cons (pv 1) (pa_cons pe_int (pa_cons (pe_glob (v := .int 40) (by rfl) c_MOST_ROOM ⟨_, rfl⟩) pa_nil)))))) (pw_or1 (pt_not (pt_chain op_le op_le (pe_glob (v := .int 2) (by rfl) c_FEWEST_BAYS ⟨_, rfl⟩) (pe_callB cr_lenL (by rfl) m_len PySem.boot_len (pa_cons (pv 1) pa_nil)) (pe_glob (v := .int 16) (by rfl) c_MOST_BAYS ⟨_, rfl⟩)))))) (pss_one ps_never) pss_nil) (pss_cons (ps_if (PW.pt (pw_or (pt_not (pt_val (pe_call G_are_within (hr.mono (by decide)) (by rfl) gm_are_within kp_are_within bd_are_within .nil pass0 (pa_cons (pv 2) (pa_cons pe_int (pa_cons (pe_glob (v := .int 1000000000) (by rfl) c_FARTHEST ⟨_, rfl⟩) pa_nil)))))) (pw_or1 (pt_cmpR op_ne (pe_callB cr_lenL (by rfl) m_len PySem.boot_len (pa_cons (pv 2) pa_nil)) (pe_op op_sub (pe_callB cr_lenL (by rfl) m_len PySem.boot_len (pa_cons (pv 1) pa_nil)) pe_int) (nomark _))))) (pss_one ps_never) pss_nil) (pss_cons (ps_if (pt_not (pt_val (pe_call G_is_within (hr.mono (by decide)) (by rfl) gm_is_within kp_is_within bd_is_within .nil pass0 (pa_cons (pv 3) (pa_cons pe_int (pa_cons (pe_glob (v := .int 20) (by rfl) c_MOST_LOAD ⟨_, rfl⟩) pa_nil)))))) (pss_one ps_never) pss_nil) (pss_one (ps_if (pt_not (pt_val (pe_call G_are_boxes (hr.mono (by decide)) (by rfl) gm_are_boxes kp_are_boxes bd_are_boxes .nil pass0 (pa_cons (pv 1) (pa_cons (pv 4) pa_nil))))) (pss_one ps_never) pss_nil)))))))
abbrev s_times_told_D : Stmt := (top 26)
def f_times_told_D : (((List Int) × (List Int) × Int × (List (Str × Int × Int))) × PyData) → Option Int := fun (store_1, thing_2) => (((ixD thing_2 (0 : Int))).bind fun x3 => ((eqDM x3 (eS ("past" : Str)))).bind fun x5 => (if (x5) = true then some (1 : Int) else (((ixD thing_2 (2 : Int))).bind fun x21 => ((lenD x21)).bind fun x23 => ((fdivM ((x23 + store_1.2.2.1) - (1 : Int)) store_1.2.2.1)).bind fun x25 => some x25)))
abbrev A_times_told_D : (((List Int) × (List Int) × Int × (List (Str × Int × Int))) × PyData) → List PyData := fun x => [(eT4 (eL eI) (eL eI) eI (eL (eT3 eS eI eI))) x.1, eD x.2]
abbrev N_times_told_D : List Str := ["store", "thing"]
abbrev sp_times_told_D (K : PySem.W.Frag) : Sp := spP K A_times_told_D eI f_times_told_D
def t_times_told_D (K : PySem.W.Frag) : TS := (tSeq (tIfS (tTest (tOp (rEqD K) (tOp (rIx K) (tVar 1) (tC (.int 0))) (tC (.str "past")))) (tRet (tC (.int 1))) tNext) (tRet (tOp (rI CDiv fun i j => .int (i / j)) (tOp (rI0 fun i j => .int (i - j)) (tOp (rI0 fun i j => .int (i + j)) (tCB (rLenG K) (tCons (tOp (rIx K) (tVar 1) (tC (.int 2))) tNil)) (tOp (rIxT K) (tVar 0) (tC (.int 2)))) (tC (.int 1))) (tOp (rIxT K) (tVar 0) (tC (.int 2))))))
theorem w_times_told_D {K : PySem.W.Frag} (vs : List V) (H : Hp) (Q : VK) (E : XK) (h : sp_times_told_D K vs H Q E) : t_times_told_D K { nx := fun _ H' => Q .non H', rt := Q } (start N_times_told_D vs) H := by
  obtain ⟨F0, cs, ⟨store_1, thing_2⟩, y, h, hS0, m, q⟩ := h
  obtain ⟨a0, _, rfl, ha0, h⟩ := Dts.hd h
  obtain ⟨a1, _, rfl, ha1, h⟩ := Dts.hd h
  obtain rfl := Dts.no h
  unfold f_times_told_D at m
  try dsimp only at m
  unfold t_times_told_D
  refine go (σ' := [some a0, some a1]) rfl ?_
  obtain ⟨x3, k4, m⟩ := bnd m
  obtain ⟨x5, k6, m⟩ := bnd m
  refine s_if (b := (x5)) hS0 (t_test (K := K) (d_eqDM (d_ixD (d_var rfl ha1) d_int k4) d_str k6)) (fun hc F7 H8 g9 hS10 => ?_) (fun hc F17 H18 g19 hS20 => ?_)
  · rw [if_pos hc] at m
    refine s_ret (K := K) (d := eI (1 : Int)) hS10 d_int (fun v15 F11 H12 g13 hS14 hv16 => ?_)
    obtain rfl := sm m
    exact q _ _ _ (Gr.tr g9 g13) hS14 hv16
  · rw [if_neg (bf hc)] at m
    refine nxt ?_
    obtain ⟨x21, k22, m⟩ := bnd m
    obtain ⟨x23, k24, m⟩ := bnd m
    obtain ⟨x25, k26, m⟩ := bnd m
    refine s_ret (K := K) (d := eI x25) hS20 (d_fdiv (d_sub (d_add (d_lenD (a_cons (d_ixD (d_var rfl (Dt.gr g19 ha1)) d_int k22) a_nil) k24) (d_ixT (d_var rfl (Dt.gr g19 ha0)) d_int rfl)) d_int) (d_ixT (d_var rfl (Dt.gr g19 ha0)) d_int rfl) k26) (fun v31 F27 H28 g29 hS30 hv32 => ?_)
    obtain rfl := sm m
    exact q _ _ _ (Gr.tr g19 g29) hS30 hv32
theorem sc_times_told_D : FnScope N_times_told_D ["store", "thing"] (defScope s_times_told_D) := ⟨rfl, rfl, rfl, by decide +kernel, rfl, by decide +kernel, by decide +kernel⟩
theorem ok_times_told_D {P : Program} {w : World} {K : PySem.W.Frag} {mg : Str → Option Value} {base : Heap} (hF : Df K mg "times_told" s_times_told_D) (m_len : mg "len" = none) : Ok P w K mg base 1 "times_told" ["store", "thing"] (sp_times_told_D K) := by
  obtain ⟨⟨fd, F⟩, gm⟩ := hF
  refine ⟨⟨fd, F.ok sc_times_told_D (fun vs H Q E h => ?_) (fun cdv A outer s H vs Q E hr h => ⟨t_times_told_D K, PSs.nox ?_, w_times_told_D vs H Q E h⟩), F.bindsN fun _ _ _ _ _ _ us hl => match us, hl with | [_, _], _ => rfl, lk_of F⟩, F.kp, gm⟩
  · obtain ⟨F0, cs, x, y, h, _⟩ := h; exact Dts.len h
  · exact (pss_cons (ps_if (pt_cmpR (op_eqD hr.units) (pe_ix ix_seq (pv 1) pe_int (fun _ _ => rfl)) pe_str (nomark _)) (pss_one (ps_ret pe_int)) pss_nil) (pss_one (ps_ret (pe_op op_fdiv (pe_op op_sub (pe_op op_add (pe_callB cr_lenG (by rfl) m_len PySem.boot_len (pa_cons (pe_ix ix_seq (pv 1) pe_int (fun _ _ => rfl)) pa_nil)) (pe_ix ix_tup (pv 0) pe_int (fun _ _ => rfl))) pe_int) (pe_ix ix_tup (pv 0) pe_int (fun _ _ => rfl))))))
abbrev s_names_over_D : Stmt := (top 24)
def f_names_over_D : ((List (Str × Int × Int)) × PyData × PyData) → Option (List Str) := fun (boxes_1, word_2, gap_3) => (((eqDM word_2 (eS ("up" : Str)))).bind fun x4 => (if (x4) = true then (((lcC (fun (name_10, at_11, to_12) => (((asI gap_3)).bind fun x31 => if (decide (at_11 ≤ x31) && decide (x31 < to_12)) = true then (some (some name_10)) else some none)) boxes_1)).bind fun x33 => some x33) else (((eqDM word_2 (eS ("down" : Str)))).bind fun x46 => (if (x46) = true then (((lcC (fun (name_52, at_53, to_54) => (((asI gap_3)).bind fun x73 => if (decide (to_54 ≤ x73) && decide (x73 < at_53)) = true then (some (some name_52)) else some none)) boxes_1)).bind fun x75 => some x75) else (((eqDM word_2 (eS ("past" : Str)))).bind fun x88 => (if (x88) = true then (((lcC (fun (name_94, at_95, to_96) => (((asI gap_3)).bind fun x115 => ((if (decide (x115 < at_95)) = true then (((asI gap_3)).bind fun x117 => some ((decide (x117 < to_96)) && (!decide (at_95 = to_96)))) else some false)).bind fun x119 => if x119 = true then (some (some name_94)) else some none)) boxes_1)).bind fun x121 => some x121) else some ([] : (List Str))))))))
abbrev A_names_over_D : ((List (Str × Int × Int)) × PyData × PyData) → List Ar := fun x => [.d ((eL (eT3 eS eI eI)) x.1), .d (eD x.2.1), .d (eD x.2.2)]
abbrev B_names_over_D : (List Str) → List PyData := fun y => y.map eS
abbrev C_names_over_D : (List Str) → List (List V) := fun y => []
abbrev N_names_over_D : List Str := ["boxes", "word", "gap", "name", "at", "to"]
abbrev sp_names_over_D (K : PySem.W.Frag) : Sp := spF K A_names_over_D B_names_over_D C_names_over_D f_names_over_D
def t_names_over_D (K : PySem.W.Frag) : TS := (tSeq (tIfS (tTest (tOp (rEqD K) (tVar 1) (tC (.str "up")))) (tRet (tLc (iList K (tVar 0)) (gTup K 3 (gCons (gName 3) (gCons (gName 4) (gCons (gName 5) gNil)))) (tTest (tChain (rI0 fun i j => .bl (decide (i ≤ j))) (rI0 fun i j => .bl (decide (i < j))) (tVar 4) (tVar 2) (tVar 5))) (tVar 3) [3, 4, 5])) tNext) (tSeq (tIfS (tTest (tOp (rEqD K) (tVar 1) (tC (.str "down")))) (tRet (tLc (iList K (tVar 0)) (gTup K 3 (gCons (gName 3) (gCons (gName 4) (gCons (gName 5) gNil)))) (tTest (tChain (rI0 fun i j => .bl (decide (i ≤ j))) (rI0 fun i j => .bl (decide (i < j))) (tVar 5) (tVar 2) (tVar 4))) (tVar 3) [3, 4, 5])) tNext) (tSeq (tIfS (tTest (tOp (rEqD K) (tVar 1) (tC (.str "past")))) (tRet (tLc (iList K (tVar 0)) (gTup K 3 (gCons (gName 3) (gCons (gName 4) (gCons (gName 5) gNil)))) (tAnd (tTest (tOp (rI0 fun i j => .bl (decide (j < i))) (tVar 4) (tVar 2))) (tAnd (tTest (tOp (rI0 fun i j => .bl (decide (j < i))) (tVar 5) (tVar 2))) (tTest (tOp rNe (tVar 4) (tVar 5))))) (tVar 3) [3, 4, 5])) tNext) (tRet (tLst tNil)))))
theorem w_names_over_D {K : PySem.W.Frag} (vs : List V) (H : Hp) (Q : VK) (E : XK) (h : sp_names_over_D K vs H Q E) : t_names_over_D K { nx := fun _ H' => Q .non H', rt := Q } (start N_names_over_D vs) H := by
  obtain ⟨F0, cc, cs, ⟨boxes_1, word_2, gap_3⟩, y, h0, hS0, m, q⟩ := h
  obtain ⟨a0, _, rfl, ha0, h1⟩ := ArgR.hd h0
  obtain ⟨a1, _, rfl, ha1, h2⟩ := ArgR.hd h1
  obtain ⟨a2, _, rfl, ha2, h3⟩ := ArgR.hd h2
  obtain ⟨rfl, rfl⟩ := ArgR.no h3
  unfold f_names_over_D at m
  try dsimp only at m
  unfold t_names_over_D
  refine go (σ' := [some a0, some a1, some a2, none, none, none]) rfl ?_
  obtain ⟨x4, k5, m⟩ := bnd m
  refine s_if (b := (x4)) hS0 (t_test (K := K) (d_eqDM (d_var rfl ha1) d_str k5)) (fun hc F6 H7 g8 hS9 => ?_) (fun hc F42 H43 g44 hS45 => ?_)
  · rw [if_pos hc] at m
    obtain ⟨x33, k34, m⟩ := bnd m
    refine s_retC (K := K) (ds := x33.map eS) hS9 (c_lcC (K := K) (f := (fun (name_10, at_11, to_12) => (((asI gap_3)).bind fun x31 => if (decide (at_11 ≤ x31) && decide (x31 < to_12)) = true then (some (some name_10)) else some none))) (em := eS) (i_list (en := (eT3 eS eI eI)) (d_var rfl (Dt.gr g8 ha0))) k34 (fun ⟨name_10, at_11, to_12⟩ o19 v20 F13 p14 us15 g16 hv17 ho18 => by obtain ⟨p23, w25, w26, w27, rfl, hT24, hw28, hw29, hw30⟩ := u3 hv17; obtain rfl := Dt.toStr hw28; obtain rfl := Dt.toInt hw29; obtain rfl := Dt.toInt hw30; obtain ⟨x31, k32, ho18⟩ := bnd ho18; by_cases hc : (decide (at_11 ≤ x31) && decide (x31 < to_12)) = true; (rw [if_pos hc] at ho18; obtain rfl := sm ho18; refine ⟨[some a0, some a1, some a2, some (.str name_10), some (.int at_11), some (.int to_12)], fun H22 Q hS21 hq => (fun Q hq => ⟨p23, [_, _, _], rfl, gr_T hS21.fr hT24, rfl, _, _, rfl, _, _, rfl, _, _, rfl, rfl, hq⟩) Q hq, rfl, ?_, ?_⟩; (rw [show (some name_10).isSome = (decide (at_11 ≤ x31) && decide (x31 < to_12)) from hc.symm]; exact (t_test (K := K) (d_chain (d_var rfl (.int _)) (d_is (d_var rfl (Dt.gr (Gr.tr g8 g16) ha2)) (ck_I _ _ k32)) (d_var rfl (.int _))))); (intro y hy; obtain rfl := sm hy; exact (d_var rfl (.str _)))); (rw [if_neg hc] at ho18; obtain rfl := sm ho18; refine ⟨[some a0, some a1, some a2, some (.str name_10), some (.int at_11), some (.int to_12)], fun H22 Q hS21 hq => (fun Q hq => ⟨p23, [_, _, _], rfl, gr_T hS21.fr hT24, rfl, _, _, rfl, _, _, rfl, _, _, rfl, rfl, hq⟩) Q hq, rfl, ?_, ?_⟩; (rw [show (none : Option Str).isSome = (decide (at_11 ≤ x31) && decide (x31 < to_12)) from (bt hc).symm]; exact (t_test (K := K) (d_chain (d_var rfl (.int _)) (d_is (d_var rfl (Dt.gr (Gr.tr g8 g16) ha2)) (ck_I _ _ k32)) (d_var rfl (.int _))))); (intro y hy; cases hy)))) (fun p39 us40 F35 H36 g37 hS38 hu41 => ?_)
    obtain rfl := sm m
    exact q _ _ _ _ (Gr.tr g8 g37) hS38 hu41
  · rw [if_neg (bf hc)] at m
    refine nxt ?_
    obtain ⟨x46, k47, m⟩ := bnd m
    refine s_if (b := (x46)) hS45 (t_test (K := K) (d_eqDM (d_var rfl (Dt.gr g44 ha1)) d_str k47)) (fun hc F48 H49 g50 hS51 => ?_) (fun hc F84 H85 g86 hS87 => ?_)
    · rw [if_pos hc] at m
      obtain ⟨x75, k76, m⟩ := bnd m
      refine s_retC (K := K) (ds := x75.map eS) hS51 (c_lcC (K := K) (f := (fun (name_52, at_53, to_54) => (((asI gap_3)).bind fun x73 => if (decide (to_54 ≤ x73) && decide (x73 < at_53)) = true then (some (some name_52)) else some none))) (em := eS) (i_list (en := (eT3 eS eI eI)) (d_var rfl (Dt.gr (Gr.tr g44 g50) ha0))) k76 (fun ⟨name_52, at_53, to_54⟩ o61 v62 F55 p56 us57 g58 hv59 ho60 => by obtain ⟨p65, w67, w68, w69, rfl, hT66, hw70, hw71, hw72⟩ := u3 hv59; obtain rfl := Dt.toStr hw70; obtain rfl := Dt.toInt hw71; obtain rfl := Dt.toInt hw72; obtain ⟨x73, k74, ho60⟩ := bnd ho60; by_cases hc : (decide (to_54 ≤ x73) && decide (x73 < at_53)) = true; (rw [if_pos hc] at ho60; obtain rfl := sm ho60; refine ⟨[some a0, some a1, some a2, some (.str name_52), some (.int at_53), some (.int to_54)], fun H64 Q hS63 hq => (fun Q hq => ⟨p65, [_, _, _], rfl, gr_T hS63.fr hT66, rfl, _, _, rfl, _, _, rfl, _, _, rfl, rfl, hq⟩) Q hq, rfl, ?_, ?_⟩; (rw [show (some name_52).isSome = (decide (to_54 ≤ x73) && decide (x73 < at_53)) from hc.symm]; exact (t_test (K := K) (d_chain (d_var rfl (.int _)) (d_is (d_var rfl (Dt.gr (Gr.tr g44 (Gr.tr g50 g58)) ha2)) (ck_I _ _ k74)) (d_var rfl (.int _))))); (intro y hy; obtain rfl := sm hy; exact (d_var rfl (.str _)))); (rw [if_neg hc] at ho60; obtain rfl := sm ho60; refine ⟨[some a0, some a1, some a2, some (.str name_52), some (.int at_53), some (.int to_54)], fun H64 Q hS63 hq => (fun Q hq => ⟨p65, [_, _, _], rfl, gr_T hS63.fr hT66, rfl, _, _, rfl, _, _, rfl, _, _, rfl, rfl, hq⟩) Q hq, rfl, ?_, ?_⟩; (rw [show (none : Option Str).isSome = (decide (to_54 ≤ x73) && decide (x73 < at_53)) from (bt hc).symm]; exact (t_test (K := K) (d_chain (d_var rfl (.int _)) (d_is (d_var rfl (Dt.gr (Gr.tr g44 (Gr.tr g50 g58)) ha2)) (ck_I _ _ k74)) (d_var rfl (.int _))))); (intro y hy; cases hy)))) (fun p81 us82 F77 H78 g79 hS80 hu83 => ?_)
      obtain rfl := sm m
      exact q _ _ _ _ (Gr.tr g44 (Gr.tr g50 g79)) hS80 hu83
    · rw [if_neg (bf hc)] at m
      refine nxt ?_
      obtain ⟨x88, k89, m⟩ := bnd m
      refine s_if (b := (x88)) hS87 (t_test (K := K) (d_eqDM (d_var rfl (Dt.gr (Gr.tr g44 g86) ha1)) d_str k89)) (fun hc F90 H91 g92 hS93 => ?_) (fun hc F130 H131 g132 hS133 => ?_)
      · rw [if_pos hc] at m
        obtain ⟨x121, k122, m⟩ := bnd m
        refine s_retC (K := K) (ds := x121.map eS) hS93 (c_lcC (K := K) (f := (fun (name_94, at_95, to_96) => (((asI gap_3)).bind fun x115 => ((if (decide (x115 < at_95)) = true then (((asI gap_3)).bind fun x117 => some ((decide (x117 < to_96)) && (!decide (at_95 = to_96)))) else some false)).bind fun x119 => if x119 = true then (some (some name_94)) else some none))) (em := eS) (i_list (en := (eT3 eS eI eI)) (d_var rfl (Dt.gr (Gr.tr g44 (Gr.tr g86 g92)) ha0))) k122 (fun ⟨name_94, at_95, to_96⟩ o103 v104 F97 p98 us99 g100 hv101 ho102 => by obtain ⟨p107, w109, w110, w111, rfl, hT108, hw112, hw113, hw114⟩ := u3 hv101; obtain rfl := Dt.toStr hw112; obtain rfl := Dt.toInt hw113; obtain rfl := Dt.toInt hw114; obtain ⟨x115, k116, ho102⟩ := bnd ho102; obtain ⟨x119, k120, ho102⟩ := bnd ho102; by_cases hc : x119 = true; (rw [if_pos hc] at ho102; obtain rfl := sm ho102; refine ⟨[some a0, some a1, some a2, some (.str name_94), some (.int at_95), some (.int to_96)], fun H106 Q hS105 hq => (fun Q hq => ⟨p107, [_, _, _], rfl, gr_T hS105.fr hT108, rfl, _, _, rfl, _, _, rfl, _, _, rfl, rfl, hq⟩) Q hq, rfl, ?_, ?_⟩; (rw [show (some name_94).isSome = x119 from hc.symm]; exact (t_andM (r := x119) (t_test (K := K) (d_gt (d_var rfl (.int _)) (d_is (d_var rfl (Dt.gr (Gr.tr g44 (Gr.tr g86 (Gr.tr g92 g100))) ha2)) (ck_I _ _ k116)))) (fun hc => by rw [if_pos hc] at k120; obtain ⟨x117, k118, k120⟩ := bnd k120; obtain rfl := sm k120; exact (t_andP (t_test (K := K) (d_gt (d_var rfl (.int _)) (d_is (d_var rfl (Dt.gr (Gr.tr g44 (Gr.tr g86 (Gr.tr g92 g100))) ha2)) (ck_I _ _ k118)))) (fun hc => (t_test (K := K) (d_neI (d_var rfl (.int _)) (d_var rfl (.int _))))))) (fun hc => by rw [if_neg (bf hc)] at k120; exact (sm k120).symm))); (intro y hy; obtain rfl := sm hy; exact (d_var rfl (.str _)))); (rw [if_neg hc] at ho102; obtain rfl := sm ho102; refine ⟨[some a0, some a1, some a2, some (.str name_94), some (.int at_95), some (.int to_96)], fun H106 Q hS105 hq => (fun Q hq => ⟨p107, [_, _, _], rfl, gr_T hS105.fr hT108, rfl, _, _, rfl, _, _, rfl, _, _, rfl, rfl, hq⟩) Q hq, rfl, ?_, ?_⟩; (rw [show (none : Option Str).isSome = x119 from (bt hc).symm]; exact (t_andM (r := x119) (t_test (K := K) (d_gt (d_var rfl (.int _)) (d_is (d_var rfl (Dt.gr (Gr.tr g44 (Gr.tr g86 (Gr.tr g92 g100))) ha2)) (ck_I _ _ k116)))) (fun hc => by rw [if_pos hc] at k120; obtain ⟨x117, k118, k120⟩ := bnd k120; obtain rfl := sm k120; exact (t_andP (t_test (K := K) (d_gt (d_var rfl (.int _)) (d_is (d_var rfl (Dt.gr (Gr.tr g44 (Gr.tr g86 (Gr.tr g92 g100))) ha2)) (ck_I _ _ k118)))) (fun hc => (t_test (K := K) (d_neI (d_var rfl (.int _)) (d_var rfl (.int _))))))) (fun hc => by rw [if_neg (bf hc)] at k120; exact (sm k120).symm))); (intro y hy; cases hy)))) (fun p127 us128 F123 H124 g125 hS126 hu129 => ?_)
        obtain rfl := sm m
        exact q _ _ _ _ (Gr.tr g44 (Gr.tr g86 (Gr.tr g92 g125))) hS126 hu129
      · rw [if_neg (bf hc)] at m
        refine nxt ?_
        refine s_retC (K := K) (ds := ([] : (List Str)).map eS) hS133 (c_lst a_nil (Nat.le_of_ble_eq_true rfl)) (fun p138 us139 F134 H135 g136 hS137 hu140 => ?_)
        obtain rfl := sm m
        exact q _ _ _ _ (Gr.tr g44 (Gr.tr g86 (Gr.tr g132 g136))) hS137 hu140
theorem sc_names_over_D : FnScope N_names_over_D ["boxes", "word", "gap"] (defScope s_names_over_D) := ⟨rfl, rfl, rfl, by decide +kernel, rfl, by decide +kernel, by decide +kernel⟩
theorem ok_names_over_D {P : Program} {w : World} {K : PySem.W.Frag} {mg : Str → Option Value} {base : Heap} (hF : Df K mg "names_over" s_names_over_D) : Ok P w K mg base 1 "names_over" ["boxes", "word", "gap"] (sp_names_over_D K) := by
  obtain ⟨⟨fd, F⟩, gm⟩ := hF
  refine ⟨⟨fd, F.ok sc_names_over_D (fun vs H Q E h => ?_) (fun cdv A outer s H vs Q E hr h => ⟨t_names_over_D K, PSs.nox ?_, w_names_over_D vs H Q E h⟩), F.bindsN fun _ _ _ _ _ _ us hl => match us, hl with | [_, _, _], _ => rfl, lk_of F⟩, F.kp, gm⟩
  · obtain ⟨F0, cc, cs, x, y, h, _⟩ := h; exact ArgR.len h
  · exact (pss_cons (ps_if (pt_cmpR (op_eqD hr.units) (pv 1) pe_str (nomark _)) (pss_one (ps_ret (pe_lc (own := [("name", 3), ("at", 4), ("to", 5)]) (g := (gTup K 3 (gCons (gName 3) (gCons (gName 4) (gCons (gName 5) gNil))))) (tt := (tTest (tChain (rI0 fun i j => .bl (decide (i ≤ j))) (rI0 fun i j => .bl (decide (i < j))) (tVar 4) (tVar 2) (tVar 5)))) (te := (tVar 3)) (by rfl) sc_names_over_D.nd (pi_list (pv 0)) (blkOk_by (own := [("name", 3), ("at", 4), ("to", 5)]) (N := N_names_over_D) (sc := defScope s_names_over_D) (by decide +kernel)) (fun _ _ _ _ _ => (pg_tup rfl (pgs_cons (pg_name (i := 3) sc_names_over_D.nd rfl (Or.inl rfl)) (pgs_cons (pg_name (i := 4) sc_names_over_D.nd rfl (Or.inl rfl)) (pgs_cons (pg_name (i := 5) sc_names_over_D.nd rfl (Or.inl rfl)) pgs_nil))))) (fun _ _ _ _ _ => (pts_one (pt_chain op_le op_lt (pv 4) (pv 2) (pv 5)))) (fun _ _ _ _ _ => (pv 3))))) pss_nil) (pss_cons (ps_if (pt_cmpR (op_eqD hr.units) (pv 1) pe_str (nomark _)) (pss_one (ps_ret (pe_lc (own := [("name", 3), ("at", 4), ("to", 5)]) (g := (gTup K 3 (gCons (gName 3) (gCons (gName 4) (gCons (gName 5) gNil))))) (tt := (tTest (tChain (rI0 fun i j => .bl (decide (i ≤ j))) (rI0 fun i j => .bl (decide (i < j))) (tVar 5) (tVar 2) (tVar 4)))) (te := (tVar 3)) (by rfl) sc_names_over_D.nd (pi_list (pv 0)) (blkOk_by (own := [("name", 3), ("at", 4), ("to", 5)]) (N := N_names_over_D) (sc := defScope s_names_over_D) (by decide +kernel)) (fun _ _ _ _ _ => (pg_tup rfl (pgs_cons (pg_name (i := 3) sc_names_over_D.nd rfl (Or.inl rfl)) (pgs_cons (pg_name (i := 4) sc_names_over_D.nd rfl (Or.inl rfl)) (pgs_cons (pg_name (i := 5) sc_names_over_D.nd rfl (Or.inl rfl)) pgs_nil))))) (fun _ _ _ _ _ => (pts_one (pt_chain op_le op_lt (pv 5) (pv 2) (pv 4)))) (fun _ _ _ _ _ => (pv 3))))) pss_nil) (pss_cons (ps_if (pt_cmpR (op_eqD hr.units) (pv 1) pe_str (nomark _)) (pss_one (ps_ret (pe_lc (own := [("name", 3), ("at", 4), ("to", 5)]) (g := (gTup K 3 (gCons (gName 3) (gCons (gName 4) (gCons (gName 5) gNil))))) (tt := (tAnd (tTest (tOp (rI0 fun i j => .bl (decide (j < i))) (tVar 4) (tVar 2))) (tAnd (tTest (tOp (rI0 fun i j => .bl (decide (j < i))) (tVar 5) (tVar 2))) (tTest (tOp rNe (tVar 4) (tVar 5)))))) (te := (tVar 3)) (by rfl) sc_names_over_D.nd (pi_list (pv 0)) (blkOk_by (own := [("name", 3), ("at", 4), ("to", 5)]) (N := N_names_over_D) (sc := defScope s_names_over_D) (by decide +kernel)) (fun _ _ _ _ _ => (pg_tup rfl (pgs_cons (pg_name (i := 3) sc_names_over_D.nd rfl (Or.inl rfl)) (pgs_cons (pg_name (i := 4) sc_names_over_D.nd rfl (Or.inl rfl)) (pgs_cons (pg_name (i := 5) sc_names_over_D.nd rfl (Or.inl rfl)) pgs_nil))))) (fun _ _ _ _ _ => (pts_one (PW.pt (pw_and (pt_cmpR op_gt (pv 4) (pv 2) (nomark _)) (pw_and (pt_cmpR op_gt (pv 5) (pv 2) (nomark _)) (pw_and1 (pt_cmpR op_ne (pv 4) (pv 5) (nomark _)))))))) (fun _ _ _ _ _ => (pv 3))))) pss_nil) (pss_one (ps_ret (pe_lst pa_nil))))))
abbrev s_is_claim_D : Stmt := (top 25)
def f_is_claim_D : (((List Int) × (List Int) × Int × (List (Str × Int × Int))) × PyData) → Option Bool := fun (store_1, thing_2) => (((if (!(isiD "tuple" thing_2)) = true then some true else (((lenD thing_2)).bind fun x3 => ((if (!decide (x3 = (3 : Int))) = true then some true else (((ixD thing_2 (0 : Int))).bind fun x5 => some (!(isiD "str" x5))))).bind fun x7 => some x7))).bind fun x9 => (if x9 = true then some false else (((tupD3 thing_2)).bind fun x31 => letM x31.1 fun word_33 => letM x31.2.1 fun gap_35 => letM x31.2.2 fun told_37 => (((f_is_whole_D gap_35)).bind fun x47 => ((if (!x47) = true then some true else (((asI gap_35)).bind fun x49 => some (!(decide ((0 : Int) ≤ x49) && decide (x49 < (store_1.2.1.length : Int))))))).bind fun x51 => (if x51 = true then some false else (((f_names_over_D (store_1.2.2.2, word_33, gap_35))).bind fun x67 => (((eqDM word_33 (eS ("past" : Str)))).bind fun x75 => (if (x75) = true then (((asS told_37)).bind fun x81 => some (inL x81 x67)) else (((if (!(isiD "list" told_37)) = true then some true else (((eqDM told_37 (PyData.list []))).bind fun x93 => ((if (x93) = true then some true else (((asLD told_37)).bind fun x95 => ((lcC (fun name_97 => (((asS name_97)).bind fun x108 => some (some (inL x108 x67)))) x95)).bind fun x110 => some (!((x110).all id))))).bind fun x112 => some x112))).bind fun x114 => (if x114 = true then some false else ((((asL asS) told_37)).bind fun x130 => ((setLenM x130)).bind fun x132 => ((lenD told_37)).bind fun x134 => some (decide (x132 = x134)))))))))))))
abbrev A_is_claim_D : (((List Int) × (List Int) × Int × (List (Str × Int × Int))) × PyData) → List PyData := fun x => [(eT4 (eL eI) (eL eI) eI (eL (eT3 eS eI eI))) x.1, eD x.2]
abbrev N_is_claim_D : List Str := ["store", "thing", "there", "word", "gap", "told", "name"]
abbrev sp_is_claim_D (K : PySem.W.Frag) : Sp := spP K A_is_claim_D eB f_is_claim_D
def t_is_claim_D (K : PySem.W.Frag) : TS := (tSeq (tIfS (tOr (tNot (tB (tCB (rIsi K) (tCons (tVar 1) (tCons (tC (.ty "tuple")) tNil))))) (tOr (tTest (tOp rNe (tCB (rLenG K) (tCons (tVar 1) tNil)) (tC (.int 3)))) (tNot (tB (tCB (rIsi K) (tCons (tOp (rIx K) (tVar 1) (tC (.int 0))) (tCons (tC (.ty "str")) tNil))))))) (tRet (tC (.bl false))) tNext) (tSeq (tAsg (tVar 1) (gTup K 3 (gCons (gName 3) (gCons (gName 4) (gCons (gName 5) gNil))))) (tSeq (tIfS (tOr (tNot (tB (tCall (sp_is_whole_D K) [] E0 (tCons (tVar 4) tNil)))) (tNot (tTest (tChain (rI0 fun i j => .bl (decide (i ≤ j))) (rI0 fun i j => .bl (decide (i < j))) (tC (.int 0)) (tVar 4) (tCB (rLenL K) (tCons (tOp (rIxT K) (tVar 0) (tC (.int 1))) tNil)))))) (tRet (tC (.bl false))) tNext) (tSeq (tAsg (tCall (sp_names_over_D K) [] E0 (tCons (tOp (rIxT K) (tVar 0) (tC (.int 3))) (tCons (tVar 3) (tCons (tVar 4) tNil)))) (gName 2)) (tSeq (tIfS (tTest (tOp (rEqD K) (tVar 3) (tC (.str "past")))) (tRet (tOp (rIn K false) (tVar 5) (tVar 2))) tNext) (tSeq (tIfS (tOr (tNot (tB (tCB (rIsi K) (tCons (tVar 5) (tCons (tC (.ty "list")) tNil))))) (tOr (tTest (tOp (rEqD K) (tVar 5) (tLst tNil))) (tNot (tB (tCB (rAll K) (tCons (tLc (iList K (tVar 5)) (gName 6) tYes (tOp (rIn K false) (tVar 6) (tVar 2)) [6]) tNil)))))) (tRet (tC (.bl false))) tNext) (tRet (tOp rEq (tLenSetS K (tVar 5)) (tCB (rLenG K) (tCons (tVar 5) tNil))))))))))
theorem w_is_claim_D {K : PySem.W.Frag} (vs : List V) (H : Hp) (Q : VK) (E : XK) (h : sp_is_claim_D K vs H Q E) : t_is_claim_D K { nx := fun _ H' => Q .non H', rt := Q } (start N_is_claim_D vs) H := by
  obtain ⟨F0, cs, ⟨store_1, thing_2⟩, y, h, hS0, m, q⟩ := h
  obtain ⟨a0, _, rfl, ha0, h⟩ := Dts.hd h
  obtain ⟨a1, _, rfl, ha1, h⟩ := Dts.hd h
  obtain rfl := Dts.no h
  unfold f_is_claim_D at m
  try dsimp only at m
  unfold t_is_claim_D
  refine go (σ' := [some a0, some a1, none, none, none, none, none]) rfl ?_
  obtain ⟨x9, k10, m⟩ := bnd m
  refine s_if (b := x9) hS0 (t_orM (r := x9) (t_not (t_B (K := K) (d_isiD (c := "tuple") (by decide) (d_var rfl ha1)))) (fun hc => by rw [if_neg (bf hc)] at k10; obtain ⟨x3, k4, k10⟩ := bnd k10; obtain ⟨x7, k8, k10⟩ := bnd k10; obtain rfl := sm k10; exact (t_orM (r := x7) (t_test (K := K) (d_neI (d_lenD (a_cons (d_var rfl ha1) a_nil) k4) d_int)) (fun hc => by rw [if_neg (bf hc)] at k8; obtain ⟨x5, k6, k8⟩ := bnd k8; obtain rfl := sm k8; exact (t_not (t_B (K := K) (d_isiD (c := "str") (by decide) (d_ixD (d_var rfl ha1) d_int k6))))) (fun hc => by rw [if_pos hc] at k8; exact (sm k8).symm))) (fun hc => by rw [if_pos hc] at k10; exact (sm k10).symm)) (fun hc F11 H12 g13 hS14 => ?_) (fun hc F21 H22 g23 hS24 => ?_)
  · rw [if_pos hc] at m
    refine s_ret (K := K) (d := eB false) hS14 d_bl (fun v19 F15 H16 g17 hS18 hv20 => ?_)
    obtain rfl := sm m
    exact q _ _ _ (Gr.tr g13 g17) hS18 hv20
  · rw [if_neg (bf hc)] at m
    refine nxt ?_
    obtain ⟨x31, k32, m⟩ := bnd m
    refine s_asg (K := K) (d := eD thing_2) hS24 (d_var rfl (Dt.gr g23 ha1)) (fun v29 F25 H26 g27 hS28 hv30 => ?_)
    rw [show eD thing_2 = _ from tupD3_eq k32] at hv30
    obtain ⟨word_33, k34, m⟩ := lt m
    obtain ⟨gap_35, k36, m⟩ := lt m
    obtain ⟨told_37, k38, m⟩ := lt m
    obtain ⟨p39, w41, w42, w43, rfl, hT40, hw44, hw45, hw46⟩ := u3 hv30
    rw [k34] at hw44
    rw [k36] at hw45
    rw [k38] at hw46
    refine tg (σ' := [some a0, some a1, none, some w41, some w42, some w43, none]) (fun Q hq => ⟨p39, [_, _, _], rfl, gr_T hS28.fr hT40, rfl, _, _, rfl, _, _, rfl, _, _, rfl, rfl, hq⟩) ?_
    obtain ⟨x47, k48, m⟩ := bnd m
    obtain ⟨x51, k52, m⟩ := bnd m
    refine s_if (b := x51) hS28 (t_orM (r := x51) (t_not (t_B (K := K) (d_call (A := A_is_whole_D) (B := eB) (x := gap_35) (a_cons (d_var rfl hw45) a_nil) k48))) (fun hc => by rw [if_neg (bf hc)] at k52; obtain ⟨x49, k50, k52⟩ := bnd k52; obtain rfl := sm k52; exact (t_not (t_test (K := K) (d_chain d_int (d_is (d_var rfl hw45) (ck_I _ _ k50)) (d_len (e := eI) (a_cons (d_ixT (d_var rfl (Dt.gr (Gr.tr g23 g27) ha0)) d_int rfl) a_nil)))))) (fun hc => by rw [if_pos hc] at k52; exact (sm k52).symm)) (fun hc F53 H54 g55 hS56 => ?_) (fun hc F63 H64 g65 hS66 => ?_)
    · rw [if_pos hc] at m
      refine s_ret (K := K) (d := eB false) hS56 d_bl (fun v61 F57 H58 g59 hS60 hv62 => ?_)
      obtain rfl := sm m
      exact q _ _ _ (Gr.tr g23 (Gr.tr g27 (Gr.tr g55 g59))) hS60 hv62
    · rw [if_neg (bf hc)] at m
      refine nxt ?_
      obtain ⟨x67, k68, m⟩ := bnd m
      refine s_set (K := K) (d := (eL eS) x67) (i := 2) (σ' := fun v73 => [some a0, some a1, some v73, some w41, some w42, some w43, none]) hS66 (EvC.dd (c_callX (A := A_names_over_D) (B := B_names_over_D) (C := C_names_over_D) (x := (store_1.2.2.2, word_33, gap_35)) (y := x67) (cs2 := (cs)) (cc := []) (cs' := (cs)) (r_d (d_ixT (d_var rfl (Dt.gr (Gr.tr g23 (Gr.tr g27 g65)) ha0)) d_int rfl) (r_d (d_var rfl (Dt.gr g65 hw44)) (r_d (d_var rfl (Dt.gr g65 hw45)) r_nil))) sb_rfl k68 (fun _ => sb_rfl))) (fun _ => rfl) (fun v73 F69 H70 g71 hS72 hv74 => ?_)
      obtain ⟨x75, k76, m⟩ := bnd m
      refine s_if (b := (x75)) hS72 (t_test (K := K) (d_eqDM (d_var rfl (Dt.gr (Gr.tr g65 g71) hw44)) d_str k76)) (fun hc F77 H78 g79 hS80 => ?_) (fun hc F89 H90 g91 hS92 => ?_)
      · rw [if_pos hc] at m
        obtain ⟨x81, k82, m⟩ := bnd m
        refine s_ret (K := K) (d := eB (inL x81 x67)) hS80 (d_inSs (d_is (d_var rfl (Dt.gr (Gr.tr g65 (Gr.tr g71 g79)) hw46)) (ck_S _ _ k82)) (d_var rfl (Dt.gr g79 hv74))) (fun v87 F83 H84 g85 hS86 hv88 => ?_)
        obtain rfl := sm m
        exact q _ _ _ (Gr.tr g23 (Gr.tr g27 (Gr.tr g65 (Gr.tr g71 (Gr.tr g79 g85))))) hS86 hv88
      · rw [if_neg (bf hc)] at m
        refine nxt ?_
        obtain ⟨x114, k115, m⟩ := bnd m
        refine s_if (b := x114) hS92 (t_orM (r := x114) (t_not (t_B (K := K) (d_isiD (c := "list") (by decide) (d_var rfl (Dt.gr (Gr.tr g65 (Gr.tr g71 g91)) hw46))))) (fun hc => by rw [if_neg (bf hc)] at k115; obtain ⟨x93, k94, k115⟩ := bnd k115; obtain ⟨x112, k113, k115⟩ := bnd k115; obtain rfl := sm k115; exact (t_orM (r := x112) (t_test (K := K) (d_eqDM (d_var rfl (Dt.gr (Gr.tr g65 (Gr.tr g71 g91)) hw46)) (d_lst a_nil (Nat.le_of_ble_eq_true rfl)) k94)) (fun hc => by rw [if_neg (bf hc)] at k113; obtain ⟨x95, k96, k113⟩ := bnd k113; obtain ⟨x110, k111, k113⟩ := bnd k113; obtain rfl := sm k113; exact (t_not (t_B (K := K) (d_all (a_cons (EvC.dd (c_lcC (K := K) (f := (fun name_97 => (((asS name_97)).bind fun x108 => some (some (inL x108 x67))))) (em := eB) (i_list (en := eD) (d_is (d_var rfl (Dt.gr (Gr.tr g65 (Gr.tr g71 g91)) hw46)) (ck_LD _ _ k96))) k111 (fun name_97 o104 v105 F98 p99 us100 g101 hv102 ho103 => by obtain ⟨x108, k109, ho103⟩ := bnd ho103; obtain rfl := sm ho103; exact ⟨[some a0, some a1, some v73, some w41, some w42, some w43, some v105], fun H107 Q hS106 hq => (fun Q hq => hq) Q hq, rfl, t_yes, fun y hy => by obtain rfl := sm hy; exact (d_inSs (d_is (d_var rfl hv102) (ck_S _ _ k109)) (d_var rfl (Dt.gr (Gr.tr g91 g101) hv74)))⟩))) a_nil))))) (fun hc => by rw [if_pos hc] at k113; exact (sm k113).symm))) (fun hc => by rw [if_pos hc] at k115; exact (sm k115).symm)) (fun hc F116 H117 g118 hS119 => ?_) (fun hc F126 H127 g128 hS129 => ?_)
        · rw [if_pos hc] at m
          refine s_ret (K := K) (d := eB false) hS119 d_bl (fun v124 F120 H121 g122 hS123 hv125 => ?_)
          obtain rfl := sm m
          exact q _ _ _ (Gr.tr g23 (Gr.tr g27 (Gr.tr g65 (Gr.tr g71 (Gr.tr g91 (Gr.tr g118 g122)))))) hS123 hv125
        · rw [if_neg (bf hc)] at m
          refine nxt ?_
          obtain ⟨x130, k131, m⟩ := bnd m
          obtain ⟨x132, k133, m⟩ := bnd m
          obtain ⟨x134, k135, m⟩ := bnd m
          refine s_ret (K := K) (d := eB (decide (x132 = x134))) hS129 (d_eqI (d_setLen (d_is (d_var rfl (Dt.gr (Gr.tr g65 (Gr.tr g71 (Gr.tr g91 g128))) hw46)) ((ck_L ck_S) _ _ k131)) k133) (d_lenD (a_cons (d_var rfl (Dt.gr (Gr.tr g65 (Gr.tr g71 (Gr.tr g91 g128))) hw46)) a_nil) k135)) (fun v140 F136 H137 g138 hS139 hv141 => ?_)
          obtain rfl := sm m
          exact q _ _ _ (Gr.tr g23 (Gr.tr g27 (Gr.tr g65 (Gr.tr g71 (Gr.tr g91 (Gr.tr g128 g138)))))) hS139 hv141
theorem sc_is_claim_D : FnScope N_is_claim_D ["store", "thing"] (defScope s_is_claim_D) := ⟨rfl, rfl, rfl, by decide +kernel, rfl, by decide +kernel, by decide +kernel⟩
theorem ok_is_claim_D {P : Program} {w : World} {K : PySem.W.Frag} {mg : Str → Option Value} {base : Heap} (hF : Df K mg "is_claim" s_is_claim_D) (m_all : mg "all" = none) (m_isinstance : mg "isinstance" = none) (m_len : mg "len" = none) (m_list : mg "list" = none) (m_set : mg "set" = none) (m_str : mg "str" = none) (m_tuple : mg "tuple" = none) (o_names_over_D : Ok P w K mg base 1 "names_over" ["boxes", "word", "gap"] (sp_names_over_D K)) (o_is_whole_D : Ok P w K mg base 1 "is_whole" ["thing"] (sp_is_whole_D K)) : Ok P w K mg base 2 "is_claim" ["store", "thing"] (sp_is_claim_D K) := by
  obtain ⟨⟨_, G_names_over_D, bd_names_over_D, _⟩, kp_names_over_D, gm_names_over_D⟩ := o_names_over_D
  obtain ⟨⟨_, G_is_whole_D, bd_is_whole_D, _⟩, kp_is_whole_D, gm_is_whole_D⟩ := o_is_whole_D
  obtain ⟨⟨fd, F⟩, gm⟩ := hF
  refine ⟨⟨fd, F.ok sc_is_claim_D (fun vs H Q E h => ?_) (fun cdv A outer s H vs Q E hr h => ⟨t_is_claim_D K, PSs.nox ?_, w_is_claim_D vs H Q E h⟩), F.bindsN fun _ _ _ _ _ _ us hl => match us, hl with | [_, _], _ => rfl, lk_of F⟩, F.kp, gm⟩
  · obtain ⟨F0, cs, x, y, h, _⟩ := h; exact Dts.len h
  · exact (pss_cons (ps_if (PW.pt (pw_or (pt_not (pt_val (pe_callB call_isi (by rfl) m_isinstance (by decide +kernel) (pa_cons (pv 1) (pa_cons (pe_bltn (v := .ty "tuple") (by rfl) m_tuple (by decide +kernel) rfl) pa_nil))))) (pw_or (pt_cmpR op_ne (pe_callB cr_lenG (by rfl) m_len PySem.boot_len (pa_cons (pv 1) pa_nil)) pe_int (nomark _)) (pw_or1 (pt_not (pt_val (pe_callB call_isi (by rfl) m_isinstance (by decide +kernel) (pa_cons (pe_ix ix_seq (pv 1) pe_int (fun _ _ => rfl)) (pa_cons (pe_bltn (v := .ty "str") (by rfl) m_str (by decide +kernel) rfl) pa_nil))))))))) (pss_one (ps_ret pe_bl)) pss_nil) (pss_cons (ps_asg (pv 1) (pg_tup rfl (pgs_cons (pg_name (i := 3) sc_is_claim_D.nd rfl (Or.inl rfl)) (pgs_cons (pg_name (i := 4) sc_is_claim_D.nd rfl (Or.inl rfl)) (pgs_cons (pg_name (i := 5) sc_is_claim_D.nd rfl (Or.inl rfl)) pgs_nil))))) (pss_cons (ps_if (PW.pt (pw_or (pt_not (pt_val (pe_call G_is_whole_D (hr.mono (by decide)) (by rfl) gm_is_whole_D kp_is_whole_D bd_is_whole_D .nil pass0 (pa_cons (pv 4) pa_nil)))) (pw_or1 (pt_not (pt_chain op_le op_lt pe_int (pv 4) (pe_callB cr_lenL (by rfl) m_len PySem.boot_len (pa_cons (pe_ix ix_tup (pv 0) pe_int (fun _ _ => rfl)) pa_nil))))))) (pss_one (ps_ret pe_bl)) pss_nil) (pss_cons (ps_set (i := 2) sc_is_claim_D.nd rfl (Or.inr rfl) (pe_call G_names_over_D (hr.mono (by decide)) (by rfl) gm_names_over_D kp_names_over_D bd_names_over_D .nil pass0 (pa_cons (pe_ix ix_tup (pv 0) pe_int (fun _ _ => rfl)) (pa_cons (pv 3) (pa_cons (pv 4) pa_nil))))) (pss_cons (ps_if (pt_cmpR (op_eqD hr.units) (pv 3) pe_str (nomark _)) (pss_one (ps_ret (pe_cmpR op_in_seq (pv 5) (pv 2) (by rfl)))) pss_nil) (pss_cons (ps_if (PW.pt (pw_or (pt_not (pt_val (pe_callB call_isi (by rfl) m_isinstance (by decide +kernel) (pa_cons (pv 5) (pa_cons (pe_bltn (v := .ty "list") (by rfl) m_list (by decide +kernel) rfl) pa_nil))))) (pw_or (pt_cmpR (op_eqD hr.units) (pv 5) (pe_lst pa_nil) (nomark _)) (pw_or1 (pt_not (pt_val (pe_callB (cr_all rfl) (by rfl) m_all (by decide +kernel) (pa_cons (pe_lc (own := [("name", 6)]) (g := (gName 6)) (tt := tYes) (te := (tOp (rIn K false) (tVar 6) (tVar 2))) (by rfl) sc_is_claim_D.nd (pi_list (pv 5)) (blkOk_by (own := [("name", 6)]) (N := N_is_claim_D) (sc := defScope s_is_claim_D) (by decide +kernel)) (fun _ _ _ _ _ => (pg_name (i := 6) sc_is_claim_D.nd rfl (Or.inl rfl))) (fun _ _ _ _ _ => pts_nil) (fun _ _ _ _ _ => (pe_cmpR op_in_seq (pv 6) (pv 2) (by rfl)))) pa_nil)))))))) (pss_one (ps_ret pe_bl)) pss_nil) (pss_one (ps_ret (pe_cmpR op_eq (pe_lenSetS rfl (by rfl) m_len (by rfl) m_set (pv 5)) (pe_callB cr_lenG (by rfl) m_len PySem.boot_len (pa_cons (pv 5) pa_nil)) (nomark _))))))))))
abbrev s_claim_of_D : Stmt := (top 27)
def f_claim_of_D_b22 (store_1 : ((List Int) × (List Int) × Int × (List (Str × Int × Int)))) : ((List (Int × Int))) → (Int × PyData) → Option ((List (Int × Int))) := fun told_25 (at_26, thing_27) => (((f_is_claim_D (store_1, thing_27))).bind fun x58 => ((if (!x58) = true then some true else (((ixD thing_27 (1 : Int))).bind fun x60 => ((asI x60)).bind fun x62 => some (hasK told_25 x62)))).bind fun x64 => (if x64 = true then none else (((f_times_told_D (store_1, thing_27))).bind fun x74 => ((ixD thing_27 (1 : Int))).bind fun x76 => ((asI x76)).bind fun x78 => ((putM told_25 x78 x74)).bind fun told_80 => some told_80)))
def f_claim_of_D : (((List Int) × (List Int) × Int × (List (Str × Int × Int))) × PyData) → Option Int := fun (store_1, paper_2) => (((f_look_at_store store_1)).bind fun x3 => (if (!(isiD "list" paper_2)) = true then none else (((asLD paper_2)).bind fun x20 => ((enumM x20).foldlM (f_claim_of_D_b22 store_1) ([] : (List (Int × Int)))).bind fun told_92 => (((lcC (fun (gap_101, times_102) => (((atI store_1.2.1 gap_101)).bind fun x119 => ((mulM x119 times_102)).bind fun x121 => some (some x121))) told_92)).bind fun x123 => some ((2 : Int) * (x123).sum)))))
abbrev A_claim_of_D : (((List Int) × (List Int) × Int × (List (Str × Int × Int))) × PyData) → List PyData := fun x => [(eT4 (eL eI) (eL eI) eI (eL (eT3 eS eI eI))) x.1, eD x.2]
abbrev N_claim_of_D : List Str := ["store", "paper", "told", "at", "thing", "gap", "times"]
abbrev sp_claim_of_D (K : PySem.W.Frag) : Sp := spP K A_claim_of_D eI f_claim_of_D
def t_claim_of_D (K : PySem.W.Frag) : TS := (tSeq (tDrop (tCall (sp_look_at_store K) [] E0 (tCons (tVar 0) tNil))) (tSeq (tIfS (tNot (tB (tCB (rIsi K) (tCons (tVar 1) (tCons (tC (.ty "list")) tNil))))) tNever tNext) (tSeq (tAsg tDNewK (gName 2)) (tSeq (tFor (iEnum K (tCons (tVar 1) tNil)) (gTup K 2 (gCons (gName 3) (gCons (gName 4) gNil))) (tSeq (tIfS (tOr (tNot (tB (tCall (sp_is_claim_D K) [] E0 (tCons (tVar 0) (tCons (tVar 4) tNil))))) (tB (tDIn (tOp (rIx K) (tVar 4) (tC (.int 1))) (tVar 2)))) tNever tNext) (sDPut (tVar 2) (tOp (rIx K) (tVar 4) (tC (.int 1))) (tCall (sp_times_told_D K) [] E0 (tCons (tVar 0) (tCons (tVar 4) tNil)))))) (tRet (tOp (rI CMul fun i j => .int (i * j)) (tC (.int 2)) (tCB (rSum K) (tCons (tLockE (tLc (iItems (tVar 2)) (gTup K 2 (gCons (gName 5) (gCons (gName 6) gNil))) tYes (tOp (rI CMul fun i j => .int (i * j)) (tOp (rIxL K) (tOp (rIxT K) (tVar 0) (tC (.int 1))) (tVar 5)) (tVar 6)) [5, 6])) tNil))))))))
theorem w_claim_of_D {K : PySem.W.Frag} (vs : List V) (H : Hp) (Q : VK) (E : XK) (h : sp_claim_of_D K vs H Q E) : t_claim_of_D K { nx := fun _ H' => Q .non H', rt := Q } (start N_claim_of_D vs) H := by
  obtain ⟨F0, cs, ⟨store_1, paper_2⟩, y, h, hS0, m, q⟩ := h
  obtain ⟨a0, _, rfl, ha0, h⟩ := Dts.hd h
  obtain ⟨a1, _, rfl, ha1, h⟩ := Dts.hd h
  obtain rfl := Dts.no h
  unfold f_claim_of_D at m
  try dsimp only at m
  unfold t_claim_of_D
  refine go (σ' := [some a0, some a1, none, none, none, none, none]) rfl ?_
  obtain ⟨x3, k4, m⟩ := bnd m
  refine s_drop (K := K) (d := eN x3) hS0 (d_call (A := A_look_at_store) (B := eN) (x := store_1) (a_cons (d_var rfl ha0) a_nil) k4) (fun F5 H6 g7 hS8 => ?_)
  refine s_if (b := (!(isiD "list" paper_2))) hS8 (t_not (t_B (K := K) (d_isiD (c := "list") (by decide) (d_var rfl (Dt.gr g7 ha1))))) (fun hc F9 H10 g11 hS12 => ?_) (fun hc F13 H14 g15 hS16 => ?_)
  · rw [if_pos hc] at m
    cases m
  · rw [if_neg (bf hc)] at m
    refine nxt ?_
    refine s_setDict (kf := kI) (vf := V.int) (σ' := fun p17 => [some a0, some a1, some (.ref p17), none, none, none, none]) hS16 (fun _ => rfl) (fun p17 H18 hS19 => ?_)
    obtain ⟨x20, k21, m⟩ := bnd m
    obtain ⟨told_92, k24, m⟩ := bnd m
    refine s_for (K := K) (xs := (enumM x20)) (en := (eT2 eI eD)) (body := (f_claim_of_D_b22 store_1)) (s0 := ([] : (List (Int × Int)))) (r := told_92) (fun (a : (List (Int × Int))) F σ c => ∃ (j3 : Option V) (j4 : Option V) (j5 : Option V) (j6 : Option V), σ = [some a0, some a1, some (.ref p17), j3, j4, j5, j6] ∧ (p17, .dK (kvE kI V.int a)) :: cs = c) hS19 (i_enum (en := eD) (a_cons (d_is (d_var rfl (Dt.gr (Gr.tr g7 g15) ha1)) (ck_LD _ _ k21)) a_nil)) (fun _ _ => ⟨_, _, _, _, rfl, rfl⟩) k24 ?_ ?_
    · rintro ⟨at_26, thing_27⟩ told_25 b36 F28 F29 σ42 c43 H30 v35 N37 g31 ⟨u45, u46, u47, u48, rfl, rfl⟩ g32 hS33 hv34 m44 hN39
      obtain ⟨p49, w51, w52, rfl, hT50, hw53, hw54⟩ := u2 hv34
      obtain rfl := Dt.toInt hw53
      refine tg (σ' := [some a0, some a1, some (.ref p17), some (.int at_26), some w52, u47, u48]) (fun Q hq => ⟨p49, [_, _], rfl, gr_T hS33.fr hT50, rfl, _, _, rfl, _, _, rfl, rfl, hq⟩) ?_
      unfold f_claim_of_D_b22 at m44
      try dsimp only at m44
      obtain ⟨x58, k59, m44⟩ := bnd m44
      obtain ⟨x64, k65, m44⟩ := bnd m44
      refine s_if (b := x64) hS33 (t_lendX (l1 := []) (m1 := []) (fun F55 g56 hn57 => (t_orM (r := x64) (t_not (t_B (K := K) (d_call (A := A_is_claim_D) (B := eB) (x := (store_1, thing_27)) (a_cons (d_var rfl (Dt.gr (Gr.tr g7 (Gr.tr g15 (Gr.tr g31 (Gr.tr g32 (Gr.tr g56 (Gr.new hn57)))))) ha0)) (a_cons (d_var rfl (Dt.gr (Gr.tr g56 (Gr.new hn57)) hw54)) a_nil)) k59))) (fun hc => by rw [if_neg (bf hc)] at k65; obtain ⟨x60, k61, k65⟩ := bnd k65; obtain ⟨x62, k63, k65⟩ := bnd k65; obtain rfl := sm k65; exact (t_B (K := K) (d_din kf_I (d_is (d_ixD (d_var rfl (Dt.gr (Gr.tr g56 (Gr.new hn57)) hw54)) d_int k61) (ck_I _ _ k63)) (vp_var rfl) upd_same))) (fun hc => by rw [if_pos hc] at k65; exact (sm k65).symm)))) (fun hc F66 H67 g68 hS69 => ?_) (fun hc F70 H71 g72 hS73 => ?_)
      · rw [if_pos hc] at m44
        cases m44
      · rw [if_neg (bf hc)] at m44
        refine nxt ?_
        obtain ⟨x74, k75, m44⟩ := bnd m44
        obtain ⟨x76, k77, m44⟩ := bnd m44
        obtain ⟨x78, k79, m44⟩ := bnd m44
        obtain ⟨told_80, k81, m44⟩ := bnd m44
        refine s_dput (K := K) (k1 := []) (m1 := []) (l1 := []) (p := p17) (kf := kI) (vf := V.int) (ek := eI) (ev := eI) (x := x74) kf_I (fun _ _ _ h => Dt.toInt h) hS73 (d_call (A := A_times_told_D) (B := eI) (x := (store_1, thing_27)) (a_cons (d_var rfl (Dt.gr (Gr.tr g7 (Gr.tr g15 (Gr.tr g31 (Gr.tr g32 g72)))) ha0)) (a_cons (d_var rfl (Dt.gr g72 hw54)) a_nil)) k75) (vp_var rfl) (d_is (d_ixD (d_var rfl (Dt.gr g72 hw54)) d_int k77) (ck_I _ _ k79)) k81 (fun F82 H83 g84 hS85 => ?_)
        obtain rfl := sm m44
        exact hN39 _ _ _ _ (Gr.tr g72 g84) hS85 ⟨_, _, _, _, rfl, rfl⟩
    · rintro F86 σ91 c90 H87 g88 hS89 ⟨u93, u94, u95, u96, rfl, rfl⟩
      obtain ⟨x123, k124, m⟩ := bnd m
      refine s_ret (K := K) (d := eI ((2 : Int) * (x123).sum)) hS89 (d_mulC d_int (d_sum (a_cons (EvC.dd (c_lock (l1 := []) (m1 := []) (p := p17) (nls nl_I _) (fun od100 F97 g98 hn99 => (c_lcC (K := K) (f := (fun (gap_101, times_102) => (((atI store_1.2.1 gap_101)).bind fun x119 => ((mulM x119 times_102)).bind fun x121 => some (some x121)))) (em := eI) (i_items (kf := kI) (vf := V.int) (ek := eI) (ev := eI) (fun _ _ => .int _) (fun _ _ => (.int _)) (vp_var rfl) upd_same) k124 (fun ⟨gap_101, times_102⟩ o109 v110 F103 p104 us105 g106 hv107 ho108 => by obtain ⟨p113, w115, w116, rfl, hT114, hw117, hw118⟩ := u2 hv107; obtain rfl := Dt.toInt hw117; obtain rfl := Dt.toInt hw118; obtain ⟨x119, k120, ho108⟩ := bnd ho108; obtain ⟨x121, k122, ho108⟩ := bnd ho108; obtain rfl := sm ho108; exact ⟨[some a0, some a1, some (.ref p17), u93, u94, some (.int gap_101), some (.int times_102)], fun H112 Q hS111 hq => (fun Q hq => ⟨p113, [_, _], rfl, gr_T hS111.fr hT114, rfl, _, _, rfl, _, _, rfl, rfl, hq⟩) Q hq, rfl, t_yes, fun y hy => by obtain rfl := sm hy; exact (d_mul (d_ix (e := eI) (d_ixT (d_var rfl (Dt.gr (Gr.tr g7 (Gr.tr g15 (Gr.tr g88 (Gr.tr (Gr.tr g98 (Gr.new hn99)) g106)))) ha0)) d_int rfl) (d_var rfl (.int _)) k120) (d_var rfl (.int _)) k122)⟩))))) a_nil)) (.inl ⟨by decide, by decide⟩)) (fun v129 F125 H126 g127 hS128 hv130 => ?_)
      have hS131 := sb_drop _ _ hS128
      obtain rfl := sm m
      exact q _ _ _ (Gr.tr g7 (Gr.tr g15 (Gr.tr g88 g127))) hS131 hv130
theorem sc_claim_of_D : FnScope N_claim_of_D ["store", "paper"] (defScope s_claim_of_D) := ⟨rfl, rfl, rfl, by decide +kernel, rfl, by decide +kernel, by decide +kernel⟩
theorem ok_claim_of_D {P : Program} {w : World} {K : PySem.W.Frag} {mg : Str → Option Value} {base : Heap} (hF : Df K mg "claim_of" s_claim_of_D) (m_enumerate : mg "enumerate" = none) (m_isinstance : mg "isinstance" = none) (m_list : mg "list" = none) (m_sum : mg "sum" = none) (o_times_told_D : Ok P w K mg base 1 "times_told" ["store", "thing"] (sp_times_told_D K)) (o_is_claim_D : Ok P w K mg base 2 "is_claim" ["store", "thing"] (sp_is_claim_D K)) (o_look_at_store : Ok P w K mg base 5 "look_at_store" ["thing"] (sp_look_at_store K)) : Ok P w K mg base 6 "claim_of" ["store", "paper"] (sp_claim_of_D K) := by
  obtain ⟨⟨_, G_times_told_D, bd_times_told_D, _⟩, kp_times_told_D, gm_times_told_D⟩ := o_times_told_D
  obtain ⟨⟨_, G_is_claim_D, bd_is_claim_D, _⟩, kp_is_claim_D, gm_is_claim_D⟩ := o_is_claim_D
  obtain ⟨⟨_, G_look_at_store, bd_look_at_store, _⟩, kp_look_at_store, gm_look_at_store⟩ := o_look_at_store
  obtain ⟨⟨fd, F⟩, gm⟩ := hF
  refine ⟨⟨fd, F.ok sc_claim_of_D (fun vs H Q E h => ?_) (fun cdv A outer s H vs Q E hr h => ⟨t_claim_of_D K, PSs.nox ?_, w_claim_of_D vs H Q E h⟩), F.bindsN fun _ _ _ _ _ _ us hl => match us, hl with | [_, _], _ => rfl, lk_of F⟩, F.kp, gm⟩
  · obtain ⟨F0, cs, x, y, h, _⟩ := h; exact Dts.len h
  · exact (pss_cons (ps_expr (pe_call G_look_at_store (hr.mono (by decide)) (by rfl) gm_look_at_store kp_look_at_store bd_look_at_store .nil pass0 (pa_cons (pv 0) pa_nil))) (pss_cons (ps_if (pt_not (pt_val (pe_callB call_isi (by rfl) m_isinstance (by decide +kernel) (pa_cons (pv 1) (pa_cons (pe_bltn (v := .ty "list") (by rfl) m_list (by decide +kernel) rfl) pa_nil))))) (pss_one ps_never) pss_nil) (pss_cons (ps_set (i := 2) sc_claim_of_D.nd rfl (Or.inl rfl) pe_dnewK) (pss_cons (ps_for PassesOwn.never rfl (pi_enum (by rfl) m_enumerate (pa_cons (pv 1) pa_nil)) (pg_tup rfl (pgs_cons (pg_name (i := 3) sc_claim_of_D.nd rfl (Or.inl rfl)) (pgs_cons (pg_name (i := 4) sc_claim_of_D.nd rfl (Or.inl rfl)) pgs_nil))) (pss_cons (ps_if (PW.pt (pw_or (pt_not (pt_val (pe_call G_is_claim_D (hr.mono (by decide)) (by rfl) gm_is_claim_D kp_is_claim_D bd_is_claim_D .nil pass0 (pa_cons (pv 0) (pa_cons (pv 4) pa_nil))))) (pw_or1 (pt_cmp (pc_din (hu_of hr) (pe_ix ix_seq (pv 4) pe_int (fun _ _ => rfl)) (pv 2)))))) (pss_one ps_never) pss_nil) (pss_one (ps_dput (hu_of hr) (pv 2) (pe_ix ix_seq (pv 4) pe_int (fun _ _ => rfl)) (pe_call G_times_told_D (hr.mono (by decide)) (by rfl) gm_times_told_D kp_times_told_D bd_times_told_D .nil pass0 (pa_cons (pv 0) (pa_cons (pv 4) pa_nil))) rfl)))) (pss_one (ps_ret (pe_op op_mul pe_int (pe_callB (cr_sum rfl) (by rfl) m_sum (by decide +kernel) (pa_cons (pe_lock (pe_lc (own := [("gap", 5), ("times", 6)]) (g := (gTup K 2 (gCons (gName 5) (gCons (gName 6) gNil)))) (tt := tYes) (te := (tOp (rI CMul fun i j => .int (i * j)) (tOp (rIxL K) (tOp (rIxT K) (tVar 0) (tC (.int 1))) (tVar 5)) (tVar 6))) (by rfl) sc_claim_of_D.nd (pi_items (pv 2)) (blkOk_by (own := [("gap", 5), ("times", 6)]) (N := N_claim_of_D) (sc := defScope s_claim_of_D) (by decide +kernel)) (fun _ _ _ _ _ => (pg_tup rfl (pgs_cons (pg_name (i := 5) sc_claim_of_D.nd rfl (Or.inl rfl)) (pgs_cons (pg_name (i := 6) sc_claim_of_D.nd rfl (Or.inl rfl)) pgs_nil)))) (fun _ _ _ _ _ => pts_nil) (fun _ _ _ _ _ => (pe_op op_mul (pe_ix ix_list (pe_ix ix_tup (pv 0) pe_int (fun _ _ => rfl)) (pv 5) (fun _ _ => rfl)) (pv 6))))) pa_nil)))))))))
abbrev s_whole : Stmt := (top 36)
def f_whole : Int → Option Bool := fun found_1 => some (true && (!false))
abbrev A_whole : Int → List PyData := fun x => [eI x]
abbrev N_whole : List Str := ["_law_found"]
abbrev sp_whole (K : PySem.W.Frag) : Sp := spP K A_whole eB f_whole
def t_whole (K : PySem.W.Frag) : TS := (tRet (tAndV (tCB (rIsi K) (tCons (tVar 0) (tCons (tC (.ty "int")) tNil))) (tNotV (tCB (rIsi K) (tCons (tVar 0) (tCons (tC (.ty "bool")) tNil))))))
theorem w_whole {K : PySem.W.Frag} (vs : List V) (H : Hp) (Q : VK) (E : XK) (h : sp_whole K vs H Q E) : t_whole K { nx := fun _ H' => Q .non H', rt := Q } (start N_whole vs) H := by
  obtain ⟨F0, cs, found_1, y, h, hS0, m, q⟩ := h
  obtain ⟨a0, _, rfl, ha0, h⟩ := Dts.hd h
  obtain rfl := Dts.no h
  obtain rfl := Dt.toInt ha0
  unfold f_whole at m
  try dsimp only at m
  unfold t_whole
  refine go (σ' := [some (.int found_1)]) rfl ?_
  refine s_ret (K := K) (d := eB (true && (!false))) hS0 (d_andP (d_is (e := PyData.bool true) (d_isiD (c := "int") (by decide) (d_var rfl (.int _))) (congrArg PyData.bool (by rfl))) (fun hc => (d_notV (d_is (e := PyData.bool false) (d_isiD (c := "bool") (by decide) (d_var rfl (.int _))) (congrArg PyData.bool (by rfl)))))) (fun v6 F2 H3 g4 hS5 hv7 => ?_)
  obtain rfl := sm m
  exact q _ _ _ g4 hS5 hv7
theorem sc_whole : FnScope N_whole ["_law_found"] (defScope s_whole) := ⟨rfl, rfl, rfl, by decide +kernel, rfl, by decide +kernel, by decide +kernel⟩
theorem ok_whole {P : Program} {w : World} {K : PySem.W.Frag} {mg : Str → Option Value} {base : Heap} (hF : Df K mg "_law_whole" s_whole) (m_bool : mg "bool" = none) (m_int : mg "int" = none) (m_isinstance : mg "isinstance" = none) : Ok P w K mg base 1 "_law_whole" ["_law_found"] (sp_whole K) := by
  obtain ⟨⟨fd, F⟩, gm⟩ := hF
  refine ⟨⟨fd, F.ok sc_whole (fun vs H Q E h => ?_) (fun cdv A outer s H vs Q E hr h => ⟨t_whole K, PSs.nox ?_, w_whole vs H Q E h⟩), F.bindsN fun _ _ _ _ _ _ us hl => match us, hl with | [_], _ => rfl, lk_of F⟩, F.kp, gm⟩
  · obtain ⟨F0, cs, x, y, h, _⟩ := h; exact Dts.len h
  · exact (pss_one (ps_ret (pe_and (pe_callB call_isi (by rfl) m_isinstance (by decide +kernel) (pa_cons (pv 0) (pa_cons (pe_bltn (v := .ty "int") (by rfl) m_int (by decide +kernel) rfl) pa_nil))) (pe_one (pe_not (pe_callB call_isi (by rfl) m_isinstance (by decide +kernel) (pa_cons (pv 0) (pa_cons (pe_bltn (v := .ty "bool") (by rfl) m_bool (by decide +kernel) rfl) pa_nil))))))))
abbrev s_loads : Stmt := (top 40)
def f_loads_t7 (most_2 : Int) : (Int × Int) → Option Bool := fun (many_10, loads_here_11) => (some (decide ((0 : Int) < many_10)))
def f_loads_w7 (most_2 : Int) : (Int × Int) → Option (Fl (Int × Int) Int) := fun (many_25, loads_here_26) => (letM (many_25 - most_2) fun many_44 => (letM (loads_here_26 + (1 : Int)) fun loads_here_50 => some (Fl.nx (many_44, loads_here_50))))
def f_loads : (Int × Int) → Option Int := fun (many_1, most_2) => (whileF (f_loads_t7 most_2) (f_loads_w7 most_2) fuel (many_1, (0 : Int))).bind fun r8 => match r8 with | .nx (many_59, loads_here_60) => some loads_here_60 | .br _ => none | .rt z67 => some z67
abbrev A_loads : (Int × Int) → List PyData := fun x => [eI x.1, eI x.2]
abbrev N_loads : List Str := ["_law_many", "_law_most", "_law_loads_here"]
abbrev sp_loads (K : PySem.W.Frag) : Sp := spP K A_loads eI f_loads
def t_loads (K : PySem.W.Frag) : TS := (tSeq (tAsg (tC (.int 0)) (gName 2)) (tSeq (tWhile (tTest (tOp (rI0 fun i j => .bl (decide (j < i))) (tVar 0) (tC (.int 0)))) (tSeq (tAsg (tOp (rI0 fun i j => .int (i - j)) (tVar 0) (tVar 1)) (gName 0)) (tAsg (tOp (rI0 fun i j => .int (i + j)) (tVar 2) (tC (.int 1))) (gName 2)))) (tRet (tVar 2))))
theorem w_loads {K : PySem.W.Frag} (vs : List V) (H : Hp) (Q : VK) (E : XK) (h : sp_loads K vs H Q E) : t_loads K { nx := fun _ H' => Q .non H', rt := Q } (start N_loads vs) H := by
  obtain ⟨F0, cs, ⟨many_1, most_2⟩, y, h, hS0, m, q⟩ := h
  obtain ⟨a0, _, rfl, ha0, h⟩ := Dts.hd h
  obtain ⟨a1, _, rfl, ha1, h⟩ := Dts.hd h
  obtain rfl := Dts.no h
  obtain rfl := Dt.toInt ha0
  obtain rfl := Dt.toInt ha1
  unfold f_loads at m
  try dsimp only at m
  unfold t_loads
  refine go (σ' := [some (.int many_1), some (.int most_2), none]) rfl ?_
  refine s_setV (K := K) (d := eI (0 : Int)) (i := 2) (σ' := [some (.int many_1), some (.int most_2), some (.int (0 : Int))]) (fun _ _ h => Dt.toInt h) hS0 d_int rfl (fun F3 H4 g5 hS6 => ?_)
  obtain ⟨r8, k9, m⟩ := bnd m
  refine s_while (c := (f_loads_t7 most_2)) (body := (f_loads_w7 most_2)) (s0 := (many_1, (0 : Int))) (r := r8) (n := fuel) (fun (a : Int × Int) F σ c => σ = [some (.int a.1), some (.int most_2), some (.int a.2)] ∧ cs = c) hS6 ⟨rfl, rfl⟩ k9 ?_ ?_ ?_ ?_
  · rintro ⟨many_59, loads_here_60⟩ F52 σ57 c56 H53 hz58 g54 hS55 ⟨rfl, rfl⟩
    rcases hz58.symm with rfl | rfl
    · cases (show (none : Option _) = some _ from m)
    try dsimp only at m
    refine s_ret (K := K) (d := eI loads_here_60) hS55 (d_var rfl (.int _)) (fun v65 F61 H62 g63 hS64 hv66 => ?_)
    obtain rfl := sm m
    exact q _ _ _ (Gr.tr g5 (Gr.tr g54 g63)) hS64 hv66
  · rintro ⟨many_10, loads_here_11⟩ b16 F12 σ15 c14 g13 ⟨rfl, rfl⟩ m17
    unfold f_loads_t7 at m17
    try dsimp only at m17
    obtain rfl := sm m17
    exact (t_test (K := K) (d_gt (d_var rfl (.int _)) d_int))
  · rintro ⟨many_18, loads_here_19⟩ F20 F21 σ23 c24 ⟨rfl, rfl⟩ g22
    exact ⟨rfl, rfl⟩
  · rintro ⟨many_25, loads_here_26⟩ b27 F28 σ29 c30 H31 N32 B33 g34 ⟨rfl, rfl⟩ hS35 m36 hN37 hB38 hR39
    unfold f_loads_w7 at m36
    try dsimp only at m36
    obtain ⟨many_44, k45, m36⟩ := lt m36
    refine s_setV (K := K) (d := eI many_44) (i := 0) (σ' := [some (.int many_44), some (.int most_2), some (.int loads_here_26)]) (fun _ _ h => Dt.toInt h) hS35 (d_is (d_sub (d_var rfl (.int _)) (d_var rfl (.int _))) (congrArg eI k45)) rfl (fun F40 H41 g42 hS43 => ?_)
    obtain ⟨loads_here_50, k51, m36⟩ := lt m36
    refine s_setV (K := K) (d := eI loads_here_50) (i := 2) (σ' := [some (.int many_44), some (.int most_2), some (.int loads_here_50)]) (fun _ _ h => Dt.toInt h) hS43 (d_is (d_add (d_var rfl (.int _)) d_int) (congrArg eI k51)) rfl (fun F46 H47 g48 hS49 => ?_)
    obtain rfl := sm m36
    exact hN37 _ _ _ _ _ rfl (Gr.tr g42 g48) hS49 ⟨rfl, rfl⟩
theorem sc_loads : FnScope N_loads ["_law_many", "_law_most"] (defScope s_loads) := ⟨rfl, rfl, rfl, by decide +kernel, rfl, by decide +kernel, by decide +kernel⟩
theorem ok_loads {P : Program} {w : World} {K : PySem.W.Frag} {mg : Str → Option Value} {base : Heap} (hF : Df K mg "_law_loads" s_loads) : Ok P w K mg base 1 "_law_loads" ["_law_many", "_law_most"] (sp_loads K) := by
  obtain ⟨⟨fd, F⟩, gm⟩ := hF
  refine ⟨⟨fd, F.ok sc_loads (fun vs H Q E h => ?_) (fun cdv A outer s H vs Q E hr h => ⟨t_loads K, PSs.nox ?_, w_loads vs H Q E h⟩), F.bindsN fun _ _ _ _ _ _ us hl => match us, hl with | [_, _], _ => rfl, lk_of F⟩, F.kp, gm⟩
  · obtain ⟨F0, cs, x, y, h, _⟩ := h; exact Dts.len h
  · exact (pss_cons (ps_set (i := 2) sc_loads.nd rfl (Or.inl rfl) pe_int) (pss_cons (ps_while PassesOwn.never (pt_cmpR op_gt (pv 0) pe_int (nomark _)) (pss_cons (ps_set (i := 0) sc_loads.nd rfl (Or.inl rfl) (pe_op op_sub (pv 0) (pv 1))) (pss_one (ps_set (i := 2) sc_loads.nd rfl (Or.inl rfl) (pe_op op_add (pv 2) pe_int))))) (pss_one (ps_ret (pv 2)))))
abbrev s_claimed_D : Stmt := (top 41)
def f_claimed_D_b7 (store_here_1 : ((List Int) × (List Int) × Int × (List (Str × Int × Int)))) : Int → (Str × Int × PyData) → Option Int := fun claimed_here_10 (word_11, gap_12, told_13) => ((if (!decide (word_11 = ("past" : Str))) = true then (((lenD told_13)).bind fun x70 => ((f_loads (x70, store_here_1.2.2.1))).bind fun x72 => some x72) else some (1 : Int))).bind fun times_47 => (((atI store_here_1.2.1 gap_12)).bind fun x56 => ((mulM x56 times_47)).bind fun x58 => letM (claimed_here_10 + x58) fun claimed_here_64 => some claimed_here_64)
def f_claimed_D : (((List Int) × (List Int) × Int × (List (Str × Int × Int))) × (List (Str × Int × PyData))) → Option Int := fun (store_here_1, paper_here_2) => (paper_here_2.foldlM (f_claimed_D_b7 store_here_1) (0 : Int)).bind fun claimed_here_88 => some ((2 : Int) * claimed_here_88)
abbrev A_claimed_D : (((List Int) × (List Int) × Int × (List (Str × Int × Int))) × (List (Str × Int × PyData))) → List PyData := fun x => [(eT4 (eL eI) (eL eI) eI (eL (eT3 eS eI eI))) x.1, (eL (eT3 eS eI eD)) x.2]
abbrev N_claimed_D : List Str := ["_law_store_here", "_law_paper_here", "_law_claimed_here", "_law_word", "_law_gap", "_law_told", "_law_times"]
abbrev sp_claimed_D (K : PySem.W.Frag) : Sp := spP K A_claimed_D eI f_claimed_D
def t_claimed_D (K : PySem.W.Frag) : TS := (tSeq (tAsg (tC (.int 0)) (gName 2)) (tSeq (tFor (iList K (tVar 1)) (gTup K 3 (gCons (gName 3) (gCons (gName 4) (gCons (gName 5) gNil)))) (tSeq (tAsg (tC (.int 1)) (gName 6)) (tSeq (tIfS (tTest (tOp rNe (tVar 3) (tC (.str "past")))) (tAsg (tCall (sp_loads K) [] E0 (tCons (tCB (rLenG K) (tCons (tVar 5) tNil)) (tCons (tOp (rIxT K) (tVar 0) (tC (.int 2))) tNil))) (gName 6)) tNext) (tAsg (tOp (rI0 fun i j => .int (i + j)) (tVar 2) (tOp (rI CMul fun i j => .int (i * j)) (tOp (rIxL K) (tOp (rIxT K) (tVar 0) (tC (.int 1))) (tVar 4)) (tVar 6))) (gName 2))))) (tRet (tOp (rI CMul fun i j => .int (i * j)) (tC (.int 2)) (tVar 2)))))
theorem w_claimed_D {K : PySem.W.Frag} (vs : List V) (H : Hp) (Q : VK) (E : XK) (h : sp_claimed_D K vs H Q E) : t_claimed_D K { nx := fun _ H' => Q .non H', rt := Q } (start N_claimed_D vs) H := by
  obtain ⟨F0, cs, ⟨store_here_1, paper_here_2⟩, y, h, hS0, m, q⟩ := h
  obtain ⟨a0, _, rfl, ha0, h⟩ := Dts.hd h
  obtain ⟨a1, _, rfl, ha1, h⟩ := Dts.hd h
  obtain rfl := Dts.no h
  unfold f_claimed_D at m
  try dsimp only at m
  unfold t_claimed_D
  refine go (σ' := [some a0, some a1, none, none, none, none, none]) rfl ?_
  refine s_setV (K := K) (d := eI (0 : Int)) (i := 2) (σ' := [some a0, some a1, some (.int (0 : Int)), none, none, none, none]) (fun _ _ h => Dt.toInt h) hS0 d_int rfl (fun F3 H4 g5 hS6 => ?_)
  obtain ⟨claimed_here_88, k9, m⟩ := bnd m
  refine s_for (K := K) (xs := paper_here_2) (en := (eT3 eS eI eD)) (body := (f_claimed_D_b7 store_here_1)) (s0 := (0 : Int)) (r := claimed_here_88) (fun (a : Int) F σ c => ∃ (j3 : Option V) (j4 : Option V) (j5 : Option V) (j6 : Option V), σ = [some a0, some a1, some (.int a), j3, j4, j5, j6] ∧ cs = c) hS6 (i_list (en := (eT3 eS eI eD)) (d_var rfl (Dt.gr g5 ha1))) (fun _ _ => ⟨_, _, _, _, rfl, rfl⟩) k9 ?_ ?_
  · rintro ⟨word_11, gap_12, told_13⟩ claimed_here_10 b22 F14 F15 σ28 c29 H16 v21 N23 g17 ⟨u31, u32, u33, u34, rfl, rfl⟩ g18 hS19 hv20 m30 hN25
    obtain ⟨p35, w37, w38, w39, rfl, hT36, hw40, hw41, hw42⟩ := u3 hv20
    obtain rfl := Dt.toStr hw40
    obtain rfl := Dt.toInt hw41
    refine tg (σ' := [some a0, some a1, some (.int claimed_here_10), some (.str word_11), some (.int gap_12), some w39, u34]) (fun Q hq => ⟨p35, [_, _, _], rfl, gr_T hS19.fr hT36, rfl, _, _, rfl, _, _, rfl, _, _, rfl, rfl, hq⟩) ?_
    unfold f_claimed_D_b7 at m30
    try dsimp only at m30
    refine s_setV (K := K) (d := eI (1 : Int)) (i := 6) (σ' := [some a0, some a1, some (.int claimed_here_10), some (.str word_11), some (.int gap_12), some w39, some (.int (1 : Int))]) (fun _ _ h => Dt.toInt h) hS19 d_int rfl (fun F43 H44 g45 hS46 => ?_)
    obtain ⟨times_47, k49, m30⟩ := bnd m30
    refine s_ifJ (b := (!decide (word_11 = ("past" : Str)))) (fun σ H => ∃ (F : Hp) (c : Cs), Gr F43 F ∧ Sta F c H ∧ σ = [some a0, some a1, some (.int claimed_here_10), some (.str word_11), some (.int gap_12), some w39, some (.int times_47)] ∧ cs = c) hS46 (t_test (K := K) (d_neS (d_var rfl (.str _)) d_str)) ?_ (fun jn48 hc F66 H67 g68 hS69 => ?_) (fun jn48 hc F78 H79 g80 hS81 => ?_)
    · rintro σ55 H51 ⟨F50, c54, g52, hS53, rfl, rfl⟩
      obtain ⟨x56, k57, m30⟩ := bnd m30
      obtain ⟨x58, k59, m30⟩ := bnd m30
      obtain ⟨claimed_here_64, k65, m30⟩ := lt m30
      refine s_setV (K := K) (d := eI claimed_here_64) (i := 2) (σ' := [some a0, some a1, some (.int claimed_here_64), some (.str word_11), some (.int gap_12), some w39, some (.int times_47)]) (fun _ _ h => Dt.toInt h) hS53 (d_is (d_add (d_var rfl (.int _)) (d_mul (d_ix (e := eI) (d_ixT (d_var rfl (Dt.gr (Gr.tr g5 (Gr.tr g17 (Gr.tr g18 (Gr.tr g45 g52)))) ha0)) d_int rfl) (d_var rfl (.int _)) k57) (d_var rfl (.int _)) k59)) (congrArg eI k65)) rfl (fun F60 H61 g62 hS63 => ?_)
      obtain rfl := sm m30
      exact hN25 _ _ _ _ (Gr.tr g45 (Gr.tr g52 g62)) hS63 ⟨_, _, _, _, rfl, rfl⟩
    · rw [if_pos hc] at k49
      obtain ⟨x70, k71, k49⟩ := bnd k49
      obtain ⟨x72, k73, k49⟩ := bnd k49
      refine s_setV (K := K) (d := eI x72) (i := 6) (σ' := [some a0, some a1, some (.int claimed_here_10), some (.str word_11), some (.int gap_12), some w39, some (.int x72)]) (fun _ _ h => Dt.toInt h) hS69 (d_call (A := A_loads) (B := eI) (x := (x70, store_here_1.2.2.1)) (a_cons (d_lenD (a_cons (d_var rfl (Dt.gr (Gr.tr g45 g68) hw42)) a_nil) k71) (a_cons (d_ixT (d_var rfl (Dt.gr (Gr.tr g5 (Gr.tr g17 (Gr.tr g18 (Gr.tr g45 g68)))) ha0)) d_int rfl) a_nil)) k73) rfl (fun F74 H75 g76 hS77 => ?_)
      obtain rfl := sm k49
      exact jn48 _ _ ⟨_, _, (Gr.tr g68 g76), hS77, rfl, rfl⟩
    · rw [if_neg (bf hc)] at k49
      refine nxt ?_
      obtain rfl := sm k49
      exact jn48 _ _ ⟨_, _, g80, hS81, rfl, rfl⟩
  · rintro F82 σ87 c86 H83 g84 hS85 ⟨u89, u90, u91, u92, rfl, rfl⟩
    refine s_ret (K := K) (d := eI ((2 : Int) * claimed_here_88)) hS85 (d_mulC d_int (d_var rfl (.int _)) (.inl ⟨by decide, by decide⟩)) (fun v97 F93 H94 g95 hS96 hv98 => ?_)
    obtain rfl := sm m
    exact q _ _ _ (Gr.tr g5 (Gr.tr g84 g95)) hS96 hv98
theorem sc_claimed_D : FnScope N_claimed_D ["_law_store_here", "_law_paper_here"] (defScope s_claimed_D) := ⟨rfl, rfl, rfl, by decide +kernel, rfl, by decide +kernel, by decide +kernel⟩
theorem ok_claimed_D {P : Program} {w : World} {K : PySem.W.Frag} {mg : Str → Option Value} {base : Heap} (hF : Df K mg "_law_claimed" s_claimed_D) (m_len : mg "len" = none) (o_loads : Ok P w K mg base 1 "_law_loads" ["_law_many", "_law_most"] (sp_loads K)) : Ok P w K mg base 2 "_law_claimed" ["_law_store_here", "_law_paper_here"] (sp_claimed_D K) := by
  obtain ⟨⟨_, G_loads, bd_loads, _⟩, kp_loads, gm_loads⟩ := o_loads
  obtain ⟨⟨fd, F⟩, gm⟩ := hF
  refine ⟨⟨fd, F.ok sc_claimed_D (fun vs H Q E h => ?_) (fun cdv A outer s H vs Q E hr h => ⟨t_claimed_D K, PSs.nox ?_, w_claimed_D vs H Q E h⟩), F.bindsN fun _ _ _ _ _ _ us hl => match us, hl with | [_, _], _ => rfl, lk_of F⟩, F.kp, gm⟩
  · obtain ⟨F0, cs, x, y, h, _⟩ := h; exact Dts.len h
  · exact (pss_cons (ps_set (i := 2) sc_claimed_D.nd rfl (Or.inl rfl) pe_int) (pss_cons (ps_for PassesOwn.never rfl (pi_list (pv 1)) (pg_tup rfl (pgs_cons (pg_name (i := 3) sc_claimed_D.nd rfl (Or.inl rfl)) (pgs_cons (pg_name (i := 4) sc_claimed_D.nd rfl (Or.inl rfl)) (pgs_cons (pg_name (i := 5) sc_claimed_D.nd rfl (Or.inl rfl)) pgs_nil)))) (pss_cons (ps_set (i := 6) sc_claimed_D.nd rfl (Or.inl rfl) pe_int) (pss_cons (ps_if (pt_cmpR op_ne (pv 3) pe_str (nomark _)) (pss_one (ps_set (i := 6) sc_claimed_D.nd rfl (Or.inl rfl) (pe_call G_loads (hr.mono (by decide)) (by rfl) gm_loads kp_loads bd_loads .nil pass0 (pa_cons (pe_callB cr_lenG (by rfl) m_len PySem.boot_len (pa_cons (pv 5) pa_nil)) (pa_cons (pe_ix ix_tup (pv 0) pe_int (fun _ _ => rfl)) pa_nil))))) pss_nil) (pss_one (ps_set (i := 2) sc_claimed_D.nd rfl (Or.inl rfl) (pe_op op_add (pv 2) (pe_op op_mul (pe_ix ix_list (pe_ix ix_tup (pv 0) pe_int (fun _ _ => rfl)) (pv 4) (fun _ _ => rfl)) (pv 6)))))))) (pss_one (ps_ret (pe_op op_mul pe_int (pv 2))))))
abbrev s_law : Stmt := (top 42)
def f_law_b35 (x2 : ((List Int) × (List Int) × Int × (List (Str × Int × Int)))) (x14 : (List (Str × Int × PyData))) (x23 : ((List Int) × (List Int) × Int × (List (Str × Int × Int)))) : Unit → Int → Option (Fl Unit Bool) := fun _ many_38 => (((f_copied_r6 ((eL (eT3 eS eI eD)) (cutL x14 none (some many_38))))).bind fun x59 => (((f_claim_of_D (x23, x59))).bind fun x67 => (((f_whole x67)).bind fun x73 => ((if (!x73) = true then some true else (((f_claimed_D (x2, (cutL x14 none (some many_38))))).bind fun x75 => some (!decide (x67 = x75))))).bind fun x77 => (if x77 = true then some (Fl.rt false) else (((eqDM x59 ((eL (eT3 eS eI eD)) (cutL x14 none (some many_38))))).bind fun x94 => ((if (!x94) = true then some true else (((eqTM (eT4 (eL eI) (eL eI) eI (eL (eT3 eS eI eI))) x23 x2)).bind fun x96 => some (!x96)))).bind fun x98 => (if x98 = true then some (Fl.rt false) else some (Fl.nx ())))))))
def f_law : (List Int) → Option Bool := fun script_1 => (((f_store script_1)).bind fun x2 => (((f_cell (script_1, (2 : Int)))).bind fun x10 => ((f_source (x10, (2 : Int)))).bind fun x12 => ((f_paper (x2, x12))).bind fun (x14, w16) => (((f_copy x2)).bind fun x23 => (((lrgM (0 : Int) ((x14.length : Int) + (1 : Int)))).bind fun x31 => ((catM x31 ([(x14.length : Int)] : (List Int)))).bind fun x33 => (forF (f_law_b35 x2 x14 x23) x33 ()).bind fun r36 => match r36 with | .nx _ => some true | .br _ => none | .rt z130 => some z130))))
abbrev A_law : (List Int) → List PyData := fun x => [(eL eI) x]
abbrev N_law : List Str := ["_law_script", "_law_store_here", "_law_paper_here", "_law_handed", "_law_many", "_law_some", "_law_found"]
abbrev sp_law (K : PySem.W.Frag) : Sp := spP K A_law eB f_law
def t_law (K : PySem.W.Frag) : TS := (tSeq (tAsg (tCall (sp_store K) [] E0 (tCons (tVar 0) tNil)) (gName 1)) (tSeq (tAsg (tCall (sp_paper K) [] E0 (tCons (tVar 1) (tCons (tCall (sp_source K) [] E0 (tCons (tCall (sp_cell K) [] E0 (tCons (tVar 0) (tCons (tC (.int 2)) tNil))) (tCons (tC (.int 2)) tNil))) tNil))) (gName 2)) (tSeq (tAsg (tCall (sp_copy K) [] E0 (tCons (tVar 1) tNil)) (gName 3)) (tSeq (tFor (iList K (tOp (rCatS K) (tLstRg (tRg1 (tOp (rI0 fun i j => .int (i + j)) (tCB (rLenL K) (tCons (tVar 2) tNil)) (tC (.int 1))))) (tLst (tCons (tCB (rLenL K) (tCons (tVar 2) tNil)) tNil)))) (gName 4) (tSeq (tAsg (tCall (sp_copied_r6 K) [] E0 (tCons (tSl (rSlL K) (tVar 2) tNoPart (tPart (tVar 4))) tNil)) (gName 5)) (tSeq (tAsg (tCall (sp_claim_of_D K) [] E0 (tCons (tVar 3) (tCons (tVar 5) tNil))) (gName 6)) (tSeq (tIfS (tOr (tNot (tB (tCall (sp_whole K) [] E0 (tCons (tVar 6) tNil)))) (tTest (tOp rNe (tVar 6) (tCall (sp_claimed_D K) [] E0 (tCons (tVar 1) (tCons (tSl (rSlL K) (tVar 2) tNoPart (tPart (tVar 4))) tNil)))))) (tRet (tC (.bl false))) tNext) (tIfS (tOr (tTest (tOp (rNeD K) (tVar 5) (tSl (rSlL K) (tVar 2) tNoPart (tPart (tVar 4))))) (tTest (tOp (rNeD K) (tVar 3) (tVar 1)))) (tRet (tC (.bl false))) tNext))))) (tRet (tC (.bl true)))))))
theorem w_law {K : PySem.W.Frag} (vs : List V) (H : Hp) (Q : VK) (E : XK) (h : sp_law K vs H Q E) : t_law K { nx := fun _ H' => Q .non H', rt := Q } (start N_law vs) H := by
  obtain ⟨F0, cs, script_1, y, h, hS0, m, q⟩ := h
  obtain ⟨a0, _, rfl, ha0, h⟩ := Dts.hd h
  obtain rfl := Dts.no h
  unfold f_law at m
  try dsimp only at m
  unfold t_law
  refine go (σ' := [some a0, none, none, none, none, none, none]) rfl ?_
  obtain ⟨x2, k3, m⟩ := bnd m
  refine s_set (K := K) (d := (eT4 (eL eI) (eL eI) eI (eL (eT3 eS eI eI))) x2) (i := 1) (σ' := fun v8 => [some a0, some v8, none, none, none, none, none]) hS0 (d_call (A := A_store) (B := (eT4 (eL eI) (eL eI) eI (eL (eT3 eS eI eI)))) (x := script_1) (a_cons (d_var rfl ha0) a_nil) k3) (fun _ => rfl) (fun v8 F4 H5 g6 hS7 hv9 => ?_)
  obtain ⟨x10, k11, m⟩ := bnd m
  obtain ⟨x12, k13, m⟩ := bnd m
  obtain ⟨⟨x14, w16⟩, k15, m⟩ := bnd m; (try dsimp only at m)
  refine s_set (K := K) (d := (eL (eT3 eS eI eD)) x14) (i := 2) (σ' := fun v21 => [some a0, some v8, some v21, none, none, none, none]) hS7 (d_callM (A := A_paper) (B := B_paper) (C := C_paper) (x := (x2, x12)) (y := (x14, w16)) (cs3 := (cs)) (us := (x12.map V.int)) (cc := []) (cs' := (cs)) (n_d (d_var rfl hv9) (n_new (c_callX (A := A_source) (B := B_source) (C := C_source) (x := (x10, (2 : Int))) (y := x12) (cs2 := (cs)) (cc := []) (cs' := (cs)) (r_d (d_call (A := A_cell) (B := eI) (x := (script_1, (2 : Int))) (a_cons (d_var rfl (Dt.gr g6 ha0)) (a_cons d_int a_nil)) k11) (r_d d_int r_nil)) sb_rfl k13 (fun _ => sb_rfl)) (fun _ _ h => Dts.ints h) (fun _ => r_nil))) (fun _ => sb_rfl) k15 (fun _ => sb_drop)) (fun _ => rfl) (fun v21 F17 H18 g19 hS20 hv22 => ?_)
  obtain ⟨x23, k24, m⟩ := bnd m
  refine s_set (K := K) (d := (eT4 (eL eI) (eL eI) eI (eL (eT3 eS eI eI))) x23) (i := 3) (σ' := fun v29 => [some a0, some v8, some v21, some v29, none, none, none]) hS20 (d_call (A := A_copy) (B := (eT4 (eL eI) (eL eI) eI (eL (eT3 eS eI eI)))) (x := x2) (a_cons (d_var rfl (Dt.gr g19 hv9)) a_nil) k24) (fun _ => rfl) (fun v29 F25 H26 g27 hS28 hv30 => ?_)
  obtain ⟨x31, k32, m⟩ := bnd m
  obtain ⟨x33, k34, m⟩ := bnd m
  obtain ⟨r36, k37, m⟩ := bnd m
  refine s_forF (K := K) (xs := x33) (en := eI) (body := (f_law_b35 x2 x14 x23)) (s0 := ()) (r := r36) (fun (a : Unit) F σ c => ∃ (j4 : Option V) (j5 : Option V) (j6 : Option V), σ = [some a0, some v8, some v21, some v29, j4, j5, j6] ∧ cs = c) hS28 (i_list (en := eI) (EvC.dd (c_cat (en := eI) (EvC.dd (c_listRg1 (d_add (d_len (e := (eT3 eS eI eD)) (a_cons (d_var rfl (Dt.gr g27 hv22)) a_nil)) d_int) k32)) (d_lst (a_cons (d_len (e := (eT3 eS eI eD)) (a_cons (d_var rfl (Dt.gr g27 hv22)) a_nil)) a_nil) (Nat.le_of_ble_eq_true rfl)) k34))) (fun _ _ => ⟨_, _, _, rfl, rfl⟩) k37 ?_ ?_
  · rintro ⟨⟩ F115 σ120 c119 H116 hz131 g117 hS118 ⟨u121, u122, u123, rfl, rfl⟩
    rcases hz131.symm with rfl | rfl
    · cases (show (none : Option _) = some _ from m)
    try dsimp only at m
    refine s_ret (K := K) (d := eB true) hS118 d_bl (fun v128 F124 H125 g126 hS127 hv129 => ?_)
    obtain rfl := sm m
    exact q _ _ _ (Gr.tr g6 (Gr.tr g19 (Gr.tr g27 (Gr.tr g117 g126)))) hS127 hv129
  · rintro many_38 ⟨⟩ b47 F39 F40 σ53 c54 H41 v46 N48 B49 g42 ⟨u56, u57, u58, rfl, rfl⟩ g43 hS44 hv45 m55 hN50 hB51 hR52
    obtain rfl := Dt.toInt hv45
    refine tg (σ' := [some a0, some v8, some v21, some v29, some (.int many_38), u57, u58]) (fun Q hq => hq) ?_
    unfold f_law_b35 at m55
    try dsimp only at m55
    obtain ⟨x59, k60, m55⟩ := bnd m55
    refine s_set (K := K) (d := eD x59) (i := 5) (σ' := fun v65 => [some a0, some v8, some v21, some v29, some (.int many_38), some v65, u58]) hS44 (d_call (A := A_copied_r6) (B := eD) (x := ((eL (eT3 eS eI eD)) (cutL x14 none (some many_38)))) (a_cons (d_sl (d_var rfl (Dt.gr (Gr.tr g27 (Gr.tr g42 g43)) hv22)) o_none (o_some (K := K) (d_var rfl (.int _)))) a_nil) k60) (fun _ => rfl) (fun v65 F61 H62 g63 hS64 hv66 => ?_)
    obtain ⟨x67, k68, m55⟩ := bnd m55
    refine s_setV (K := K) (d := eI x67) (i := 6) (σ' := [some a0, some v8, some v21, some v29, some (.int many_38), some v65, some (.int x67)]) (fun _ _ h => Dt.toInt h) hS64 (d_call (A := A_claim_of_D) (B := eI) (x := (x23, x59)) (a_cons (d_var rfl (Dt.gr (Gr.tr g42 (Gr.tr g43 g63)) hv30)) (a_cons (d_var rfl hv66) a_nil)) k68) rfl (fun F69 H70 g71 hS72 => ?_)
    obtain ⟨x73, k74, m55⟩ := bnd m55
    obtain ⟨x77, k78, m55⟩ := bnd m55
    refine s_if (b := x77) hS72 (t_orM (r := x77) (t_not (t_B (K := K) (d_call (A := A_whole) (B := eB) (x := x67) (a_cons (d_var rfl (.int _)) a_nil) k74))) (fun hc => by rw [if_neg (bf hc)] at k78; obtain ⟨x75, k76, k78⟩ := bnd k78; obtain rfl := sm k78; exact (t_test (K := K) (d_neI (d_var rfl (.int _)) (d_call (A := A_claimed_D) (B := eI) (x := (x2, (cutL x14 none (some many_38)))) (a_cons (d_var rfl (Dt.gr (Gr.tr g19 (Gr.tr g27 (Gr.tr g42 (Gr.tr g43 (Gr.tr g63 g71))))) hv9)) (a_cons (d_sl (d_var rfl (Dt.gr (Gr.tr g27 (Gr.tr g42 (Gr.tr g43 (Gr.tr g63 g71)))) hv22)) o_none (o_some (K := K) (d_var rfl (.int _)))) a_nil)) k76)))) (fun hc => by rw [if_pos hc] at k78; exact (sm k78).symm)) (fun hc F79 H80 g81 hS82 => ?_) (fun hc F90 H91 g92 hS93 => ?_)
    · rw [if_pos hc] at m55
      refine s_ret (K := K) (d := eB false) hS82 d_bl (fun v87 F83 H84 g85 hS86 hv88 => ?_)
      obtain rfl := sm m55
      have hr89 := hR52 _ rfl
      subst hr89
      obtain rfl := sm m
      exact q _ _ _ (Gr.tr g6 (Gr.tr g19 (Gr.tr g27 (Gr.tr g42 (Gr.tr g43 (Gr.tr g63 (Gr.tr g71 (Gr.tr g81 g85)))))))) hS86 hv88
    · rw [if_neg (bf hc)] at m55
      refine nxt ?_
      obtain ⟨x94, k95, m55⟩ := bnd m55
      obtain ⟨x98, k99, m55⟩ := bnd m55
      refine s_if (b := x98) hS93 (t_orM (r := x98) (t_test (K := K) (d_neDM (d_var rfl (Dt.gr (Gr.tr g71 g92) hv66)) (d_sl (d_var rfl (Dt.gr (Gr.tr g27 (Gr.tr g42 (Gr.tr g43 (Gr.tr g63 (Gr.tr g71 g92))))) hv22)) o_none (o_some (K := K) (d_var rfl (.int _)))) k95)) (fun hc => by rw [if_neg (bf hc)] at k99; obtain ⟨x96, k97, k99⟩ := bnd k99; obtain rfl := sm k99; exact (t_test (K := K) (d_neTM (EqE.t4 (EqE.l eqE_I) (EqE.l eqE_I) eqE_I (EqE.l (EqE.t3 eqE_S eqE_I eqE_I))) (d_var rfl (Dt.gr (Gr.tr g42 (Gr.tr g43 (Gr.tr g63 (Gr.tr g71 g92)))) hv30)) (d_var rfl (Dt.gr (Gr.tr g19 (Gr.tr g27 (Gr.tr g42 (Gr.tr g43 (Gr.tr g63 (Gr.tr g71 g92)))))) hv9)) k97))) (fun hc => by rw [if_pos hc] at k99; exact (sm k99).symm)) (fun hc F100 H101 g102 hS103 => ?_) (fun hc F111 H112 g113 hS114 => ?_)
      · rw [if_pos hc] at m55
        refine s_ret (K := K) (d := eB false) hS103 d_bl (fun v108 F104 H105 g106 hS107 hv109 => ?_)
        obtain rfl := sm m55
        have hr110 := hR52 _ rfl
        subst hr110
        obtain rfl := sm m
        exact q _ _ _ (Gr.tr g6 (Gr.tr g19 (Gr.tr g27 (Gr.tr g42 (Gr.tr g43 (Gr.tr g63 (Gr.tr g71 (Gr.tr g92 (Gr.tr g102 g106))))))))) hS107 hv109
      · rw [if_neg (bf hc)] at m55
        refine nxt ?_
        obtain rfl := sm m55
        exact hN50 _ _ _ _ _ rfl (Gr.tr g63 (Gr.tr g71 (Gr.tr g92 g113))) hS114 ⟨_, _, _, rfl, rfl⟩
theorem sc_law : FnScope N_law ["_law_script"] (defScope s_law) := ⟨rfl, rfl, rfl, by decide +kernel, rfl, by decide +kernel, by decide +kernel⟩
theorem ok_law {P : Program} {w : World} {K : PySem.W.Frag} {mg : Str → Option Value} {base : Heap} (hF : Df K mg "law" s_law) (m_len : mg "len" = none) (m_list : mg "list" = none) (m_range : mg "range" = none) (o_whole : Ok P w K mg base 1 "_law_whole" ["_law_found"] (sp_whole K)) (o_claimed_D : Ok P w K mg base 2 "_law_claimed" ["_law_store_here", "_law_paper_here"] (sp_claimed_D K)) (o_claim_of_D : Ok P w K mg base 6 "claim_of" ["store", "paper"] (sp_claim_of_D K)) (o_copied_r6 : Ok P w K mg base 7 "_law_copied" ["_law_thing"] (sp_copied_r6 K)) (o_copy : Ok P w K mg base 1 "_law_copy" ["_law_store_here"] (sp_copy K)) (o_paper : Ok P w K mg base 2 "_law_paper" ["_law_store_here", "_law_source_here"] (sp_paper K)) (o_source : Ok P w K mg base 1 "_law_source" ["_law_cell_here", "_law_k"] (sp_source K)) (o_cell : Ok P w K mg base 1 "_law_cell" ["_law_script", "_law_k"] (sp_cell K)) (o_store : Ok P w K mg base 3 "_law_store" ["_law_script"] (sp_store K)) : Ok P w K mg base 8 "law" ["_law_script"] (sp_law K) := by
  obtain ⟨⟨_, G_whole, bd_whole, _⟩, kp_whole, gm_whole⟩ := o_whole
  obtain ⟨⟨_, G_claimed_D, bd_claimed_D, _⟩, kp_claimed_D, gm_claimed_D⟩ := o_claimed_D
  obtain ⟨⟨_, G_claim_of_D, bd_claim_of_D, _⟩, kp_claim_of_D, gm_claim_of_D⟩ := o_claim_of_D
  obtain ⟨⟨_, G_copied_r6, bd_copied_r6, _⟩, kp_copied_r6, gm_copied_r6⟩ := o_copied_r6
  obtain ⟨⟨_, G_copy, bd_copy, _⟩, kp_copy, gm_copy⟩ := o_copy
  obtain ⟨⟨_, G_paper, bd_paper, _⟩, kp_paper, gm_paper⟩ := o_paper
  obtain ⟨⟨_, G_source, bd_source, _⟩, kp_source, gm_source⟩ := o_source
  obtain ⟨⟨_, G_cell, bd_cell, _⟩, kp_cell, gm_cell⟩ := o_cell
  obtain ⟨⟨_, G_store, bd_store, _⟩, kp_store, gm_store⟩ := o_store
  obtain ⟨⟨fd, F⟩, gm⟩ := hF
  refine ⟨⟨fd, F.ok sc_law (fun vs H Q E h => ?_) (fun cdv A outer s H vs Q E hr h => ⟨t_law K, PSs.nox ?_, w_law vs H Q E h⟩), F.bindsN fun _ _ _ _ _ _ us hl => match us, hl with | [_], _ => rfl, lk_of F⟩, F.kp, gm⟩
  · obtain ⟨F0, cs, x, y, h, _⟩ := h; exact Dts.len h
  · exact (pss_cons (ps_set (i := 1) sc_law.nd rfl (Or.inl rfl) (pe_call G_store (hr.mono (by decide)) (by rfl) gm_store kp_store bd_store .nil pass0 (pa_cons (pv 0) pa_nil))) (pss_cons (ps_set (i := 2) sc_law.nd rfl (Or.inl rfl) (pe_call G_paper (hr.mono (by decide)) (by rfl) gm_paper kp_paper bd_paper .nil pass0 (pa_cons (pv 1) (pa_cons (pe_call G_source (hr.mono (by decide)) (by rfl) gm_source kp_source bd_source .nil pass0 (pa_cons (pe_call G_cell (hr.mono (by decide)) (by rfl) gm_cell kp_cell bd_cell .nil pass0 (pa_cons (pv 0) (pa_cons pe_int pa_nil))) (pa_cons pe_int pa_nil))) pa_nil)))) (pss_cons (ps_set (i := 3) sc_law.nd rfl (Or.inl rfl) (pe_call G_copy (hr.mono (by decide)) (by rfl) gm_copy kp_copy bd_copy .nil pass0 (pa_cons (pv 1) pa_nil))) (pss_cons (ps_for PassesOwn.never rfl (pi_list (pe_op op_catS (pe_listRg rfl (by rfl) m_list (prg_1 (by rfl) m_range (pe_op op_add (pe_callB cr_lenL (by rfl) m_len PySem.boot_len (pa_cons (pv 2) pa_nil)) pe_int))) (pe_lst (pa_cons (pe_callB cr_lenL (by rfl) m_len PySem.boot_len (pa_cons (pv 2) pa_nil)) pa_nil)))) (pg_name (i := 4) sc_law.nd rfl (Or.inl rfl)) (pss_cons (ps_set (i := 5) sc_law.nd rfl (Or.inl rfl) (pe_call G_copied_r6 (hr.mono (by decide)) (by rfl) gm_copied_r6 kp_copied_r6 bd_copied_r6 .nil pass0 (pa_cons (pe_slice sl_list (pv 2) po_none (po_some (pv 4))) pa_nil))) (pss_cons (ps_set (i := 6) sc_law.nd rfl (Or.inl rfl) (pe_call G_claim_of_D (hr.mono (by decide)) (by rfl) gm_claim_of_D kp_claim_of_D bd_claim_of_D .nil pass0 (pa_cons (pv 3) (pa_cons (pv 5) pa_nil)))) (pss_cons (ps_if (PW.pt (pw_or (pt_not (pt_val (pe_call G_whole (hr.mono (by decide)) (by rfl) gm_whole kp_whole bd_whole .nil pass0 (pa_cons (pv 6) pa_nil)))) (pw_or1 (pt_cmpR op_ne (pv 6) (pe_call G_claimed_D (hr.mono (by decide)) (by rfl) gm_claimed_D kp_claimed_D bd_claimed_D .nil pass0 (pa_cons (pv 1) (pa_cons (pe_slice sl_list (pv 2) po_none (po_some (pv 4))) pa_nil))) (nomark _))))) (pss_one (ps_ret pe_bl)) pss_nil) (pss_one (ps_if (PW.pt (pw_or (pt_cmpR (op_neD hr.units) (pv 5) (pe_slice sl_list (pv 2) po_none (po_some (pv 4))) (nomark _)) (pw_or1 (pt_cmpR (op_neD hr.units) (pv 3) (pv 1) (nomark _))))) (pss_one (ps_ret pe_bl)) pss_nil)))))) (pss_one (ps_ret pe_bl))))))
end Bw


namespace Bw
open PySem L2
theorem letM_eq {α β : Type} (x : α) (f : α → β) : letM x f = f x := Eq.trans rfl rfl
/-- step over a bind by the answer's equation (no unfolding left to the kernel) -/
theorem bo {α β : Type} {a : Option α} {x : α} (h : a = some x) (f : α → Option β) : a.bind f = f x := by subst h; rfl
/-! plain facts about what may fail -/
theorem atI_nn {α : Type} (xs : List α) (i : Nat) (h : i < xs.length) : atI xs (i : Int) = some xs[i] := by
  unfold atI ixN
  have h0 : (0 : Int) ≤ (i : Int) := by omega
  have h1 : (i : Int) < (xs.length : Int) := by omega
  rw [if_pos h0, if_pos h1]
  show xs[(i : Int).toNat]? = _
  rw [Int.toNat_natCast]
  exact List.getElem?_eq_getElem h
theorem atI_int {α : Type} (xs : List α) (i : Int) (h0 : 0 ≤ i) (h : i < xs.length) : ∃ x, atI xs i = some x ∧ xs[i.toNat]? = some x := by
  obtain ⟨n, rfl⟩ : ∃ n : Nat, i = n := ⟨i.toNat, by omega⟩
  have hn : n < xs.length := by omega
  refine ⟨xs[n], atI_nn xs n hn, ?_⟩
  rw [Int.toNat_natCast]
  exact List.getElem?_eq_getElem hn
theorem atI_mem {α : Type} {xs : List α} {i : Int} {x : α} (h : atI xs i = some x) : x ∈ xs := by
  unfold atI at h
  cases e : ixN xs.length i with
  | none => rw [e] at h; cases h
  | some j => rw [e] at h; exact List.mem_of_getElem? h
theorem appM_ok {α : Type} {xs : List α} {x : α} (h : xs.length < 100000) : appM xs x = some (xs ++ [x]) := by unfold appM; rw [if_pos h]
theorem catM_ok {α : Type} {xs ys : List α} (h : xs.length + ys.length ≤ 100000) : catM xs ys = some (xs ++ ys) := by unfold catM; rw [if_pos h]
theorem flat_one {α : Type} (x : α) : ∀ n : Nat, (List.replicate n [x]).flatten = List.replicate n x
  | 0 => rfl
  | n + 1 => by rw [List.replicate_succ, List.flatten_cons, flat_one x n]; rfl
theorem repM_one {α : Type} {x : α} {k : Int} (h0 : -(2 ^ 63) ≤ k) (h : k ≤ 100000) : repM [x] k = some (List.replicate k.toNat x) := by
  unfold repM
  rw [if_pos ⟨h0, by omega, by simp only [List.length_singleton]; omega⟩, flat_one]
theorem mulM_ok {a b : Int} (h1 : -(2 ^ 64) < a) (h2 : a < 2 ^ 64) : mulM a b = some (a * b) := by unfold mulM; rw [if_pos (.inl ⟨h1, h2⟩)]
theorem modM_ok {a b : Int} (h : 0 < b) : modM a b = some (a % b) := by unfold modM; rw [if_pos h]
theorem fdivM_ok {a b : Int} (h : 0 < b) (h2 : b < 1073741824) : fdivM a b = some (a / b) := by unfold fdivM; rw [if_pos ⟨h, h2⟩]
theorem rngM_ok {a b : Int} (h1 : -100000 ≤ a) (h2 : a ≤ 100000) (h3 : -100000 ≤ b) (h4 : b ≤ 100000) : rngM a b = some (rngL a b) := by unfold rngM; rw [if_pos ⟨by omega, by omega, by omega, by omega⟩]
theorem mapC_ok {α β : Type} {f : α → β} {xs : List α} (h : xs.length ≤ 100000) : mapC f xs = some (xs.map f) := by unfold mapC; rw [if_pos h]
theorem filC_ok {α β : Type} {p : α → Bool} {f : α → β} {xs : List α} (h : xs.length ≤ 100000) : filC p f xs = some ((xs.filter p).map f) := by unfold filC; rw [if_pos h]
theorem lcC_ok {α β : Type} {f : α → Option (Option β)} {xs : List α} (h : xs.length ≤ 100000) : lcC f xs = lcM f xs := by unfold lcC; rw [if_pos h]
theorem lcM_all {α β : Type} {f : α → Option (Option β)} {g : α → β} : ∀ {xs : List α}, (∀ x ∈ xs, f x = some (some (g x))) → lcM f xs = some (xs.map g)
  | [], _ => rfl
  | x :: xs, h => by
    show (f x).bind _ = _
    rw [h x List.mem_cons_self, lcM_all fun y hy => h y (List.mem_cons_of_mem _ hy)]
    rfl
theorem lcM_fil {α β : Type} {f : α → Option (Option β)} {p : α → Bool} {g : α → β} : ∀ {xs : List α}, (∀ x ∈ xs, f x = some (if p x = true then some (g x) else none)) → lcM f xs = some ((xs.filter p).map g)
  | [], _ => rfl
  | x :: xs, h => by
    show (f x).bind _ = _
    rw [h x List.mem_cons_self, lcM_fil fun y hy => h y (List.mem_cons_of_mem _ hy), List.filter_cons]
    cases p x <;> rfl
/-- a loop whose every turn goes on keeps what it keeps -/
theorem foldlM_inv {α S : Type} {body : S → α → Option S} (J : Nat → S → Prop) : ∀ (xs : List α) (i : Nat) (s : S), J i s → (∀ (k : Nat) (x : α) (s : S), xs[k]? = some x → J (i + k) s → ∃ t, body s x = some t ∧ J (i + k + 1) t) → ∃ r, xs.foldlM body s = some r ∧ J (i + xs.length) r
  | [], i, s, h, _ => ⟨s, rfl, h⟩
  | x :: xs, i, s, h, hb => by
    obtain ⟨t, h1, h2⟩ := hb 0 x s rfl h
    obtain ⟨r, h3, h4⟩ := foldlM_inv J xs (i + 1) t h2 fun k y u hy hu => by
      have e : i + 1 + k = i + (k + 1) := by omega
      rw [e] at hu ⊢
      exact hb (k + 1) y u (by simpa using hy) hu
    refine ⟨r, ?_, ?_⟩
    · rw [List.foldlM_cons, h1]; exact h3
    · have e : i + (x :: xs).length = i + 1 + xs.length := by rw [List.length_cons]; omega
      rw [e]; exact h4
theorem forF_nx {α S R : Type} {body : S → α → Option (Fl S R)} (J : S → Prop) : ∀ (xs : List α) (s : S), J s → (∀ x ∈ xs, ∀ s, J s → ∃ t, body s x = some (.nx t) ∧ J t) → ∃ r, forF body xs s = some (.nx r) ∧ J r
  | [], s, h, _ => ⟨s, rfl, h⟩
  | x :: xs, s, h, hb => by
    obtain ⟨t, h1, h2⟩ := hb x List.mem_cons_self s h
    obtain ⟨r, h3, h4⟩ := forF_nx J xs t h2 fun y hy => hb y (List.mem_cons_of_mem _ hy)
    refine ⟨r, ?_, h4⟩
    show (body s x).bind _ = _
    rw [h1]; exact h3
theorem enumM_get {α : Type} {xs : List α} {k : Nat} {p : Int × α} (h : (enumM xs)[k]? = some p) : ∃ x, xs[k]? = some x ∧ p = ((k : Int), x) := by
  unfold enumM at h
  rw [List.getElem?_mapIdx] at h
  cases e : xs[k]? with
  | none => rw [e] at h; cases h
  | some x => rw [e] at h; cases h; exact ⟨x, rfl, rfl⟩
theorem enumM_len {α : Type} (xs : List α) : (enumM xs).length = xs.length := by simp [enumM]
theorem rngL_len (a b : Int) : (rngL a b).length = (b - a).toNat := by simp [rngL]
theorem rngL_get {a b : Int} {k : Nat} {x : Int} (h : (rngL a b)[k]? = some x) : x = a + (k : Int) ∧ k < (b - a).toNat := by
  unfold rngL at h
  rw [List.getElem?_map] at h
  cases e : (List.range (b - a).toNat)[k]? with
  | none => rw [e] at h; cases h
  | some j =>
    rw [e] at h
    obtain ⟨h1, h2⟩ := List.getElem?_eq_some_iff.mp e
    rw [List.getElem_range] at h2
    cases h
    subst h2
    exact ⟨rfl, by simpa using h1⟩
/-- each thing below its size -/
inductive Bel : List Int → List Int → Prop
  | nil : Bel [] []
  | cons {x s : Int} {xs ss : List Int} : 0 ≤ x → x < s → Bel xs ss → Bel (x :: xs) (s :: ss)
theorem Bel.len : ∀ {xs ss : List Int}, Bel xs ss → xs.length = ss.length
  | _, _, .nil => rfl
  | _, _, .cons _ _ h => by rw [List.length_cons, List.length_cons, h.len]
theorem Bel.snoc : ∀ {xs ss : List Int} {x s : Int}, Bel xs ss → 0 ≤ x → x < s → Bel (xs ++ [x]) (ss ++ [s])
  | _, _, _, _, .nil, h1, h2 => .cons h1 h2 .nil
  | _, _, _, _, .cons a b h, h1, h2 => .cons a b (h.snoc h1 h2)
theorem Bel.get : ∀ {xs ss : List Int} {k : Nat} {s : Int}, Bel xs ss → ss[k]? = some s → ∃ x, xs[k]? = some x ∧ 0 ≤ x ∧ x < s
  | _, _, _, _, .nil, e => by simp at e
  | _, _, 0, _, .cons a b h, e => by simp at e; subst e; exact ⟨_, rfl, a, b⟩
  | _, _, k + 1, s, .cons a b h, e => by
    obtain ⟨x, h1, h2⟩ := h.get (k := k) (s := s) (by simpa using e)
    exact ⟨x, by simpa using h1, h2⟩
theorem Bel.at {xs ss : List Int} {k : Nat} {s : Int} (h : Bel xs ss) (e : ss[k]? = some s) : ∃ x, atI xs (k : Int) = some x ∧ 0 ≤ x ∧ x < s := by
  obtain ⟨x, h1, h2, h3⟩ := h.get e
  obtain ⟨hk, h4⟩ := List.getElem?_eq_some_iff.mp h1
  exact ⟨x, by rw [atI_nn xs k hk, h4], h2, h3⟩
theorem Bel.rep : ∀ {xs : List Int} {n : Nat} {s : Int}, Bel xs (List.replicate n s) → xs.length = n ∧ ∀ x ∈ xs, 0 ≤ x ∧ x < s
  | _, 0, _, h => by cases h; exact ⟨rfl, fun x hx => by cases hx⟩
  | _, n + 1, s, h => by
    rw [List.replicate_succ] at h
    cases h with
    | cons a b h =>
      obtain ⟨h1, h2⟩ := h.rep
      refine ⟨by rw [List.length_cons, h1], fun x hx => ?_⟩
      rcases List.mem_cons.mp hx with rfl | hx
      · exact ⟨a, b⟩
      · exact h2 x hx
theorem absI_nn (c : Int) : 0 ≤ absI c := by unfold absI; split <;> omega
end Bw

namespace Bw
open PySem L2
/-! what is told, and what is true of it -/
def Rt {α : Type} (o : Option α) (P : α → Prop) : Prop := ∃ x, o = some x ∧ P x
theorem Rt.mono {α : Type} {o : Option α} {P Q : α → Prop} (h : Rt o P) (k : ∀ x, P x → Q x) : Rt o Q := let ⟨x, h1, h2⟩ := h; ⟨x, h1, k x h2⟩
theorem Rt.mo {α : Type} {o : Option α} {P Q : α → Prop} (h : Rt o P) (k : ∀ x, o = some x → P x → Q x) : Rt o Q := let ⟨x, h1, h2⟩ := h; ⟨x, h1, k x h1 h2⟩
theorem Rt.eq {α : Type} {o : Option α} {y : α} (h : Rt o fun x => x = y) : o = some y := let ⟨x, h1, h2⟩ := h; h2 ▸ h1
theorem rt_of {α : Type} {o : Option α} {x : α} {P : α → Prop} (h : o = some x) (p : P x) : Rt o P := ⟨x, h, p⟩
theorem rt_some {α : Type} {x : α} {P : α → Prop} : Rt (some x) P ↔ P x := ⟨fun ⟨y, h1, h2⟩ => (Option.some.inj h1) ▸ h2, fun h => ⟨x, rfl, h⟩⟩
theorem rt_bind {α β : Type} {a : Option α} {f : α → Option β} {P : β → Prop} : Rt (a.bind f) P ↔ Rt a fun x => Rt (f x) P := by
  constructor
  · rintro ⟨y, h1, h2⟩
    obtain ⟨x, h3, h4⟩ := bnd h1
    exact ⟨x, h3, y, h4, h2⟩
  · rintro ⟨x, h3, y, h4, h2⟩
    exact ⟨y, by rw [h3]; exact h4, h2⟩
theorem rt_let {α β : Type} {x : α} {f : α → Option β} {P : β → Prop} : Rt (letM x f) P ↔ Rt (f x) P := Iff.rfl
theorem rt_ite {α : Type} {c : Prop} [Decidable c] {a b : Option α} {P : α → Prop} : Rt (if c then a else b) P ↔ (c → Rt a P) ∧ (¬ c → Rt b P) := by
  by_cases h : c
  · rw [if_pos h]; exact ⟨fun k => ⟨fun _ => k, fun z => absurd h z⟩, fun k => k.1 h⟩
  · rw [if_neg h]; exact ⟨fun k => ⟨fun z => absurd z h, fun _ => k⟩, fun k => k.2 h⟩
theorem rt_pos {α : Type} {c : Prop} [Decidable c] {a b : Option α} {P : α → Prop} (h : c) (k : Rt a P) : Rt (if c then a else b) P := by rw [if_pos h]; exact k
theorem rt_neg {α : Type} {c : Prop} [Decidable c] {a b : Option α} {P : α → Prop} (h : ¬ c) (k : Rt b P) : Rt (if c then a else b) P := by rw [if_neg h]; exact k
theorem rt_if {α : Type} {c : Prop} [Decidable c] {x : α} {P : Prop} [Decidable P] {Q : α → Prop} {o : Prop} (h : o) : o := h
theorem rt_g {α : Type} {p : Prop} [Decidable p] {x : α} {P : α → Prop} : Rt (if p then some x else none) P ↔ p ∧ P x := by
  by_cases h : p
  · rw [if_pos h, rt_some]; exact ⟨fun k => ⟨h, k⟩, fun k => k.2⟩
  · rw [if_neg h]; exact ⟨fun ⟨_, z, _⟩ => (nomatch z), fun k => absurd k.1 h⟩
theorem rt_app {α : Type} {xs : List α} {x : α} {P : List α → Prop} : Rt (appM xs x) P ↔ xs.length < 100000 ∧ P (xs ++ [x]) := by unfold appM; exact rt_g
theorem rt_cat {α : Type} {xs ys : List α} {P : List α → Prop} : Rt (catM xs ys) P ↔ xs.length + ys.length ≤ 100000 ∧ P (xs ++ ys) := by unfold catM; exact rt_g
theorem rt_mul {a b : Int} {P : Int → Prop} : Rt (mulM a b) P ↔ ((-(2 ^ 64) < a ∧ a < 2 ^ 64) ∨ (-(2 ^ 64) < b ∧ b < 2 ^ 64)) ∧ P (a * b) := by unfold mulM; exact rt_g
theorem rt_mod {a b : Int} {P : Int → Prop} : Rt (modM a b) P ↔ 0 < b ∧ P (a % b) := by unfold modM; exact rt_g
theorem rt_fdiv {a b : Int} {P : Int → Prop} : Rt (fdivM a b) P ↔ (0 < b ∧ b < 1073741824) ∧ P (a / b) := by unfold fdivM; exact rt_g
theorem rt_rng {a b : Int} {P : List Int → Prop} : Rt (rngM a b) P ↔ (-(2 ^ 62) ≤ a ∧ a < 2 ^ 62 ∧ -(2 ^ 62) ≤ b ∧ b < 2 ^ 62) ∧ P (rngL a b) := by unfold rngM; exact rt_g
theorem rt_scat {x y : Str} {P : Str → Prop} : Rt (scatM x y) P ↔ x.length + y.length ≤ 100000 ∧ P (x ++ y) := by unfold scatM; exact rt_g
theorem rt_lenS {x : Str} {P : Int → Prop} : Rt (lenS x) P ↔ x.length ≤ 100000 ∧ P (x.length : Int) := by unfold lenS; exact rt_g
theorem rt_str {x : Int} {P : Str → Prop} : Rt (strM x) P ↔ x.natAbs.log2 < 1920 ∧ P (toString x) := by unfold strM; exact rt_g
theorem rt_join {x : Str} {xs : List Str} {P : Str → Prop} : Rt (joinM x xs) P ↔ ((xs.map (·.length)).sum + x.length * xs.length) ≤ 100000 ∧ P (Txt.join x xs) := by unfold joinM; exact rt_g
theorem rt_mapC {α β : Type} {f : α → β} {xs : List α} {P : List β → Prop} : Rt (mapC f xs) P ↔ xs.length ≤ 100000 ∧ P (xs.map f) := by unfold mapC; exact rt_g
theorem rt_filC {α β : Type} {p : α → Bool} {f : α → β} {xs : List α} {P : List β → Prop} : Rt (filC p f xs) P ↔ xs.length ≤ 100000 ∧ P ((xs.filter p).map f) := by unfold filC; exact rt_g
theorem rt_lcC {α β : Type} {f : α → Option (Option β)} {xs : List α} {P : List β → Prop} : Rt (lcC f xs) P ↔ xs.length ≤ 100000 ∧ Rt (lcM f xs) P := by
  unfold lcC
  by_cases h : xs.length ≤ 100000
  · rw [if_pos h]; exact ⟨fun k => ⟨h, k⟩, fun k => k.2⟩
  · rw [if_neg h]; exact ⟨fun ⟨_, z, _⟩ => (nomatch z), fun k => absurd k.1 h⟩
theorem rt_rep {α : Type} {xs : List α} {k : Int} {P : List α → Prop} : Rt (repM xs k) P ↔ (-(2 ^ 63) ≤ k ∧ k < 2 ^ 63 ∧ xs.length * k.toNat ≤ 100000) ∧ P (List.replicate k.toNat xs).flatten := by unfold repM; exact rt_g
theorem rt_at {α : Type} {xs : List α} {i : Int} {P : α → Prop} (h0 : 0 ≤ i) (h : i < xs.length) (k : ∀ x, xs[i.toNat]? = some x → P x) : Rt (atI xs i) P := by
  obtain ⟨x, h1, h2⟩ := atI_int xs i h0 h
  exact ⟨x, h1, k x h2⟩
theorem rt_lc {α β : Type} {f : α → Option (Option β)} {R : α → β → Prop} : ∀ {xs : List α} {P : List β → Prop}, (∀ x ∈ xs, Rt (f x) fun o => ∃ y, o = some y ∧ R x y) → (∀ ys : List β, ys.length = xs.length → (∀ (i : Nat) x y, xs[i]? = some x → ys[i]? = some y → R x y) → P ys) → Rt (lcM f xs) P
  | [], P, _, k => ⟨[], rfl, k [] rfl fun i x y h => by simp at h⟩
  | x :: xs, P, h, k => by
    obtain ⟨o, h1, y, rfl, h2⟩ := h x List.mem_cons_self
    obtain ⟨ys, h3, h4, h5⟩ := rt_lc (xs := xs) (P := fun ys => ys.length = xs.length ∧ ∀ (i : Nat) x y, xs[i]? = some x → ys[i]? = some y → R x y) (fun z hz => h z (List.mem_cons_of_mem _ hz)) fun ys a b => ⟨a, b⟩
    refine ⟨y :: ys, ?_, k _ (by simp [h4]) fun i x' y' hx hy => ?_⟩
    · show (f x).bind _ = _
      rw [h1]
      show (lcM f xs).bind _ = _
      rw [h3]; rfl
    · cases i with
      | zero => simp at hx hy; subst hx; subst hy; exact h2
      | succ i => exact h5 i x' y' (by simpa using hx) (by simpa using hy)
/-- a loop by what it keeps: the turns so far -/
theorem rt_fold {α S : Type} {body : S → α → Option S} {xs : List α} {s : S} {P : S → Prop} (J : Nat → S → Prop) (h0 : J 0 s) (hb : ∀ (k : Nat) x s, xs[k]? = some x → J k s → Rt (body s x) (J (k + 1))) (hd : ∀ s, J xs.length s → P s) : Rt (xs.foldlM body s) P := by
  obtain ⟨r, h1, h2⟩ := foldlM_inv (body := body) J xs 0 s h0 fun k x t hx ht => by
    rw [Nat.zero_add] at ht ⊢
    exact hb k x t hx ht
  exact ⟨r, h1, hd r (by rwa [Nat.zero_add] at h2)⟩
/-- a loop that goes through -/
theorem rt_for {α S R : Type} {body : S → α → Option (Fl S R)} {xs : List α} {s : S} {P : Fl S R → Prop} (J : S → Prop) (h0 : J s) (hb : ∀ x ∈ xs, ∀ s, J s → Rt (body s x) fun f => ∃ t, f = .nx t ∧ J t) (hd : ∀ s, J s → P (.nx s)) : Rt (forF body xs s) P := by
  obtain ⟨r, h1, h2⟩ := forF_nx (body := body) J xs s h0 fun x hx t ht => by
    obtain ⟨f, h1, u, rfl, h2⟩ := hb x hx t ht
    exact ⟨u, h1, h2⟩
  exact ⟨_, h1, hd r h2⟩
end Bw

namespace Bw
open PySem L2 TL
/-! good stores -/
abbrev Bx := Str × Int × Int
abbrev Sto := List Int × List Int × Int × List Bx
theorem popM_ok {α : Type} {xs : List α} (i : Nat) (h : i < xs.length) (hl : xs.length < 1000000) : popM xs (i : Int) = some (xs[i], xs.eraseIdx i) := by
  unfold popM
  rw [if_pos ⟨by omega, by omega⟩]
  have e : seqIndex? (i : Int) xs.length = some i := by
    unfold seqIndex?
    have h0 : ¬ ((i : Int) < 0) := by omega
    simp only [if_neg h0, Int.toNat_natCast]
    rw [if_pos]
    simp; omega
  rw [bo e, List.getElem?_eq_getElem h]
  rfl
theorem erase_perm {α : Type} : ∀ (xs : List α) (i : Nat) (h : i < xs.length), xs.Perm (xs[i] :: xs.eraseIdx i)
  | x :: xs, 0, _ => .refl _
  | x :: xs, i + 1, h => by
    have h' : i < xs.length := by simpa using h
    exact ((erase_perm xs i h').cons x).trans (.swap _ _ _)
theorem remM_ok {xs : List Int} {x : Int} (h : x ∈ xs) : remM xs x = some (xs.erase x) := by
  unfold remM inL
  rw [if_pos]
  exact List.any_eq_true.mpr ⟨x, h, by simp⟩
theorem fold_arr (c : Nat) : ∀ (n : Nat) (a : Array Nat), ((List.replicate n #[c]).foldl (· ++ ·) a).toList = a.toList ++ List.replicate n c
  | 0, a => by simp
  | n + 1, a => by
    rw [List.replicate_succ, List.foldl_cons, fold_arr c n, List.replicate_succ]
    simp
theorem tl_mul1 (x : Str) (c : Nat) (hx : tl x = [c]) (n : Int) : tl (Txt.mul x n) = List.replicate n.toNat c := by
  have e : x = ⟨#[c]⟩ := ext_tl hx
  subst e
  unfold Txt.mul
  split
  · rename_i h
    have : n.toNat = 0 := by omega
    rw [this]; rfl
  · split
    · rename_i h1 h2
      simp [Str.length] at h2
      subst h2
      rfl
    · show ((List.replicate n.toNat #[c]).foldl (· ++ ·) #[]).toList = _
      rw [fold_arr]; rfl
theorem srepM_ok (x : Str) (c : Nat) (hx : tl x = [c]) (n : Int) (h0 : 0 ≤ n) (h : n ≤ 100) : srepM x n = some ⟨(List.replicate n.toNat c).toArray⟩ := by
  unfold srepM
  have hl : x.length = 1 := by rw [len_tl, hx]; rfl
  rw [if_pos ⟨by omega, by omega, by rw [hl]; omega⟩]
  exact congrArg some (ext_tl (by rw [tl_mul1 x c hx]))
theorem scatM_ok (x y : Str) (h : (tl x).length + (tl y).length ≤ 100000) : scatM x y = some ⟨(tl x ++ tl y).toArray⟩ := by
  unfold scatM
  rw [len_tl, len_tl, if_pos h]
  exact congrArg some (ext_tl (by rw [tl_append]))
abbrev abc : Str := "abcdefghijklmnopqrstuvwxyz"
theorem abc_ix : ∀ i : Fin 26, ixS abc ((i.val : Nat) : Int) = some ⟨#[97 + i.val]⟩ := by decide +kernel
theorem abc_at (i : Int) (h0 : 0 ≤ i) (h : i < 26) : ixS abc i = some ⟨#[97 + i.toNat]⟩ := by
  have := abc_ix ⟨i.toNat, by omega⟩
  simp only at this
  rw [← this]
  congr 1
  omega
def NmOk (s : Str) : Prop := 1 ≤ (tl s).length ∧ (tl s).length ≤ 8 ∧ ∀ c ∈ tl s, 97 ≤ c ∧ c ≤ 122
structure BxOk (rooms : List Int) (bs : List Bx) : Prop where
  len : bs.length ≤ 60
  nm : ∀ x ∈ bs, NmOk x.1
  nd : (bs.map (·.1)).Nodup
  ba : ∀ x ∈ bs, 0 ≤ x.2.1 ∧ x.2.1 < rooms.length
  bt : ∀ x ∈ bs, 0 ≤ x.2.2 ∧ x.2.2 < rooms.length
  ra : ∀ (b : Nat) (r : Int), rooms[b]? = some r → (bs.countP fun x => decide (x.2.1 = (b : Int))) ≤ r.toNat
  rt : ∀ (b : Nat) (r : Int), rooms[b]? = some r → (bs.countP fun x => decide (x.2.2 = (b : Int))) ≤ r.toNat
structure SOk (s : Sto) : Prop where
  n2 : 2 ≤ s.1.length
  n16 : s.1.length ≤ 16
  rm : ∀ r ∈ s.1, 1 ≤ r ∧ r ≤ 40
  gl : s.2.1.length + 1 = s.1.length
  gm : ∀ g ∈ s.2.1, 1 ≤ g ∧ g ≤ 1000000000
  mo : 1 ≤ s.2.2.1 ∧ s.2.2.1 ≤ 20
  bx : BxOk s.1 s.2.2.2
/-! equal to its copy -/
def Shp (n : Nat) (d : PyData) : Prop := d.canLay0 = true ∧ d.depth ≤ n
theorem Shp.mono {n m : Nat} {d : PyData} (h : Shp n d) (hm : n ≤ m) : Shp m d := ⟨h.1, Nat.le_trans h.2 hm⟩
theorem shp_int (i : Int) : Shp 0 (.int i) := ⟨rfl, Nat.le_refl _⟩
theorem shp_all {n : Nat} : ∀ {xs : List PyData}, (∀ x ∈ xs, Shp n x) → PyData.canLayAll0 xs = true ∧ PyData.depthAll xs ≤ n
  | [], _ => ⟨rfl, Nat.zero_le _⟩
  | x :: xs, h => by
    obtain ⟨a, b⟩ := shp_all fun y hy => h y (List.mem_cons_of_mem _ hy)
    obtain ⟨c, d⟩ := h x List.mem_cons_self
    unfold PyData.canLayAll0 PyData.depthAll
    rw [a, c]
    exact ⟨rfl, Nat.max_le.mpr ⟨d, b⟩⟩
theorem shp_list {n : Nat} {xs : List PyData} (h : ∀ x ∈ xs, Shp n x) : Shp (n + 1) (.list xs) := by
  obtain ⟨a, b⟩ := shp_all h
  exact ⟨by unfold PyData.canLay0; exact a, by unfold PyData.depth; omega⟩
theorem shp_tup {n : Nat} {xs : List PyData} (h : ∀ x ∈ xs, Shp n x) : Shp (n + 1) (.tuple xs) := by
  obtain ⟨a, b⟩ := shp_all h
  exact ⟨by unfold PyData.canLay0; exact a, by unfold PyData.depth; omega⟩
theorem shp_str {s : Str} (h : ∀ c ∈ tl s, c < 0x110000) : Shp 0 (.str s) := by
  refine ⟨?_, Nat.le_refl _⟩
  unfold PyData.canLay0 PyData.strOk
  rw [Array.all_eq_true']
  intro c hc
  exact decide_eq_true (h c (Array.mem_def.mp hc))
theorem shp_ints (xs : List Int) : Shp 1 (eL eI xs) := shp_list fun x hx => by
  obtain ⟨i, _, rfl⟩ := List.mem_map.mp hx
  exact shp_int i
theorem shp_box {x : Bx} (h : NmOk x.1) : Shp 1 (eT3 eS eI eI x) := shp_tup fun y hy => by
  have hs : Shp 0 (eS x.1) := shp_str fun c hc => by have := h.2.2 c hc; omega
  simp only [List.mem_cons, List.not_mem_nil, or_false] at hy
  rcases hy with rfl | rfl | rfl
  · exact hs
  · exact shp_int _
  · exact shp_int _
theorem shp_boxes {bs : List Bx} (h : ∀ x ∈ bs, NmOk x.1) : Shp 2 (eL (eT3 eS eI eI) bs) := shp_list fun x hx => by
  obtain ⟨y, hy, rfl⟩ := List.mem_map.mp hx
  exact shp_box (h y hy)
theorem shp_store {s : Sto} (h : SOk s) : Shp 3 (eT4 (eL eI) (eL eI) eI (eL (eT3 eS eI eI)) s) := shp_tup fun y hy => by
  simp only [List.mem_cons, List.not_mem_nil, or_false] at hy
  rcases hy with rfl | rfl | rfl | rfl
  · exact (shp_ints _).mono (by decide)
  · exact (shp_ints _).mono (by decide)
  · exact (shp_int _).mono (by decide)
  · exact shp_boxes h.bx.nm
theorem Shp.ok {n : Nat} {d : PyData} (h : Shp n d) (hn : n ≤ 64) : SeqAt.shaped d = true := by
  unfold SeqAt.shaped
  rw [h.1, decide_eq_true (Nat.le_trans h.2 hn)]; rfl
theorem eqT_self {α : Type} [DecidableEq α] {e : α → PyData} {x : α} {n : Nat} (h : Shp n (e x)) (hn : n ≤ 64) : eqTM e x x = some true := by
  unfold eqTM
  rw [if_pos ⟨h.ok hn, h.ok hn⟩, decide_eq_true rfl]
theorem setM_ok {α : Type} {xs : List α} {i : Int} (x : α) (h0 : 0 ≤ i) (h : i < xs.length) : setM xs i x = some (xs.set i.toNat x) := by
  unfold setM ixN
  rw [if_pos h0, if_pos h]
  rfl
theorem cut_take {α : Type} (xs : List α) (i : Int) (h0 : 0 ≤ i) : cutL xs none (some i) = xs.take i.toNat := by
  obtain ⟨k, rfl⟩ : ∃ k : Nat, i = k := ⟨i.toNat, by omega⟩
  unfold cutL
  rw [HT.sIx_none, HT.sIx_nat, Int.toNat_natCast, List.drop_zero, Nat.sub_zero]
  by_cases h : k ≤ xs.length
  · rw [Nat.min_eq_left h]
  · rw [Nat.min_eq_right (by omega), List.take_of_length_le (Nat.le_refl _), List.take_of_length_le (by omega)]
theorem bx_take {rooms : List Int} {bs : List Bx} (h : BxOk rooms bs) (n : Nat) : BxOk rooms (bs.take n) := by
  have sub := List.take_sublist n bs
  refine ⟨Nat.le_trans sub.length_le h.len, fun x hx => h.nm x (sub.mem hx), h.nd.sublist (sub.map _), fun x hx => h.ba x (sub.mem hx), fun x hx => h.bt x (sub.mem hx), fun b r e => Nat.le_trans (sub.countP_le) (h.ra b r e), fun b r e => Nat.le_trans (sub.countP_le) (h.rt b r e)⟩
theorem bx_room {rooms rooms' : List Int} {bs : List Bx} (h : BxOk rooms bs) (hl : rooms'.length = rooms.length) (hg : ∀ (b : Nat) (r' : Int), rooms'[b]? = some r' → ∃ r, rooms[b]? = some r ∧ r ≤ r') : BxOk rooms' bs := by
  refine ⟨h.len, h.nm, h.nd, by rw [hl]; exact h.ba, by rw [hl]; exact h.bt, fun b r' e => ?_, fun b r' e => ?_⟩
  · obtain ⟨r, e1, e2⟩ := hg b r' e
    have := h.ra b r e1; omega
  · obtain ⟨r, e1, e2⟩ := hg b r' e
    have := h.rt b r e1; omega
end Bw

namespace Bw
open PySem L2 TL
/-! a good store is looked at and nothing is said -/
theorem whole_ok (x : Int) : f_is_whole x = some true := rfl
theorem within_eq (x a b : Int) : f_is_within (x, a, b) = some (decide (a ≤ x) && decide (x ≤ b)) := by
  unfold f_is_within
  dsimp only
  rw [bo (whole_ok x), Bool.true_and]
theorem within_ok {x a b : Int} (h1 : a ≤ x) (h2 : x ≤ b) : f_is_within (x, a, b) = some true := by rw [within_eq, decide_eq_true h1, decide_eq_true h2]; rfl
theorem all_id : ∀ {α : Type} (xs : List α), (xs.map fun _ => true).all id = true
  | _, [] => rfl
  | _, _ :: xs => by rw [List.map_cons, List.all_cons, all_id xs]; rfl
theorem inS_abc {c : Nat} (h1 : 97 ≤ c) (h2 : c ≤ 122) : inS ⟨#[c]⟩ "abcdefghijklmnopqrstuvwxyz" = true := by
  have h : ∀ i : Fin 26, 97 + i.val ∈ tl ("abcdefghijklmnopqrstuvwxyz" : Str) := by decide +kernel
  unfold inS
  rw [PySem.StrLaws.found_one, decide_eq_true_eq]
  have := h ⟨c - 97, by omega⟩
  have e : 97 + (c - 97) = c := by omega
  simpa [e] using this
theorem is_name_ok {s : Str} (h : NmOk s) : f_is_name s = some true := by
  obtain ⟨h1, h2, h3⟩ := h
  unfold f_is_name
  have hl : lenS s = some ((tl s).length : Int) := by unfold lenS; rw [len_tl, if_pos (by omega)]
  have e : mapC (fun sign_20 => inS sign_20 ("abcdefghijklmnopqrstuvwxyz" : Str)) (signs s) = some ((signs s).map fun _ => true) := by
    rw [mapC_ok (by simp [signs]; have := len_tl s; simp [tl, Str.length] at *; omega)]
    refine congrArg some (List.map_congr_left fun x hx => ?_)
    obtain ⟨c, hc, rfl⟩ := List.mem_map.mp hx
    exact inS_abc (h3 c hc).1 (h3 c hc).2
  rw [if_neg (by decide), bo hl]
  have g : (!(decide ((1 : Int) ≤ ((tl s).length : Int)) && decide (((tl s).length : Int) ≤ 8))) = false := by
    rw [decide_eq_true (by omega), decide_eq_true (by omega)]; rfl
  rw [g, bo rfl, if_neg (by decide), bo e, all_id]
end Bw

namespace Bw
open PySem L2 TL
/-! a good store is looked at and nothing is said -/
theorem are_within_ok {xs : List Int} {a b : Int} (hl : xs.length ≤ 1000) (h : ∀ x ∈ xs, a ≤ x ∧ x ≤ b) : f_are_within (xs, a, b) = some true := by
  unfold f_are_within
  dsimp only
  have e : lcC (fun one_4 => (f_is_within (one_4, a, b)).bind fun x15 => some (some x15)) xs = some (xs.map fun _ => true) := by
    rw [lcC_ok (by omega)]
    exact lcM_all fun x hx => by rw [bo (within_ok (h x hx).1 (h x hx).2)]
  rw [if_pos rfl, bo e, all_id, bo rfl]
theorem is_box_ok {x : Bx} {n : Int} (h : NmOk x.1) (ha : 0 ≤ x.2.1 ∧ x.2.1 < n) (ht : 0 ≤ x.2.2 ∧ x.2.2 < n) : f_is_box (x, n) = some true := by
  unfold f_is_box
  dsimp only
  rw [if_neg (by decide), if_neg (by decide), bo (is_name_ok h)]
  rw [show ((some (!true)).bind fun x5 => some x5) = some false from rfl, bo rfl, if_neg (by decide), bo (within_ok ha.1 (by omega)), if_pos rfl, bo (within_ok ht.1 (by omega)), bo rfl]
theorem dups_nodup : ∀ (xs acc : List Str), (∀ x ∈ xs, x ∉ acc) → xs.Nodup → (dups acc xs).length = acc.length + xs.length
  | [], acc, _, _ => rfl
  | x :: xs, acc, h, hn => by
    have h1 : acc.any (· == x) = false := by
      rw [List.any_eq_false]
      intro y hy e
      have : y = x := by simpa using e
      exact h x List.mem_cons_self (this ▸ hy)
    unfold dups
    rw [h1]
    obtain ⟨n1, n2⟩ := List.nodup_cons.mp hn
    show (dups (acc ++ [x]) xs).length = _
    rw [dups_nodup xs (acc ++ [x]) (fun y hy hm => by
      rcases List.mem_append.mp hm with hm | hm
      · exact h y (List.mem_cons_of_mem _ hy) hm
      · have := List.mem_singleton.mp hm; subst this; exact n1 hy) n2]
    simp only [List.length_append, List.length_cons, List.length_nil]
    omega
theorem names_twice_ok {bs : List Bx} (hl : bs.length ≤ 60) (hn : (bs.map (·.1)).Nodup) : f_has_names_twice bs = some false := by
  unfold f_has_names_twice
  have e : setLenM (bs.map fun b => b.1) = some (bs.length : Int) := by
    unfold setLenM
    rw [if_pos (by rw [List.length_map]; omega), dups_nodup _ _ (fun _ _ h => by cases h) hn, List.length_map, List.length_nil, Nat.zero_add]
  rw [bo (mapC_ok (by omega)), bo e, decide_eq_true rfl]
  rfl
theorem eqD_int (a b : Int) : eqDM (.int a) (.int b) = some (decide (a = b)) := by
  unfold eqDM
  rw [if_pos ⟨rfl, rfl⟩]
  refine congrArg some ?_
  show (a == b) = decide (a = b)
  rfl
theorem has_room_ok {rooms : List Int} {bs : List Bx} {place : Int} {g : Bx → Int} (hl : bs.length ≤ 60) (hg : ∀ x : Bx, atI [eS x.1, eI x.2.1, eI x.2.2] place = some (eI (g x))) (h : ∀ (b : Nat) (r : Int), rooms[b]? = some r → 0 ≤ r ∧ (bs.countP fun x => decide (g x = (b : Int))) ≤ r.toNat) : f_has_room (rooms, bs, place) = some true := by
  unfold f_has_room
  dsimp only
  obtain ⟨r, e, _⟩ := forF_nx (body := f_has_room_b4 bs place) (fun _ => True) (enumM rooms) () trivial (by
    intro x hx s _
    obtain ⟨k, hk⟩ := List.mem_iff_getElem?.mp hx
    obtain ⟨room, hr, rfl⟩ := enumM_get hk
    obtain ⟨h0, h1⟩ := h k room hr
    unfold f_has_room_b4
    dsimp only
    have e : lcC (fun (box_35 : Bx) => (((atI [eS box_35.1, eI box_35.2.1, eI box_35.2.2] place)).bind fun x46 => ((eqDM x46 (eI (k : Int)))).bind fun x48 => if (x48) = true then (some (some box_35)) else some none)) bs = some ((bs.filter fun x => decide (g x = (k : Int))).map fun x => x) := by
      rw [lcC_ok (by omega)]
      refine lcM_fil fun x hx => ?_
      rw [bo (hg x), bo (eqD_int _ _)]
      split <;> rfl
    rw [bo e, if_neg]
    · exact ⟨(), rfl, trivial⟩
    · rw [List.map_id', ← List.countP_eq_length_filter, decide_eq_true_eq]
      omega)
  rw [bo e]
theorem are_boxes_ok {rooms : List Int} {bs : List Bx} (hr : ∀ r ∈ rooms, 1 ≤ r ∧ r ≤ 40) (h : BxOk rooms bs) : f_are_boxes (rooms, bs) = some true := by
  unfold f_are_boxes
  dsimp only
  have hl := h.len
  have e : lcC (fun (one_17 : Bx) => (((f_is_box (one_17, (rooms.length : Int)))).bind fun x28 => some (some x28))) bs = some (bs.map fun _ => true) := by
    rw [lcC_ok (by omega)]
    exact lcM_all fun x hx => by rw [bo (is_box_ok (h.nm x hx) (h.ba x hx) (h.bt x hx))]
  have g1 : ((!true) || decide ((60 : Int) < (bs.length : Int))) = false := by rw [decide_eq_false (by omega)]; rfl
  have pos : ∀ (b : Nat) (r : Int), rooms[b]? = some r → 0 ≤ r := fun b r e => by have := hr r (List.mem_of_getElem? e); omega
  rw [g1, if_neg (by decide), bo e, all_id, if_neg (by decide), bo (names_twice_ok hl h.nd), bo rfl, if_neg (by decide)]
  rw [bo (has_room_ok (g := fun x => x.2.1) hl (fun _ => rfl) fun b r e => ⟨pos b r e, h.ra b r e⟩), if_pos rfl, bo (has_room_ok (g := fun x => x.2.2) hl (fun _ => rfl) fun b r e => ⟨pos b r e, h.rt b r e⟩), bo rfl]
end Bw

namespace Bw
open PySem L2 TL
theorem look_ok {s : Sto} (h : SOk s) : f_look_at_store s = some () := by
  obtain ⟨rooms, gaps, most, bs⟩ := s
  obtain ⟨h1, h2, h3, h4, h5, h6, h7⟩ := h
  dsimp only at h1 h2 h3 h4 h5 h6 h7
  unfold f_look_at_store
  dsimp only
  rw [if_neg (by decide)]
  simp only [letM_eq]
  rw [bo (are_within_ok (by omega) h3)]
  rw [show ((!true) || !(decide ((2 : Int) ≤ (rooms.length : Int)) && decide ((rooms.length : Int) ≤ 16))) = false by rw [decide_eq_true (by omega), decide_eq_true (by omega)]; rfl]
  rw [if_neg (by decide), bo (are_within_ok (by omega) h5)]
  rw [show ((!true) || !decide ((gaps.length : Int) = (rooms.length : Int) - 1)) = false by rw [decide_eq_true (by omega)]; rfl]
  rw [if_neg (by decide), bo (within_ok h6.1 h6.2), if_neg (by decide), bo (are_boxes_ok h3 h7), if_neg (by decide)]
end Bw

namespace Bw
open PySem L2 TL
theorem cell_ok (s : List Int) (k : Int) (h : 0 ≤ k) : ∃ c, f_cell (s, k) = some c := by
  unfold f_cell
  dsimp only
  by_cases q : k < (s.length : Int)
  · rw [if_pos (decide_eq_true q)]
    obtain ⟨x, h1, _⟩ := atI_int s k h q
    rw [h1]
    exact ⟨x, rfl⟩
  · rw [if_neg (by simpa using q)]
    exact ⟨0, rfl⟩
end Bw

namespace Bw
open PySem L2 TL
/-! the law's draws from a source -/
def Src2 (s : List Int) : Prop := ∃ a b : Int, s = [a, b] ∧ 0 ≤ b ∧ b < 2147483647
theorem source_ok (c k : Int) : ∃ s, f_source (c, k) = some s ∧ Src2 s := by
  unfold f_source
  dsimp only
  rw [letM_eq, letM_eq]
  have hb : -(2 ^ 64) < b2I (decide ((1000000000000000000 : Int) ≤ absI c)) ∧ b2I (decide ((1000000000000000000 : Int) ≤ absI c)) < 2 ^ 64 := by unfold b2I; split <;> omega
  have e : mulM (absI c) (b2I (decide ((1000000000000000000 : Int) ≤ absI c))) = some (absI c * b2I (decide ((1000000000000000000 : Int) ≤ absI c))) := by
    unfold mulM; rw [if_pos (.inr hb)]
  rw [bo e]
  exact ⟨_, rfl, _, _, rfl, Int.emod_nonneg _ (by decide), Int.emod_lt_of_pos _ (by decide)⟩
theorem at0 (a b : Int) : atI [a, b] 0 = some a := rfl
theorem at1 (a b : Int) : atI [a, b] 1 = some b := rfl
theorem set0 (a b x : Int) : setM [a, b] 0 x = some [x, b] := rfl
theorem set1 (a b x : Int) : setM [a, b] 1 x = some [a, x] := rfl
theorem draw_ok {s : List Int} (h : Src2 s) (m : Int) (hm : 0 < m) (hm2 : m < 1073741824) : ∃ x s', f_draw (s, m) = some (x, s') ∧ 0 ≤ x ∧ x < m ∧ Src2 s' := by
  obtain ⟨a, b, rfl, hb, hb2⟩ := h
  unfold f_draw
  dsimp only
  rw [bo (at0 a b)]
  by_cases q : (0 : Int) < a
  · rw [if_pos (decide_eq_true q), bo (at0 a b), bo (modM_ok hm), bo (at0 a b), bo (fdivM_ok hm hm2), bo (set0 a b _)]
    exact ⟨_, _, rfl, Int.emod_nonneg _ (by omega), Int.emod_lt_of_pos _ hm, _, _, rfl, hb, hb2⟩
  · rw [if_neg (by simpa using q), bo (at1 a b), bo (set1 a b _), bo (at1 a _), bo (at1 a _)]
    have h1 := Int.emod_nonneg (b * 48271 + 11) (show (2147483647 : Int) ≠ 0 by decide)
    have h2 := Int.emod_lt_of_pos (b * 48271 + 11) (show (0 : Int) < 2147483647 by decide)
    generalize (b * 48271 + 11) % 2147483647 = c at h1 h2 ⊢
    rw [bo (mulM_ok (by omega) (by omega)), bo (modM_ok hm)]
    exact ⟨_, _, rfl, Int.emod_nonneg _ (by omega), Int.emod_lt_of_pos _ hm, _, _, rfl, h1, h2⟩
/-- a list of draws, each one more -/
theorem draws_lc (m : Int) (hm : 0 < m) (hm2 : m < 1073741824) : ∀ (xs : List Int) (s : List Int), Src2 s → ∃ s' ys, lcS (fun (z : List Int) (_ : Int) => (f_draw (z, m)).bind fun (x, z') => some (z', some (1 + x))) s xs = some (s', ys) ∧ Src2 s' ∧ ys.length = xs.length ∧ ∀ y ∈ ys, 1 ≤ y ∧ y ≤ m
  | [], s, h => ⟨s, [], rfl, h, rfl, fun y hy => by cases hy⟩
  | x :: xs, s, h => by
    obtain ⟨d, s1, e1, d0, d1, h1⟩ := draw_ok h m hm hm2
    obtain ⟨s2, ys, e2, h2, l2, b2⟩ := draws_lc m hm hm2 xs s1 h1
    refine ⟨s2, (1 + d) :: ys, ?_, h2, by rw [List.length_cons, List.length_cons, l2], fun y hy => ?_⟩
    · unfold lcS
      rw [bo e1]
      dsimp only
      rw [bo rfl]
      dsimp only
      rw [bo e2]
    · rcases List.mem_cons.mp hy with rfl | hy
      · omega
      · exact b2 y hy
theorem draws_lcC (m : Int) (hm : 0 < m) (hm2 : m < 1073741824) (xs s : List Int) (h : Src2 s) (hl : xs.length ≤ 1000) : ∃ s' ys, lcSC (fun (z : List Int) (_ : Int) => (f_draw (z, m)).bind fun (x, z') => some (z', some (1 + x))) s xs = some (s', ys) ∧ Src2 s' ∧ ys.length = xs.length ∧ ∀ y ∈ ys, 1 ≤ y ∧ y ≤ m := by
  obtain ⟨s', ys, e, r⟩ := draws_lc m hm hm2 xs s h
  exact ⟨s', ys, by unfold lcSC; rw [if_pos (by omega)]; exact e, r⟩
end Bw

namespace Bw
open PySem L2 TL
/-! the second family's names: front, letter, letter, tail -/
def nq (s k : Int) : List Nat :=
  if s / 26 % 4 = 0 ∧ k < 26 then [97 + ((s + 7 * k) % 26).toNat]
  else if s / 26 % 4 = 1 then (if k % 3 = 0 then [97 + ((s + 7 * (k / 3)) % 26).toNat] else if k % 3 = 1 then [113, 97 + ((s + 7 * (k / 3)) % 26).toNat] else [97 + ((s + 7 * (k / 3)) % 26).toNat, 110, 113])
  else List.replicate (s / 104 % 4).toNat 110 ++ ([97 + (k / 26).toNat, 97 + ((s + 7 * k) % 26).toNat] ++ List.replicate (s / 416 * (k + 1) % 4).toNat 113)
theorem t_q : tl ("q" : Str) = [113] := by decide
theorem t_nq : tl ("nq" : Str) = [110, 113] := by decide
theorem at3_0 {α : Type} (a b c : α) : atI [a, b, c] 0 = some a := rfl
theorem at3_1 {α : Type} (a b c : α) : atI [a, b, c] 1 = some b := rfl
theorem at3_2 {α : Type} (a b c : α) : atI [a, b, c] 2 = some c := rfl
theorem name_ok (s k : Int) (hs : 0 ≤ s) (hs2 : s < 1664) (hk : 0 ≤ k) (hk2 : k < 60) : ∃ x, f_name (s, k) = some x ∧ tl x = nq s k := by
  have i1 : 0 ≤ (s + 7 * k) % 26 ∧ (s + 7 * k) % 26 < 26 := by omega
  have i2 : 0 ≤ (s + 7 * (k / 3)) % 26 ∧ (s + 7 * (k / 3)) % 26 < 26 := by omega
  have i3 : 0 ≤ k / 26 ∧ k / 26 < 26 := by omega
  unfold f_name nq
  dsimp only
  rw [letM_eq, bo (abc_at _ i1.1 i1.2)]
  by_cases c1 : s / 26 % 4 = 0 ∧ k < 26
  · rw [if_pos (by simpa using c1), if_pos c1]
    exact ⟨_, rfl, rfl⟩
  · rw [if_neg (by simpa using c1), if_neg c1]
    by_cases c2 : s / 26 % 4 = 1
    · rw [if_pos (decide_eq_true c2), if_pos c2, bo (abc_at _ i2.1 i2.2), bo (scatM_ok _ _ (by rw [t_q]; simp [tl])), bo (scatM_ok _ _ (by rw [t_nq]; simp [tl])), t_q, t_nq]
      have h3 : k % 3 = 0 ∨ k % 3 = 1 ∨ k % 3 = 2 := by omega
      rcases h3 with h | h | h
      · rw [h, if_pos rfl, bo (at3_0 _ _ _)]; exact ⟨_, rfl, rfl⟩
      · rw [h, if_neg (by decide), if_pos rfl, bo (at3_1 _ _ _)]; exact ⟨_, rfl, rfl⟩
      · rw [h, if_neg (by decide), if_neg (by decide), bo (at3_2 _ _ _)]; exact ⟨_, rfl, rfl⟩
    · rw [if_neg (by simpa using c2), if_neg c2]
      have j1 : 0 ≤ s / 104 % 4 ∧ s / 104 % 4 < 4 := by omega
      have j2 : -(2 ^ 64) < s / 416 ∧ s / 416 < 2 ^ 64 := by omega
      have j3 : 0 ≤ s / 416 * (k + 1) % 4 ∧ s / 416 * (k + 1) % 4 < 4 := ⟨Int.emod_nonneg _ (by decide), Int.emod_lt_of_pos _ (by decide)⟩
      rw [bo (srepM_ok "n" 110 (by decide) _ j1.1 (by omega)), bo (abc_at _ i3.1 i3.2), bo (scatM_ok _ _ (by simp [tl]; omega)), bo (scatM_ok _ _ (by simp [tl]; omega)), bo (mulM_ok j2.1 j2.2), bo (srepM_ok "q" 113 (by decide) _ j3.1 (by omega)), bo (scatM_ok _ _ (by simp [tl]; omega))]
      refine ⟨_, rfl, ?_⟩
      simp [tl]
theorem nq_ok (s k : Int) (hs : 0 ≤ s) (hs2 : s < 1664) (hk : 0 ≤ k) (hk2 : k < 60) : 1 ≤ (nq s k).length ∧ (nq s k).length ≤ 8 ∧ ∀ c ∈ nq s k, 97 ≤ c ∧ c ≤ 122 := by
  have j3 : 0 ≤ s / 416 * (k + 1) % 4 ∧ s / 416 * (k + 1) % 4 < 4 := ⟨Int.emod_nonneg _ (by decide), Int.emod_lt_of_pos _ (by decide)⟩
  unfold nq
  split
  · refine ⟨by simp, by simp, fun c hc => ?_⟩
    simp only [List.mem_cons, List.not_mem_nil, or_false] at hc; omega
  · split
    · split
      · refine ⟨by simp, by simp, fun c hc => ?_⟩
        simp only [List.mem_cons, List.not_mem_nil, or_false] at hc; omega
      · split
        · refine ⟨by simp, by simp, fun c hc => ?_⟩
          simp only [List.mem_cons, List.not_mem_nil, or_false] at hc; omega
        · refine ⟨by simp, by simp, fun c hc => ?_⟩
          simp only [List.mem_cons, List.not_mem_nil, or_false] at hc; omega
    · refine ⟨by simp; omega, by simp; omega, fun c hc => ?_⟩
      simp only [List.mem_append, List.mem_replicate, List.mem_cons, List.not_mem_nil, or_false] at hc; omega
theorem nq_ne (s i j : Int) (hi : 0 ≤ i) (hij : i < j) (hj : j < 60) : nq s i ≠ nq s j := by
  have j3 : ∀ k : Int, 0 ≤ s / 416 * (k + 1) % 4 ∧ s / 416 * (k + 1) % 4 < 4 := fun k => ⟨Int.emod_nonneg _ (by decide), Int.emod_lt_of_pos _ (by decide)⟩
  intro e
  by_cases c2 : s / 26 % 4 = 1
  · have n0 : ∀ k : Int, ¬ (s / 26 % 4 = 0 ∧ k < 26) := fun k h => by omega
    have el := congrArg List.length e
    unfold nq at e el
    rw [if_neg (n0 i), if_neg (n0 j), if_pos c2] at e el
    rw [if_pos c2] at e el
    have h3 : ∀ k : Int, k % 3 = 0 ∨ k % 3 = 1 ∨ k % 3 = 2 := fun k => by omega
    rcases h3 i with a | a | a <;> rcases h3 j with b | b | b <;> simp [a, b] at e el <;> omega
  · by_cases ci : s / 26 % 4 = 0 ∧ i < 26
    · by_cases cj : s / 26 % 4 = 0 ∧ j < 26
      · unfold nq at e
        rw [if_pos ci, if_pos cj] at e
        simp at e
        omega
      · have el := congrArg List.length e
        unfold nq at el
        rw [if_pos ci, if_neg cj, if_neg c2] at el
        simp at el
        omega
    · have cj : ¬ (s / 26 % 4 = 0 ∧ j < 26) := fun h => ci ⟨h.1, by omega⟩
      unfold nq at e
      rw [if_neg ci, if_neg c2, if_neg cj, if_neg c2] at e
      have e2 := List.append_cancel_left e
      simp only [List.cons_append, List.nil_append, List.cons.injEq] at e2
      omega
/-! what is left of a list of rooms -/
def Lf (rooms left : List Int) (bs : List Bx) (g : Bx → Int) : Prop := left.length = rooms.length ∧ ∀ (b : Nat) (r : Int), rooms[b]? = some r → ∃ l, left[b]? = some l ∧ 0 ≤ l ∧ l + ((bs.countP fun x => decide (g x = (b : Int)) : Nat) : Int) = r
theorem filt_idx (xs : List Int) (hl : xs.length ≤ 1000) : ∃ ys : List Int, lcC (fun bay : Int => ((atI xs bay).bind fun v => if decide ((0 : Int) < v) = true then some (some bay) else some none)) (rngL 0 xs.length) = some ys ∧ (∀ y ∈ ys, ∃ (n : Nat) (v : Int), y = n ∧ xs[n]? = some v ∧ 0 < v) ∧ (ys = [] → ∀ (n : Nat) (v : Int), xs[n]? = some v → v ≤ 0) ∧ ys.length ≤ xs.length := by
  rw [lcC_ok (by rw [rngL_len]; omega)]
  have e := lcM_fil (f := fun bay : Int => ((atI xs bay).bind fun v => if decide ((0 : Int) < v) = true then some (some bay) else some none)) (p := fun b => decide (0 < xs.getD b.toNat 0)) (g := fun b => b) (xs := rngL 0 xs.length) (by
    intro x hx
    obtain ⟨k, hk⟩ := List.mem_iff_getElem?.mp hx
    obtain ⟨h1, h2⟩ := rngL_get hk
    have hk2 : k < xs.length := by omega
    have hx : x = (k : Int) := by omega
    subst hx
    rw [bo (atI_nn xs k hk2)]
    have : xs.getD (k : Int).toNat 0 = xs[k] := by rw [Int.toNat_natCast, List.getD_eq_getElem?_getD, List.getElem?_eq_getElem hk2]; rfl
    rw [this]
    split <;> rfl)
  refine ⟨_, e, fun y hy => ?_, fun hn n v hv => ?_, ?_⟩
  · rw [List.map_id'] at hy
    obtain ⟨hy, hp⟩ := List.mem_filter.mp hy
    obtain ⟨k, hk⟩ := List.mem_iff_getElem?.mp hy
    obtain ⟨h1, h2⟩ := rngL_get hk
    have hk2 : k < xs.length := by omega
    have hx : y = (k : Int) := by omega
    subst hx
    refine ⟨k, xs[k], rfl, List.getElem?_eq_getElem hk2, ?_⟩
    have : xs.getD (k : Int).toNat 0 = xs[k] := by rw [Int.toNat_natCast, List.getD_eq_getElem?_getD, List.getElem?_eq_getElem hk2]; rfl
    rw [this] at hp
    exact of_decide_eq_true hp
  · rw [List.map_id'] at hn
    by_cases q : v ≤ 0
    · exact q
    · exfalso
      have hn2 := (List.getElem?_eq_some_iff.mp hv).1
      have hm : (n : Int) ∈ rngL 0 xs.length := by
        unfold rngL
        exact List.mem_map.mpr ⟨n, List.mem_range.mpr (by omega), by omega⟩
      have : (n : Int) ∈ (rngL 0 xs.length).filter fun b => decide (0 < xs.getD b.toNat 0) := by
        refine List.mem_filter.mpr ⟨hm, decide_eq_true ?_⟩
        rw [Int.toNat_natCast, List.getD_eq_getElem?_getD, hv]
        show 0 < v
        omega
      rw [hn] at this
      cases this
  · rw [List.map_id']
    refine Nat.le_trans (List.length_filter_le _ _) ?_
    rw [rngL_len]; omega
theorem sum_set (xs : List Int) (n : Nat) (v w : Int) (h : xs[n]? = some v) : (xs.set n w).sum = xs.sum - v + w := by
  induction xs generalizing n with
  | nil => cases h
  | cons x xs ih =>
    cases n with
    | zero => cases h; simp; omega
    | succ n => simp at h ⊢; rw [ih n h]; omega
theorem sum_nonpos (xs : List Int) (h : ∀ (n : Nat) (v : Int), xs[n]? = some v → v ≤ 0) : xs.sum ≤ 0 := by
  induction xs with
  | nil => simp
  | cons x xs ih =>
    have h0 := h 0 x rfl
    have := ih fun n v e => h (n + 1) v (by simpa using e)
    simp; omega
theorem sum_pos (xs : List Int) (h : ∀ v ∈ xs, 0 ≤ v) (n : Nat) (v : Int) (e : xs[n]? = some v) (hv : 0 < v) : 0 < xs.sum := by
  induction xs generalizing n with
  | nil => cases e
  | cons x xs ih =>
    have h1 : 0 ≤ xs.sum := by
      clear ih e
      have : ∀ ys : List Int, (∀ v ∈ ys, 0 ≤ v) → 0 ≤ ys.sum := by
        intro ys
        induction ys with
        | nil => intro _; simp
        | cons y ys ih2 => intro h; have := h y (by simp); have := ih2 fun v hv => h v (by simp [hv]); simp; omega
      exact this xs fun v hv => h v (by simp [hv])
    cases n with
    | zero => cases e; simp; omega
    | succ n =>
      have := ih (fun v hv => h v (by simp [hv])) n (by simpa using e)
      have := h x (by simp)
      simp; omega
end Bw

namespace Bw
open PySem L2 TL
theorem Lf.step {rooms left : List Int} {bs : List Bx} {g : Bx → Int} (h : Lf rooms left bs g) {n : Nat} {v : Int} (hv : left[n]? = some v) (hp : 0 < v) (x : Bx) (hx : g x = (n : Int)) : Lf rooms (left.set n (v - 1)) (bs ++ [x]) g := by
  refine ⟨by rw [List.length_set]; exact h.1, fun b r hr => ?_⟩
  obtain ⟨l, h1, h2, h3⟩ := h.2 b r hr
  rw [List.countP_append, List.countP_singleton, hx]
  by_cases e : n = b
  · subst e
    rw [hv] at h1
    cases h1
    have hn := (List.getElem?_eq_some_iff.mp hv).1
    refine ⟨v - 1, by rw [List.getElem?_set_self hn], by omega, ?_⟩
    rw [if_pos (by simp)]
    omega
  · refine ⟨l, by rw [List.getElem?_set_ne e]; exact h1, h2, ?_⟩
    rw [if_neg (by simp; omega)]
    omega
theorem Lf.nn {rooms left : List Int} {bs : List Bx} {g : Bx → Int} (h : Lf rooms left bs g) : ∀ v ∈ left, 0 ≤ v := fun v hv => by
  obtain ⟨n, hn⟩ := List.mem_iff_getElem?.mp hv
  have hl := (List.getElem?_eq_some_iff.mp hn).1
  rw [h.1] at hl
  obtain ⟨l, h1, h2, _⟩ := h.2 n rooms[n] (List.getElem?_eq_getElem hl)
  rw [hn] at h1; cases h1; exact h2
structure BK (rooms here there : List Int) (bs : List Bx) (salt : Int) (k : Nat) : Prop where
  ha : Lf rooms here bs (fun x => x.2.1)
  ht : Lf rooms there bs (fun x => x.2.2)
  sm : here.sum = there.sum
  bl : bs.length ≤ k
  bn : ∀ x ∈ bs, ∃ i : Nat, i < k ∧ tl x.1 = nq salt (i : Int)
  nd : (bs.map (·.1)).Nodup
  ba : ∀ x ∈ bs, 0 ≤ x.2.1 ∧ x.2.1 < rooms.length
  bt : ∀ x ∈ bs, 0 ≤ x.2.2 ∧ x.2.2 < rooms.length
theorem setM_nn {xs : List Int} (n : Nat) (x : Int) (h : n < xs.length) : setM xs (n : Int) x = some (xs.set n x) := by
  rw [setM_ok x (by omega) (by omega), Int.toNat_natCast]
theorem box_ok {rooms here there : List Int} {bs : List Bx} {salt : Int} {k : Nat} (J : BK rooms here there bs salt k) (hr : rooms.length ≤ 16) (hs : 0 ≤ salt) (hs2 : salt < 1664) (hk : k < 60) {src : List Int} (hS : Src2 src) :
    ∃ b' s' h' t', f_box (src, salt, (k : Int), here, there) = some (b', s', h', t') ∧ b'.length ≤ 1 ∧ BK rooms h' t' (bs ++ b') salt (k + 1) ∧ Src2 s' := by
  have l1 := J.ha.1
  have l2 := J.ht.1
  obtain ⟨fs, ef, f1, f2, f3⟩ := filt_idx here (by omega)
  obtain ⟨ls, el, g1, g2, g3⟩ := filt_idx there (by omega)
  unfold f_box
  dsimp only
  rw [bo (rngM_ok (by omega) (by omega) (by omega) (by omega)), bo ef, bo (rngM_ok (by omega) (by omega) (by omega) (by omega)), bo el]
  by_cases q : fs = []
  · rw [if_pos (decide_eq_true q)]
    refine ⟨_, _, _, _, rfl, by simp, ?_⟩
    rw [List.append_nil]
    exact ⟨⟨J.ha, J.ht, J.sm, by have := J.bl; omega, fun x hx => by obtain ⟨i, h1, h2⟩ := J.bn x hx; exact ⟨i, by omega, h2⟩, J.nd, J.ba, J.bt⟩, hS⟩
  · rw [if_neg (by simpa using q)]
    have fl : 0 < fs.length := List.length_pos_iff.mpr q
    have sp : 0 < here.sum := by
      obtain ⟨n, v, _, h2, h3⟩ := f1 fs[0] (List.getElem_mem fl)
      exact sum_pos here J.ha.nn n v h2 h3
    have ll : 0 < ls.length := by
      refine List.length_pos_iff.mpr fun e => ?_
      have := sum_nonpos there (g2 e)
      have := J.sm
      omega
    obtain ⟨x1, s1, e1, a1, b1, S1⟩ := draw_ok hS (fs.length : Int) (by omega) (by omega)
    obtain ⟨i1, rfl⟩ : ∃ i : Nat, x1 = i := ⟨x1.toNat, by omega⟩
    have hi1 : i1 < fs.length := by omega
    obtain ⟨n, v, en, hn, hv⟩ := f1 fs[i1] (List.getElem_mem hi1)
    obtain ⟨x2, s2, e2, a2, b2, S2⟩ := draw_ok S1 (ls.length : Int) (by omega) (by omega)
    obtain ⟨i2, rfl⟩ : ∃ i : Nat, x2 = i := ⟨x2.toNat, by omega⟩
    have hi2 : i2 < ls.length := by omega
    obtain ⟨n2, v2, en2, hn2, hv2⟩ := g1 ls[i2] (List.getElem_mem hi2)
    obtain ⟨x3, s3, e3, a3, b3, S3⟩ := draw_ok S2 4 (by omega) (by omega)
    have hnl := (List.getElem?_eq_some_iff.mp hn).1
    have hnl2 := (List.getElem?_eq_some_iff.mp hn2).1
    have hnt : n < there.length := by omega
    obtain ⟨nm, enm, tnm⟩ := name_ok salt (k : Int) hs hs2 (by omega) (by omega)
    rw [bo e1]
    dsimp only
    rw [bo (atI_nn fs i1 hi1), bo e2]
    dsimp only
    rw [bo (atI_nn ls i2 hi2), bo e3]
    dsimp only
    rw [en, en2]
    have hat : atI here (n : Int) = some v := by rw [atI_nn here n hnl]; exact congrArg some (List.getElem?_eq_some_iff.mp hn).2
    have htt : ∃ (m : Nat) (w : Int), ((if decide (x3 = 1) = true then (atI there (n : Int)).bind fun x96 => some (decide (0 < x96)) else some false).bind fun x98 => if x98 = true then some (n : Int) else some (n2 : Int)) = some (m : Int) ∧ there[m]? = some w ∧ 0 < w := by
      by_cases q3 : x3 = 1
      · rw [if_pos (decide_eq_true q3), bo (atI_nn there n hnt), bo rfl]
        by_cases q4 : 0 < there[n]
        · rw [if_pos (decide_eq_true q4)]
          exact ⟨n, there[n], rfl, List.getElem?_eq_getElem hnt, q4⟩
        · rw [if_neg (by simpa using q4)]
          exact ⟨n2, v2, rfl, hn2, hv2⟩
      · rw [if_neg (by simpa using q3), bo rfl, if_neg (by decide)]
        exact ⟨n2, v2, rfl, hn2, hv2⟩
    obtain ⟨m, w, em, hm, hw⟩ := htt
    have asc : ∀ (A : Option Bool) (f : Int → Option (List Bx × List Int × List Int × List Int)), (A.bind fun x98 => (if x98 = true then some (n : Int) else some (n2 : Int)).bind f) = (A.bind fun x98 => if x98 = true then some (n : Int) else some (n2 : Int)).bind f := by
      intro A f; cases A <;> rfl
    rw [asc, bo em]
    have hml := (List.getElem?_eq_some_iff.mp hm).1
    have hmt : atI there (m : Int) = some w := by rw [atI_nn there m hml]; exact congrArg some (List.getElem?_eq_some_iff.mp hm).2
    rw [bo hat, bo (setM_nn n _ hnl), bo hmt, bo (setM_nn m _ hml), bo enm]
    refine ⟨_, _, _, _, rfl, by simp, ?_⟩
    refine ⟨⟨J.ha.step hn hv _ rfl, J.ht.step hm hw _ rfl, ?_, ?_, ?_, ?_, ?_, ?_⟩, S3⟩
    · rw [sum_set here n v _ hn, sum_set there m w _ hm]; have := J.sm; omega
    · rw [List.length_append]; have := J.bl; simp; omega
    · intro x hx
      rcases List.mem_append.mp hx with hx | hx
      · obtain ⟨i, h1, h2⟩ := J.bn x hx; exact ⟨i, by omega, h2⟩
      · rw [List.mem_singleton.mp hx]; exact ⟨k, by omega, tnm⟩
    · rw [List.map_append, List.nodup_append]
      refine ⟨J.nd, by simp, fun a ha b hb => ?_⟩
      simp only [List.map_cons, List.map_nil, List.mem_singleton] at hb
      subst hb
      obtain ⟨x, hx, rfl⟩ := List.mem_map.mp ha
      obtain ⟨i, h1, h2⟩ := J.bn x hx
      intro e
      rw [e, tnm] at h2
      exact nq_ne salt i k (by omega) (by omega) (by omega) h2.symm
    · intro x hx
      rcases List.mem_append.mp hx with hx | hx
      · exact J.ba x hx
      · rw [List.mem_singleton.mp hx]; dsimp only; omega
    · intro x hx
      rcases List.mem_append.mp hx with hx | hx
      · exact J.bt x hx
      · rw [List.mem_singleton.mp hx]; dsimp only; omega
theorem BK.bx {rooms here there : List Int} {bs : List Bx} {salt : Int} {k : Nat} (J : BK rooms here there bs salt k) (hk : k ≤ 60) (hs : 0 ≤ salt) (hs2 : salt < 1664) : BxOk rooms bs := by
  refine ⟨by have := J.bl; omega, fun x hx => ?_, J.nd, J.ba, J.bt, fun b r e => ?_, fun b r e => ?_⟩
  · obtain ⟨i, h1, h2⟩ := J.bn x hx
    have := nq_ok salt (i : Int) hs hs2 (by omega) (by omega)
    rw [← h2] at this
    exact this
  · obtain ⟨l, _, h2, h3⟩ := J.ha.2 b r e; dsimp only at h3; omega
  · obtain ⟨l, _, h2, h3⟩ := J.ht.2 b r e; dsimp only at h3; omega
theorem at_le {xs : List Int} {i : Int} (h0 : 0 ≤ i) (h : i < xs.length) (P : Int → Prop) (hP : ∀ x ∈ xs, P x) : ∃ w, atI xs i = some w ∧ P w := by
  obtain ⟨w, e, _⟩ := atI_int xs i h0 h
  exact ⟨w, e, hP w (atI_mem e)⟩
end Bw

namespace Bw
open PySem L2 TL
theorem store_ok (sc : List Int) (hsc : sc.length ≤ 63) : ∃ s, f_store sc = some s ∧ SOk s := by
  obtain ⟨c0, hc0⟩ := cell_ok sc 0 (by omega)
  obtain ⟨c1, hc1⟩ := cell_ok sc 1 (by omega)
  obtain ⟨s0, es0, S0⟩ := source_ok c0 0
  obtain ⟨salt, s1, ed1, p1, q1, S1⟩ := draw_ok S0 1664 (by omega) (by omega)
  obtain ⟨x2, s2, ed2, p2, q2, S2⟩ := draw_ok S1 3 (by omega) (by omega)
  obtain ⟨w2, ew2, hw2⟩ := at_le (xs := [3, 7, 15]) (i := x2) p2 q2 (fun w => 1 ≤ w ∧ w ≤ 15) (by decide)
  obtain ⟨x3, s3, ed3, p3, q3, S3⟩ := draw_ok S2 w2 (by omega) (by omega)
  obtain ⟨x4, s4, ed4, p4, q4, S4⟩ := draw_ok S3 4 (by omega) (by omega)
  obtain ⟨wide, ew4, hw4⟩ := at_le (xs := [1, 2, 6, 40]) (i := x4) p4 q4 (fun w => 1 ≤ w ∧ w ≤ 40) (by decide)
  obtain ⟨x5, s5, ed5, p5, q5, S5⟩ := draw_ok S4 3 (by omega) (by omega)
  obtain ⟨w5, ew5, hw5⟩ := at_le (xs := [2, 5, 20]) (i := x5) p5 q5 (fun w => 1 ≤ w ∧ w ≤ 20) (by decide)
  obtain ⟨x6, s6, ed6, p6, q6, S6⟩ := draw_ok S5 w5 (by omega) (by omega)
  obtain ⟨s7, rooms, ed7, S7, rl, rb⟩ := draws_lcC wide (by omega) (by omega) (rngL 0 (2 + x3)) s6 S6 (by rw [rngL_len]; omega)
  obtain ⟨t0, et0, T0⟩ := source_ok c1 1
  obtain ⟨x8, s8, ed8, p8, q8, S8⟩ := draw_ok T0 2 (by omega) (by omega)
  obtain ⟨far, ew8, hw8⟩ := at_le (xs := [5, 1000000000]) (i := x8) p8 q8 (fun w => 1 ≤ w ∧ w ≤ 1000000000) (by decide)
  obtain ⟨s9, gaps, ed9, S9, gl, gb⟩ := draws_lcC far (by omega) (by omega) (rngL 0 (2 + x3 - 1)) s8 S8 (by rw [rngL_len]; omega)
  rw [rngL_len] at rl gl
  unfold f_store
  rw [bo hc0, bo es0, bo ed1]
  dsimp only
  rw [bo ed2]
  dsimp only
  rw [bo ew2, bo ed3]
  dsimp only
  rw [letM_eq, bo ed4]
  dsimp only
  rw [bo ew4, bo ed5]
  dsimp only
  rw [bo ew5, bo ed6]
  dsimp only
  rw [letM_eq, bo (rngM_ok (by omega) (by omega) (by omega) (by omega)), bo ed7]
  dsimp only
  rw [bo hc1, bo et0, bo ed8]
  dsimp only
  rw [bo ew8, bo (rngM_ok (by omega) (by omega) (by omega) (by omega)), bo ed9]
  dsimp only
  have hmin : minI (sc.length : Int) 63 = (sc.length : Int) := by unfold minI; split <;> omega
  rw [letM_eq, hmin, bo (rngM_ok (by omega) (by omega) (by omega) (by omega))]
  have hrooms : ∀ r ∈ rooms, 1 ≤ r ∧ r ≤ 40 := fun r hr => by have := rb r hr; omega
  have L0 : ∀ g : Bx → Int, Lf rooms rooms [] g := fun g => ⟨rfl, fun b r hr => ⟨r, hr, by have := hrooms r (List.mem_of_getElem? hr); omega, by simp⟩⟩
  obtain ⟨⟨bs, h', t'⟩, ef, Jf⟩ := foldlM_inv (body := f_store_b159 sc salt) (fun i (z : List Bx × List Int × List Int) => BK rooms z.2.1 z.2.2 z.1 salt i) (rngL 3 sc.length) 0 ([], rooms, rooms) ⟨L0 _, L0 _, rfl, by simp, fun x hx => (by cases hx), by simp, fun x hx => (by cases hx), fun x hx => (by cases hx)⟩ (by
    rintro k x ⟨bs, h, t⟩ hx J
    obtain ⟨hx, hk⟩ := rngL_get hx
    rw [Nat.zero_add] at J ⊢
    have hk2 : k + 3 < sc.length := by omega
    obtain ⟨c, hc, _⟩ := atI_int sc x (by omega) (by omega)
    obtain ⟨src, es, SS⟩ := source_ok c x
    have hx3 : x - 3 = (k : Int) := by omega
    obtain ⟨b', s', h', t', eb, bl, J', _⟩ := box_ok J (by omega) p1 q1 (by omega) SS
    unfold f_store_b159
    dsimp only
    have jl := J.bl
    rw [bo hc, bo es, hx3, bo eb]
    dsimp only
    rw [bo (catM_ok (by dsimp only at jl; omega))]
    exact ⟨_, rfl, J'⟩)
  rw [bo ef]
  rw [rngL_len, Nat.zero_add] at Jf
  refine ⟨_, rfl, ?_, ?_, hrooms, ?_, ?_, ?_, Jf.bx (by omega) p1 q1⟩
  · dsimp only; omega
  · dsimp only; omega
  · dsimp only; omega
  · intro g hg; have := gb g hg; omega
  · dsimp only; omega
end Bw

namespace Bw
open PySem L2 TL
/-! who goes over a gap; the tuples of a paper -/
abbrev Tu := Str × Int × PyData
def pU (g : Int) (x : Bx) : Bool := decide (x.2.1 ≤ g) && decide (g < x.2.2)
def pD (g : Int) (x : Bx) : Bool := decide (x.2.2 ≤ g) && decide (g < x.2.1)
def pP (g : Int) (x : Bx) : Bool := decide (g < x.2.1) && (decide (g < x.2.2) && !decide (x.2.1 = x.2.2))
def nU (s : Sto) (g : Int) : List Str := (s.2.2.2.filter (pU g)).map fun x => x.1
def nD (s : Sto) (g : Int) : List Str := (s.2.2.2.filter (pD g)).map fun x => x.1
def nP (s : Sto) (g : Int) : List Str := (s.2.2.2.filter (pP g)).map fun x => x.1
def nO (s : Sto) (w : Str) (g : Int) : List Str := if w = "up" then nU s g else if w = "down" then nD s g else if w = "past" then nP s g else []
theorem nO_sub (s : Sto) (w : Str) (g : Int) : (nO s w g).Sublist (s.2.2.2.map fun x => x.1) := by
  unfold nO nU nD nP
  (repeat' split) <;> first | exact (List.filter_sublist).map _ | exact List.nil_sublist _
theorem nO_len {s : Sto} (h : SOk s) (w : Str) (g : Int) : (nO s w g).length ≤ 60 := by
  have h1 := (nO_sub s w g).length_le
  have h2 := h.bx.len
  rw [List.length_map] at h1; omega
theorem nO_nd {s : Sto} (h : SOk s) (w : Str) (g : Int) : (nO s w g).Nodup := h.bx.nd.sublist (nO_sub s w g)
theorem nO_nm {s : Sto} (h : SOk s) (w : Str) (g : Int) : ∀ x ∈ nO s w g, NmOk x := fun x hx => by
  obtain ⟨y, hy, rfl⟩ := List.mem_map.mp ((nO_sub s w g).mem hx)
  exact h.bx.nm y hy
theorem nO_up (s : Sto) (g : Int) : nO s "up" g = nU s g := if_pos rfl
theorem nO_down (s : Sto) (g : Int) : nO s "down" g = nD s g := by unfold nO; rw [if_neg (by decide), if_pos rfl]
theorem nO_past (s : Sto) (g : Int) : nO s "past" g = nP s g := by unfold nO; rw [if_neg (by decide), if_neg (by decide), if_pos rfl]
theorem shp_nm {x : Str} (h : NmOk x) : Shp 0 (eS x) := shp_str fun c hc => by have := h.2.2 c hc; omega
theorem shp_nms {xs : List Str} (h : ∀ x ∈ xs, NmOk x) : Shp 1 (eL eS xs) := shp_list fun d hd => by
  obtain ⟨x, hx, rfl⟩ := List.mem_map.mp hd
  exact shp_nm (h x hx)
theorem eqT_gen {α : Type} [DecidableEq α] {e : α → PyData} {x y : α} {n m : Nat} (h : Shp n (e x)) (k : Shp m (e y)) (hn : n ≤ 64) (hm : m ≤ 64) : eqTM e x y = some (decide (x = y)) := by
  unfold eqTM
  rw [if_pos ⟨h.ok hn, k.ok hm⟩]
theorem eqD_gen {x y : PyData} {n m : Nat} (h : Shp n x) (k : Shp m y) (hn : n ≤ 64) (hm : m ≤ 64) : eqDM x y = some (PyData.eqv x y) := by
  unfold eqDM
  rw [if_pos ⟨h.ok hn, k.ok hm⟩]
mutual
theorem eqv_lay : ∀ d : PyData, d.canLay0 = true → PyData.eqv d d = true
  | .none, _ => rfl
  | .bool b, _ => by simp [PyData.eqv]
  | .int i, _ => by simp [PyData.eqv]
  | .str x, _ => by simp [PyData.eqv]
  | .list xs, h => by rw [PyData.eqv]; exact eqvs_lay xs (by simpa [PyData.canLay0] using h)
  | .tuple xs, h => by rw [PyData.eqv]; exact eqvs_lay xs (by simpa [PyData.canLay0] using h)
  | .dict _, h => by simp [PyData.canLay0] at h
theorem eqvs_lay : ∀ xs : List PyData, PyData.canLayAll0 xs = true → PyData.eqvAll xs xs = true
  | [], _ => rfl
  | x :: xs, h => by
    rw [PyData.canLayAll0, Bool.and_eq_true] at h
    rw [PyData.eqvAll, eqv_lay x h.1, eqvs_lay xs h.2]; rfl
end
theorem Shp.eqv {n : Nat} {d : PyData} (h : Shp n d) : PyData.eqv d d = true := eqv_lay d h.1
theorem inL_mem {x : Str} {xs : List Str} (h : x ∈ xs) : inL x xs = true := List.any_eq_true.mpr ⟨x, h, by simp⟩
theorem asAll_nms : ∀ xs : List Str, asAll asS (xs.map eS) = some xs
  | [] => rfl
  | x :: xs => by
    show (asS (eS x)).bind _ = _
    rw [bo (show asS (eS x) = some x from rfl), bo (asAll_nms xs)]
def cd (l m : Int) : Int := if l ≤ 0 then 0 else (l + m - 1) / m
theorem cd_fl (l m : Int) (hl : 0 ≤ l) (hm : 0 < m) : (l + m - 1) / m = cd l m := by
  unfold cd
  split
  · have : l = 0 := by omega
    subst this
    exact Int.ediv_eq_zero_of_lt (by omega) (by omega)
  · rfl
theorem cd_step (l m : Int) (hl : 0 < l) (hm : 0 < m) : cd l m = 1 + cd (l - m) m := by
  unfold cd
  rw [if_neg (by omega)]
  split
  · rename_i q
    have e : (l + m - 1) / m = 1 := by
      refine Int.le_antisymm ?_ ?_
      · exact Int.le_of_lt_add_one (Int.ediv_lt_of_lt_mul hm (by rw [Int.add_mul]; omega))
      · exact (Int.le_ediv_iff_mul_le hm).mpr (by omega)
    rw [e]; rfl
  · have e : l + m - 1 = (l - m + m - 1) + 1 * m := by omega
    rw [e, Int.add_mul_ediv_right _ _ (by omega)]
    omega
theorem cd_nn (l m : Int) (hm : 0 < m) : 0 ≤ cd l m := by
  unfold cd
  split
  · exact Int.le_refl _
  · exact Int.ediv_nonneg (by omega) (by omega)
theorem cd_le (l m : Int) (hm : 0 < m) (hl : 0 ≤ l) : cd l m ≤ l := by
  rw [← cd_fl l m hl hm]
  have : (l + m - 1) / m < l + 1 := Int.ediv_lt_of_lt_mul hm (by
    have : l + 1 ≤ (l + 1) * m := by
      have := Int.mul_le_mul_of_nonneg_left (show 1 ≤ m by omega) (show 0 ≤ l + 1 by omega)
      omega
    have h2 : (l + 1) * m = l * m + m := by rw [Int.add_mul, Int.one_mul]
    have h3 : l ≤ l * m := by
      have := Int.mul_le_mul_of_nonneg_left (show 1 ≤ m by omega) hl
      omega
    omega)
  omega
/-- a right tuple -/
structure TOk (s : Sto) (t : Tu) : Prop where
  w : t.1 = "up" ∨ t.1 = "down" ∨ t.1 = "past"
  g0 : 0 ≤ t.2.1
  g1 : t.2.1 < s.2.1.length
  p : t.1 = "past" → ∃ n, n ∈ nO s t.1 t.2.1 ∧ t.2.2 = eS n
  l : t.1 ≠ "past" → ∃ ns : List Str, ns ≠ [] ∧ ns.Nodup ∧ (∀ n ∈ ns, n ∈ nO s t.1 t.2.1) ∧ t.2.2 = eL eS ns
def dLen : PyData → Int
  | .list ds => ds.length
  | _ => 0
def tt (s : Sto) (t : Tu) : Int := if t.1 = "past" then 1 else cd (dLen t.2.2) s.2.2.1
def gp (s : Sto) (g : Int) : Int := s.2.1.getD g.toNat 0
theorem gp_at {s : Sto} {g : Int} (g0 : 0 ≤ g) (g1 : g < s.2.1.length) : atI s.2.1 g = some (gp s g) ∧ gp s g ∈ s.2.1 := by
  obtain ⟨x, e1, e2⟩ := atI_int s.2.1 g g0 g1
  have : gp s g = x := by unfold gp; rw [List.getD_eq_getElem?_getD, e2]; rfl
  rw [this]
  exact ⟨e1, atI_mem e1⟩
theorem nodup_sub_len : ∀ {xs ys : List Str}, xs.Nodup → (∀ x ∈ xs, x ∈ ys) → xs.length ≤ ys.length
  | [], _, _, _ => Nat.zero_le _
  | x :: xs, ys, nd, sb => by
    rw [List.nodup_cons] at nd
    have hx := sb x List.mem_cons_self
    have ih := nodup_sub_len (xs := xs) (ys := ys.erase x) nd.2 fun y hy => (List.mem_erase_of_ne fun (e : y = x) => nd.1 (e ▸ hy)).mpr (sb y (List.mem_cons_of_mem _ hy))
    have hl := List.length_erase_of_mem hx
    have := List.length_pos_of_mem hx
    rw [List.length_cons]; omega
theorem nd_len {s : Sto} (h : SOk s) {w : Str} {g : Int} {ns : List Str} (nd : ns.Nodup) (sb : ∀ n ∈ ns, n ∈ nO s w g) : ns.length ≤ 60 := Nat.le_trans (nodup_sub_len nd sb) (nO_len h w g)
theorem shp_tu {s : Sto} (h : SOk s) {t : Tu} (k : TOk s t) : Shp 2 (eT3 eS eI eD t) := by
  refine shp_tup fun d hd => ?_
  rcases List.mem_cons.mp hd with rfl | hd
  · refine (shp_str fun c hc => ?_).mono (Nat.zero_le _)
    have e : ∀ w : Str, w = "up" ∨ w = "down" ∨ w = "past" → ∀ c ∈ tl w, c < 0x110000 := by
      rintro w (rfl | rfl | rfl) <;> decide
    exact e _ k.w c hc
  · rcases List.mem_cons.mp hd with rfl | hd
    · exact (shp_int _).mono (Nat.zero_le _)
    · rw [List.mem_singleton] at hd; subst hd
      by_cases q : t.1 = "past"
      · obtain ⟨n, hn, e⟩ := k.p q
        show Shp 1 t.2.2
        rw [e]; exact (shp_nm (nO_nm h _ _ n hn)).mono (Nat.zero_le _)
      · obtain ⟨ns, _, _, hn, e⟩ := k.l q
        show Shp 1 t.2.2
        rw [e]; exact shp_nms fun x hx => nO_nm h _ _ x (hn x hx)
end Bw

namespace Bw
open PySem L2 TL
/-! the law's own paper -/
theorem able_ok {s : Sto} (h : SOk s) {w : Str} (hw : w = "up" ∨ w = "down" ∨ w = "past") (g : Int) : f_able (s, w, g) = some (nO s w g) := by
  have hl := h.bx.len
  unfold f_able
  dsimp only
  rcases hw with rfl | rfl | rfl
  · rw [if_pos (by decide), nO_up]
    exact bo (filC_ok (p := pU g) (f := fun x : Bx => x.1) (xs := s.2.2.2) (by omega)) _
  · rw [if_neg (by decide), if_pos (by decide), nO_down]
    exact bo (filC_ok (p := pD g) (f := fun x : Bx => x.1) (xs := s.2.2.2) (by omega)) _
  · rw [if_neg (by decide), if_neg (by decide), nO_past]
    have e : (fun (x : Bx) => match x with | (nm, at_, to_) => (!decide (at_ = to_)) && (decide (g < minI at_ to_))) = pP g := by
      funext ⟨n, a, t⟩
      unfold pP minI
      dsimp only
      rw [Bool.eq_iff_iff]
      simp only [Bool.and_eq_true, decide_eq_true_eq, Bool.not_eq_true', decide_eq_false_iff_not]
      constructor
      · rintro ⟨h1, h2⟩; split at h2 <;> omega
      · rintro ⟨h1, h2, h3⟩; refine ⟨h3, ?_⟩; split <;> omega
    refine Eq.trans (bo (filC_ok (by omega)) _) ?_
    show some ((s.2.2.2.filter _).map _) = some ((s.2.2.2.filter (pP g)).map _)
    rw [← e]
/-- what a comprehension with a drawn filter keeps is a part of what it walks -/
theorem pick_ok (m : Int) (hm : 0 < m) (hm2 : m < 1073741824) (c : Int → Bool) : ∀ (xs : List Str) (s : List Int), Src2 s → ∃ s' ys, lcS (fun (z : List Int) (n : Str) => (f_draw (z, m)).bind fun (x, z') => if (c x) = true then (some (z', some n)) else some (z', none)) s xs = some (s', ys) ∧ Src2 s' ∧ ys.Sublist xs
  | [], s, h => ⟨s, [], rfl, h, .slnil⟩
  | x :: xs, s, h => by
    obtain ⟨d, s1, e1, _, _, h1⟩ := draw_ok h m hm hm2
    obtain ⟨s2, ys, e2, h2, sb⟩ := pick_ok m hm hm2 c xs s1 h1
    unfold lcS
    rw [e1]
    by_cases q : c d = true
    · refine ⟨s2, x :: ys, ?_, h2, sb.cons_cons x⟩
      show (if c d = true then (some (s1, some x)) else some (s1, none)).bind _ = _
      rw [if_pos q, bo rfl]
      show (lcS _ s1 xs).bind _ = _
      rw [bo e2]
    · refine ⟨s2, ys, ?_, h2, sb.cons x⟩
      show (if c d = true then (some (s1, some x)) else some (s1, none)).bind _ = _
      rw [if_neg q, bo rfl]
      show (lcS _ s1 xs).bind _ = _
      rw [bo e2]
theorem take_one_drop {α : Type} (xs : List α) (i : Int) (h0 : 0 ≤ i) : cutL xs (some i) none = xs.drop i.toNat := by
  obtain ⟨k, rfl⟩ : ∃ k : Nat, i = k := ⟨i.toNat, by omega⟩
  unfold cutL
  rw [HT.sIx_none, HT.sIx_nat, Int.toNat_natCast]
  by_cases h : k ≤ xs.length
  · rw [Nat.min_eq_left h]
    exact List.take_of_length_le (by rw [List.length_drop]; exact Nat.le_refl _)
  · rw [Nat.min_eq_right (by omega), List.drop_of_length_le (Nat.le_refl _), List.drop_of_length_le (by omega), List.take_nil]
structure PpOk (s : Sto) (ts : List Tu) : Prop where
  t : ∀ t ∈ ts, TOk s t
  nd : (ts.map fun t => t.2.1).Nodup
  len : ts.length ≤ 16
theorem PpOk.perm {s : Sto} {ts us : List Tu} (h : PpOk s ts) (p : us.Perm ts) : PpOk s us := ⟨fun t ht => h.t t (p.mem_iff.mp ht), (p.map _).nodup_iff.mpr h.nd, by rw [p.length_eq]; exact h.len⟩
theorem PpOk.sub {s : Sto} {ts us : List Tu} (h : PpOk s ts) (p : us.Sublist ts) : PpOk s us := ⟨fun t ht => h.t t (p.mem ht), h.nd.sublist (p.map _), Nat.le_trans p.length_le h.len⟩
theorem at5 (i : Int) (h0 : 0 ≤ i) (h1 : i < 5) : ∃ w : Str, atI ([("up" : Str), ("down" : Str), ("past" : Str), ("up" : Str), ("down" : Str)] : (List Str)) i = some w ∧ (w = "up" ∨ w = "down" ∨ w = "past") := by
  obtain ⟨w, e, _⟩ := atI_int ([("up" : Str), ("down" : Str), ("past" : Str), ("up" : Str), ("down" : Str)] : (List Str)) i h0 (by simpa using h1)
  refine ⟨w, e, ?_⟩
  have := atI_mem e
  simp only [List.mem_cons, List.not_mem_nil, or_false] at this
  rcases this with h | h | h | h | h <;> simp [h]
theorem paper_turn {s : Sto} (h : SOk s) {src : List Int} (hs : Src2 src) {ts : List Tu} {k : Nat} (hk : k < s.2.1.length) (ht : ∀ t ∈ ts, TOk s t) (hg : ∀ t ∈ ts, t.2.1 < (k : Int)) (hl : ts.length ≤ 16) :
    Rt (f_paper_b14 s (src, ts) (k : Int)) fun r => Src2 r.1 ∧ (r.2 = ts ∨ ∃ t, r.2 = ts ++ [t] ∧ TOk s t ∧ t.2.1 = (k : Int)) := by
  obtain ⟨x, s1, e1, x0, x1, h1⟩ := draw_ok hs 5 (by decide) (by decide)
  obtain ⟨w, ew, hw⟩ := at5 x x0 x1
  obtain ⟨s2, ys, e2, h2, sb⟩ := pick_ok 4 (by decide) (by decide) (fun x => decide ((0 : Int) < x)) (nO s w (k : Int)) s1 h1
  obtain ⟨y, s3, e3, _, _, h3⟩ := draw_ok h2 2 (by decide) (by decide)
  have nl := nO_len h w (k : Int)
  have yl := sb.length_le
  have nm : ∀ x ∈ ys, NmOk x := fun x hx => nO_nm h w _ x (sb.mem hx)
  have nd := (nO_nd h w (k : Int)).sublist sb
  have e4 : lcSC (fun (z : List Int) (n : Str) => (f_draw (z, 4)).bind fun (x, z') => if (decide ((0 : Int) < x)) = true then (some (z', some n)) else some (z', none)) s1 (nO s w (k : Int)) = some (s2, ys) := by unfold lcSC; rw [if_pos (by omega)]; exact e2
  unfold f_paper_b14
  dsimp only
  rw [bo e1]
  dsimp only
  rw [bo ew, bo (able_ok h hw _)]
  refine (rt_bind.mpr (rt_of e4 ?_))
  dsimp only
  rw [bo e3]
  dsimp only
  -- the names, perhaps turned about
  have fin : ∀ zs : List Str, (zs = ys.reverse ∨ zs = ys) → Rt ((((eqTM (eL eS) zs ([] : (List Str)))).bind fun x104 => (if ((!x104) && (decide (w = ("past" : Str)))) = true then (((atI zs (0 : Int))).bind fun x110 => ((appM ts (w, (k : Int), (eS x110)))).bind fun paper_here_112 => some (s3, paper_here_112)) else (((eqTM (eL eS) zs ([] : (List Str)))).bind fun x124 => (if (!x124) = true then (((appM ts (w, (k : Int), ((eL eS) zs)))).bind fun paper_here_130 => some (s3, paper_here_130)) else some (s3, ts)))))) fun r => Src2 r.1 ∧ (r.2 = ts ∨ ∃ t, r.2 = ts ++ [t] ∧ TOk s t ∧ t.2.1 = (k : Int)) := by
    intro zs hz
    have pm : zs.Perm ys := by rcases hz with rfl | rfl; exact List.reverse_perm _; exact List.Perm.refl _
    have zn : ∀ x ∈ zs, NmOk x := fun x hx => nm x (pm.mem_iff.mp hx)
    rw [bo (eqT_gen (shp_nms zn) (shp_nms (xs := []) (fun x hx => by cases hx)) (by decide) (by decide))]
    by_cases q : zs = []
    · rw [decide_eq_true q, if_neg (by simp)]
      rw [bo (eqT_gen (shp_nms zn) (shp_nms (xs := []) (fun x hx => by cases hx)) (by decide) (by decide)), decide_eq_true q, if_neg (by decide)]
      exact rt_some.mpr ⟨h3, .inl rfl⟩
    · rw [decide_eq_false q]
      by_cases qw : w = "past"
      · rw [if_pos (by simp [qw])]
        cases zs with
        | nil => exact absurd rfl q
        | cons z zs =>
          have : atI (z :: zs) 0 = some z := atI_nn (z :: zs) 0 (by simp)
          rw [bo this, bo (appM_ok (by omega))]
          refine rt_some.mpr ⟨h3, .inr ⟨_, rfl, ⟨hw, by dsimp only; omega, by dsimp only; omega, fun _ => ⟨z, sb.mem (pm.mem_iff.mp List.mem_cons_self), rfl⟩, fun n => absurd qw n⟩, rfl⟩⟩
      · rw [if_neg (by simp [qw]), bo (eqT_gen (shp_nms zn) (shp_nms (xs := []) (fun x hx => by cases hx)) (by decide) (by decide)), decide_eq_false q, if_pos (by decide), bo (appM_ok (by omega))]
        refine rt_some.mpr ⟨h3, .inr ⟨_, rfl, ⟨hw, by dsimp only; omega, by dsimp only; omega, fun e => absurd e qw, fun _ => ⟨zs, q, (pm.nodup_iff).mpr nd, fun n hn => sb.mem (pm.mem_iff.mp hn), rfl⟩⟩, rfl⟩⟩
  by_cases qy : y = 1
  · rw [if_pos (decide_eq_true qy), letM_eq, bo rfl]
    exact fin _ (.inl rfl)
  · rw [if_neg (by simpa using qy), bo rfl]
    exact fin _ (.inr rfl)
theorem rot_perm {α : Type} (xs : List α) (n : Nat) : (xs.drop n ++ xs.take n).Perm xs := List.perm_append_comm.trans (by rw [List.take_append_drop])
theorem cut_drop {α : Type} (xs : List α) (i : Int) (h0 : 0 ≤ i) : cutL xs (some i) none = xs.drop i.toNat := take_one_drop xs i h0
theorem paper_ok {s : Sto} (h : SOk s) {src : List Int} (hs : Src2 src) : Rt (f_paper (s, src)) fun r => PpOk s r.1 ∧ Src2 r.2 := by
  have h1 := h.gl; have h2 := h.n16
  unfold f_paper
  dsimp only
  rw [letM_eq, bo (rngM_ok (by omega) (by omega) (by omega) (by omega))]
  refine rt_bind.mpr ?_
  refine rt_fold (fun k (r : List Int × List Tu) => Src2 r.1 ∧ (∀ t ∈ r.2, TOk s t) ∧ (∀ t ∈ r.2, t.2.1 < (k : Int)) ∧ (r.2.map fun t : Tu => t.2.1).Nodup ∧ r.2.length ≤ k) ⟨hs, (fun t (ht : t ∈ ([] : List Tu)) => by cases ht), (fun t (ht : t ∈ ([] : List Tu)) => by cases ht), List.nodup_nil, Nat.le_refl _⟩ ?_ ?_
  · rintro k x ⟨src, ts⟩ hx ⟨a, b, c, d, e⟩
    dsimp only at a b c d e
    obtain ⟨rfl, kl⟩ := rngL_get hx
    have kl2 : k < s.2.1.length := by omega
    rw [Int.zero_add]
    refine (paper_turn h a kl2 b c (by omega)).mono ?_
    rintro ⟨src', us⟩ ⟨a', q⟩
    dsimp only at q a' ⊢
    rcases q with rfl | ⟨t, rfl, tk, tg⟩
    · exact ⟨a', b, fun t ht => by have := c t ht; omega, d, by omega⟩
    · refine ⟨a', fun u hu => ?_, fun u hu => ?_, ?_, ?_⟩
      · rcases List.mem_append.mp hu with hu | hu
        · exact b u hu
        · rw [List.mem_singleton] at hu; subst hu; exact tk
      · rcases List.mem_append.mp hu with hu | hu
        · have := c u hu; omega
        · rw [List.mem_singleton] at hu; subst hu; omega
      · rw [List.map_append, List.nodup_append]
        refine ⟨d, by simp, fun x hx y hy => ?_⟩
        obtain ⟨u, hu, rfl⟩ := List.mem_map.mp hx
        have := c u hu
        simp only [List.map_cons, List.map_nil, List.mem_singleton] at hy
        omega
      · rw [List.length_append, List.length_singleton]; omega
  · rintro ⟨src, ts⟩ ⟨a, b, c, d, e⟩
    rw [rngL_len] at e
    dsimp only at a b c d e
    have P : PpOk s ts := ⟨b, d, by omega⟩
    obtain ⟨x, s1, e1, _, _, h1⟩ := draw_ok a 2 (by decide) (by decide)
    dsimp only
    rw [bo e1]
    dsimp only
    have fin : ∀ us : List Tu, PpOk s us → Rt ((((f_draw (s1, ((us.length : Int) + (1 : Int))))).bind fun (x195, source_here_197) => (((catM (cutL us (some x195) none) (cutL us none (some x195)))).bind fun x202 => some (x202, source_here_197)))) fun r => PpOk s r.1 ∧ Src2 r.2 := by
      intro us Pu
      have := Pu.len
      obtain ⟨y, s2, e2, y0, y1, h2⟩ := draw_ok h1 ((us.length : Int) + 1) (by omega) (by omega)
      rw [bo e2]
      dsimp only
      rw [cut_drop _ _ y0, cut_take _ _ y0, bo (catM_ok (by rw [List.length_drop, List.length_take]; omega))]
      exact rt_some.mpr ⟨Pu.perm (rot_perm _ _), h2⟩
    by_cases q : x = 1
    · rw [if_pos (decide_eq_true q), letM_eq, bo rfl]
      exact fin _ (P.perm (List.reverse_perm _))
    · rw [if_neg (by simpa using q), bo rfl]
      exact fin _ P
end Bw

namespace Bw
open PySem L2 TL
/-! a copy of what has at most six levels -/
theorem copied_flat (d : PyData) (h1 : isiD "tuple" d = false) (h2 : isiD "list" d = false) : f_copied_r3 d = some d ∧ f_copied_r4 d = some d := by
  unfold f_copied_r3 f_copied_r4
  rw [h1, h2]
  exact ⟨rfl, rfl⟩
theorem copied_tu {s : Sto} {t : Tu} (h : SOk s) (k : TOk s t) : f_copied_r5 (eT3 eS eI eD t) = some (eT3 eS eI eD t) := by
  obtain ⟨w, g, d⟩ := t
  have hd : f_copied_r4 d = some d := by
    by_cases q : w = "past"
    · obtain ⟨n, _, e⟩ := k.p q
      dsimp only at e; subst e
      exact (copied_flat (eS n) rfl rfl).2
    · obtain ⟨ns, _, nd, sb, e⟩ := k.l q
      dsimp only at e; subst e
      have := nd_len h nd sb
      unfold f_copied_r4
      rw [show isiD "tuple" (eL eS ns) = false from rfl, if_neg (by decide), show isiD "list" (eL eS ns) = true from rfl, if_pos rfl, bo (show asLD (eL eS ns) = some (ns.map eS) from rfl)]
      refine Eq.trans (bo (show _ = some ((ns.map eS).map fun x => x) from ?_) _) ?_
      · rw [lcC_ok (by rw [List.length_map]; omega)]
        refine lcM_all fun x hx => ?_
        obtain ⟨y, _, rfl⟩ := List.mem_map.mp hx
        rw [bo (copied_flat (eS y) rfl rfl).1]
      · show some (PyData.list (((ns.map eS).map fun x => x).map eD)) = _
        rw [List.map_id', List.map_id']
  have hw : f_copied_r4 (eS w) = some (eS w) := (copied_flat _ rfl rfl).2
  have hg : f_copied_r4 (eI g) = some (eI g) := (copied_flat _ rfl rfl).2
  unfold f_copied_r5
  rw [show isiD "tuple" (eT3 eS eI eD (w, g, d)) = true from rfl, if_pos rfl, bo (show asTD (eT3 eS eI eD (w, g, d)) = some [eS w, eI g, d] from rfl)]
  refine Eq.trans (bo (show _ = some ([eS w, eI g, d].map fun x => x) from ?_) _) ?_
  · rw [lcC_ok (by simp)]
    refine lcM_all fun x hx => ?_
    rcases List.mem_cons.mp hx with rfl | hx
    · rw [bo hw]
    · rcases List.mem_cons.mp hx with rfl | hx
      · rw [bo hg]
      · rw [List.mem_singleton] at hx; subst hx; rw [bo hd]
  · rfl
theorem copied_pp {s : Sto} (h : SOk s) {ts : List Tu} (P : PpOk s ts) : f_copied_r6 (eL (eT3 eS eI eD) ts) = some (eL (eT3 eS eI eD) ts) := by
  have hl := P.len
  unfold f_copied_r6
  rw [show isiD "tuple" (eL (eT3 eS eI eD) ts) = false from rfl, if_neg (by decide), show isiD "list" (eL (eT3 eS eI eD) ts) = true from rfl, if_pos rfl, bo (show asLD (eL (eT3 eS eI eD) ts) = some (ts.map (eT3 eS eI eD)) from rfl)]
  refine Eq.trans (bo (show _ = some ((ts.map (eT3 eS eI eD)).map fun x => x) from ?_) _) ?_
  · rw [lcC_ok (by rw [List.length_map]; omega)]
    refine lcM_all fun x hx => ?_
    obtain ⟨t, ht, rfl⟩ := List.mem_map.mp hx
    rw [bo (copied_tu h (P.t t ht))]
  · show some (PyData.list (((ts.map (eT3 eS eI eD)).map fun x => x).map eD)) = _
    rw [List.map_id', List.map_id']
/-! what the program claims -/
theorem eq_word {w v : Str} (hw : w = "up" ∨ w = "down" ∨ w = "past") (hv : v = "up" ∨ v = "down" ∨ v = "past") : eqDM (eS w) (eS v) = some (decide (w = v)) := by
  have e : ∀ w : Str, w = "up" ∨ w = "down" ∨ w = "past" → Shp 0 (eS w) := fun w h => shp_str (by rcases h with rfl | rfl | rfl <;> decide)
  rw [eqD_gen (e w hw) (e v hv) (by decide) (by decide)]
  exact congrArg some (eqE_S w v)
theorem over_ok {s : Sto} (h : SOk s) {w : Str} (hw : w = "up" ∨ w = "down" ∨ w = "past") (g : Int) : f_names_over_D (s.2.2.2, eS w, eI g) = some (nO s w g) := by
  have hl := h.bx.len
  unfold f_names_over_D
  dsimp only
  rw [bo (eq_word hw (.inl rfl))]
  rcases hw with rfl | rfl | rfl
  · rw [decide_eq_true rfl, if_pos rfl, nO_up]
    refine Eq.trans (bo ?_ _) rfl
    rw [lcC_ok (by omega)]
    refine lcM_fil (p := pU g) fun x hx => ?_
    obtain ⟨n, a, t⟩ := x
    dsimp only
    rw [bo (show asI (eI g) = some g from rfl)]
    show (if pU g (n, a, t) = true then _ else _) = _
    split <;> rfl
  · rw [decide_eq_false (by decide), if_neg (by decide), bo (eq_word (.inr (.inl rfl)) (.inr (.inl rfl))), decide_eq_true rfl, if_pos rfl, nO_down]
    refine Eq.trans (bo ?_ _) rfl
    rw [lcC_ok (by omega)]
    refine lcM_fil (p := pD g) fun x hx => ?_
    obtain ⟨n, a, t⟩ := x
    dsimp only
    rw [bo (show asI (eI g) = some g from rfl)]
    show (if pD g (n, a, t) = true then _ else _) = _
    split <;> rfl
  · rw [decide_eq_false (by decide), if_neg (by decide), bo (eq_word (.inr (.inr rfl)) (.inr (.inl rfl))), decide_eq_false (by decide), if_neg (by decide), bo (eq_word (.inr (.inr rfl)) (.inr (.inr rfl))), decide_eq_true rfl, if_pos rfl, nO_past]
    refine Eq.trans (bo ?_ _) rfl
    rw [lcC_ok (by omega)]
    refine lcM_fil (p := pP g) fun x hx => ?_
    obtain ⟨n, a, t⟩ := x
    dsimp only
    rw [bo (show asI (eI g) = some g from rfl)]
    by_cases q : g < a
    · rw [if_pos (decide_eq_true q), bo (show asI (eI g) = some g from rfl), bo rfl]
      have : pP g (n, a, t) = (decide (g < t) && !decide (a = t)) := by unfold pP; dsimp only; rw [decide_eq_true q, Bool.true_and]
      rw [this]
      split <;> rfl
    · rw [if_neg (by simpa using q), bo rfl]
      have : pP g (n, a, t) = false := by unfold pP; dsimp only; rw [decide_eq_false q, Bool.false_and]
      rw [this]
      rfl
theorem ix3 (a b c : PyData) : ixD (.tuple [a, b, c]) 0 = some a ∧ ixD (.tuple [a, b, c]) 1 = some b ∧ ixD (.tuple [a, b, c]) 2 = some c := ⟨rfl, rfl, rfl⟩
theorem claim_tu {s : Sto} (h : SOk s) {t : Tu} (k : TOk s t) : f_is_claim_D (s, eT3 eS eI eD t) = some true := by
  obtain ⟨w, g, d⟩ := t
  have kw : w = "up" ∨ w = "down" ∨ w = "past" := k.w
  have g0 : 0 ≤ g := k.g0
  have g1 : g < s.2.1.length := k.g1
  unfold f_is_claim_D
  dsimp only
  rw [show isiD "tuple" (PyData.tuple [eS w, eI g, d]) = true from rfl, if_neg (by decide), bo (show lenD (PyData.tuple [eS w, eI g, d]) = some 3 from rfl), decide_eq_true rfl, if_neg (by decide), bo (ix3 _ _ _).1, bo rfl, bo rfl,
    show (!(isiD "str" (eS w))) = false from rfl, if_neg (by decide), bo (show tupD3 (PyData.tuple [eS w, eI g, d]) = some (eS w, eI g, d) from rfl)]
  simp only [letM_eq]
  rw [bo (show f_is_whole_D (eI g) = some true from rfl), if_neg (by decide), bo (show asI (eI g) = some g from rfl), bo rfl, decide_eq_true g0, decide_eq_true g1, if_neg (by decide), bo (over_ok h kw g), bo (eq_word kw (.inr (.inr rfl)))]
  by_cases q : w = "past"
  · obtain ⟨n, hn, e⟩ := k.p q
    dsimp only at e hn; subst e
    rw [decide_eq_true q, if_pos rfl, bo (show asS (eS n) = some n from rfl), inL_mem hn]
  · obtain ⟨ns, ne, nd, sb, e⟩ := k.l q
    dsimp only at e sb; subst e
    have hl := nd_len h nd sb
    have e2 : eqDM (eL eS ns) (PyData.list []) = some false := by
      rw [eqD_gen (shp_nms fun x hx => nO_nm h _ _ x (sb x hx)) (shp_list (n := 0) (xs := []) (fun x hx => by cases hx)) (by decide) (by decide)]
      cases ns with
      | nil => exact absurd rfl ne
      | cons a b => rfl
    rw [decide_eq_false q, if_neg (by decide), show isiD "list" (eL eS ns) = true from rfl, if_neg (by decide), bo e2, if_neg (by decide), bo (show asLD (eL eS ns) = some (ns.map eS) from rfl)]
    have e4 : ∀ {β : Type} (f : List Bool → Option β), (lcC (fun name_97 => (((asS name_97)).bind fun x108 => some (some (inL x108 (nO s w g))))) (ns.map eS)).bind f = f ((ns.map eS).map fun _ => true) := fun f => by
      refine bo ?_ f
      rw [lcC_ok (by rw [List.length_map]; omega)]
      refine lcM_all fun x hx => ?_
      obtain ⟨y, hy, rfl⟩ := List.mem_map.mp hx
      rw [bo (show asS (eS y) = some y from rfl), inL_mem (sb y hy)]
    rw [e4, all_id, bo rfl, bo rfl, if_neg (by decide)]
    have e6 : setLenM ns = some (ns.length : Int) := by
      unfold setLenM
      rw [if_pos (by omega), dups_nodup _ [] (fun x _ hx => by cases hx) nd]
      simp
    rw [bo (show asL asS (eL eS ns) = some ns from asAll_nms _), bo e6, bo (show lenD (eL eS ns) = some (ns.length : Int) by show some ((ns.map eS).length : Int) = _; rw [List.length_map]), decide_eq_true rfl]
theorem times_tu {s : Sto} (h : SOk s) {t : Tu} (k : TOk s t) : f_times_told_D (s, eT3 eS eI eD t) = some (tt s t) := by
  obtain ⟨w, g, d⟩ := t
  have hm := h.mo
  have kw : w = "up" ∨ w = "down" ∨ w = "past" := k.w
  unfold f_times_told_D tt
  dsimp only
  rw [bo (ix3 _ _ _).1, bo (eq_word kw (.inr (.inr rfl)))]
  by_cases q : w = "past"
  · rw [decide_eq_true q, if_pos rfl, if_pos q]
  · obtain ⟨ns, ne, nd, sb, e⟩ := k.l q
    dsimp only at e; subst e
    rw [decide_eq_false q, if_neg (by decide), if_neg q, bo (ix3 _ _ _).2.2, bo (show lenD (eL eS ns) = some ((ns.map eS).length : Int) from rfl), bo (fdivM_ok (by omega) (by omega)), cd_fl _ _ (by omega) (by omega)]
    rfl
theorem lookK_none {d : List (Int × Int)} {k : Int} (h : k ∉ d.map (·.1)) : lookK d k = none := by
  unfold lookK
  rw [Option.map_eq_none_iff, List.find?_eq_none]
  intro p hp e
  exact h (List.mem_map.mpr ⟨p, hp, of_decide_eq_true e⟩)
theorem putM_new {d : List (Int × Int)} {k v : Int} (h : k ∉ d.map (·.1)) (hl : d.length < 1000) : putM d k v = some (d ++ [(k, v)]) := by
  unfold putM putKV
  rw [if_pos (by omega), if_neg]
  intro e
  obtain ⟨p, hp, e⟩ := List.any_eq_true.mp e
  exact h (List.mem_map.mpr ⟨p, hp, of_decide_eq_true e⟩)
theorem claim_loop {s : Sto} (hs : SOk s) : ∀ (es : List (Int × PyData)) (ts : List Tu) (told : List (Int × Int)), es.map (·.2) = ts.map (eT3 eS eI eD) → (∀ t ∈ ts, TOk s t) → (ts.map fun t => t.2.1).Nodup → (∀ t ∈ ts, t.2.1 ∉ told.map (·.1)) → told.length + ts.length ≤ 1000 →
    es.foldlM (f_claim_of_D_b22 s) told = some (told ++ ts.map fun t => (t.2.1, tt s t))
  | [], [], told, _, _, _, _, _ => by simp
  | [], _ :: _, _, e, _, _, _, _ => by simp at e
  | _ :: _, [], _, e, _, _, _, _ => by simp at e
  | (i, d) :: es, t :: ts, told, e, h, nd, dj, hl => by
    rw [List.map_cons, List.map_cons] at e
    obtain ⟨rfl, e'⟩ := List.cons.inj e
    rw [List.length_cons] at hl
    have T := h _ List.mem_cons_self
    have n1 := dj _ List.mem_cons_self
    rw [List.map_cons, List.nodup_cons] at nd
    have e1 : f_claim_of_D_b22 s told (i, eT3 eS eI eD t) = some (told ++ [(t.2.1, tt s t)]) := by
      unfold f_claim_of_D_b22
      dsimp only
      rw [bo (claim_tu hs T), if_neg (by decide), bo (ix3 _ _ _).2.1, bo (show asI (eI t.2.1) = some t.2.1 from rfl), bo rfl, show hasK told t.2.1 = false from by unfold hasK; rw [lookK_none n1]; rfl, if_neg (by decide), bo (times_tu hs T), bo (ix3 _ _ _).2.1, bo (show asI (eI t.2.1) = some t.2.1 from rfl), bo (putM_new n1 (by omega))]
    rw [List.foldlM_cons]
    show (f_claim_of_D_b22 s told (i, eT3 eS eI eD t)).bind _ = _
    rw [bo e1, claim_loop hs es ts (told ++ [(t.2.1, tt s t)]) e' (fun e he => h e (List.mem_cons_of_mem _ he)) nd.2 (fun e he hm => by
      rw [List.map_append, List.mem_append] at hm
      rcases hm with hm | hm
      · exact dj e (List.mem_cons_of_mem _ he) hm
      · have : e.2.1 = t.2.1 := by simpa using hm
        exact nd.1 (List.mem_map.mpr ⟨e, he, this⟩)) (by rw [List.length_append]; simp; omega)]
    rw [List.append_assoc]
    rfl
theorem en_map {α β : Type} (f : α → β) (xs : List α) : (enumM xs).map (fun e => f e.2) = xs.map f := by
  unfold enumM
  refine List.ext_getElem? fun i => ?_
  rw [List.getElem?_map, List.getElem?_mapIdx, List.getElem?_map]
  cases xs[i]? <;> rfl
def cl (s : Sto) (ts : List Tu) : Int := (ts.map fun t => gp s t.2.1 * tt s t).sum
theorem tt_le {s : Sto} (h : SOk s) {t : Tu} (k : TOk s t) : 0 ≤ tt s t ∧ tt s t ≤ 60 := by
  have hm := h.mo
  unfold tt
  split
  · omega
  · rename_i q
    obtain ⟨ns, ne, nd, sb, e⟩ := k.l q
    have hl := nd_len h nd sb
    rw [e]
    show 0 ≤ cd ((ns.map eS).length : Int) _ ∧ cd ((ns.map eS).length : Int) _ ≤ 60
    rw [List.length_map]
    have := cd_le (ns.length : Int) s.2.2.1 (by omega) (by omega)
    exact ⟨cd_nn _ _ (by omega), by omega⟩
theorem claim_ok {s : Sto} (h : SOk s) {ts : List Tu} (P : PpOk s ts) : f_claim_of_D (s, eL (eT3 eS eI eD) ts) = some (2 * cl s ts) := by
  have hl := P.len
  unfold f_claim_of_D
  dsimp only
  rw [bo (look_ok h), show isiD "list" (eL (eT3 eS eI eD) ts) = true from rfl, if_neg (by decide), bo (show asLD (eL (eT3 eS eI eD) ts) = some (ts.map (eT3 eS eI eD)) from rfl)]
  have lp := claim_loop h (enumM (ts.map (eT3 eS eI eD))) ts [] (by have := en_map (fun x : PyData => x) (ts.map (eT3 eS eI eD)); rw [List.map_id'] at this; exact this) P.t P.nd (fun e _ hm => by cases hm) (by simp; omega)
  rw [bo lp, List.nil_append]
  refine Eq.trans (bo (show _ = some (ts.map fun t => gp s t.2.1 * tt s t) from ?_) _) rfl
  rw [lcC_ok (by rw [List.length_map]; omega)]
  have e : (ts.map fun t => gp s t.2.1 * tt s t) = (ts.map fun t => (t.2.1, tt s t)).map fun x => gp s x.1 * x.2 := by rw [List.map_map]; rfl
  rw [e]
  refine lcM_all fun x hx => ?_
  obtain ⟨t, ht, rfl⟩ := List.mem_map.mp hx
  have T := P.t t ht
  obtain ⟨a1, a2⟩ := gp_at T.g0 T.g1
  have := h.gm _ a2
  dsimp only
  rw [bo a1, bo (mulM_ok (by omega) (by omega))]
/-! what the law says -/
theorem loads_ok (m : Int) (hm : 0 < m) : ∀ (n : Nat) (l t : Int), l.toNat < n → ∃ l', whileF (f_loads_t7 m) (f_loads_w7 m) n (l, t) = some (.nx (l', t + cd l m))
  | 0, l, t, h => absurd h (Nat.not_lt_zero _)
  | n + 1, l, t, h => by
    unfold whileF
    by_cases q : 0 < l
    · have e : f_loads_t7 m (l, t) = some true := by unfold f_loads_t7; dsimp only; rw [decide_eq_true q]
      have e2 : f_loads_w7 m (l, t) = some (.nx (l - m, t + 1)) := rfl
      rw [bo e, if_pos rfl, bo e2]
      dsimp only
      obtain ⟨l', ih⟩ := loads_ok m hm n (l - m) (t + 1) (by omega)
      refine ⟨l', ?_⟩
      rw [ih, cd_step l m q hm, Int.add_assoc]
    · have e : f_loads_t7 m (l, t) = some false := by unfold f_loads_t7; dsimp only; rw [decide_eq_false q]
      refine ⟨l, ?_⟩
      rw [bo e, if_neg (by decide)]
      unfold cd
      rw [if_pos (by omega), Int.add_zero]
theorem loads_eq {n m : Int} (hm : 0 < m) (h0 : n ≤ 1000) : f_loads (n, m) = some (cd n m) := by
  unfold f_loads
  dsimp only
  obtain ⟨l', e⟩ := loads_ok m hm fuel n 0 (by unfold fuel; omega)
  rw [bo e]
  dsimp only
  rw [Int.zero_add]
theorem claimed_fold {s : Sto} (h : SOk s) : ∀ (ts : List Tu) (c : Int), (∀ t ∈ ts, TOk s t) → ts.foldlM (f_claimed_D_b7 s) c = some (c + cl s ts)
  | [], c, _ => by unfold cl; simp
  | (w, g, d) :: ts, c, hk => by
    have k := hk _ List.mem_cons_self
    have hm := h.mo
    obtain ⟨a1, a2⟩ := gp_at k.g0 k.g1
    have gm := h.gm _ a2
    rw [List.foldlM_cons]
    have e : f_claimed_D_b7 s c (w, g, d) = some (c + gp s g * tt s (w, g, d)) := by
      unfold f_claimed_D_b7
      dsimp only
      have et : (if (!decide (w = ("past" : Str))) = true then (((lenD d)).bind fun x70 => ((f_loads (x70, s.2.2.1))).bind fun x72 => some x72) else some (1 : Int)) = some (tt s (w, g, d)) := by
        unfold tt
        dsimp only
        by_cases q : w = "past"
        · rw [decide_eq_true q, if_neg (by decide), if_pos q]
        · obtain ⟨ns, ne, nd, sb, e⟩ := k.l q
          have hl := nd_len h nd sb
          dsimp only at e; subst e
          rw [decide_eq_false q, if_pos (by decide), if_neg q, bo (show lenD (eL eS ns) = some ((ns.map eS).length : Int) from rfl), bo (loads_eq (by omega) (by rw [List.length_map]; omega))]
          rfl
      rw [bo et, bo a1, bo (mulM_ok (by omega) (by omega))]
      rfl
    show (f_claimed_D_b7 s c (w, g, d)).bind _ = _
    rw [bo e, claimed_fold h ts _ fun t ht => hk t (List.mem_cons_of_mem _ ht)]
    unfold cl
    rw [List.map_cons, List.sum_cons, Int.add_assoc]
theorem claimed_ok {s : Sto} (h : SOk s) {ts : List Tu} (P : PpOk s ts) : f_claimed_D (s, ts) = some (2 * cl s ts) := by
  unfold f_claimed_D
  dsimp only
  rw [bo (claimed_fold h ts 0 P.t), Int.zero_add]
theorem shp_pp {s : Sto} (h : SOk s) {ts : List Tu} (P : PpOk s ts) : Shp 3 (eL (eT3 eS eI eD) ts) := shp_list fun d hd => by
  obtain ⟨t, ht, rfl⟩ := List.mem_map.mp hd
  exact shp_tu h (P.t t ht)
theorem copy_eq (s : Sto) : f_copy s = some s := rfl
theorem law_true (ns : List Int) (h : ns.length ≤ 63) : f_law ns = some true := by
  obtain ⟨s, e1, hs⟩ := store_ok ns h
  obtain ⟨c, e2⟩ := cell_ok ns 2 (by decide)
  obtain ⟨src, e3, h3⟩ := source_ok c 2
  obtain ⟨⟨ts, src'⟩, e4, P, _⟩ := paper_ok hs h3
  dsimp only at P
  have hl := P.len
  unfold f_law
  rw [bo e1, bo e2, bo e3, bo e4]
  dsimp only
  rw [bo (copy_eq s)]
  have e5 : lrgM 0 ((ts.length : Int) + 1) = some (rngL 0 ((ts.length : Int) + 1)) := by
    unfold lrgM
    rw [bo (rngM_ok (by omega) (by omega) (by omega) (by omega)), if_pos (by rw [rngL_len]; omega)]
  rw [bo e5, bo (catM_ok (by rw [rngL_len, List.length_singleton]; omega))]
  obtain ⟨r, e6, _⟩ := forF_nx (body := f_law_b35 s ts s) (fun _ => True) (rngL 0 ((ts.length : Int) + 1) ++ [(ts.length : Int)]) () trivial (fun m hm _ _ => by
    have m0 : 0 ≤ m := by
      rcases List.mem_append.mp hm with hm | hm
      · obtain ⟨k, hk⟩ := List.mem_iff_getElem?.mp hm
        obtain ⟨e, _⟩ := rngL_get hk
        omega
      · rw [List.mem_singleton] at hm; omega
    refine ⟨(), ?_, trivial⟩
    have P2 : PpOk s (ts.take m.toNat) := P.sub (List.take_sublist _ _)
    unfold f_law_b35
    rw [cut_take _ _ m0, bo (copied_pp hs P2), bo (claim_ok hs P2), bo (show f_whole (2 * cl s (ts.take m.toNat)) = some true from rfl), if_neg (by decide), bo (claimed_ok hs P2), decide_eq_true rfl, bo rfl, if_neg (by decide),
      bo (eqD_gen (shp_pp hs P2) (shp_pp hs P2) (by decide) (by decide)), (shp_pp hs P2).eqv, if_neg (by decide), bo (eqT_self (shp_store hs) (by decide)), bo rfl, if_neg (by decide)])
  rw [bo e6]
end Bw

set_option maxHeartbeats 0
namespace Bw
open PySem L2
def de0 : He.DefD := ⟨("is_whole", none), "is_whole", "is_whole", defArgs s_is_whole, defBody s_is_whole, defScope s_is_whole, [], []⟩
def de1 : He.DefD := ⟨("is_within", none), "is_within", "is_within", defArgs s_is_within, defBody s_is_within, defScope s_is_within, [], []⟩
def de2 : He.DefD := ⟨("is_name", none), "is_name", "is_name", defArgs s_is_name, defBody s_is_name, defScope s_is_name, [], []⟩
def de3 : He.DefD := ⟨("are_within", none), "are_within", "are_within", defArgs s_are_within, defBody s_are_within, defScope s_are_within, [], []⟩
def de4 : He.DefD := ⟨("is_box", none), "is_box", "is_box", defArgs s_is_box, defBody s_is_box, defScope s_is_box, [], []⟩
def de5 : He.DefD := ⟨("has_names_twice", none), "has_names_twice", "has_names_twice", defArgs s_has_names_twice, defBody s_has_names_twice, defScope s_has_names_twice, [], []⟩
def de6 : He.DefD := ⟨("has_room", none), "has_room", "has_room", defArgs s_has_room, defBody s_has_room, defScope s_has_room, [], []⟩
def de7 : He.DefD := ⟨("are_boxes", none), "are_boxes", "are_boxes", defArgs s_are_boxes, defBody s_are_boxes, defScope s_are_boxes, [], []⟩
def de8 : He.DefD := ⟨("look_at_store", none), "look_at_store", "look_at_store", defArgs s_look_at_store, defBody s_look_at_store, defScope s_look_at_store, [], []⟩
def de9 : He.DefD := ⟨("names_over", none), "names_over", "names_over", defArgs s_names_over_D, defBody s_names_over_D, defScope s_names_over_D, [], []⟩
def de10 : He.DefD := ⟨("is_claim", none), "is_claim", "is_claim", defArgs s_is_claim_D, defBody s_is_claim_D, defScope s_is_claim_D, [], []⟩
def de11 : He.DefD := ⟨("times_told", none), "times_told", "times_told", defArgs s_times_told_D, defBody s_times_told_D, defScope s_times_told_D, [], []⟩
def de12 : He.DefD := ⟨("claim_of", none), "claim_of", "claim_of", defArgs s_claim_of_D, defBody s_claim_of_D, defScope s_claim_of_D, [], []⟩
def de13 : He.DefD := ⟨("_law_cell", none), "_law_cell", "_law_cell", defArgs s_cell, defBody s_cell, defScope s_cell, [], []⟩
def de14 : He.DefD := ⟨("_law_source", none), "_law_source", "_law_source", defArgs s_source, defBody s_source, defScope s_source, [], []⟩
def de15 : He.DefD := ⟨("_law_draw", none), "_law_draw", "_law_draw", defArgs s_draw, defBody s_draw, defScope s_draw, [], []⟩
def de16 : He.DefD := ⟨("_law_name", none), "_law_name", "_law_name", defArgs s_name, defBody s_name, defScope s_name, [], []⟩
def de17 : He.DefD := ⟨("_law_box", none), "_law_box", "_law_box", defArgs s_box, defBody s_box, defScope s_box, [], []⟩
def de18 : He.DefD := ⟨("_law_store", none), "_law_store", "_law_store", defArgs s_store, defBody s_store, defScope s_store, [], []⟩
def de19 : He.DefD := ⟨("_law_copy", none), "_law_copy", "_law_copy", defArgs s_copy, defBody s_copy, defScope s_copy, [], []⟩
def de20 : He.DefD := ⟨("_law_whole", none), "_law_whole", "_law_whole", defArgs s_whole, defBody s_whole, defScope s_whole, [], []⟩
def de21 : He.DefD := ⟨("_law_able", none), "_law_able", "_law_able", defArgs s_able, defBody s_able, defScope s_able, [], []⟩
def de22 : He.DefD := ⟨("_law_paper", none), "_law_paper", "_law_paper", defArgs s_paper, defBody s_paper, defScope s_paper, [], []⟩
def de23 : He.DefD := ⟨("_law_copied", none), "_law_copied", "_law_copied", defArgs s_copied_r0, defBody s_copied_r0, defScope s_copied_r0, [], []⟩
def de24 : He.DefD := ⟨("_law_loads", none), "_law_loads", "_law_loads", defArgs s_loads, defBody s_loads, defScope s_loads, [], []⟩
def de25 : He.DefD := ⟨("_law_claimed", none), "_law_claimed", "_law_claimed", defArgs s_claimed_D, defBody s_claimed_D, defScope s_claimed_D, [], []⟩
def de26 : He.DefD := ⟨("law", none), "law", "law", defArgs s_law, defBody s_law, defScope s_law, [], []⟩
def fnL : List He.DefD := [de0, de1, de2, de3, de4, de5, de6, de7, de8, de9, de10, de11, de12, de13, de14, de15, de16, de17, de18, de19, de20, de21, de22, de23, de24, de25, de26]
def faL : List He.Fa := [.glo "is_whole", .glo "is_within", .glo "is_name", .glo "are_within", .glo "is_box", .glo "has_names_twice", .glo "has_room", .glo "are_boxes", .glo "look_at_store", .glo "names_over", .glo "is_claim", .glo "times_told", .glo "claim_of", .glo "_law_cell", .glo "_law_source", .glo "_law_draw", .glo "_law_name", .glo "_law_box", .glo "_law_store", .glo "_law_copy", .glo "_law_whole", .glo "_law_able", .glo "_law_paper", .glo "_law_copied", .glo "_law_loads", .glo "_law_claimed", .glo "law", .free "abs", .free "all", .free "bool", .free "enumerate", .free "int", .free "isinstance", .free "len", .free "list", .free "min", .free "range", .free "set", .free "str", .free "sum", .free "tuple", .int "FARTHEST" 1000000000, .int "FEWEST_BAYS" 2, .str "LETTERS" "abcdefghijklmnopqrstuvwxyz", .int "LONGEST" 8, .int "MOST_BAYS" 16, .int "MOST_BOXES" 60, .int "MOST_LOAD" 20, .int "MOST_ROOM" 40]
def lo0 : List Str := ["CartError", "NoStore", "NoPaper", "LETTERS", "LONGEST", "is_whole", "is_within", "is_name", "FEWEST_BAYS", "MOST_BAYS", "MOST_ROOM", "FARTHEST", "MOST_LOAD", "MOST_BOXES", "are_within", "is_box", "has_names_twice", "has_room", "are_boxes", "look_at_store", "names_over", "is_claim", "times_told", "claim_of", "_law_cell", "_law_source", "_law_draw", "_law_name", "_law_box", "_law_store"]
def lo1 : List Str := ["_law_copy", "_law_whole", "_law_able", "_law_paper", "_law_copied", "_law_loads", "_law_claimed"]
def looseL : List Str := lo0 ++ lo1
abbrev RowL : PySem.W.OpenRow := PySem.W.OpenLaw.row PySem.Challenge.rw_baycart_k25_claims_of_papers
abbrev hkL : PySem.W.Hook := He.hookD 4 faL fnL
def obL (s : PySem.W.SharedT) : He.AlD := He.obsDG 4 faL fnL (HandSHeadRun.getT s)
theorem obL_eq (s : PySem.W.SharedT) : obL s = hkL.obs s.abs := He.obsDG_eq (HandSHeadRun.getT_eq s)
theorem runL (w : World) : HandSHeadRun.RunEq RowL (PySem.W.view RowL.prog [42]) hkL obL 20000 looseL w := by
  intro os
  kernel_rfl
theorem all_ok {P : Program} {w : World} {K : PySem.W.Frag} {h : Heap} {mg : Str → Option Value} {base : Heap} (X : K.In h) (G : h.Ns mainGlobals mg) (c : He.SaysD faL fnL K) : Ok P w K mg base 8 "law" ["_law_script"] (sp_law K) := by
  have m_abs : mg "abs" = none := He.free_ok X G (c.fact 27 (f := .free "abs") rfl)
  have m_all : mg "all" = none := He.free_ok X G (c.fact 28 (f := .free "all") rfl)
  have m_bool : mg "bool" = none := He.free_ok X G (c.fact 29 (f := .free "bool") rfl)
  have m_enumerate : mg "enumerate" = none := He.free_ok X G (c.fact 30 (f := .free "enumerate") rfl)
  have m_int : mg "int" = none := He.free_ok X G (c.fact 31 (f := .free "int") rfl)
  have m_isinstance : mg "isinstance" = none := He.free_ok X G (c.fact 32 (f := .free "isinstance") rfl)
  have m_len : mg "len" = none := He.free_ok X G (c.fact 33 (f := .free "len") rfl)
  have m_list : mg "list" = none := He.free_ok X G (c.fact 34 (f := .free "list") rfl)
  have m_min : mg "min" = none := He.free_ok X G (c.fact 35 (f := .free "min") rfl)
  have m_range : mg "range" = none := He.free_ok X G (c.fact 36 (f := .free "range") rfl)
  have m_set : mg "set" = none := He.free_ok X G (c.fact 37 (f := .free "set") rfl)
  have m_str : mg "str" = none := He.free_ok X G (c.fact 38 (f := .free "str") rfl)
  have m_sum : mg "sum" = none := He.free_ok X G (c.fact 39 (f := .free "sum") rfl)
  have m_tuple : mg "tuple" = none := He.free_ok X G (c.fact 40 (f := .free "tuple") rfl)
  have c_FARTHEST : ∃ t, mg "FARTHEST" = some (.int 1000000000 t) := He.int_ok X G (c.fact 41 (f := .int "FARTHEST" 1000000000) rfl)
  have c_FEWEST_BAYS : ∃ t, mg "FEWEST_BAYS" = some (.int 2 t) := He.int_ok X G (c.fact 42 (f := .int "FEWEST_BAYS" 2) rfl)
  have c_LETTERS : ∃ t, mg "LETTERS" = some (.str "abcdefghijklmnopqrstuvwxyz" t) := He.str_ok X G (c.fact 43 (f := .str "LETTERS" "abcdefghijklmnopqrstuvwxyz") rfl)
  have c_LONGEST : ∃ t, mg "LONGEST" = some (.int 8 t) := He.int_ok X G (c.fact 44 (f := .int "LONGEST" 8) rfl)
  have c_MOST_BAYS : ∃ t, mg "MOST_BAYS" = some (.int 16 t) := He.int_ok X G (c.fact 45 (f := .int "MOST_BAYS" 16) rfl)
  have c_MOST_BOXES : ∃ t, mg "MOST_BOXES" = some (.int 60 t) := He.int_ok X G (c.fact 46 (f := .int "MOST_BOXES" 60) rfl)
  have c_MOST_LOAD : ∃ t, mg "MOST_LOAD" = some (.int 20 t) := He.int_ok X G (c.fact 47 (f := .int "MOST_LOAD" 20) rfl)
  have c_MOST_ROOM : ∃ t, mg "MOST_ROOM" = some (.int 40 t) := He.int_ok X G (c.fact 48 (f := .int "MOST_ROOM" 40) rfl)
  have d_is_whole : Df K mg "is_whole" s_is_whole := ⟨c.def_ 0 (d := de0) rfl, He.glo_ok X G (c.fact 0 (f := .glo "is_whole") rfl)⟩
  have d_is_within : Df K mg "is_within" s_is_within := ⟨c.def_ 1 (d := de1) rfl, He.glo_ok X G (c.fact 1 (f := .glo "is_within") rfl)⟩
  have d_is_name : Df K mg "is_name" s_is_name := ⟨c.def_ 2 (d := de2) rfl, He.glo_ok X G (c.fact 2 (f := .glo "is_name") rfl)⟩
  have d_are_within : Df K mg "are_within" s_are_within := ⟨c.def_ 3 (d := de3) rfl, He.glo_ok X G (c.fact 3 (f := .glo "are_within") rfl)⟩
  have d_is_box : Df K mg "is_box" s_is_box := ⟨c.def_ 4 (d := de4) rfl, He.glo_ok X G (c.fact 4 (f := .glo "is_box") rfl)⟩
  have d_has_names_twice : Df K mg "has_names_twice" s_has_names_twice := ⟨c.def_ 5 (d := de5) rfl, He.glo_ok X G (c.fact 5 (f := .glo "has_names_twice") rfl)⟩
  have d_has_room : Df K mg "has_room" s_has_room := ⟨c.def_ 6 (d := de6) rfl, He.glo_ok X G (c.fact 6 (f := .glo "has_room") rfl)⟩
  have d_are_boxes : Df K mg "are_boxes" s_are_boxes := ⟨c.def_ 7 (d := de7) rfl, He.glo_ok X G (c.fact 7 (f := .glo "are_boxes") rfl)⟩
  have d_look_at_store : Df K mg "look_at_store" s_look_at_store := ⟨c.def_ 8 (d := de8) rfl, He.glo_ok X G (c.fact 8 (f := .glo "look_at_store") rfl)⟩
  have d_names_over_D : Df K mg "names_over" s_names_over_D := ⟨c.def_ 9 (d := de9) rfl, He.glo_ok X G (c.fact 9 (f := .glo "names_over") rfl)⟩
  have d_is_claim_D : Df K mg "is_claim" s_is_claim_D := ⟨c.def_ 10 (d := de10) rfl, He.glo_ok X G (c.fact 10 (f := .glo "is_claim") rfl)⟩
  have d_times_told_D : Df K mg "times_told" s_times_told_D := ⟨c.def_ 11 (d := de11) rfl, He.glo_ok X G (c.fact 11 (f := .glo "times_told") rfl)⟩
  have d_claim_of_D : Df K mg "claim_of" s_claim_of_D := ⟨c.def_ 12 (d := de12) rfl, He.glo_ok X G (c.fact 12 (f := .glo "claim_of") rfl)⟩
  have d_cell : Df K mg "_law_cell" s_cell := ⟨c.def_ 13 (d := de13) rfl, He.glo_ok X G (c.fact 13 (f := .glo "_law_cell") rfl)⟩
  have d_source : Df K mg "_law_source" s_source := ⟨c.def_ 14 (d := de14) rfl, He.glo_ok X G (c.fact 14 (f := .glo "_law_source") rfl)⟩
  have d_draw : Df K mg "_law_draw" s_draw := ⟨c.def_ 15 (d := de15) rfl, He.glo_ok X G (c.fact 15 (f := .glo "_law_draw") rfl)⟩
  have d_name : Df K mg "_law_name" s_name := ⟨c.def_ 16 (d := de16) rfl, He.glo_ok X G (c.fact 16 (f := .glo "_law_name") rfl)⟩
  have d_box : Df K mg "_law_box" s_box := ⟨c.def_ 17 (d := de17) rfl, He.glo_ok X G (c.fact 17 (f := .glo "_law_box") rfl)⟩
  have d_store : Df K mg "_law_store" s_store := ⟨c.def_ 18 (d := de18) rfl, He.glo_ok X G (c.fact 18 (f := .glo "_law_store") rfl)⟩
  have d_copy : Df K mg "_law_copy" s_copy := ⟨c.def_ 19 (d := de19) rfl, He.glo_ok X G (c.fact 19 (f := .glo "_law_copy") rfl)⟩
  have d_whole : Df K mg "_law_whole" s_whole := ⟨c.def_ 20 (d := de20) rfl, He.glo_ok X G (c.fact 20 (f := .glo "_law_whole") rfl)⟩
  have d_able : Df K mg "_law_able" s_able := ⟨c.def_ 21 (d := de21) rfl, He.glo_ok X G (c.fact 21 (f := .glo "_law_able") rfl)⟩
  have d_paper : Df K mg "_law_paper" s_paper := ⟨c.def_ 22 (d := de22) rfl, He.glo_ok X G (c.fact 22 (f := .glo "_law_paper") rfl)⟩
  have d_copied_r0 : Df K mg "_law_copied" s_copied_r0 := ⟨c.def_ 23 (d := de23) rfl, He.glo_ok X G (c.fact 23 (f := .glo "_law_copied") rfl)⟩
  have d_loads : Df K mg "_law_loads" s_loads := ⟨c.def_ 24 (d := de24) rfl, He.glo_ok X G (c.fact 24 (f := .glo "_law_loads") rfl)⟩
  have d_claimed_D : Df K mg "_law_claimed" s_claimed_D := ⟨c.def_ 25 (d := de25) rfl, He.glo_ok X G (c.fact 25 (f := .glo "_law_claimed") rfl)⟩
  have d_law : Df K mg "law" s_law := ⟨c.def_ 26 (d := de26) rfl, He.glo_ok X G (c.fact 26 (f := .glo "law") rfl)⟩
  have o_source := ok_source (P := P) (w := w) (base := base) d_source m_abs m_int
  have o_draw := ok_draw (P := P) (w := w) (base := base) d_draw 
  have o_cell := ok_cell (P := P) (w := w) (base := base) d_cell m_len
  have o_name := ok_name (P := P) (w := w) (base := base) d_name 
  have o_box := ok_box (P := P) (w := w) (base := base) d_box m_len m_range o_name o_draw
  have o_store := ok_store (P := P) (w := w) (base := base) d_store m_len m_list m_min m_range o_box o_source o_draw o_cell
  have o_able := ok_able (P := P) (w := w) (base := base) d_able m_min
  have o_paper := ok_paper (P := P) (w := w) (base := base) d_paper m_len m_range o_draw o_able
  have o_copy := ok_copy (P := P) (w := w) (base := base) d_copy m_list
  have o_copied_r0 := ok_copied_r0 (P := P) (w := w) (base := base) d_copied_r0 m_isinstance m_list m_tuple
  have o_copied_r1 := ok_copied_r1 (P := P) (w := w) (base := base) d_copied_r0 m_isinstance m_list m_tuple o_copied_r0
  have o_copied_r2 := ok_copied_r2 (P := P) (w := w) (base := base) d_copied_r0 m_isinstance m_list m_tuple o_copied_r1
  have o_copied_r3 := ok_copied_r3 (P := P) (w := w) (base := base) d_copied_r0 m_isinstance m_list m_tuple o_copied_r2
  have o_copied_r4 := ok_copied_r4 (P := P) (w := w) (base := base) d_copied_r0 m_isinstance m_list m_tuple o_copied_r3
  have o_copied_r5 := ok_copied_r5 (P := P) (w := w) (base := base) d_copied_r0 m_isinstance m_list m_tuple o_copied_r4
  have o_copied_r6 := ok_copied_r6 (P := P) (w := w) (base := base) d_copied_r0 m_isinstance m_list m_tuple o_copied_r5
  have o_is_whole := ok_is_whole (P := P) (w := w) (base := base) d_is_whole m_bool m_int m_isinstance
  have o_is_whole_D := ok_is_whole_D (P := P) (w := w) (base := base) d_is_whole m_bool m_int m_isinstance
  have o_is_within := ok_is_within (P := P) (w := w) (base := base) d_is_within o_is_whole
  have o_has_names_twice := ok_has_names_twice (P := P) (w := w) (base := base) d_has_names_twice m_len m_set
  have o_has_room := ok_has_room (P := P) (w := w) (base := base) d_has_room m_enumerate m_len
  have o_is_name := ok_is_name (P := P) (w := w) (base := base) d_is_name m_all m_isinstance m_len m_str c_LETTERS c_LONGEST
  have o_is_box := ok_is_box (P := P) (w := w) (base := base) d_is_box m_isinstance m_len m_tuple o_is_within o_is_name
  have o_are_boxes := ok_are_boxes (P := P) (w := w) (base := base) d_are_boxes m_all m_isinstance m_len m_list c_MOST_BOXES o_has_room o_is_box o_has_names_twice
  have o_are_within := ok_are_within (P := P) (w := w) (base := base) d_are_within m_all m_isinstance m_list o_is_within
  have o_look_at_store := ok_look_at_store (P := P) (w := w) (base := base) d_look_at_store m_isinstance m_len m_tuple c_FARTHEST c_FEWEST_BAYS c_MOST_BAYS c_MOST_LOAD c_MOST_ROOM o_are_boxes o_is_within o_are_within
  have o_times_told_D := ok_times_told_D (P := P) (w := w) (base := base) d_times_told_D m_len
  have o_names_over_D := ok_names_over_D (P := P) (w := w) (base := base) d_names_over_D 
  have o_is_claim_D := ok_is_claim_D (P := P) (w := w) (base := base) d_is_claim_D m_all m_isinstance m_len m_list m_set m_str m_tuple o_names_over_D o_is_whole_D
  have o_claim_of_D := ok_claim_of_D (P := P) (w := w) (base := base) d_claim_of_D m_enumerate m_isinstance m_list m_sum o_times_told_D o_is_claim_D o_look_at_store
  have o_whole := ok_whole (P := P) (w := w) (base := base) d_whole m_bool m_int m_isinstance
  have o_loads := ok_loads (P := P) (w := w) (base := base) d_loads 
  have o_claimed_D := ok_claimed_D (P := P) (w := w) (base := base) d_claimed_D m_len o_loads
  have o_law := ok_law (P := P) (w := w) (base := base) d_law m_len m_list m_range o_whole o_claimed_D o_claim_of_D o_copied_r6 o_copy o_paper o_source o_cell o_store
  exact o_law
end Bw
open PySem PySem.W PySem.Calls PyProof.Rows
abbrev Bw.qL : Program := view Bw.RowL.prog [42]
abbrev Bw.dL : DefRec := HandSHeadRun.topDef Bw.RowL.prog 42
theorem Bw.o_e : opening Bw.RowL.prog = plainProg Bw.RowL.prog.main.scope.names := by kernel_rfl
theorem Bw.o_f : ∀ s, fenceModules? Bw.RowL.prog s = some s := fun s => by kernel_rfl
theorem Bw.o_def : defOf Bw.qL Bw.RowL.name = some (Bw.dL, []) := by kernel_rfl
theorem Bw.o_the : Bw.RowL.prog.theDef Bw.RowL.name = some (Bw.dL.params, Bw.dL.body, Bw.dL.scope) := by kernel_rfl
theorem Bw.o_kw : kwWritten? Bw.dL.params.kwonlyargs Bw.dL.params.kw_defaults = some [] := by kernel_rfl
theorem Bw.o_1 : chainsOk Bw.qL = true := by decide +kernel
theorem Bw.o_2 : opensWell Bw.RowL.prog = true := by decide +kernel
theorem Bw.o_3 : frees Bw.RowL.toRowW = true := by decide +kernel
theorem Bw.o_4 : Bw.RowL.within.isEmpty = true := by decide +kernel
theorem Bw.o_ok : (chainsOk Bw.qL && opensWell Bw.RowL.prog && (frees Bw.RowL.toRowW && Bw.RowL.within.isEmpty)) = true := by rw [Bw.o_1, Bw.o_2, Bw.o_3, Bw.o_4]; rfl
theorem Bw.o_bare : Bw.RowL.prog.bare := ⟨rfl, rfl, rfl, rfl, rfl, by decide +kernel⟩
theorem Bw.o_hw : Bw.RowL.toRowW.promised := by w_witness2
theorem PySem.Challenge.cw_baycart_k25_claims_of_papers_holds : PySem.Challenge.rw_baycart_k25_claims_of_papers.Holds := by
  w_on; o_law
  refine HandSHeadRun.head_any (r := Bw.RowL) (q := Bw.qL) (H := Bw.hkL) (ob := Bw.obL) (M := 20000) (loose := Bw.looseL) (d := Bw.dL) (kwd := []) Bw.obL_eq
    Bw.o_e Bw.o_f Bw.runL Bw.o_def Bw.o_the Bw.o_kw (by rfl) (by first | assumption | decide +kernel) Bw.o_ok Bw.o_bare Bw.o_hw ?hc
  case hc =>
    refine L2.walk_ofE (l := PySem.Challenge.rw_baycart_k25_claims_of_papers) (n := 63) (k := 8) (x := "_law_script") (CX := L2.CX0) rfl (by decide) (by kernel_rfl) ⟨rfl, by decide, by decide⟩ ?F (fun _ _ _ _ z => z)
    intro w mg fa h Y G hmg0
    obtain ⟨K, KX, c⟩ := Y
    have hmg : mg ("law" : PySem.Str) = some (.ref fa) := by
      have e : (HandSHeadRun.topDef Bw.RowL.prog 42).name = ("law" : PySem.Str) := by kernel_rfl
      rw [← e]
      exact hmg0
    have ok0 : ∀ base : Heap, Bw.Ok (PySem.Challenge.rw_baycart_k25_claims_of_papers).prog w K mg base 8 "law" ["_law_script"] (Bw.sp_law K) := fun base => Bw.all_ok KX G c
    have ef : fa = He.ga K "law" := Bw.ref_inj (hmg.symm.trans (ok0 h).gm)
    obtain ⟨fd, FF⟩ := c.def_ 26 (d := Bw.de26) rfl
    have bnd : ∀ (s : Shared) (u : Value), BindsTo s fd ⟨[u], []⟩ [("_law_script", u)] := fun s u => (L2.FunD.bindsA (ps := ["_law_script"]) FF fun _ _ _ _ _ _ us hl => match us, hl with | [_], _ => rfl) s [u] rfl
    refine ⟨K, fd, Bw.sp_law K, KX, bnd, fun H a ns hl _ hS => ⟨H, [], ns, true, .cons (.lst hS (Bw.Dts.of_ints ns)) .nil, Bw.sta0, Bw.law_true ns hl, fun v F2 H2 _ _ hv => hv.toBl⟩, fun base hb1 hb2 => ?_⟩
    obtain ⟨⟨fd2, F2, _, lk⟩, _, _⟩ := ok0 base
    rw [ef, (Bw.lk_of FF).one lk]
    exact F2
