import PyProof.Rows.All
import Wide.All
import OpenK.AllK
import Wide.FinOn
import HandS.ForMost
import HandS.ForExc
import HandS.Style
import HandS.TupAny
import HandS.TupMul
import HandS.Deep
import HandS.TupLe
import HandS.IsInst
import HandS.SortInts
import HandS.Conv
import HandS.Walk
import HandS.Zip
import KE.GoesMore
import KE.SortData
import KE.DataMinMax
import HandS.RevTup
import KE.DataFind
import HandS.SetFor
import HandS.More
import HandS.Dict
import KE.GoesZip
import HandS.Set
import PySem.Challenge.RW_nearslot_k11_beginnings_of_orders
set_option Elab.async false
set_option linter.all false
set_option maxRecDepth 100000
namespace NS
open PySem PySem.Spec PyProof.Rows L2

/-! ## data as trees -/
inductive D where
  | non | bl (b : Bool) | int (i : Int) | str (x : Str)
  | tup (xs : List D) | lst (xs : List D)
  | dT (kvs : List (List Key × D)) | dK (kvs : List (Key × D))
  | hdl (k : Nat)
  | slst (xs : List D)

/-- a mutable thing that is handed around: a law's source of draws; a store -/
inductive GCell where
  | src (a b c : Int)
  | sto (sts jr : List D)
abbrev G := List GCell
/-- where it stands -/
inductive GAdr where
  | src (a : Addr)
  | sto (a C dx ps pj : Addr)
def GAdr.a : GAdr → Addr
  | .src a => a
  | .sto a _ _ _ _ => a
def GAdr.fp : GAdr → List Addr
  | .src a => [a]
  | .sto a _ dx ps pj => [a, dx, ps, pj]
def gfp (A : List GAdr) : List Addr := A.flatMap GAdr.fp
theorem gfp_append (A B : List GAdr) : gfp (A ++ B) = gfp A ++ gfp B := by simp [gfp]

/-- an exception: its class's name, its one field -/
structure Exn where
  cls : Str
  fld : Option (Str × D)

inductive Res (α : Type) where
  | ok (a : α) (g : G)
  | err (x : Exn) (g : G)
  | bad
abbrev M (α : Type) := G → Res α
def M.pure {α : Type} (a : α) : M α := fun g => .ok a g
def M.bind {α β : Type} (x : M α) (f : α → M β) : M β := fun g => match x g with
  | .ok a g' => f a g'
  | .err e g' => .err e g'
  | .bad => .bad
def M.bad {α : Type} : M α := fun _ => .bad
def M.opt {α : Type} : Option α → M α
  | some a => .pure a
  | none => .bad
instance : Monad M where
  pure := M.pure
  bind := M.bind

section
variable (K : PySem.W.Frag) (A : List GAdr) (S : Hp)
mutual
/-- the value v is the datum d, by the shared part S of the heap -/
inductive Rep : V → D → Prop where
  | non : Rep .non .non
  | bl (b : Bool) : Rep (.bl b) (.bl b)
  | int (i : Int) : Rep (.int i) (.int i)
  | str (x : Str) : Rep (.str x) (.str x)
  | tup {a : Addr} {xs : List V} {ds : List D} : S a = some (.tup xs) → RepL xs ds → Rep (.ref a) (.tup ds)
  | lst {a : Addr} {xs : List V} {ds : List D} : S a = some (.lst xs) → RepL xs ds → Rep (.ref a) (.lst ds)
  | dT {a : Addr} {xs : List (List Key × V)} {ds : List (List Key × D)} : S a = some (.dT xs) → RepT xs ds → Rep (.ref a) (.dT ds)
  | dK {a : Addr} {xs : List (Key × V)} {ds : List (Key × D)} : S a = some (.dK xs) → RepK xs ds → Rep (.ref a) (.dK ds)
  | hdl {k : Nat} {ga : GAdr} : A[k]? = some ga → Rep (.ref ga.a) (.hdl k)
  | slst {a : Addr} {xs : List V} {ds : List D} : SqL K S a xs → RepL xs ds → Rep (.ref a) (.slst ds)
inductive RepL : List V → List D → Prop where
  | nil : RepL [] []
  | cons {v : V} {d : D} {vs : List V} {ds : List D} : Rep v d → RepL vs ds → RepL (v :: vs) (d :: ds)
inductive RepT : List (List Key × V) → List (List Key × D) → Prop where
  | nil : RepT [] []
  | cons {k : List Key} {v : V} {d : D} {vs : List (List Key × V)} {ds : List (List Key × D)} : Rep v d → RepT vs ds → RepT ((k, v) :: vs) ((k, d) :: ds)
inductive RepK : List (Key × V) → List (Key × D) → Prop where
  | nil : RepK [] []
  | cons {k : Key} {v : V} {d : D} {vs : List (Key × V)} {ds : List (Key × D)} : Rep v d → RepK vs ds → RepK ((k, v) :: vs) ((k, d) :: ds)
end
end

section
variable {K : PySem.W.Frag} {A A' : List GAdr} {S S' H H' : Hp}
theorem SqT.mono (e : Same S S') {a : Addr} {xs : List V} (h : SqT K S a xs) : SqT K S' a xs := by
  rcases h with (h | ⟨o, h⟩) | h
  · exact .inl (.inl (e _ _ h))
  · exact .inl (.inr ⟨o, e _ _ h⟩)
  · exact .inr h
/-- a tuple that is shared, as the kit sees it -/
theorem tq {K : PySem.W.Frag} (e : Same S S') {a : Addr} {xs : List V} (h : S a = some (.tup xs)) : SqT K S' a xs := .inl (.inl (e _ _ h))
theorem SqL.mono (e : Same S S') {a : Addr} {xs : List V} (h : SqL K S a xs) : SqL K S' a xs := e.seq h
theorem prefix_get (h : A <+: A') {k : Nat} {ga : GAdr} (e : A[k]? = some ga) : A'[k]? = some ga := by
  obtain ⟨t, rfl⟩ := h
  rw [List.getElem?_append_left (List.getElem?_eq_some_iff.mp e).1]
  exact e
mutual
theorem Rep.mono (hA : A <+: A') (hS : Same S S') : ∀ {v : V} {d : D}, Rep K A S v d → Rep K A' S' v d
  | _, _, .non => .non
  | _, _, .bl b => .bl b
  | _, _, .int i => .int i
  | _, _, .str x => .str x
  | _, _, .tup h r => .tup (hS _ _ h) (RepL.mono hA hS r)
  | _, _, .lst h r => .lst (hS _ _ h) (RepL.mono hA hS r)
  | _, _, .dT h r => .dT (hS _ _ h) (RepT.mono hA hS r)
  | _, _, .dK h r => .dK (hS _ _ h) (RepK.mono hA hS r)
  | _, _, .hdl h => .hdl (prefix_get hA h)
  | _, _, .slst h r => .slst (SqL.mono hS h) (RepL.mono hA hS r)
theorem RepL.mono (hA : A <+: A') (hS : Same S S') : ∀ {vs : List V} {ds : List D}, RepL K A S vs ds → RepL K A' S' vs ds
  | _, _, .nil => .nil
  | _, _, .cons h r => .cons (Rep.mono hA hS h) (RepL.mono hA hS r)
theorem RepT.mono (hA : A <+: A') (hS : Same S S') : ∀ {vs : List (List Key × V)} {ds : List (List Key × D)}, RepT K A S vs ds → RepT K A' S' vs ds
  | _, _, .nil => .nil
  | _, _, .cons h r => .cons (Rep.mono hA hS h) (RepT.mono hA hS r)
theorem RepK.mono (hA : A <+: A') (hS : Same S S') : ∀ {vs : List (Key × V)} {ds : List (Key × D)}, RepK K A S vs ds → RepK K A' S' vs ds
  | _, _, .nil => .nil
  | _, _, .cons h r => .cons (Rep.mono hA hS h) (RepK.mono hA hS r)
end
theorem RepL.length : ∀ {vs : List V} {ds : List D}, RepL K A S vs ds → vs.length = ds.length
  | _, _, .nil => rfl
  | _, _, .cons _ r => congrArg (· + 1) (RepL.length r)
theorem RepL.get : ∀ {vs : List V} {ds : List D} {i : Nat} {v : V}, RepL K A S vs ds → vs[i]? = some v → ∃ d, ds[i]? = some d ∧ Rep K A S v d
  | _, _, _, _, .nil, e => by simp at e
  | _, _, 0, _, .cons h r, e => by simp at e; subst e; exact ⟨_, rfl, h⟩
  | _, _, i + 1, _, .cons h r, e => by
    obtain ⟨d, e1, e2⟩ := RepL.get (i := i) r (by simpa using e)
    exact ⟨d, by simpa using e1, e2⟩
theorem RepL.getD : ∀ {vs : List V} {ds : List D} {i : Nat} {d : D}, RepL K A S vs ds → ds[i]? = some d → ∃ v, vs[i]? = some v ∧ Rep K A S v d
  | _, _, _, _, .nil, e => by simp at e
  | _, _, 0, _, .cons h r, e => by simp at e; subst e; exact ⟨_, rfl, h⟩
  | _, _, i + 1, _, .cons h r, e => by
    obtain ⟨d, e1, e2⟩ := RepL.getD (i := i) r (by simpa using e)
    exact ⟨d, by simpa using e1, e2⟩
theorem RepL.append : ∀ {vs ws : List V} {ds es : List D}, RepL K A S vs ds → RepL K A S ws es → RepL K A S (vs ++ ws) (ds ++ es)
  | _, _, _, _, .nil, s => s
  | _, _, _, _, .cons h r, s => .cons h (RepL.append r s)
theorem RepL.take : ∀ {vs : List V} {ds : List D} (n : Nat), RepL K A S vs ds → RepL K A S (vs.take n) (ds.take n)
  | _, _, 0, _ => by simp only [List.take_zero]; exact .nil
  | _, _, _ + 1, .nil => .nil
  | _, _, n + 1, .cons h r => .cons h (RepL.take n r)
theorem RepL.drop : ∀ {vs : List V} {ds : List D} (n : Nat), RepL K A S vs ds → RepL K A S (vs.drop n) (ds.drop n)
  | _, _, 0, r => r
  | _, _, _ + 1, .nil => .nil
  | _, _, n + 1, .cons _ r => RepL.drop n r
theorem RepL.set {v : V} {d : D} (h : Rep K A S v d) : ∀ {vs : List V} {ds : List D} (i : Nat), RepL K A S vs ds → RepL K A S (vs.set i v) (ds.set i d)
  | _, _, _, .nil => .nil
  | _, _, 0, .cons _ r => .cons h r
  | _, _, i + 1, .cons h' r => .cons h' (RepL.set h i r)
theorem RepL.eraseIdx : ∀ {vs : List V} {ds : List D} (i : Nat), RepL K A S vs ds → RepL K A S (vs.eraseIdx i) (ds.eraseIdx i)
  | _, _, _, .nil => .nil
  | _, _, 0, .cons _ r => r
  | _, _, i + 1, .cons h' r => .cons h' (RepL.eraseIdx i r)
theorem RepL.reverse : ∀ {vs : List V} {ds : List D}, RepL K A S vs ds → RepL K A S vs.reverse ds.reverse
  | _, _, .nil => .nil
  | _, _, .cons h r => by simp only [List.reverse_cons]; exact RepL.append (RepL.reverse r) (.cons h .nil)
theorem RepL.rep {vs : List V} {ds : List D} (r : RepL K A S vs ds) : ∀ k : Nat, RepL K A S (List.replicate k vs).flatten (List.replicate k ds).flatten
  | 0 => .nil
  | k + 1 => by simp only [List.replicate_succ, List.flatten_cons]; exact RepL.append r (RepL.rep r k)

/-- what stands at a mutable place p of H, its parts in S -/
def Top (K : PySem.W.Frag) (A : List GAdr) (S H : Hp) (p : Addr) : D → Prop
  | .lst ds => ∃ vs, H p = some (.lst vs) ∧ RepL K A S vs ds
  | .dT kvs => ∃ vs, H p = some (.dT vs) ∧ RepT K A S vs kvs
  | .dK kvs => ∃ vs, H p = some (.dK vs) ∧ RepK K A S vs kvs
  | _ => False
theorem Top.mono {H' : Hp} (hA : A <+: A') (hS : Same S S') {p : Addr} {d : D} (h : Top K A S H p d) (e : H' p = H p) : Top K A' S' H' p d := by
  cases d <;> first
    | exact h.elim
    | (obtain ⟨vs, h1, h2⟩ := h; exact ⟨vs, e.trans h1, h2.mono hA hS⟩)
theorem Top.some {p : Addr} {d : D} (h : Top K A S H p d) : ∃ o, H p = some o := by
  cases d <;> first
    | exact h.elim
    | (obtain ⟨vs, h1, h2⟩ := h; exact ⟨_, h1⟩)
/-- it is put under the shared ones -/
theorem Top.frozen {p : Addr} {d : D} (h : Top K A S H p d) (hp : S p = none) : ∃ o, H p = Option.some o ∧ Rep K A (upd S p o) (.ref p) d := by
  have sm : ∀ o, Same S (upd S p o) := fun o b x e => by rw [upd_ne (ne_of_none e hp)]; exact e
  cases d <;> first
    | exact h.elim
    | (obtain ⟨vs, h1, h2⟩ := h
       refine ⟨_, h1, ?_⟩
       first
         | exact .lst upd_same (h2.mono (List.prefix_refl _) (sm _))
         | exact .dT upd_same (h2.mono (List.prefix_refl _) (sm _))
         | exact .dK upd_same (h2.mono (List.prefix_refl _) (sm _)))

/-! ## the things that are handed around -/
def CellOk (K : PySem.W.Frag) (A : List GAdr) (S H : Hp) : GAdr → GCell → Prop
  | .src a, .src x y z => H a = some (.lst [.int x, .int y, .int z])
  | .sto a C dx ps pj, .sto sts jr => H a = some (.ins C dx [("own_states", .ref ps), ("own_journal", .ref pj)]) ∧ H dx = some (.own a) ∧
      (∃ vs, H ps = some (.lst vs) ∧ RepL K A S vs sts) ∧ ∃ vs, H pj = some (.lst vs) ∧ RepL K A S vs jr
  | _, _ => False
theorem CellOk.mono {H' : Hp} (hA : A <+: A') (hS : Same S S') {ga : GAdr} {c : GCell} (h : CellOk K A S H ga c) (e : ∀ x ∈ ga.fp, H' x = H x) : CellOk K A' S' H' ga c := by
  cases ga <;> cases c <;> first
    | exact h.elim
    | (show H' _ = _; exact (e _ (by simp [GAdr.fp])).trans h)
    | (obtain ⟨h1, h2, ⟨vs, h3, h4⟩, ws, h5, h6⟩ := h
       exact ⟨(e _ (by simp [GAdr.fp])).trans h1, (e _ (by simp [GAdr.fp])).trans h2, ⟨vs, (e _ (by simp [GAdr.fp])).trans h3, h4.mono hA hS⟩, ws, (e _ (by simp [GAdr.fp])).trans h5, h6.mono hA hS⟩)
theorem CellOk.some {ga : GAdr} {c : GCell} (h : CellOk K A S H ga c) : ∀ x ∈ ga.fp, ∃ o, H x = Option.some o := by
  cases ga <;> cases c <;> first
    | exact h.elim
    | (intro x hx; simp only [GAdr.fp, List.mem_singleton] at hx; subst hx; exact ⟨_, h⟩)
    | (obtain ⟨h1, h2, ⟨vs, h3, h4⟩, ws, h5, h6⟩ := h
       intro x hx; simp only [GAdr.fp, List.mem_cons, List.not_mem_nil, or_false] at hx
       rcases hx with rfl | rfl | rfl | rfl
       · exact ⟨_, h1⟩
       · exact ⟨_, h2⟩
       · exact ⟨_, h3⟩
       · exact ⟨_, h5⟩)

structure Ok (K : PySem.W.Frag) (A : List GAdr) (S H : Hp) (g : G) : Prop where
  ext : Same S H
  len : A.length = g.length
  cel : ∀ (k : Nat) (ga : GAdr) (c : GCell), A[k]? = some ga → g[k]? = some c → CellOk K A S H ga c
  nd : (gfp A).Nodup
  out : ∀ x ∈ gfp A, S x = none
theorem Ok.there {g : G} (h : Ok K A S H g) : ∀ x ∈ gfp A, ∃ o, H x = some o := fun x hx => by
  obtain ⟨ga, hg, hx⟩ := List.mem_flatMap.mp hx
  obtain ⟨k, hk, e⟩ := List.getElem_of_mem hg
  have e1 : A[k]? = some ga := by rw [List.getElem?_eq_getElem hk, e]
  have hk2 : k < g.length := by rw [← h.len]; exact hk
  exact (h.cel k ga _ e1 (List.getElem?_eq_getElem hk2)).some x hx

/-- what a piece of code does to the heap, but for its own mutable things -/
structure Post (A : List GAdr) (S H : Hp) (A' : List GAdr) (S' H' : Hp) : Prop where
  a : A <+: A'
  s : Same S S'
  snew : ∀ x o, S' x = some o → S x = some o ∨ H x = none
  keep : ∀ x o, H x = some o → x ∉ gfp A → H' x = some o
  dom : ∀ x o, H x = some o → ∃ o', H' x = some o'
  anew : ∀ x ∈ gfp A', x ∈ gfp A ∨ H x = none
theorem Post.refl (A : List GAdr) (S H : Hp) : Post A S H A S H := ⟨List.prefix_refl _, Same.refl _, fun _ _ h => .inl h, fun _ _ h _ => h, fun _ o h => ⟨o, h⟩, fun _ h => .inl h⟩
theorem none_back {H H1 : Hp} (d : ∀ x o, H x = some o → ∃ o', H1 x = some o') {x : Addr} (h : H1 x = none) : H x = none := by
  cases e : H x with
  | none => rfl
  | some o => obtain ⟨o', e'⟩ := d x o e; rw [h] at e'; cases e'
theorem Post.trans {A1 A2 : List GAdr} {S1 S2 H1 H2 : Hp} (p : Post A S H A1 S1 H1) (q : Post A1 S1 H1 A2 S2 H2) : Post A S H A2 S2 H2 where
  a := p.a.trans q.a
  s := p.s.trans q.s
  snew := fun x o h => by
    rcases q.snew x o h with h | h
    · exact p.snew x o h
    · exact .inr (none_back p.dom h)
  keep := fun x o h n => q.keep x o (p.keep x o h n) fun z => by
    rcases p.anew x z with z | z
    · exact n z
    · rw [h] at z; cases z
  dom := fun x o h => by
    obtain ⟨o1, h1⟩ := p.dom x o h
    exact q.dom x o1 h1
  anew := fun x h => by
    rcases q.anew x h with h | h
    · exact p.anew x h
    · exact .inr (none_back p.dom h)
/-- a new shared object -/
theorem Post.lay {p : Addr} {o : HO} (hp : H p = none) (hS : Same S H) : Post A S H A (upd S p o) (upd H p o) := by
  have sp : S p = none := Same.free hS hp
  refine ⟨List.prefix_refl _, fun b x e => by rw [upd_ne (ne_of_none e sp)]; exact e, fun x u h => ?_, fun x u h _ => by rw [upd_ne (ne_of_none h hp)]; exact h, fun x u h => ⟨u, by rw [upd_ne (ne_of_none h hp)]; exact h⟩, fun _ h => .inl h⟩
  by_cases e : x = p
  · subst e; exact .inr hp
  · rw [upd_ne e] at h; exact .inl h
/-- a new object that is not shared -/
theorem Post.layO {p : Addr} {o : HO} (hp : H p = none) : Post A S H A S (upd H p o) :=
  ⟨List.prefix_refl _, Same.refl _, fun _ _ h => .inl h, fun x u h _ => by rw [upd_ne (ne_of_none h hp)]; exact h, fun x u h => ⟨u, by rw [upd_ne (ne_of_none h hp)]; exact h⟩, fun _ h => .inl h⟩
theorem Ok.lay {g : G} (h : Ok K A S H g) {p : Addr} {o : HO} (hp : H p = none) : Ok K A (upd S p o) (upd H p o) g := by
  have sp : S p = none := Same.free h.ext hp
  have sm : Same S (upd S p o) := fun b x e => by rw [upd_ne (ne_of_none e sp)]; exact e
  have np : ∀ x ∈ gfp A, x ≠ p := fun x hx e => by
    obtain ⟨u, hu⟩ := h.there x hx
    rw [e, hp] at hu; cases hu
  refine ⟨fun b x e => ?_, h.len, fun k ga c e1 e2 => (h.cel k ga c e1 e2).mono (List.prefix_refl _) sm fun x hx => ?_, h.nd, fun x hx => ?_⟩
  · by_cases q : b = p
    · subst q; rw [upd_same] at e ⊢; exact e
    · rw [upd_ne q] at e ⊢; exact h.ext _ _ e
  · exact upd_ne (np x (List.mem_flatMap.mpr ⟨ga, List.mem_of_getElem? e1, hx⟩))
  · rw [upd_ne (np x hx)]; exact h.out x hx
theorem Ok.layO {g : G} (h : Ok K A S H g) {p : Addr} {o : HO} (hp : H p = none) : Ok K A S (upd H p o) g := by
  have np : ∀ x ∈ gfp A, x ≠ p := fun x hx e => by
    obtain ⟨u, hu⟩ := h.there x hx
    rw [e, hp] at hu; cases hu
  refine ⟨fun b x e => ?_, h.len, fun k ga c e1 e2 => (h.cel k ga c e1 e2).mono (List.prefix_refl _) (Same.refl _) fun x hx => ?_, h.nd, h.out⟩
  · have e' := h.ext _ _ e
    rw [upd_ne (ne_of_none e' hp)]; exact e'
  · exact upd_ne (np x (List.mem_flatMap.mpr ⟨ga, List.mem_of_getElem? e1, hx⟩))
/-- an own object p (no cell of the things handed around) is put under the shared ones -/
theorem Ok.freeze {g : G} (h : Ok K A S H g) {p : Addr} {o : HO} (hp : S p = none) (hH : H p = some o) (hg : p ∉ gfp A) : Ok K A (upd S p o) H g := by
  have sm : Same S (upd S p o) := fun b x e => by rw [upd_ne (ne_of_none e hp)]; exact e
  refine ⟨fun b x e => ?_, h.len, fun k ga c e1 e2 => (h.cel k ga c e1 e2).mono (List.prefix_refl _) sm fun x hx => rfl, h.nd, fun x hx => ?_⟩
  · by_cases q : b = p
    · subst q; rw [upd_same] at e; rw [hH]; exact e
    · rw [upd_ne q] at e; exact h.ext _ _ e
  · rw [upd_ne (fun (e : x = p) => hg (by rw [← e]; exact hx))]; exact h.out x hx
/-- an own object is written -/
theorem Ok.writeO {g : G} (h : Ok K A S H g) {p : Addr} {o : HO} (hp : S p = none) (hg : p ∉ gfp A) : Ok K A S (upd H p o) g := by
  refine ⟨fun b x e => ?_, h.len, fun k ga c e1 e2 => (h.cel k ga c e1 e2).mono (List.prefix_refl _) (Same.refl _) fun x hx => ?_, h.nd, h.out⟩
  · rw [upd_ne (ne_of_none e hp)]; exact h.ext _ _ e
  · exact upd_ne (fun (e : x = p) => hg (by rw [← e]; exact List.mem_flatMap.mpr ⟨ga, List.mem_of_getElem? e1, hx⟩))
end

/-! ## slots -/
/-- what a slot holds: a shared value; an own list or dict that may be changed -/
inductive DV where
  | sh (d : D)
  | ow (d : D)
abbrev DS := List (Option DV)
def mkV (m : Bool) (d : D) : DV := if m then .ow d else .sh d
section
variable (K : PySem.W.Frag) (A : List GAdr) (S H : Hp)
def SlotOk : Option V → DV → Prop
  | some v, .sh d => Rep K A S v d
  | some (.ref p), .ow d => S p = none ∧ p ∉ gfp A ∧ Top K A S H p d
  | _, _ => False
structure SRep (σ : L2.St) (σd : DS) : Prop where
  len : σ.length = σd.length
  at_ : ∀ (i : Nat) (x : DV), σd[i]? = some (some x) → ∃ v, σ[i]? = some v ∧ SlotOk K A S H v x
  sep : ∀ (i j : Nat) (d e : D) (p : Addr), i ≠ j → σd[i]? = some (some (.ow d)) → σd[j]? = some (some (.ow e)) → σ[i]? = some (some (.ref p)) → σ[j]? = some (some (.ref p)) → False
end
section
variable {K : PySem.W.Frag} {A A' : List GAdr} {S S' H H' : Hp} {σ : L2.St} {σd : DS}
theorem SlotOk.post (p : Post A S H A' S' H') {v : Option V} {x : DV} (h : SlotOk K A S H v x) : SlotOk K A' S' H' v x := by
  cases v with
  | none => cases x <;> exact h.elim
  | some v =>
    cases x with
    | sh d => exact Rep.mono p.a p.s h
    | ow d =>
      cases v with
      | ref q =>
        obtain ⟨h1, h2, h3⟩ := h
        obtain ⟨o, ho⟩ := h3.some
        have hk := p.keep q o ho h2
        refine ⟨?_, fun z => ?_, h3.mono p.a p.s (hk.trans ho.symm)⟩
        · cases e : S' q with
          | none => rfl
          | some u =>
            rcases p.snew q u e with z | z
            · rw [h1] at z; cases z
            · rw [ho] at z; cases z
        · rcases p.anew q z with z | z
          · exact h2 z
          · rw [ho] at z; cases z
      | _ => exact h.elim
theorem SRep.post (h : SRep K A S H σ σd) (p : Post A S H A' S' H') : SRep K A' S' H' σ σd :=
  ⟨h.len, fun i x e => let ⟨v, e1, e2⟩ := h.at_ i x e; ⟨v, e1, e2.post p⟩, h.sep⟩
/-- a name's shared value -/
theorem SRep.sh (h : SRep K A S H σ σd) {i : Nat} {d : D} (e : σd[i]? = some (some (.sh d))) : ∃ v, σ[i]? = some (some v) ∧ Rep K A S v d := by
  obtain ⟨v, e1, e2⟩ := h.at_ i _ e
  cases v with
  | none => exact e2.elim
  | some v => exact ⟨v, e1, e2⟩
theorem SRep.ow (h : SRep K A S H σ σd) {i : Nat} {d : D} (e : σd[i]? = some (some (.ow d))) : ∃ p, σ[i]? = some (some (.ref p)) ∧ S p = none ∧ p ∉ gfp A ∧ Top K A S H p d := by
  obtain ⟨v, e1, e2⟩ := h.at_ i _ e
  cases v with
  | none => exact e2.elim
  | some v =>
    cases v with
    | ref q => exact ⟨q, e1, e2⟩
    | _ => exact e2.elim
theorem set_get {α : Type} {l : List α} {i j : Nat} {x y : α} (h : (l.set i x)[j]? = some y) : (i = j ∧ y = x ∧ i < l.length) ∨ (i ≠ j ∧ l[j]? = some y) := by
  by_cases e : i = j
  · subst e
    have hl : i < l.length := by
      have := (List.getElem?_eq_some_iff.mp h).1
      simpa using this
    rw [List.getElem?_set_self hl] at h
    exact .inl ⟨rfl, (Option.some.inj h).symm, hl⟩
  · rw [List.getElem?_set_ne e] at h
    exact .inr ⟨e, h⟩
/-- a slot is stored -/
theorem SRep.setSh (h : SRep K A S H σ σd) {v : V} {d : D} (r : Rep K A S v d) (i : Nat) : SRep K A S H (σ.set i (some v)) (σd.set i (some (.sh d))) := by
  refine ⟨by simp [h.len], fun j x e => ?_, fun a b d e p ne ea eb sa sb => ?_⟩
  · rcases set_get e with ⟨rfl, z, hl⟩ | ⟨ne, e⟩
    · cases z
      exact ⟨_, List.getElem?_set_self (by rw [h.len]; exact hl), r⟩
    · obtain ⟨w, e1, e2⟩ := h.at_ j x e
      exact ⟨w, by rw [List.getElem?_set_ne ne]; exact e1, e2⟩
  · rcases set_get ea with ⟨rfl, z, hl⟩ | ⟨na, ea⟩
    · cases z
    · rcases set_get eb with ⟨rfl, z, hl⟩ | ⟨nb, eb⟩
      · cases z
      · rw [List.getElem?_set_ne na] at sa
        rw [List.getElem?_set_ne nb] at sb
        exact h.sep a b d e p ne ea eb sa sb
theorem SRep.setOw (h : SRep K A S H σ σd) {p : Addr} {d : D} (h1 : S p = none) (h2 : p ∉ gfp A) (r : Top K A S H p d) (i : Nat)
    (nw : ∀ (j : Nat) (e : D), i ≠ j → σd[j]? = some (some (.ow e)) → σ[j]? = some (some (.ref p)) → False) : SRep K A S H (σ.set i (some (.ref p))) (σd.set i (some (.ow d))) := by
  refine ⟨by simp [h.len], fun j x e => ?_, fun a b d e q ne ea eb sa sb => ?_⟩
  · rcases set_get e with ⟨rfl, z, hl⟩ | ⟨ne, e⟩
    · cases z
      exact ⟨_, List.getElem?_set_self (by rw [h.len]; exact hl), h1, h2, r⟩
    · obtain ⟨w, e1, e2⟩ := h.at_ j x e
      exact ⟨w, by rw [List.getElem?_set_ne ne]; exact e1, e2⟩
  · rcases set_get ea with ⟨rfl, z, hl⟩ | ⟨na, ea⟩
    · rw [List.getElem?_set_self (by rw [h.len]; exact hl)] at sa
      cases sa
      rcases set_get eb with ⟨rfl, z, hl⟩ | ⟨nb, eb⟩
      · exact ne rfl
      · rw [List.getElem?_set_ne nb] at sb
        exact nw _ _ nb eb sb
    · rw [List.getElem?_set_ne na] at sa
      rcases set_get eb with ⟨rfl, z, hl⟩ | ⟨nb, eb⟩
      · rw [List.getElem?_set_self (by rw [h.len]; exact hl)] at sb
        cases sb
        exact nw _ _ na ea sa
      · rw [List.getElem?_set_ne nb] at sb
        exact h.sep a b d e q ne ea eb sa sb
/-- an own slot becomes a shared one -/
theorem SRep.freeze (h : SRep K A S H σ σd) {i : Nat} {d : D} {p : Addr} {o : HO} (e : σd[i]? = some (some (.ow d))) (es : σ[i]? = some (some (.ref p))) (hp : S p = none) (hH : H p = some o) (r : Rep K A (upd S p o) (.ref p) d) :
    SRep K A (upd S p o) H σ (σd.set i (some (.sh d))) := by
  have sm : Same S (upd S p o) := fun b x e => by rw [upd_ne (ne_of_none e hp)]; exact e
  refine ⟨by simp [h.len], fun j x e' => ?_, fun a b d1 d2 q ne ea eb sa sb => ?_⟩
  · rcases set_get e' with ⟨rfl, z, hl⟩ | ⟨ne, e'⟩
    · cases z
      exact ⟨_, es, r⟩
    · obtain ⟨w, e1, e2⟩ := h.at_ j x e'
      refine ⟨w, e1, ?_⟩
      cases w with
      | none => cases x <;> exact e2.elim
      | some w =>
        cases x with
        | sh d2 => exact Rep.mono (List.prefix_refl _) sm e2
        | ow d2 =>
          cases w with
          | ref q =>
            obtain ⟨q1, q2, q3⟩ := e2
            have nq : q ≠ p := fun z => by subst z; exact h.sep i j d d2 q ne e e' es e1
            exact ⟨by rw [upd_ne nq]; exact q1, q2, q3.mono (List.prefix_refl _) sm rfl⟩
          | _ => exact e2.elim
  · rcases set_get ea with ⟨rfl, z, hl⟩ | ⟨na, ea⟩
    · cases z
    · rcases set_get eb with ⟨rfl, z, hl⟩ | ⟨nb, eb⟩
      · cases z
      · exact h.sep a b d1 d2 q ne ea eb sa sb
/-- an own slot's object is written -/
theorem SRep.write (h : SRep K A S H σ σd) {i : Nat} {d d' : D} {p : Addr} {o : HO} (e : σd[i]? = some (some (.ow d))) (es : σ[i]? = some (some (.ref p))) (r : Top K A S (upd H p o) p d') :
    SRep K A S (upd H p o) σ (σd.set i (some (.ow d'))) := by
  refine ⟨by simp [h.len], fun j x e' => ?_, fun a b d1 d2 q ne ea eb sa sb => ?_⟩
  · rcases set_get e' with ⟨rfl, z, hl⟩ | ⟨ne, e'⟩
    · cases z
      obtain ⟨q, e1, q1, q2, q3⟩ := h.ow e
      rw [es] at e1; cases e1
      exact ⟨_, es, q1, q2, r⟩
    · obtain ⟨w, e1, e2⟩ := h.at_ j x e'
      refine ⟨w, e1, ?_⟩
      cases w with
      | none => cases x <;> exact e2.elim
      | some w =>
        cases x with
        | sh d2 => exact e2
        | ow d2 =>
          cases w with
          | ref q =>
            obtain ⟨q1, q2, q3⟩ := e2
            have nq : q ≠ p := fun z => by subst z; exact h.sep i j d d2 q ne e e' es e1
            exact ⟨q1, q2, q3.mono (List.prefix_refl _) (Same.refl _) (upd_ne nq)⟩
          | _ => exact e2.elim
  · have get : ∀ (k : Nat) (c : D), (σd.set i (some (.ow d')))[k]? = some (some (.ow c)) → ∃ c', σd[k]? = some (some (.ow c')) := fun k c hk => by
      rcases set_get hk with ⟨rfl, z, hl⟩ | ⟨nk, hk⟩
      · exact ⟨_, e⟩
      · exact ⟨_, hk⟩
    obtain ⟨c1, g1⟩ := get a d1 ea
    obtain ⟨c2, g2⟩ := get b d2 eb
    exact h.sep a b c1 c2 q ne g1 g2 sa sb
/-- a slot is forgotten -/
theorem SRep.forget (h : SRep K A S H σ σd) (i : Nat) : SRep K A S H σ (σd.set i none) := by
  refine ⟨by simp [h.len], fun j x e => ?_, fun a b d e p ne ea eb sa sb => ?_⟩
  · rcases set_get e with ⟨rfl, z, hl⟩ | ⟨ne, e⟩
    · cases z
    · exact h.at_ j x e
  · rcases set_get ea with ⟨rfl, z, hl⟩ | ⟨na, ea⟩
    · cases z
    · rcases set_get eb with ⟨rfl, z, hl⟩ | ⟨nb, eb⟩
      · cases z
      · exact h.sep a b d e p ne ea eb sa sb
theorem SRep.forget2 (h : SRep K A S H σ σd) (i : Nat) : SRep K A S H (σ.set i none) (σd.set i none) := by
  refine ⟨by simp [h.len], fun j x e => ?_, fun a b d e p ne ea eb sa sb => ?_⟩
  · rcases set_get e with ⟨rfl, z, hl⟩ | ⟨ne, e⟩
    · cases z
    · obtain ⟨w, e1, e2⟩ := h.at_ j x e
      exact ⟨w, by rw [List.getElem?_set_ne ne]; exact e1, e2⟩
  · rcases set_get ea with ⟨rfl, z, hl⟩ | ⟨na, ea⟩
    · cases z
    · rcases set_get eb with ⟨rfl, z, hl⟩ | ⟨nb, eb⟩
      · cases z
      · rw [List.getElem?_set_ne na] at sa
        rw [List.getElem?_set_ne nb] at sb
        exact h.sep a b d e p ne ea eb sa sb
end
def wipeD (σd : DS) : List Nat → DS
  | [] => σd
  | v :: vs => (wipeD σd vs).set v none
theorem SRep.wipe {K : PySem.W.Frag} {A : List GAdr} {S H : Hp} {σ : L2.St} {σd : DS} (h : SRep K A S H σ σd) : ∀ vs : List Nat, SRep K A S H (L2.wipe σ vs) (wipeD σd vs)
  | [] => h
  | v :: vs => (SRep.wipe h vs).forget2 v
end NS
namespace NS
open PySem PySem.Spec PyProof.Rows L2

/-! ## what is wanted of a result -/
/-- the value v is the datum d: shared (false), or a new own object (true) -/
def RepM (K : PySem.W.Frag) (H : Hp) (A' : List GAdr) (S' H' : Hp) (v : V) (d : D) : Bool → Prop
  | false => Rep K A' S' v d
  | true => ∃ p, v = .ref p ∧ H p = none ∧ S' p = none ∧ p ∉ gfp A' ∧ Top K A' S' H' p d
def XRep (mg : Str → Option Value) (K : PySem.W.Frag) (A : List GAdr) (S H : Hp) (x : Exn) (c : Value) (dd : Option Addr) : Prop :=
  mg x.cls = some c ∧ ∀ f d, x.fld = some (f, d) → ∃ a v, dd = some a ∧ H a = some (.xd [(f, v)]) ∧ Rep K A S v d
/-- the surroundings: the module's names, the written part, the wish of exceptions -/
structure Sur where
  mg : Str → Option Value
  K : PySem.W.Frag
  E : XK
def KE (U : Sur) (m : Bool) (A : List GAdr) (S H : Hp) (r : Res D) (Q : VK) : Prop :=
  match r with
  | .ok d g' => ∀ A' S' H' v, Post A S H A' S' H' → Ok U.K A' S' H' g' → RepM U.K H A' S' H' v d m → Q v H'
  | .err x g' => ∀ A' S' H' c dd, Post A S H A' S' H' → Ok U.K A' S' H' g' → XRep U.mg U.K A' S' H' x c dd → U.E c dd H'
  | .bad => False
def KL (U : Sur) (A : List GAdr) (S H : Hp) (r : Res (List D)) (Q : List V → Hp → Prop) : Prop :=
  match r with
  | .ok ds g' => ∀ A' S' H' vs, Post A S H A' S' H' → Ok U.K A' S' H' g' → RepL U.K A' S' vs ds → Q vs H'
  | .err x g' => ∀ A' S' H' c dd, Post A S H A' S' H' → Ok U.K A' S' H' g' → XRep U.mg U.K A' S' H' x c dd → U.E c dd H'
  | .bad => False
def KT (U : Sur) (A : List GAdr) (S H : Hp) (r : Res Bool) (Q : Bool → Hp → Prop) : Prop :=
  match r with
  | .ok b g' => ∀ A' S' H', Post A S H A' S' H' → Ok U.K A' S' H' g' → Q b H'
  | .err x g' => ∀ A' S' H' c dd, Post A S H A' S' H' → Ok U.K A' S' H' g' → XRep U.mg U.K A' S' H' x c dd → U.E c dd H'
  | .bad => False
section
variable {U : Sur} {A A1 : List GAdr} {S S1 H H1 : Hp}
theorem RepM.back {K : PySem.W.Frag} {A' : List GAdr} {S' H' : Hp} {v : V} {d : D} {m : Bool} (p : Post A S H A1 S1 H1) (h : RepM K H1 A' S' H' v d m) : RepM K H A' S' H' v d m := by
  cases m with
  | false => exact h
  | true => obtain ⟨q, e, h1, h2⟩ := h; exact ⟨q, e, none_back p.dom h1, h2⟩
theorem KE.shift {m : Bool} {r : Res D} {Q : VK} (p : Post A S H A1 S1 H1) (h : KE U m A S H r Q) : KE U m A1 S1 H1 r Q := by
  cases r with
  | ok d g => exact fun A' S' H' v q o rr => h A' S' H' v (p.trans q) o (rr.back p)
  | err x g => exact fun A' S' H' c dd q o rr => h A' S' H' c dd (p.trans q) o rr
  | bad => exact h
theorem KL.shift {r : Res (List D)} {Q : List V → Hp → Prop} (p : Post A S H A1 S1 H1) (h : KL U A S H r Q) : KL U A1 S1 H1 r Q := by
  cases r with
  | ok d g => exact fun A' S' H' v q o rr => h A' S' H' v (p.trans q) o rr
  | err x g => exact fun A' S' H' c dd q o rr => h A' S' H' c dd (p.trans q) o rr
  | bad => exact h
theorem KT.shift {r : Res Bool} {Q : Bool → Hp → Prop} (p : Post A S H A1 S1 H1) (h : KT U A S H r Q) : KT U A1 S1 H1 r Q := by
  cases r with
  | ok d g => exact fun A' S' H' q o => h A' S' H' (p.trans q) o
  | err x g => exact fun A' S' H' c dd q o rr => h A' S' H' c dd (p.trans q) o rr
  | bad => exact h
/-- two in a row: the first's end -/
theorem KE.bindE {m m1 : Bool} {x : M D} {k : D → M D} {g : G} {Q : VK} (h : KE U m A S H (M.bind x k g) Q) :
    KE U m1 A S H (x g) fun v H1 => ∃ A1 S1 g1 d, Post A S H A1 S1 H1 ∧ Ok U.K A1 S1 H1 g1 ∧ RepM U.K H A1 S1 H1 v d m1 ∧ KE U m A1 S1 H1 (k d g1) Q := by
  unfold M.bind at h
  cases e : x g with
  | ok d g1 => rw [e] at h; exact fun A' S' H' v p o r => ⟨A', S', g1, d, p, o, r, h.shift p⟩
  | err e1 g1 => rw [e] at h; exact h
  | bad => rw [e] at h; exact h
theorem KE.bindL {m : Bool} {x : M (List D)} {k : List D → M D} {g : G} {Q : VK} (h : KE U m A S H (M.bind x k g) Q) :
    KL U A S H (x g) fun v H1 => ∃ A1 S1 g1 d, Post A S H A1 S1 H1 ∧ Ok U.K A1 S1 H1 g1 ∧ RepL U.K A1 S1 v d ∧ KE U m A1 S1 H1 (k d g1) Q := by
  unfold M.bind at h
  cases e : x g with
  | ok d g1 => rw [e] at h; exact fun A' S' H' v p o r => ⟨A', S', g1, d, p, o, r, h.shift p⟩
  | err e1 g1 => rw [e] at h; exact h
  | bad => rw [e] at h; exact h
theorem KE.bindT {m : Bool} {x : M Bool} {k : Bool → M D} {g : G} {Q : VK} (h : KE U m A S H (M.bind x k g) Q) :
    KT U A S H (x g) fun b H1 => ∃ A1 S1 g1, Post A S H A1 S1 H1 ∧ Ok U.K A1 S1 H1 g1 ∧ KE U m A1 S1 H1 (k b g1) Q := by
  unfold M.bind at h
  cases e : x g with
  | ok d g1 => rw [e] at h; exact fun A' S' H' p o => ⟨A', S', g1, p, o, h.shift p⟩
  | err e1 g1 => rw [e] at h; exact h
  | bad => rw [e] at h; exact h
theorem KL.bindE {x : M D} {k : D → M (List D)} {g : G} {Q : List V → Hp → Prop} (h : KL U A S H (M.bind x k g) Q) :
    KE U false A S H (x g) fun v H1 => ∃ A1 S1 g1 d, Post A S H A1 S1 H1 ∧ Ok U.K A1 S1 H1 g1 ∧ Rep U.K A1 S1 v d ∧ KL U A1 S1 H1 (k d g1) Q := by
  unfold M.bind at h
  cases e : x g with
  | ok d g1 => rw [e] at h; exact fun A' S' H' v p o r => ⟨A', S', g1, d, p, o, r, h.shift p⟩
  | err e1 g1 => rw [e] at h; exact h
  | bad => rw [e] at h; exact h
theorem KL.bindL {x : M (List D)} {k : List D → M (List D)} {g : G} {Q : List V → Hp → Prop} (h : KL U A S H (M.bind x k g) Q) :
    KL U A S H (x g) fun v H1 => ∃ A1 S1 g1 d, Post A S H A1 S1 H1 ∧ Ok U.K A1 S1 H1 g1 ∧ RepL U.K A1 S1 v d ∧ KL U A1 S1 H1 (k d g1) Q := by
  unfold M.bind at h
  cases e : x g with
  | ok d g1 => rw [e] at h; exact fun A' S' H' v p o r => ⟨A', S', g1, d, p, o, r, h.shift p⟩
  | err e1 g1 => rw [e] at h; exact h
  | bad => rw [e] at h; exact h
theorem KT.bindE {x : M D} {k : D → M Bool} {g : G} {Q : Bool → Hp → Prop} (h : KT U A S H (M.bind x k g) Q) :
    KE U false A S H (x g) fun v H1 => ∃ A1 S1 g1 d, Post A S H A1 S1 H1 ∧ Ok U.K A1 S1 H1 g1 ∧ Rep U.K A1 S1 v d ∧ KT U A1 S1 H1 (k d g1) Q := by
  unfold M.bind at h
  cases e : x g with
  | ok d g1 => rw [e] at h; exact fun A' S' H' v p o r => ⟨A', S', g1, d, p, o, r, h.shift p⟩
  | err e1 g1 => rw [e] at h; exact h
  | bad => rw [e] at h; exact h
theorem KT.bindT {x : M Bool} {k : Bool → M Bool} {g : G} {Q : Bool → Hp → Prop} (h : KT U A S H (M.bind x k g) Q) :
    KT U A S H (x g) fun b H1 => ∃ A1 S1 g1, Post A S H A1 S1 H1 ∧ Ok U.K A1 S1 H1 g1 ∧ KT U A1 S1 H1 (k b g1) Q := by
  unfold M.bind at h
  cases e : x g with
  | ok d g1 => rw [e] at h; exact fun A' S' H' p o => ⟨A', S', g1, p, o, h.shift p⟩
  | err e1 g1 => rw [e] at h; exact h
  | bad => rw [e] at h; exact h
theorem KE.imp {m : Bool} {r : Res D} {Q Q' : VK} (h : KE U m A S H r Q) (i : ∀ v H', Q v H' → Q' v H') : KE U m A S H r Q' := by
  cases r with
  | ok d g => exact fun A' S' H' v q o rr => i _ _ (h A' S' H' v q o rr)
  | err x g => exact h
  | bad => exact h
/-- a result that is there -/
theorem KE.now {m : Bool} {d : D} {g : G} {Q : VK} (h : KE U m A S H (.ok d g) Q) {A' : List GAdr} {S' H' : Hp} {v : V} (p : Post A S H A' S' H') (o : Ok U.K A' S' H' g) (r : RepM U.K H A' S' H' v d m) : Q v H' := h A' S' H' v p o r
/-- a value that stands -/
theorem KE.val {d : D} {g : G} {Q : VK} {v : V} (h : KE U false A S H (.ok d g) Q) (o : Ok U.K A S H g) (r : Rep U.K A S v d) : Q v H := h A S H v (Post.refl _ _ _) o r
theorem KT.now {b : Bool} {g : G} {Q : Bool → Hp → Prop} (h : KT U A S H (.ok b g) Q) (o : Ok U.K A S H g) : Q b H := h A S H (Post.refl _ _ _) o
/-- a new object of the data ds, shared or own -/
theorem KE.newL {m : Bool} {ds : List D} {vs : List V} {g : G} {Q : VK} (h : KE U m A S H (.ok (.lst ds) g) Q) (o : Ok U.K A S H g) (r : RepL U.K A S vs ds) {p : Addr} (hp : H p = none) : Q (.ref p) (upd H p (.lst vs)) := by
  have sp : S p = none := Same.free o.ext hp
  have pg : p ∉ gfp A := fun z => by obtain ⟨u, hu⟩ := o.there p z; rw [hp] at hu; cases hu
  cases m with
  | false =>
    have P := Post.lay (A := A) (o := .lst vs) hp o.ext
    exact h A (upd S p (.lst vs)) _ _ P (o.lay hp) (.lst upd_same (r.mono P.a P.s))
  | true => exact h A S _ _ (Post.layO hp) (o.layO hp) ⟨p, rfl, hp, sp, pg, vs, upd_same, r⟩
theorem KE.newDT {m : Bool} {ds : List (List Key × D)} {vs : List (List Key × V)} {g : G} {Q : VK} (h : KE U m A S H (.ok (.dT ds) g) Q) (o : Ok U.K A S H g) (r : RepT U.K A S vs ds) {p : Addr} (hp : H p = none) : Q (.ref p) (upd H p (.dT vs)) := by
  have sp : S p = none := Same.free o.ext hp
  have pg : p ∉ gfp A := fun z => by obtain ⟨u, hu⟩ := o.there p z; rw [hp] at hu; cases hu
  cases m with
  | false =>
    have P := Post.lay (A := A) (o := .dT vs) hp o.ext
    exact h A (upd S p (.dT vs)) _ _ P (o.lay hp) (.dT upd_same (r.mono P.a P.s))
  | true => exact h A S _ _ (Post.layO hp) (o.layO hp) ⟨p, rfl, hp, sp, pg, vs, upd_same, r⟩
theorem KE.newDK {m : Bool} {ds : List (Key × D)} {vs : List (Key × V)} {g : G} {Q : VK} (h : KE U m A S H (.ok (.dK ds) g) Q) (o : Ok U.K A S H g) (r : RepK U.K A S vs ds) {p : Addr} (hp : H p = none) : Q (.ref p) (upd H p (.dK vs)) := by
  have sp : S p = none := Same.free o.ext hp
  have pg : p ∉ gfp A := fun z => by obtain ⟨u, hu⟩ := o.there p z; rw [hp] at hu; cases hu
  cases m with
  | false =>
    have P := Post.lay (A := A) (o := .dK vs) hp o.ext
    exact h A (upd S p (.dK vs)) _ _ P (o.lay hp) (.dK upd_same (r.mono P.a P.s))
  | true => exact h A S _ _ (Post.layO hp) (o.layO hp) ⟨p, rfl, hp, sp, pg, vs, upd_same, r⟩
theorem KE.newT {ds : List D} {vs : List V} {g : G} {Q : VK} (h : KE U false A S H (.ok (.tup ds) g) Q) (o : Ok U.K A S H g) (r : RepL U.K A S vs ds) {p : Addr} (hp : H p = none) : Q (.ref p) (upd H p (.tup vs)) := by
  have P := Post.lay (A := A) (o := .tup vs) hp o.ext
  exact h A (upd S p (.tup vs)) _ _ P (o.lay hp) (.tup upd_same (r.mono P.a P.s))
/-- an own result as a shared one -/
theorem KE.frozen {r : Res D} {Q : VK} (h : KE U false A S H r Q) (oS : Same S H) : KE U true A S H r Q := by
  cases r with
  | ok d g =>
    rintro A' S' H' v p o ⟨q, rfl, h1, h2, h3, h4⟩
    obtain ⟨u, hu, hr⟩ := h4.frozen h2
    refine h A' (upd S' q u) H' _ ⟨p.a, fun b x e => ?_, fun x z e => ?_, p.keep, p.dom, p.anew⟩ (o.freeze h2 hu h3) hr
    · rw [upd_ne (ne_of_none (p.s _ _ e) h2)]; exact p.s _ _ e
    · by_cases e' : x = q
      · subst e'; exact .inr h1
      · rw [upd_ne e'] at e; exact p.snew x z e
  | err x g => exact h
  | bad => exact h
end

/-! ## readings, judgements -/
def tE (U : Sur) (m : Bool) (f : DS → M D) : TE := fun σ H Q => ∃ A S g σd, Ok U.K A S H g ∧ SRep U.K A S H σ σd ∧ KE U m A S H (f σd g) Q
def tL (U : Sur) (f : DS → M (List D)) : TA := fun σ H Q => ∃ A S g σd, Ok U.K A S H g ∧ SRep U.K A S H σ σd ∧ KL U A S H (f σd g) Q
def tT (U : Sur) (f : DS → M Bool) : TT := fun σ H Q => ∃ A S g σd, Ok U.K A S H g ∧ SRep U.K A S H σ σd ∧ KT U A S H (f σd g) Q
abbrev Cx.sur (X : Cx) (E : XK) : Sur := ⟨X.mg, X.K, E⟩
def DE (X : Cx) (E : XK) (m : Bool) (e : Expr) (f : DS → M D) : Prop := PE X e (tE (Cx.sur X E) m f)
def DL (X : Cx) (E : XK) (es : List Expr) (f : DS → M (List D)) : Prop := PA X es (tL (Cx.sur X E) f)
def DT (X : Cx) (E : XK) (e : Expr) (f : DS → M Bool) : Prop := PT X e (tT (Cx.sur X E) f)
def DW (X : Cx) (E : XK) (e : Expr) (f : DS → M Bool) : Prop := PW X e (tT (Cx.sur X E) f)

theorem _root_.L2.PE.impD {X : Cx} {e : Expr} {t t' : TE} (h : PE X e t) (i : ∀ σ H Q, t' σ H Q → t σ H Q) : PE X e t' := ⟨fun pins s σ H Q I q => h.run pins s σ H Q I (i σ H Q q)⟩
theorem _root_.L2.PA.impD {X : Cx} {e : List Expr} {t t' : TA} (h : PA X e t) (i : ∀ σ H Q, t' σ H Q → t σ H Q) : PA X e t' := ⟨fun pos pins s σ H Q I q => h.run pos pins s σ H Q I (i σ H Q q)⟩
theorem _root_.L2.PT.impD {X : Cx} {e : Expr} {t t' : TT} (h : PT X e t) (i : ∀ σ H Q, t' σ H Q → t σ H Q) : PT X e t' := ⟨fun pins s σ H Q I q => h.run pins s σ H Q I (i σ H Q q)⟩
theorem _root_.L2.PW.impD {X : Cx} {e : Expr} {t t' : TT} (h : PW X e t) (i : ∀ σ H Q, t' σ H Q → t σ H Q) : PW X e t' := ⟨fun w pins s σ H Q I q => h.run w pins s σ H Q I (i σ H Q q)⟩
theorem _root_.L2.PS.impD {X : Cx} {e : Stmt} {t t' : TS} (h : PS X e t) (i : ∀ D σ H, t' D σ H → t D σ H) : PS X e t' := ⟨fun pins s σ H D I q => h.run pins s σ H D I (i D σ H q)⟩
theorem _root_.L2.PSs.impD {X : Cx} {e : List Stmt} {t t' : TS} (h : PSs X e t) (i : ∀ D σ H, t' D σ H → t D σ H) : PSs X e t' := ⟨fun pins s σ H D I q => h.run pins s σ H D I (i D σ H q)⟩
theorem _root_.L2.PI.impD {X : Cx} {tg e : Expr} {t t' : TI} (h : PI X tg e t) (i : ∀ σ H R, t' σ H R → t σ H R) : PI X tg e t' := ⟨fun pins s σ H R I q => h.run pins s σ H R I (i σ H R q)⟩
theorem _root_.L2.PG.impD {X : Cx} {e : Expr} {t t' : TG} (h : PG X e t) (i : ∀ v σ H Q, t' v σ H Q → t v σ H Q) : PG X e t' := ⟨fun pins s σ H v u Q I r q => h.run pins s σ H v u Q I r (i v σ H Q q)⟩

/-! ## expressions: names, constants -/
section
variable {X : Cx} {E : XK} {pos : Pos}
def eVar (i : Nat) : DS → M D := fun σ => match σ[i]? with
  | some (some (.sh d)) => M.pure d
  | _ => M.bad
def eC (d : D) : DS → M D := fun _ => M.pure d
theorem de_of (h : PE X e (tVar i)) : DE X E false e (eVar i) := h.impD fun σ H Q ⟨A, S, g, σd, o, r, k⟩ => by
  unfold eVar at k
  match q : σd[i]? with
  | some (some (.sh d)) =>
    rw [q] at k
    obtain ⟨v, e1, e2⟩ := r.sh q
    exact ⟨v, e1, KE.val k o e2⟩
  | some (some (.ow d)) => rw [q] at k; exact k.elim
  | some none => rw [q] at k; exact k.elim
  | none => rw [q] at k; exact k.elim
theorem de_var (i : Nat) {x : Str} (hN : X.N[i]? = some x := by rfl) (hv : Vis X.env.scope x := by first | exact Or.inl rfl | exact Or.inr (Or.inl rfl) | exact Or.inr (Or.inr rfl)) (hd : (x == ("__debug__" : Str)) = false := by decide)
    (hcd : (x == ("__classdict__" : Str)) = false := by decide) : DE X E false (.Name x pos) (eVar i) := de_of (pe_var hN hv hd hcd)
theorem de_const {e : Expr} {v : V} {d : D} (h : PE X e (tC v)) (r : ∀ A S, Rep X.K A S v d) : DE X E false e (eC d) := h.impD fun σ H Q ⟨A, S, g, σd, o, _, k⟩ => k.val o (r A S)
theorem de_int {i j} : DE X E false (.Constant (.int i) j pos) (eC (.int i)) := de_const pe_int fun _ _ => .int i
theorem de_bl {b j} : DE X E false (.Constant (.bool b) j pos) (eC (.bl b)) := de_const pe_bl fun _ _ => .bl b
theorem de_non {j} : DE X E false (.Constant .none j pos) (eC .non) := de_const pe_non fun _ _ => .non
theorem de_str {x j} : DE X E false (.Constant (.str x) j pos) (eC (.str x)) := de_const pe_str fun _ _ => .str x
/-- a constant of the module -/
theorem de_glob {x : Str} {v : V} {u : Value} {d : D} (hm : X.mg x = some u) (r : RelV v u) (rr : ∀ A S, Rep X.K A S v d) (hg : Gl X x := by rfl) (hd : (x == ("__debug__" : Str)) = false := by decide) : DE X E false (.Name x pos) (eC d) :=
  de_const (pe_glob hg hm r hd) rr
/-- own as shared -/
theorem DE.sh {e : Expr} {f : DS → M D} (h : DE X E true e f) : DE X E false e f := PE.impD h fun σ H Q ⟨A, S, g, σd, o, r, k⟩ => ⟨A, S, g, σd, o, r, k.frozen o.ext⟩

/-! ## operators -/
/-- k on the values of a and b -/
def eBin (k : D → D → M D) (fa fb : DS → M D) : DS → M D := fun σ => M.bind (fa σ) fun x => M.bind (fb σ) fun y => k x y
def rD (U : Sur) (m : Bool) (k : D → D → M D) : R2 := fun x y H Q => ∃ A S g dx dy, Ok U.K A S H g ∧ Rep U.K A S x dx ∧ Rep U.K A S y dy ∧ KE U m A S H (k dx dy g) Q
theorem bin_read {U : Sur} {m : Bool} {k : D → D → M D} {fa fb : DS → M D} {σ : L2.St} {H : Hp} {Q : VK} (h : tE U m (eBin k fa fb) σ H Q) : tOp (rD U m k) (tE U false fa) (tE U false fb) σ H Q := by
  obtain ⟨A, S, g, σd, o, r, q⟩ := h
  refine ⟨A, S, g, σd, o, r, (KE.bindE q).imp fun v H1 ⟨A1, S1, g1, d, p1, o1, r1, q1⟩ => ?_⟩
  refine ⟨A1, S1, g1, σd, o1, r.post p1, (KE.bindE q1).imp fun u H2 ⟨A2, S2, g2, d2, p2, o2, r2, q2⟩ => ?_⟩
  exact ⟨A2, S2, g2, d, d2, o2, Rep.mono p2.a p2.s r1, r2, q2⟩
variable {a b c : Expr} {fa fb fc : DS → M D} {m : Bool} {k : D → D → M D}
/-- by values -/
def OpD (X : Cx) (E : XK) (f : Value → Value → Sem Value) (m : Bool) (k : D → D → M D) : Prop := OpR X f (rD (Cx.sur X E) m k)
theorem OpR.imp {f : Value → Value → Sem Value} {r r' : R2} (h : OpR X f r) (i : ∀ x y H Q, r' x y H Q → r x y H Q) : OpR X f r' := fun pins s σ H x y v u Q I rx ry q => h pins s σ H x y v u Q I rx ry (i x y H Q q)
theorem de_bin {op : Operator} (ho : OpD X E (binaryOp op) m k) (ha : DE X E false a fa) (hb : DE X E false b fb) : DE X E m (.BinOp a op b pos) (eBin k fa fb) :=
  (pe_op ho ha hb).impD fun _ _ _ h => bin_read h
theorem de_cmp {op : CmpOp} (ho : OpD X E (compareOp op) false k) (ha : DE X E false a fa) (hb : DE X E false b fb) (hm : behindInMarks op b = false := by with_unfolding_all rfl) : DE X E false (.Compare a [op] [b] pos) (eBin k fa fb) :=
  (pe_cmpR ho ha hb hm).impD fun _ _ _ h => bin_read h
def asB : D → M Bool
  | .bl b => M.pure b
  | _ => M.bad
/-- a value that is a bool, as a test -/
def eTst (f : DS → M D) : DS → M Bool := fun σ => M.bind (f σ) asB
theorem tst_read {U : Sur} {f : DS → M D} {σ : L2.St} {H : Hp} {Q : Bool → Hp → Prop} (h : tT U (eTst f) σ H Q) : tTest (tE U false f) σ H Q := by
  obtain ⟨A, S, g, σd, o, r, q⟩ := h
  refine ⟨A, S, g, σd, o, r, (KT.bindE q).imp fun v H1 ⟨A1, S1, g1, d, p1, o1, r1, q1⟩ => ?_⟩
  cases r1 <;> first
    | exact q1.elim
    | exact ⟨_, rfl, KT.now q1 o1⟩
theorem dt_cmp {op : CmpOp} (ho : OpD X E (compareOp op) false k) (ha : DE X E false a fa) (hb : DE X E false b fb) (hm : behindInMarks op b = false := by with_unfolding_all rfl) : DT X E (.Compare a [op] [b] pos) (eTst (eBin k fa fb)) :=
  (pt_cmpR ho ha hb hm).impD fun σ H Q h => by
    obtain ⟨A, S, g, σd, o, r, q⟩ := tst_read h
    exact bin_read ⟨A, S, g, σd, o, r, q⟩
/-- a op1 b op2 c -/
def eChain (k k' : D → D → M D) (fa fb fc : DS → M D) : DS → M D := fun σ => M.bind (fa σ) fun x => M.bind (fb σ) fun y => M.bind (M.bind (k x y) asB) fun t =>
  if t = true then M.bind (fc σ) fun z => k' y z else M.pure (.bl false)
theorem chain_read {U : Sur} {k k' : D → D → M D} {σ : L2.St} {H : Hp} {Q : VK} (h : tE U false (eChain k k' fa fb fc) σ H Q) : tChain (rD U false k) (rD U false k') (tE U false fa) (tE U false fb) (tE U false fc) σ H Q := by
  obtain ⟨A, S, g, σd, o, r, q⟩ := h
  refine ⟨A, S, g, σd, o, r, (KE.bindE q).imp fun v H1 ⟨A1, S1, g1, d, p1, o1, r1, q1⟩ => ?_⟩
  refine ⟨A1, S1, g1, σd, o1, r.post p1, (KE.bindE q1).imp fun u H2 ⟨A2, S2, g2, d2, p2, o2, r2, q2⟩ => ?_⟩
  refine ⟨A2, S2, g2, d, d2, o2, Rep.mono p2.a p2.s r1, r2, ?_⟩
  refine (KT.bindE (KE.bindT q2)).imp fun w H3 ⟨A3, S3, g3, d3, p3, o3, r3, q3⟩ => ?_
  obtain ⟨t, rfl, rfl⟩ : ∃ t, w = .bl t ∧ d3 = .bl t := by
    cases r3 <;> first
      | exact q3.elim
      | exact ⟨_, rfl, rfl⟩
  refine ⟨t, rfl, ?_⟩
  obtain ⟨A4, S4, g4, p4, o4, q4⟩ := KT.now q3 o3
  cases t with
  | false => rw [if_neg (by decide)] at q4 ⊢; exact q4.val o4 (.bl _)
  | true =>
    rw [if_pos rfl] at q4 ⊢
    refine ⟨A4, S4, g4, σd, o4, ((r.post p1).post p2).post p4, (KE.bindE q4).imp fun z H5 ⟨A5, S5, g5, d5, p5, o5, r5, q5⟩ => ?_⟩
    exact ⟨A5, S5, g5, d2, d5, o5, Rep.mono (p4.trans p5).a (p4.trans p5).s r2, r5, q5⟩
theorem de_chain {op op' : CmpOp} {k k' : D → D → M D} (ho : OpD X E (compareOp op) false k) (ho' : OpD X E (compareOp op') false k') (ha : DE X E false a fa) (hb : DE X E false b fb) (hc : DE X E false c fc)
    (hm : lastMarks [op, op'] [b, c] = false := by with_unfolding_all rfl) : DE X E false (.Compare a [op, op'] [b, c] pos) (eChain k k' fa fb fc) :=
  (pe_chain ho ho' ha hb hc hm).impD fun _ _ _ h => chain_read h
theorem dt_chain {op op' : CmpOp} {k k' : D → D → M D} (ho : OpD X E (compareOp op) false k) (ho' : OpD X E (compareOp op') false k') (ha : DE X E false a fa) (hb : DE X E false b fb) (hc : DE X E false c fc)
    (hm : lastMarks [op, op'] [b, c] = false := by with_unfolding_all rfl) : DT X E (.Compare a [op, op'] [b, c] pos) (eTst (eChain k k' fa fb fc)) :=
  (pt_chain ho ho' ha hb hc hm).impD fun σ H Q h => by
    obtain ⟨A, S, g, σd, o, r, q⟩ := tst_read h
    exact chain_read ⟨A, S, g, σd, o, r, q⟩

/-! ## and, or, not, if -/
variable {ta tb : DS → M Bool} {rest : List Expr}
def eAnd (f h : DS → M Bool) : DS → M Bool := fun σ => M.bind (f σ) fun t => if t = true then h σ else M.pure false
def eOr (f h : DS → M Bool) : DS → M Bool := fun σ => M.bind (f σ) fun t => if t = true then M.pure true else h σ
def eNot (f : DS → M Bool) : DS → M Bool := fun σ => M.bind (f σ) fun t => M.pure !t
theorem dw_and1 (ha : DT X E a ta) : DW X E (.BoolOp .And [a] pos) ta := pw_and1 ha
theorem dw_or1 (ha : DT X E a ta) : DW X E (.BoolOp .Or [a] pos) ta := pw_or1 ha
theorem KT.imp {U : Sur} {A : List GAdr} {S H : Hp} {r : Res Bool} {Q Q' : Bool → Hp → Prop} (h : KT U A S H r Q) (i : ∀ v H', Q v H' → Q' v H') : KT U A S H r Q' := by
  cases r with
  | ok d g => exact fun A' S' H' q o => i _ _ (h A' S' H' q o)
  | err x g => exact h
  | bad => exact h
theorem dw_and (ha : DT X E a ta) (hb : DW X E (.BoolOp .And (b :: rest) pos) tb) : DW X E (.BoolOp .And (a :: b :: rest) pos) (eAnd ta tb) :=
  (pw_and ha hb).impD fun σ H Q ⟨A, S, g, σd, o, r, q⟩ => ⟨A, S, g, σd, o, r, (KT.bindT q).imp fun t H1 ⟨A1, S1, g1, p1, o1, q1⟩ => by
    cases t with
    | true => exact ⟨A1, S1, g1, σd, o1, r.post p1, q1⟩
    | false => exact KT.now q1 o1⟩
theorem dw_or (ha : DT X E a ta) (hb : DW X E (.BoolOp .Or (b :: rest) pos) tb) : DW X E (.BoolOp .Or (a :: b :: rest) pos) (eOr ta tb) :=
  (pw_or ha hb).impD fun σ H Q ⟨A, S, g, σd, o, r, q⟩ => ⟨A, S, g, σd, o, r, (KT.bindT q).imp fun t H1 ⟨A1, S1, g1, p1, o1, q1⟩ => by
    cases t with
    | false => exact ⟨A1, S1, g1, σd, o1, r.post p1, q1⟩
    | true => exact KT.now q1 o1⟩
theorem dt_w (h : DW X E a ta) : DT X E a ta := h.pt
theorem dt_not (h : DT X E a ta) : DT X E (.UnaryOp .Not a pos) (eNot ta) :=
  (pt_not h).impD fun σ H Q ⟨A, S, g, σd, o, r, q⟩ => ⟨A, S, g, σd, o, r, (KT.bindT q).imp fun t H1 ⟨A1, S1, g1, p1, o1, q1⟩ => KT.now q1 o1⟩
/-- a test's answer as a value -/
def eB (f : DS → M Bool) : DS → M D := fun σ => M.bind (f σ) fun t => M.pure (.bl t)
def eIf (t : DS → M Bool) (fa fb : DS → M D) : DS → M D := fun σ => M.bind (t σ) fun b => if b = true then fa σ else fb σ
theorem de_if (hc : DT X E c ta) (ha : DE X E m a fa) (hb : DE X E m b fb) : DE X E m (.IfExp c a b pos) (eIf ta fa fb) :=
  (pe_ifExp hc ha hb).impD fun σ H Q ⟨A, S, g, σd, o, r, q⟩ => ⟨A, S, g, σd, o, r, (KE.bindT q).imp fun t H1 ⟨A1, S1, g1, p1, o1, q1⟩ => by
    show if t = true then _ else _
    cases t with
    | true =>
      rw [if_pos rfl] at q1 ⊢
      exact ⟨A1, S1, g1, σd, o1, r.post p1, q1⟩
    | false =>
      rw [if_neg (by decide)] at q1 ⊢
      exact ⟨A1, S1, g1, σd, o1, r.post p1, q1⟩⟩
/-- and, or, not of bools as values -/
def eAndV (fa fb : DS → M D) : DS → M D := fun σ => M.bind (M.bind (fa σ) asB) fun t => if t = true then fb σ else M.pure (.bl false)
def eOrV (fa fb : DS → M D) : DS → M D := fun σ => M.bind (M.bind (fa σ) asB) fun t => if t = true then M.pure (.bl true) else fb σ
def eNotV (fa : DS → M D) : DS → M D := fun σ => M.bind (M.bind (fa σ) asB) fun t => M.pure (.bl !t)
theorem asb_read {U : Sur} {A : List GAdr} {S H : Hp} {f : M D} {k : Bool → M D} {g : G} {Q : VK} (q : KE U m A S H (M.bind (M.bind f asB) k g) Q) :
    KE U false A S H (f g) fun v H1 => ∃ t, v = .bl t ∧ ∃ A1 S1 g1, Post A S H A1 S1 H1 ∧ Ok U.K A1 S1 H1 g1 ∧ KE U m A1 S1 H1 (k t g1) Q :=
  (KT.bindE (KE.bindT q)).imp fun w H3 ⟨A3, S3, g3, d3, p3, o3, r3, q3⟩ => by
    obtain ⟨t, rfl, rfl⟩ : ∃ t, w = .bl t ∧ d3 = .bl t := by
      cases r3 <;> first
        | exact q3.elim
        | exact ⟨_, rfl, rfl⟩
    refine ⟨t, rfl, ?_⟩
    obtain ⟨A4, S4, g4, p4, o4, q4⟩ := KT.now q3 o3
    exact ⟨A4, S4, g4, p4, o4, q4⟩
theorem de_and1 (ha : DE X E m a fa) : DE X E m (.BoolOp .And [a] pos) fa := pe_one ha
theorem de_or1 (ha : DE X E m a fa) : DE X E m (.BoolOp .Or [a] pos) fa := pe_one ha
theorem de_and (ha : DE X E false a fa) (hb : DE X E false (.BoolOp .And (b :: rest) pos) fb) : DE X E false (.BoolOp .And (a :: b :: rest) pos) (eAndV fa fb) :=
  (pe_and ha hb).impD fun σ H Q ⟨A, S, g, σd, o, r, q⟩ => ⟨A, S, g, σd, o, r, (asb_read q).imp fun v H1 ⟨t, e, A1, S1, g1, p1, o1, q1⟩ => by
    refine ⟨t, e, ?_⟩
    cases t with
    | true => rw [if_pos rfl] at q1 ⊢; exact ⟨A1, S1, g1, σd, o1, r.post p1, q1⟩
    | false => rw [if_neg (by decide)] at q1 ⊢; exact q1.val o1 (.bl _)⟩
theorem de_or (ha : DE X E false a fa) (hb : DE X E false (.BoolOp .Or (b :: rest) pos) fb) : DE X E false (.BoolOp .Or (a :: b :: rest) pos) (eOrV fa fb) :=
  (pe_or ha hb).impD fun σ H Q ⟨A, S, g, σd, o, r, q⟩ => ⟨A, S, g, σd, o, r, (asb_read q).imp fun v H1 ⟨t, e, A1, S1, g1, p1, o1, q1⟩ => by
    refine ⟨t, e, ?_⟩
    cases t with
    | false => rw [if_neg (by decide)] at q1 ⊢; exact ⟨A1, S1, g1, σd, o1, r.post p1, q1⟩
    | true => rw [if_pos rfl] at q1 ⊢; exact q1.val o1 (.bl _)⟩
theorem de_not (ha : DE X E false a fa) : DE X E false (.UnaryOp .Not a pos) (eNotV fa) :=
  (pe_not ha).impD fun σ H Q ⟨A, S, g, σd, o, r, q⟩ => ⟨A, S, g, σd, o, r, (asb_read q).imp fun v H1 ⟨t, e, A1, S1, g1, p1, o1, q1⟩ => ⟨t, e, q1.val o1 (.bl _)⟩⟩
end
end NS
namespace NS
open PySem PySem.Spec PyProof.Rows L2
/-! ## a def's promise where no collection is being shown (what repr asks) -/
structure RoomG (k : Nat) (A : Around) : Prop where
  r : Room k A
  g : A.guards = some []
theorem RoomG.mono {j k : Nat} {A : Around} (h : RoomG k A) (hk : j ≤ k) : RoomG j A := ⟨h.r.mono hk, h.g⟩
theorem RoomG.deeper {k : Nat} {A : Around} (h : RoomG (k + 1) A) (env : Env) : RoomG k (A.deeper env) := ⟨h.r.deeper env, h.g⟩
structure FnOkG (P : Program) (w : World) (K : PySem.W.Frag) (mg : Str → Option Value) (base : Heap) (CX : CXT) (k : Nat) (f : Addr) (fd : FuncData) (ps : List Str) (sp : Sp) : Prop where
  len : ∀ vs H Q E, sp vs H Q E → vs.length = ps.length
  run : ∀ (A : Around) (outer : List Env) (s : Shared) (H : Hp) (args : Args) (us : List Value) (vs : List V) (Q : VK) (E : XK), RoomG k A → Env0 P w K mg base A outer s H → BindsTo s fd args (ps.zip us) → Vals vs us → sp vs H Q E →
    codeAny (model P w) A (.call (.ref f) args) (CR CX outer P w H s Q E) s
theorem FnOkG.mono {P : Program} {w : World} {K : PySem.W.Frag} {mg : Str → Option Value} {base : Heap} {CX : CXT} {j k : Nat} {f : Addr} {fd : FuncData} {ps : List Str} {sp : Sp} (F : FnOkG P w K mg base CX j f fd ps sp) (h : j ≤ k) : FnOkG P w K mg base CX k f fd ps sp :=
  ⟨F.len, fun A outer s H args us vs Q E hr => F.run A outer s H args us vs Q E (hr.mono h)⟩
section
variable {P : Program} {w : World} {K : PySem.W.Frag} {mg : Str → Option Value} {base : Heap}
/-- from the bodies, at surroundings that are told -/
theorem fnG {CX : CXT} {x qual : Str} {st : Stmt} {f : Addr} {fd : FuncData} {N ps : List Str} {k : Nat} {sp : Sp} (F : Fun K x qual st f fd) (S : FnScope N ps (defScope st)) (len : ∀ vs H Q E, sp vs H Q E → vs.length = ps.length)
    (hb : ∀ (cdv : Value) (A : Around) (outer : List Env) (s : Shared) (H : Hp) (vs : List V) (Q : VK) (E : XK), RoomG k (A.deeper (envOfC qual (defScope st) s.heap.objs.size f cdv)) → sp vs H Q E →
      ∃ t, PSs (cxOf CX P w K mg base N qual (defScope st) f cdv A outer s H E) (defBody st) t ∧ t { nx := fun _ H' => Q .non H', rt := Q } (start N vs) H) : FnOkG P w K mg base CX (k + 1) f fd ps sp := by
  obtain ⟨oc, od, kV, doc, pm, an, cdv, ct, osl, rfl, lk, hcd⟩ := F.ex
  refine ⟨len, fun A outer s H args us vs Q E hr e0 hB r hs => ?_⟩
  have hl := len _ _ _ _ hs
  obtain ⟨t, ht, hq⟩ := hb cdv A outer s H vs Q E (hr.deeper _) hs
  have up := fun b o e => (e0.bs b o e).1
  have KX : K.In s.heap := e0.mod.kin.keeps up
  have kinds : ∀ y ∈ ps.zip us, (defScope st).names.lookup y.1 = some .local ∨ ((defScope st).names.lookup y.1 = some .cell ∧ ((cellsFrom (s.heap.objs.size + 1) (defScope st).names []).lookup y.1).isSome = true) := by
    intro y hy
    cases S.par y.1 (List.of_mem_zip hy).1 with
    | inl q => exact .inl q
    | inr q => exact .inr ⟨q, PySem.W.cellsFrom_some _ _ _ (.inl q)⟩
  refine codeAny_call_function hr.r.depth (KX _ _ lk) rfl S.co S.gen rfl (PySem.W.codeRec_of KX hcd) (hB _ _ _ _ (wpAny_newFunctionEnv_cells S.kind kinds fun env he s1 x => ?_))
  subst he
  refine ⟨e0.mod.nolimit.keeps fun b o e => x.toInCall.keep b o (up b o e), codeAny_func (wpAny_mono (ht.run [] s1 (start N vs) H _ (inv_start S hr.r.hd e0 hl r x) hq) (fun fl s' hs => ?_) fun e s' hs => hs)⟩
  cases fl with
  | ret u => obtain ⟨v, σ', H', J, rv, q⟩ := hs; exact ⟨v, H', J.os, J.bare, J.base, J.hok, rv, q⟩
  | next => obtain ⟨σ', H', J, q⟩ := hs; exact ⟨.non, H', J.os, J.bare, J.base, J.hok, rfl, q⟩
  | brk => obtain ⟨_, _, _, q⟩ := hs; exact q.elim
  | cont => obtain ⟨_, _, _, q⟩ := hs; exact q.elim
end
section
variable {X : Cx} {CX : CXT} {k : Nat} {f : Addr} {fd : FuncData} {ps : List Str} {sp : Sp} {E : XK} {x : Str} {p pos : Pos} {e : Expr} {es : List Expr} {t : TA}
/-- the callee runs from a body -/
theorem goG {pins : List (Addr × Obj)} {σ : L2.St} {H : Hp} {s : Shared} {Q : VK} {us : List Value} {args : Args} {vs : List V} (F : FnOkG X.prog X.w X.K X.mg X.base CX k f fd ps sp) (hr : RoomG k X.A) (hx : Passes CX X E)
    (I : Inv X pins σ H s) (hb : BindsTo s fd args (ps.zip us)) (r : Vals vs us) (h : sp vs H Q E) : codeAny (model X.prog X.w) X.A (.call (.ref f) args) (fun r s' => match r with
      | .ok (.ret u) => EP X pins σ Q u s'
      | .ok _ => False
      | .error e => X.xe e s') s := by
  refine codeAny_mono (F.run X.A X.stack s H args us vs Q E hr I.env0 hb r h) fun r s' hq => ?_
  cases r with
  | error e => exact hx pins σ H s e s' I hq
  | ok fl => cases fl with
    | ret u => exact I.after hq
    | _ => exact hq.elim
theorem callG {pins : List (Addr × Obj)} {σ : L2.St} {H : Hp} {s : Shared} {Q : VK} {us ws : List Value} {ks : List Str} {kw : List (Str × Value)} {vs : List V} (F : FnOkG X.prog X.w X.K X.mg X.base CX k f fd ps sp) (hr : RoomG k X.A) (hx : Passes CX X E)
    (I : Inv X pins σ H s) (hb : BindsTo s fd ⟨ws, kw⟩ (ps.zip us)) (r : Vals vs us) (h : sp vs H Q E) : wpAny (model X.prog X.w) X.A (call (.ref f) ws kw) (EP X pins σ Q) X.xe s := by
  refine wpAny_call (codeAny_mono (goG F hr hx I hb r h) fun r s' hq => ?_)
  cases r with
  | error e => exact hq
  | ok fl => cases fl with
    | ret u => exact hq
    | _ => exact hq.elim
theorem pe_callG (F : FnOkG X.prog X.w X.K X.mg X.base CX k f fd ps sp) (hr : RoomG k X.A) (hg : Gl X x) (hm : X.mg x = some (.ref f)) (hk : PySem.W.keepIn X.K (.ref f) = true) (hb : Binds X.K fd ps []) (hx : Passes CX X E)
    (ha : PA X (e :: es) t) (hdb : (x == ("__debug__" : Str)) = false := by decide) (he : starEach (e :: es) X.env = (false, eval e X.env) :: starEach es X.env := by rfl) (hpl : (backTo pos (starEach es X.env)).any (·.1) = false := by rfl) :
    PE X (.Call (.Name x p) (e :: es) [] pos) (tCall sp [] E t) :=
  ⟨fun pins s σ H Q I h => wpAny_Call_Name_kw (ld_glob I hg hm (PySem.W.callWith_K (h₀ := X.base) I.ok.mod.kin hk (thn (ha.run pos pins s σ H _ I h) fun us s1 ⟨vs, H1, I1, r, q⟩ => ⟨I1.kIn, by
    have q : sp (vs ++ []) H1 Q E := q
    rw [List.append_nil] at q
    have hl : (us ++ []).length = ps.length := by rw [List.append_nil, ← r.length]; exact F.len _ _ _ _ q
    exact callG (ks := []) F hr hx I1 (by have := hb s1 us I1.kIn hl; rw [List.append_nil] at this; exact this) r q⟩) he hpl) hdb)⟩
theorem pe_callG0 (F : FnOkG X.prog X.w X.K X.mg X.base CX k f fd ps sp) (hr : RoomG k X.A) (hg : Gl X x) (hm : X.mg x = some (.ref f)) (hk : PySem.W.keepIn X.K (.ref f) = true) (hb : Binds X.K fd ps []) (hx : Passes CX X E)
    (hdb : (x == ("__debug__" : Str)) = false := by decide) : PE X (.Call (.Name x p) [] [] pos) (tCall sp [] E tNil) :=
  ⟨fun pins s σ H Q I h => wpAny_Call_Name_kw (ld_glob I hg hm (PySem.W.callWith_K0 I.kIn hk (by
    have h : sp [] H Q E := h
    have hl : ([] ++ [] : List Value).length = ps.length := F.len _ _ _ _ h
    exact callG (ks := []) F hr hx I (hb s [] I.kIn hl) .nil h)) hdb)⟩
theorem run_fnkG {pins : List (Addr × Obj)} {σ : L2.St} {H : Hp} {s : Shared} {Q : VK} {us ws : List Value} {ks : List Str} {vs zs : List V} {g : List Value → List Value → List Value} {gV : List V → List V → List V} (F : FnOkG X.prog X.w X.K X.mg X.base CX k f fd ps sp) (hr : RoomG k X.A) (hb : KBinds X.K fd ps ks g gV) (hx : Passes CX X E)
    (I : Inv X pins σ H s) (r : Vals vs us) (rz : Vals zs ws) (h : sp (gV vs zs) H Q E) : wpAny (model X.prog X.w) X.A (call (.ref f) us (ks.zip ws)) (EP X pins σ Q) X.xe s := by
  have r2 := hb.rel r rz
  exact callG (ks := ks) F hr hx I (hb.to s us ws I.kIn (by rw [← r2.length]; exact F.len _ _ _ _ h)) r2 h
end
end NS
namespace NS
open PySem PySem.Spec PyProof.Rows L2

/-- a length that fits a list -/
def fit (n : Nat) : Bool := decide (n < 1000000)
theorem fit_le {n : Nat} (h : fit n = true) : n < sizeLine := Nat.lt_of_lt_of_le (of_decide_eq_true h) (by rw [sizeLine_eq]; decide)
theorem KL.imp {U : Sur} {A : List GAdr} {S H : Hp} {r : Res (List D)} {Q Q' : List V → Hp → Prop} (h : KL U A S H r Q) (i : ∀ v H', Q v H' → Q' v H') : KL U A S H r Q' := by
  cases r with
  | ok d g => exact fun A' S' H' vs q o r => i _ _ (h A' S' H' vs q o r)
  | err x g => exact h
  | bad => exact h
section
variable {X : Cx} {E : XK} {pos : Pos} {e : Expr} {es : List Expr} {f : DS → M D} {fl : DS → M (List D)} {m : Bool}
/-! ## arguments, displays -/
def lNil : DS → M (List D) := fun _ => M.pure []
def lCons (f : DS → M D) (fl : DS → M (List D)) : DS → M (List D) := fun σ => M.bind (f σ) fun x => M.bind (fl σ) fun xs => M.pure (x :: xs)
theorem dl_nil : DL X E [] lNil := PA.impD pa_nil fun σ H Q ⟨A, S, g, σd, o, r, q⟩ => q A S H [] (Post.refl _ _ _) o .nil
theorem dl_cons (ha : DE X E false e f) (hr : DL X E es fl) (hs : starEach (e :: es) X.env = (false, eval e X.env) :: starEach es X.env := by rfl) : DL X E (e :: es) (lCons f fl) :=
  (pa_cons ha hr hs).impD fun σ H Q ⟨A, S, g, σd, o, r, q⟩ => ⟨A, S, g, σd, o, r, (KL.bindE q).imp fun v H1 ⟨A1, S1, g1, d, p1, o1, r1, q1⟩ =>
    ⟨A1, S1, g1, σd, o1, r.post p1, (KL.bindL q1).imp fun vs H2 ⟨A2, S2, g2, ds, p2, o2, r2, q2⟩ => q2 A2 S2 H2 _ (Post.refl _ _ _) o2 (.cons (Rep.mono p2.a p2.s r1) r2)⟩⟩
def mkT (ds : List D) : M D := if fit ds.length = true then M.pure (.tup ds) else M.bad
def mkL (ds : List D) : M D := if fit ds.length = true then M.pure (.lst ds) else M.bad
def eArgs (k : List D → M D) (fl : DS → M (List D)) : DS → M D := fun σ => M.bind (fl σ) k
theorem de_tup {x1} (h : DL X E es fl) : DE X E false (.Tuple es x1 pos) (eArgs mkT fl) :=
  (pe_tup h).impD fun σ H Q ⟨A, S, g, σd, o, r, q⟩ => ⟨A, S, g, σd, o, r, (KE.bindL q).imp fun vs H1 ⟨A1, S1, g1, ds, p1, o1, r1, q1⟩ => by
    unfold mkT at q1
    by_cases hf : fit ds.length = true
    · rw [if_pos hf] at q1
      exact ⟨by rw [r1.length]; exact Nat.le_of_lt (fit_le hf), fun p hp => q1.newT o1 r1 hp⟩
    · rw [if_neg hf] at q1; exact q1.elim⟩
theorem de_lst (h : DL X E es fl) : DE X E m (.List es pos) (eArgs mkL fl) :=
  (pe_lst h).impD fun σ H Q ⟨A, S, g, σd, o, r, q⟩ => ⟨A, S, g, σd, o, r, (KE.bindL q).imp fun vs H1 ⟨A1, S1, g1, ds, p1, o1, r1, q1⟩ => by
    unfold mkL at q1
    by_cases hf : fit ds.length = true
    · rw [if_pos hf] at q1
      exact ⟨by rw [r1.length]; exact Nat.le_of_lt (fit_le hf), fun p hp => q1.newL o1 r1 hp⟩
    · rw [if_neg hf] at q1; exact q1.elim⟩

/-! ## calls of built-ins, by values -/
def rDL (U : Sur) (m : Bool) (k : List D → M D) : List V → Hp → VK → Prop := fun vs H Q => ∃ A S g ds, Ok U.K A S H g ∧ RepL U.K A S vs ds ∧ KE U m A S H (k ds g) Q
def CallD (X : Cx) (E : XK) (f : Value) (m : Bool) (k : List D → M D) : Prop := CallR X f (rDL (Cx.sur X E) m k)
theorem args_read {U : Sur} {k : List D → M D} {σ : L2.St} {H : Hp} {Q : VK} (h : tE U m (eArgs k fl) σ H Q) : tL U fl σ H fun vs H1 => rDL U m k vs H1 Q := by
  obtain ⟨A, S, g, σd, o, r, q⟩ := h
  exact ⟨A, S, g, σd, o, r, (KE.bindL q).imp fun vs H1 ⟨A1, S1, g1, ds, p1, o1, r1, q1⟩ => ⟨A1, S1, g1, ds, o1, r1, q1⟩⟩
variable {k : List D → M D} {x : Str} {p : Pos} {id T : String}
theorem de_callB (hc : CallD X E (.builtin id) m k) (hm : X.mg x = none) (ha : DL X E (e :: es) fl) (hg : Gl X x := by rfl) (hv : bootBuiltins x = some (.builtin id) := by decide +kernel) (hn : x ≠ "__name__" := by decide) (hdb : (x == ("__debug__" : Str)) = false := by decide)
    (he : starEach (e :: es) X.env = (false, eval e X.env) :: starEach es X.env := by rfl) (hpl : (backTo pos (starEach es X.env)).any (·.1) = false := by rfl) : DE X E m (.Call (.Name x p) (e :: es) [] pos) (eArgs k fl) :=
  PE.impD (pe_callB hc hg hm hv ha hn hdb he hpl) fun _ _ _ h => args_read h
theorem de_callTy (hc : CallD X E (.type T) m k) (hm : X.mg x = none) (ha : DL X E (e :: es) fl) (hg : Gl X x := by rfl) (hv : bootBuiltins x = some (.type T) := by decide +kernel) (hn : x ≠ "__name__" := by decide) (hdb : (x == ("__debug__" : Str)) = false := by decide)
    (he : starEach (e :: es) X.env = (false, eval e X.env) :: starEach es X.env := by rfl) (hpl : (backTo pos (starEach es X.env)).any (·.1) = false := by rfl) : DE X E m (.Call (.Name x p) (e :: es) [] pos) (eArgs k fl) :=
  PE.impD (pe_callTy hc hg hm hv ha hn hdb he hpl) fun _ _ _ h => args_read h

/-! ## calls of defs -/
/-- the promise of a def that computes f -/
def spD (mg : Str → Option Value) (K : PySem.W.Frag) (n : Nat) (m : Bool) (f : List D → M D) : Sp := fun vs H Q E => vs.length = n ∧ rDL ⟨mg, K, E⟩ m f vs H Q
abbrev FnD (P : Program) (w : World) (K : PySem.W.Frag) (mg : Str → Option Value) (base : Heap) (CX : CXT) (k : Nat) (f : Addr) (fd : FuncData) (ps : List Str) (m : Bool) (d : List D → M D) : Prop :=
  FnOkG P w K mg base CX k f fd ps (spD mg K ps.length m d)
def callN (n : Nat) (d : List D → M D) : List D → M D := fun ds => if ds.length = n then d ds else M.bad
variable {CX : CXT} {kk : Nat} {fa : Addr} {fd : FuncData} {ps : List Str} {d : List D → M D}
theorem de_call (F : FnD X.prog X.w X.K X.mg X.base CX kk fa fd ps m d) (hr : RoomG kk X.A) (hm : X.mg x = some (.ref fa)) (hk : PySem.W.keepIn X.K (.ref fa) = true) (hb : Binds X.K fd ps []) (hx : Passes CX X E)
    (ha : DL X E (e :: es) fl) (hg : Gl X x := by rfl) (hdb : (x == ("__debug__" : Str)) = false := by decide) (he : starEach (e :: es) X.env = (false, eval e X.env) :: starEach es X.env := by rfl) (hpl : (backTo pos (starEach es X.env)).any (·.1) = false := by rfl) :
    DE X E m (.Call (.Name x p) (e :: es) [] pos) (eArgs (callN ps.length d) fl) :=
  PE.impD (pe_callG F hr hg hm hk hb hx ha hdb he hpl) fun σ H Q ⟨A, S, g, σd, o, r, q⟩ => ⟨A, S, g, σd, o, r, (KE.bindL q).imp fun vs H1 ⟨A1, S1, g1, ds, p1, o1, r1, q1⟩ => by
    unfold callN at q1
    by_cases hl : ds.length = ps.length
    · rw [if_pos hl] at q1
      refine ⟨by simp [r1.length, hl], A1, S1, g1, ds, o1, by simpa using r1, q1⟩
    · rw [if_neg hl] at q1; exact q1.elim⟩
theorem de_call0 (F : FnD X.prog X.w X.K X.mg X.base CX kk fa fd ps m d) (hr : RoomG kk X.A) (hm : X.mg x = some (.ref fa)) (hk : PySem.W.keepIn X.K (.ref fa) = true) (hb : Binds X.K fd ps []) (hx : Passes CX X E) (hp : ps.length = 0)
    (hg : Gl X x := by rfl) (hdb : (x == ("__debug__" : Str)) = false := by decide) :
    DE X E m (.Call (.Name x p) [] [] pos) (eArgs (callN ps.length d) lNil) :=
  PE.impD (pe_callG0 F hr hg hm hk hb hx hdb) fun σ H Q ⟨A, S, g, σd, o, r, q⟩ => by
    have q2 : KE (Cx.sur X E) m A S H (callN ps.length d [] g) Q := q
    unfold callN at q2
    rw [if_pos (show ([] : List D).length = ps.length from hp.symm)] at q2
    exact ⟨by simp [hp], A, S, g, [], o, .nil, q2⟩
/-- keywords alone, or behind positional ones: gD puts them in the parameters' order -/
structure KwD (K : PySem.W.Frag) (fd : FuncData) (ps ks : List Str) (nk : Nat) (gV : {α : Type} → List α → List α → List α) : Prop where
  b : KBinds K fd ps ks gV gV
  rep : ∀ {A : List GAdr} {S : Hp} {vs zs : List V} {ds es : List D}, RepL K A S vs ds → RepL K A S zs es → RepL K A S (gV vs zs) (gV ds es)
def DK (X : Cx) (E : XK) (kws : List Keyword) (f : DS → M (List D)) : Prop := PK X kws (tL (Cx.sur X E) f)
theorem _root_.L2.PK.impD {X : Cx} {e : List Keyword} {t t' : TA} (h : PK X e t) (i : ∀ σ H Q, t' σ H Q → t σ H Q) : PK X e t' := ⟨fun pos pins s σ H Q I q => h.run pos pins s σ H Q I (i σ H Q q)⟩
variable {kws : List Keyword} {nm : Option Str} {kpos : Pos}
theorem dk_nil : DK X E [] lNil := PK.impD pk_nil fun σ H Q ⟨A, S, g, σd, o, r, q⟩ => q A S H [] (Post.refl _ _ _) o .nil
theorem dk_cons (ha : DE X E false e f) (hr : DK X E kws fl) : DK X E (⟨nm, e, kpos⟩ :: kws) (lCons f fl) :=
  (pk_cons ha hr).impD fun σ H Q ⟨A, S, g, σd, o, r, q⟩ => ⟨A, S, g, σd, o, r, (KL.bindE q).imp fun v H1 ⟨A1, S1, g1, d, p1, o1, r1, q1⟩ =>
    ⟨A1, S1, g1, σd, o1, r.post p1, (KL.bindL q1).imp fun vs H2 ⟨A2, S2, g2, ds, p2, o2, r2, q2⟩ => q2 A2 S2 H2 _ (Post.refl _ _ _) o2 (.cons (Rep.mono p2.a p2.s r1) r2)⟩⟩

/-! ## what is walked -/
/-- J walks the data ds as long as the shared part S stands -/
structure DIt (K : PySem.W.Frag) (A : List GAdr) (S : Hp) (J : It) (ds : List D) : Prop where
  go : ∀ i H, i < ds.length → Same S H → J.go i H
  stop : ∀ i H, ds.length ≤ i → Same S H → J.stop i H
  yld : ∀ i H x H', i < ds.length → Same S H → J.yld i H x H' → ∃ d, ds[i]? = some d ∧ ((H' = H ∧ Rep K A S x d) ∨ ∃ T vs es, x = .ref T ∧ d = .tup es ∧ H T = none ∧ H' = upd H T (.tup vs) ∧ RepL K A S vs es)
theorem DIt.mono {K : PySem.W.Frag} {A A' : List GAdr} {S S' : Hp} {J : It} {ds : List D} (hA : A <+: A') (hS : Same S S') (h : DIt K A S J ds) : DIt K A' S' J ds :=
  ⟨fun i H hi e => h.go i H hi (hS.trans e), fun i H hi e => h.stop i H hi (hS.trans e), fun i H x H' hi e y => by
    obtain ⟨d, e1, e2⟩ := h.yld i H x H' hi (hS.trans e) y
    refine ⟨d, e1, ?_⟩
    rcases e2 with ⟨e2, e3⟩ | ⟨T, vs, es, a1, a2, a3, a4, a5⟩
    · exact .inl ⟨e2, e3.mono hA hS⟩
    · exact .inr ⟨T, vs, es, a1, a2, a3, a4, a5.mono hA hS⟩⟩
def KI (U : Sur) (A : List GAdr) (S H : Hp) (r : Res (List D)) (R : It → Hp → Prop) : Prop :=
  match r with
  | .ok ds g' => ∀ A' S' H' J, Post A S H A' S' H' → Ok U.K A' S' H' g' → DIt U.K A' S' J ds → R J H'
  | .err x g' => ∀ A' S' H' c dd, Post A S H A' S' H' → Ok U.K A' S' H' g' → XRep U.mg U.K A' S' H' x c dd → U.E c dd H'
  | .bad => False
def tI (U : Sur) (f : DS → M (List D)) : TI := fun σ H R => ∃ A S g σd, Ok U.K A S H g ∧ SRep U.K A S H σ σd ∧ KI U A S H (f σd g) R
def DI (X : Cx) (E : XK) (tg iter : Expr) (f : DS → M (List D)) : Prop := PI X tg iter (tI (Cx.sur X E) f)
theorem KI.shift {U : Sur} {A A1 : List GAdr} {S S1 H H1 : Hp} {r : Res (List D)} {R : It → Hp → Prop} (p : Post A S H A1 S1 H1) (h : KI U A S H r R) : KI U A1 S1 H1 r R := by
  cases r with
  | ok d g => exact fun A' S' H' v q o rr => h A' S' H' v (p.trans q) o rr
  | err x g => exact fun A' S' H' c dd q o rr => h A' S' H' c dd (p.trans q) o rr
  | bad => exact h
theorem KI.imp {U : Sur} {A : List GAdr} {S H : Hp} {r : Res (List D)} {R R' : It → Hp → Prop} (h : KI U A S H r R) (i : ∀ J H', R J H' → R' J H') : KI U A S H r R' := by
  cases r with
  | ok d g => exact fun A' S' H' vs q o r => i _ _ (h A' S' H' vs q o r)
  | err x g => exact h
  | bad => exact h
theorem KI.bindE {U : Sur} {A : List GAdr} {S H : Hp} {x : M D} {k : D → M (List D)} {g : G} {R : It → Hp → Prop} (h : KI U A S H (M.bind x k g) R) :
    KE U false A S H (x g) fun v H1 => ∃ A1 S1 g1 d, Post A S H A1 S1 H1 ∧ Ok U.K A1 S1 H1 g1 ∧ Rep U.K A1 S1 v d ∧ KI U A1 S1 H1 (k d g1) R := by
  unfold M.bind at h
  cases e : x g with
  | ok d g1 => rw [e] at h; exact fun A' S' H' v p o r => ⟨A', S', g1, d, p, o, r, h.shift p⟩
  | err e1 g1 => rw [e] at h; exact h
  | bad => rw [e] at h; exact h
theorem KI.bindL {U : Sur} {A : List GAdr} {S H : Hp} {x : M (List D)} {k : List D → M (List D)} {g : G} {R : It → Hp → Prop} (h : KI U A S H (M.bind x k g) R) :
    KL U A S H (x g) fun v H1 => ∃ A1 S1 g1 d, Post A S H A1 S1 H1 ∧ Ok U.K A1 S1 H1 g1 ∧ RepL U.K A1 S1 v d ∧ KI U A1 S1 H1 (k d g1) R := by
  unfold M.bind at h
  cases e : x g with
  | ok d g1 => rw [e] at h; exact fun A' S' H' v p o r => ⟨A', S', g1, d, p, o, r, h.shift p⟩
  | err e1 g1 => rw [e] at h; exact h
  | bad => rw [e] at h; exact h

/-! ## targets -/
def KG (U : Sur) (vs : List Nat) (A : List GAdr) (S H : Hp) (σ : L2.St) (r : Res DS) (Q : L2.St → Hp → Prop) : Prop :=
  match r with
  | .ok σd' g' => ∀ A' S' H' σ', Post A S H A' S' H' → Ok U.K A' S' H' g' → SRep U.K A' S' H' σ' σd' → L2.wipe σ' vs = L2.wipe σ vs → Q σ' H'
  | _ => False
def tG (U : Sur) (vs : List Nat) (f : D → DS → M DS) : TG := fun v σ H Q => ∃ A S g σd d, Ok U.K A S H g ∧ SRep U.K A S H σ σd ∧ Rep U.K A S v d ∧ KG U vs A S H σ (f d σd g) Q
def DG (X : Cx) (E : XK) (vs : List Nat) (tg : Expr) (f : D → DS → M DS) : Prop := PG X tg (tG (Cx.sur X E) vs f)
def gN (i : Nat) : D → DS → M DS := fun d σ => M.pure (σ.set i (some (.sh d)))
def gNs (is : List Nat) : D → DS → M DS := fun d σ => match d with
  | .tup ds => if ds.length = is.length then M.pure ((is.zip ds).foldl (fun s p => s.set p.1 (some (.sh p.2))) σ) else M.bad
  | _ => M.bad
theorem wipe_set {σ : L2.St} {i : Nat} {x : Option V} : ∀ {vs : List Nat}, i ∈ vs → L2.wipe (σ.set i x) vs = L2.wipe σ vs
  | v :: vs, h => by
    show (L2.wipe (σ.set i x) vs).set v none = (L2.wipe σ vs).set v none
    by_cases e : i = v
    · subst e
      by_cases h2 : i ∈ vs
      · rw [wipe_set h2]
      · have : ∀ (us : List Nat), i ∉ us → L2.wipe (σ.set i x) us = (L2.wipe σ us).set i x := by
          intro us
          induction us with
          | nil => intro _; rfl
          | cons u us ih =>
            intro hu
            show (L2.wipe (σ.set i x) us).set u none = ((L2.wipe σ us).set u none).set i x
            rw [ih fun z => hu (List.mem_cons_of_mem _ z), List.set_comm _ _ (fun z => hu (by rw [z]; exact List.mem_cons_self))]
        rw [this vs h2, List.set_set]
    · have h2 : i ∈ vs := by
        rcases List.mem_cons.mp h with z | z
        · exact absurd z e
        · exact z
      rw [wipe_set h2]
theorem dg_name {i : Nat} {vs : List Nat} {x : Str} (hN : X.N.Nodup) (hi : X.N[i]? = some x := by rfl) (hv : i ∈ vs := by decide) (hx : Loc X.env.scope x := by first | exact Or.inl rfl | exact Or.inr rfl) (hf : X.fn x = true ∨ X.env.scope.names.lookup x = some .local := by first | exact .inl rfl | exact .inr rfl | assumption) : DG X E vs (.Name x pos) (gN i) :=
  (pg_name hN hi hx hf).impD fun v σ H Q ⟨A, S, g, σd, d, o, r, rv, q⟩ => q A S H _ (Post.refl _ _ _) o (r.setSh rv i) (wipe_set hv)
/-- a row of names -/
def gNames (is : List Nat) : TGs := fun vs σ H Q => vs.length = is.length ∧ Q ((is.zip vs).foldl (fun s p => s.set p.1 (some p.2)) σ) H
theorem pgs_nilN : PGs X [] (gNames []) := ⟨fun pins s σ H vs us Q I r h => by
  obtain ⟨e, q⟩ := h
  have e' : vs = [] := List.length_eq_zero_iff.mp e
  subst e'
  exact pgs_nil.run pins s σ H [] us Q I r ⟨rfl, q⟩⟩
theorem pgs_consN {i : Nat} {is : List Nat} {x : Str} {es : List Expr} (hN : X.N.Nodup) (h2 : PGs X es (gNames is)) (hi : X.N[i]? = some x := by rfl) (hx : Loc X.env.scope x := by first | exact Or.inl rfl | exact Or.inr rfl) (hf : X.fn x = true ∨ X.env.scope.names.lookup x = some .local := by first | exact .inl rfl | exact .inr rfl | assumption)
    (hs : (assignEach (.Name x pos :: es) X.env).map (·.2) = assign (.Name x pos) X.env :: (assignEach es X.env).map (·.2) := by rfl) : PGs X (.Name x pos :: es) (gNames (i :: is)) := ⟨fun pins s σ H vs us Q I r h => by
  obtain ⟨e, q⟩ := h
  cases vs with
  | nil => cases e
  | cons v vs =>
    refine (pgs_cons (pg_name (pos := pos) hN hi hx hf) h2 hs).run pins s σ H (v :: vs) us Q I r ⟨v, vs, rfl, ?_⟩
    exact ⟨Nat.succ.inj e, q⟩⟩
theorem SRep.setAll {K : PySem.W.Frag} {A : List GAdr} {S H : Hp} : ∀ {is : List Nat} {vs : List V} {ds : List D} {σ : L2.St} {σd : DS}, SRep K A S H σ σd → RepL K A S vs ds →
    SRep K A S H ((is.zip vs).foldl (fun s p => s.set p.1 (some p.2)) σ) ((is.zip ds).foldl (fun s p => s.set p.1 (some (.sh p.2))) σd)
  | [], _, _, _, _, h, _ => h
  | _ :: _, _, _, _, _, h, .nil => h
  | i :: is, _, _, _, _, h, .cons r rr => SRep.setAll (is := is) (h.setSh r i) rr
theorem wipe_all {vs : List Nat} : ∀ {is : List Nat} {xs : List V} {σ : L2.St}, (∀ i ∈ is, i ∈ vs) → L2.wipe ((is.zip xs).foldl (fun s p => s.set p.1 (some p.2)) σ) vs = L2.wipe σ vs
  | [], _, _, _ => rfl
  | _ :: _, [], _, _ => rfl
  | i :: is, x :: xs, σ, h => by
    show L2.wipe ((is.zip xs).foldl _ (σ.set i (some x))) vs = _
    rw [wipe_all fun j hj => h j (List.mem_cons_of_mem _ hj), wipe_set (h i List.mem_cons_self)]
theorem dg_tup {is vs : List Nat} {es : List Expr} {j : Nat} (h : PGs X es (gNames is)) (hc : X.calm = true := by rfl) (hv : ∀ i ∈ is, i ∈ vs := by decide)
    (hn : (assignEach es X.env).length = is.length := by rfl) (hst : (assignEach es X.env).findIdx? (·.1) = none := by rfl) : DG X E vs (.Tuple es j pos) (gNs is) :=
  (pg_tup hc h hn hst).impD fun v σ H Q ⟨A, S, g, σd, d, o, r, rv, q⟩ => by
    cases rv with
    | @tup a xs ds ht hr =>
      have q' : KG (Cx.sur X E) vs A S H σ ((if ds.length = is.length then M.pure ((is.zip ds).foldl (fun s p => s.set p.1 (some (.sh p.2))) σd) else M.bad) g) Q := q
      by_cases hl : ds.length = is.length
      · rw [if_pos hl] at q'
        exact ⟨a, xs, rfl, tq o.ext ht, by rw [hr.length, hl], by rw [hr.length, hl], q' A S H _ (Post.refl _ _ _) o (r.setAll hr) (wipe_all hv)⟩
      · rw [if_neg hl] at q'; exact q'.elim
    | _ => exact q.elim

/-! ## comprehensions -/
def DTs (X : Cx) (E : XK) (ifs : List Expr) (f : DS → M Bool) : Prop := PTs X ifs (tT (Cx.sur X E) f)
theorem _root_.L2.PTs.impD {X : Cx} {e : List Expr} {t t' : TT} (h : PTs X e t) (i : ∀ σ H Q, t' σ H Q → t σ H Q) : PTs X e t' := ⟨fun pins s σ H Q I q => h.run pins s σ H Q I (i σ H Q q)⟩
def tYesD : DS → M Bool := fun _ => M.pure true
theorem dts_nil : DTs X E [] tYesD := PTs.impD pts_nil fun σ H Q ⟨A, S, g, σd, o, r, q⟩ => KT.now q o
theorem dts_one {c : Expr} {t : DS → M Bool} (h : DT X E c t) : DTs X E [c] t := pts_one h
/-- an exception cannot leave a comprehension here -/
def M.noerr {α : Type} (x : M α) : M α := fun g => match x g with
  | .ok a g' => .ok a g'
  | _ => .bad
def compM (fg : D → DS → M DS) (ft : DS → M Bool) (fe : DS → M D) (σ : DS) : List D → M (List D)
  | [] => M.pure []
  | d :: ds => M.bind (fg d σ) fun σ1 => M.bind (M.noerr (ft σ1)) fun b => if b = true then M.bind (M.noerr (fe σ1)) fun y => M.bind (compM fg ft fe σ ds) fun r => M.pure (y :: r) else compM fg ft fe σ ds
def eComp (fi : DS → M (List D)) (vs : List Nat) (fg : D → DS → M DS) (ft : DS → M Bool) (fe : DS → M D) : DS → M D := fun σ => M.bind (fi σ) fun ds => if fit ds.length = true then M.bind (compM fg ft fe (wipeD σ vs) ds) fun r => M.pure (.lst r) else M.bad
end

section
variable {U : Sur} {vs : List Nat} {fg : D → DS → M DS} {ft : DS → M Bool} {fe : DS → M D}
theorem KL.noerr_E {A : List GAdr} {S H : Hp} {x : M D} {k : D → M (List D)} {g : G} {Q : List V → Hp → Prop} {E' : XK} (h : KL U A S H (M.bind (M.noerr x) k g) Q) :
    KE ⟨U.mg, U.K, E'⟩ false A S H (x g) fun v H1 => ∃ A1 S1 g1 d, Post A S H A1 S1 H1 ∧ Ok U.K A1 S1 H1 g1 ∧ Rep U.K A1 S1 v d ∧ KL U A1 S1 H1 (k d g1) Q := by
  unfold M.bind M.noerr at h
  cases e : x g with
  | ok d g1 => rw [e] at h; exact fun A' S' H' v p o r => ⟨A', S', g1, d, p, o, r, KL.shift p h⟩
  | err e1 g1 => rw [e] at h; exact h.elim
  | bad => rw [e] at h; exact h
theorem KL.noerr_T {A : List GAdr} {S H : Hp} {x : M Bool} {k : Bool → M (List D)} {g : G} {Q : List V → Hp → Prop} {E' : XK} (h : KL U A S H (M.bind (M.noerr x) k g) Q) :
    KT ⟨U.mg, U.K, E'⟩ A S H (x g) fun b H1 => ∃ A1 S1 g1, Post A S H A1 S1 H1 ∧ Ok U.K A1 S1 H1 g1 ∧ KL U A1 S1 H1 (k b g1) Q := by
  unfold M.bind M.noerr at h
  cases e : x g with
  | ok d g1 => rw [e] at h; exact fun A' S' H' p o => ⟨A', S', g1, p, o, KL.shift p h⟩
  | err e1 g1 => rw [e] at h; exact h.elim
  | bad => rw [e] at h; exact h
theorem KL.bindG {A : List GAdr} {S H : Hp} {σ : L2.St} {x : M DS} {k : DS → M (List D)} {g : G} {Q : List V → Hp → Prop} {E' : XK} (hx : ∀ e g', x g ≠ .err e g') (h : KL U A S H (M.bind x k g) Q) :
    KG ⟨U.mg, U.K, E'⟩ vs A S H σ (x g) fun σ' H1 => ∃ A1 S1 g1 σd', Post A S H A1 S1 H1 ∧ Ok U.K A1 S1 H1 g1 ∧ SRep U.K A1 S1 H1 σ' σd' ∧ L2.wipe σ' vs = L2.wipe σ vs ∧ KL U A1 S1 H1 (k σd' g1) Q := by
  unfold M.bind at h
  cases e : x g with
  | ok d g1 => rw [e] at h; exact fun A' S' H' σ' p o r w => ⟨A', S', g1, d, p, o, r, w, KL.shift p h⟩
  | err e1 g1 => exact (hx _ _ e).elim
  | bad => rw [e] at h; exact h
/-- the list at p is not shared, and not of the things handed around -/
def Loose (A : List GAdr) (S H : Hp) (p : Addr) (vs : List V) : Prop := S p = none ∧ p ∉ gfp A ∧ H p = some (.lst vs)
theorem Loose.post {A A1 : List GAdr} {S S1 H H1 : Hp} {p : Addr} {vs : List V} (h : Loose A S H p vs) (q : Post A S H A1 S1 H1) : Loose A1 S1 H1 p vs := by
  obtain ⟨h1, h2, h3⟩ := h
  refine ⟨?_, fun z => ?_, q.keep p _ h3 h2⟩
  · cases e : S1 p with
    | none => rfl
    | some u =>
      rcases q.snew p u e with z | z
      · rw [h1] at z; cases z
      · rw [h3] at z; cases z
  · rcases q.anew p z with z | z
    · exact h2 z
    · rw [h3] at z; cases z
end
section
variable {X : Cx} {E : XK} {pos : Pos}
theorem bind_ok {α β : Type} {x : M α} {k : α → M β} {g g' : G} {a : α} (h : x g = .ok a g') : M.bind x k g = k a g' := by unfold M.bind; rw [h]
theorem bind_err {α β : Type} {x : M α} {k : α → M β} {g g' : G} {e : Exn} (h : x g = .err e g') : M.bind x k g = .err e g' := by unfold M.bind; rw [h]
theorem bind_bad {α β : Type} {x : M α} {k : α → M β} {g : G} (h : x g = .bad) : M.bind x k g = .bad := by unfold M.bind; rw [h]
theorem noerr_ok {α : Type} {x : M α} {g g' : G} {a : α} (h : x g = .ok a g') : M.noerr x g = .ok a g' := by unfold M.noerr; rw [h]
theorem noerr_err {α : Type} {x : M α} {g g' : G} {e : Exn} (h : x g = .err e g') : M.noerr x g = .bad := by unfold M.noerr; rw [h]
theorem noerr_bad {α : Type} {x : M α} {g : G} (h : x g = .bad) : M.noerr x g = .bad := by unfold M.noerr; rw [h]
def CQ (U : Sur) (m : Bool) (A1 : List GAdr) (S1 H1 : Hp) (Q : VK) (es : List D) (r : Res (List D)) : Prop :=
  match r with
  | .ok rs g => KE U m A1 S1 H1 (.ok (.lst (es ++ rs)) g) Q
  | .err x g => KE U m A1 S1 H1 (.err x g) Q
  | .bad => False
theorem Post.writeNew {A A1 : List GAdr} {S S1 H H1 : Hp} {p : Addr} {o : HO} (q : Post A S H A1 S1 H1) (hp : H p = none) : Post A S H A1 S1 (upd H1 p o) where
  a := q.a
  s := q.s
  snew := q.snew
  keep := fun x u h n => by rw [upd_ne (ne_of_none h hp)]; exact q.keep x u h n
  dom := fun x u h => by rw [upd_ne (ne_of_none h hp)]; exact q.dom x u h
  anew := q.anew
theorem wipe_wipe {σ : L2.St} : ∀ {vs : List Nat}, L2.wipe (L2.wipe σ vs) vs = L2.wipe σ vs := by
  have gen : ∀ (us vs : List Nat) (σ : L2.St), (∀ u ∈ us, u ∈ vs) → L2.wipe (L2.wipe σ vs) us = L2.wipe σ vs := by
    intro us
    induction us with
    | nil => intros; rfl
    | cons u us ih =>
      intro vs σ h
      show (L2.wipe (L2.wipe σ vs) us).set u none = _
      rw [ih vs σ fun x hx => h x (List.mem_cons_of_mem _ hx)]
      have hu := h u List.mem_cons_self
      clear ih h
      induction vs with
      | nil => cases hu
      | cons v vs ih2 =>
        show ((L2.wipe σ vs).set v none).set u none = (L2.wipe σ vs).set v none
        by_cases e : u = v
        · subst e; rw [List.set_set]
        · rw [List.set_comm _ _ (Ne.symm e), ih2]
          rcases List.mem_cons.mp hu with z | z
          · exact absurd z e
          · exact z
  intro vs
  exact gen vs vs σ fun _ h => h
/-- a loose object that no own slot holds is written -/
theorem SRep.loose {K : PySem.W.Frag} {A : List GAdr} {S H : Hp} {σ : L2.St} {σd : DS} {p : Addr} {o : HO} (h : SRep K A S H σ σd) (hp : S p = none)
    (no : ∀ (j : Nat) (d : D), σd[j]? = some (some (.ow d)) → σ[j]? = some (some (.ref p)) → False) : SRep K A S (upd H p o) σ σd :=
  ⟨h.len, fun i x e => by
    obtain ⟨v, e1, e2⟩ := h.at_ i x e
    refine ⟨v, e1, ?_⟩
    cases v with
    | none => cases x <;> exact e2.elim
    | some v =>
      cases x with
      | sh d => exact e2
      | ow d =>
        cases v with
        | ref q =>
          obtain ⟨q1, q2, q3⟩ := e2
          have nq : q ≠ p := fun z => by subst z; exact no i d e e1
          exact ⟨q1, q2, q3.mono (List.prefix_refl _) (Same.refl _) (upd_ne nq)⟩
        | _ => exact e2.elim, h.sep⟩
theorem wipeD_some {σd : DS} {i : Nat} {x : DV} : ∀ {vs : List Nat}, (wipeD σd vs)[i]? = some (some x) → σd[i]? = some (some x)
  | [], h => h
  | v :: vs, h => by
    rcases set_get (l := wipeD σd vs) h with ⟨rfl, z, _⟩ | ⟨_, h⟩
    · cases z
    · exact wipeD_some h
/-- an address that was free holds no own slot's object -/
theorem nown {K : PySem.W.Frag} {A A1 A2 : List GAdr} {S S1 S2 H H1 H2 : Hp} {σ : L2.St} {σd : DS} {vs : List Nat} {p : Addr} (P : Post A1 S1 H1 A2 S2 H2) (r : SRep K A S H σ σd) (hp : H1 p = none) (p1 : Post A S H A1 S1 H1) {j : Nat} {d : D}
    (es : (L2.wipe σ vs)[j]? = some (some (.ref p))) (e : (wipeD σd vs)[j]? = some (some (.ow d))) : False := by
  obtain ⟨q, e1, q1, q2, q3⟩ := r.ow (wipeD_some e)
  have e2 := (L2.wipe_some es).1
  rw [e1] at e2
  cases e2
  obtain ⟨o, ho⟩ := q3.some
  obtain ⟨o', ho'⟩ := p1.dom _ _ ho
  rw [hp] at ho'; cases ho'
theorem KE.atLoose {U : Sur} {m : Bool} {A A1 : List GAdr} {S S1 H H1 : Hp} {p : Addr} {vs : List V} {ds : List D} {g : G} {Q : VK} (h : KE U m A S H (.ok (.lst ds) g) Q) (P : Post A S H A1 S1 H1) (o : Ok U.K A1 S1 H1 g) (hp : H p = none)
    (l1 : S1 p = none) (l2 : p ∉ gfp A1) (l3 : H1 p = some (.lst vs)) (r : RepL U.K A1 S1 vs ds) : Q (.ref p) H1 := by
  cases m with
  | true => exact h A1 S1 H1 _ P o ⟨p, rfl, hp, l1, l2, vs, l3, r⟩
  | false =>
    have sm : Same S1 (upd S1 p (.lst vs)) := fun b x e => by rw [upd_ne (ne_of_none e l1)]; exact e
    refine h A1 (upd S1 p (.lst vs)) H1 _ ⟨P.a, P.s.trans sm, fun x u e => ?_, P.keep, P.dom, P.anew⟩ (o.freeze l1 l3 l2) (.lst upd_same (r.mono (List.prefix_refl _) sm))
    by_cases e' : x = p
    · subst e'; exact .inr hp
    · rw [upd_ne e'] at e; exact P.snew x u e
/-- the reading of a comprehension -/
theorem comp_read {m : Bool} {fi : DS → M (List D)} {vs : List Nat} {fg : D → DS → M DS} {ft : DS → M Bool} {fe : DS → M D} (hx : ∀ d σ g e g', fg d σ g ≠ .err e g') {U : Sur} {E' : XK} {σ : L2.St} {H : Hp} {Q : VK}
    (h : tE U m (eComp fi vs fg ft fe) σ H Q) : tLc (tI U fi) (tG ⟨U.mg, U.K, E'⟩ vs fg) (tT ⟨U.mg, U.K, E'⟩ ft) (tE ⟨U.mg, U.K, E'⟩ false fe) vs σ H Q := by
  obtain ⟨A, S, g, σd, o, r, q⟩ := h
  refine ⟨A, S, g, σd, o, r, ?_⟩
  have q0 : KI U A S H (fi σd g) fun J H1 => ∃ A1 S1 g1 ds, Post A S H A1 S1 H1 ∧ Ok U.K A1 S1 H1 g1 ∧ DIt U.K A1 S1 J ds ∧ KE U m A1 S1 H1 ((if fit ds.length = true then M.bind (compM fg ft fe (wipeD σd vs) ds) fun r => M.pure (.lst r) else M.bad) g1) Q := by
    unfold eComp M.bind at q
    cases e : fi σd g with
    | ok d g1 => rw [e] at q; exact fun A' S' H' v p o r => ⟨A', S', g1, d, p, o, r, KE.shift p q⟩
    | err e1 g1 => rw [e] at q; exact q
    | bad => rw [e] at q; exact q
  refine q0.imp fun J H1 ⟨A1, S1, g1, ds, p1, o1, it, q1⟩ => ?_
  intro p hp
  by_cases hf : fit ds.length = true
  · rw [if_pos hf] at q1
    have sp : S1 p = none := Same.free o1.ext hp
    have pg : p ∉ gfp A1 := fun z => by obtain ⟨u, hu⟩ := o1.there p z; rw [hp] at hu; cases hu
    have P0 : Post A1 S1 H1 A1 S1 (upd H1 p (.lst [])) := Post.layO hp
    refine ⟨fun i mm H2 => mm = ds.length - i ∧ i ≤ ds.length ∧ ∃ A2 S2 g2 vs2 es2, Post A1 S1 H1 A2 S2 H2 ∧ Ok U.K A2 S2 H2 g2 ∧ SRep U.K A2 S2 H2 (L2.wipe σ vs) (wipeD σd vs) ∧ Loose A2 S2 H2 p vs2 ∧ RepL U.K A2 S2 vs2 es2 ∧ vs2.length ≤ i ∧
        CQ U m A1 S1 H1 Q es2 (compM fg ft fe (wipeD σd vs) (ds.drop i) g2), ⟨_, rfl, Nat.zero_le _, A1, S1, g1, [], [], P0, o1.layO hp, ((r.post p1).wipe vs).post P0, ⟨sp, pg, upd_same⟩, .nil, Nat.zero_le _, ?_⟩, ?_⟩
    · rw [List.drop_zero]
      unfold M.bind at q1
      unfold CQ
      cases e : compM fg ft fe (wipeD σd vs) ds g1 with
      | ok rs g3 => rw [e] at q1; exact q1
      | err x g3 => rw [e] at q1; exact q1
      | bad => rw [e] at q1; exact q1
    · rintro i mm H2 ⟨rfl, hi, A2, S2, g2, vs2, es2, P2, o2, r2, lo, rl, hlen, cq⟩
      by_cases hlt : i < ds.length
      · refine .inr ⟨it.go i H2 hlt (P2.s.trans o2.ext), fun H3 => i + 1 ≤ ds.length ∧ ∃ A3 S3 g3 vs3 es3, Post A1 S1 H1 A3 S3 H3 ∧ Ok U.K A3 S3 H3 g3 ∧ SRep U.K A3 S3 H3 (L2.wipe σ vs) (wipeD σd vs) ∧ Loose A3 S3 H3 p vs3 ∧ RepL U.K A3 S3 vs3 es3 ∧ vs3.length ≤ i + 1 ∧
          CQ U m A1 S1 H1 Q es3 (compM fg ft fe (wipeD σd vs) (ds.drop (i + 1)) g3), fun H3 h3 => ⟨ds.length - (i + 1), by omega, rfl, h3⟩, fun x H3 y => ?_⟩
        obtain ⟨d, ed, yy⟩ := it.yld i H2 x H3 hlt (P2.s.trans o2.ext) y
        have edrop : ds.drop i = d :: ds.drop (i + 1) := by
          obtain ⟨hl2, e2⟩ := List.getElem?_eq_some_iff.mp ed
          rw [List.drop_eq_getElem_cons hl2, e2]
        rw [edrop] at cq
        -- the item is there
        obtain ⟨S3, PX, oX, rX⟩ : ∃ S3, Post A2 S2 H2 A2 S3 H3 ∧ Ok U.K A2 S3 H3 g2 ∧ Rep U.K A2 S3 x d := by
          rcases yy with ⟨rfl, rx⟩ | ⟨T, ws, es, rfl, rfl, hT, rfl, rr⟩
          · exact ⟨S2, Post.refl _ _ _, o2, rx.mono P2.a P2.s⟩
          · have PT := Post.lay (A := A2) (o := .tup ws) hT o2.ext
            exact ⟨_, PT, o2.lay hT, .tup upd_same (rr.mono P2.a (P2.s.trans PT.s))⟩
        refine ⟨A2, S3, g2, wipeD σd vs, d, oX, r2.post PX, rX, ?_⟩
        have cq1 : CQ U m A1 S1 H1 Q es2 (M.bind (fg d (wipeD σd vs)) (fun σ1 => M.bind (M.noerr (ft σ1)) fun b => if b = true then M.bind (M.noerr (fe σ1)) fun y => M.bind (compM fg ft fe (wipeD σd vs) (ds.drop (i + 1))) fun r => M.pure (y :: r) else compM fg ft fe (wipeD σd vs) (ds.drop (i + 1))) g2) := cq
        unfold M.bind at cq1
        cases e1 : fg d (wipeD σd vs) g2 with
        | err z g' => exact (hx _ _ _ _ _ e1).elim
        | bad => rw [e1] at cq1; exact cq1.elim
        | ok σ1 g3 =>
          rw [e1] at cq1
          intro A4 S4 H4 σ4 P4 o4 r4 w4
          refine ⟨by rw [w4, wipe_wipe], A4, S4, g3, σ1, o4, r4, ?_⟩
          have cq2 : CQ U m A1 S1 H1 Q es2 (M.bind (M.noerr (ft σ1)) (fun b => if b = true then M.bind (M.noerr (fe σ1)) fun y => M.bind (compM fg ft fe (wipeD σd vs) (ds.drop (i + 1))) fun r => M.pure (y :: r) else compM fg ft fe (wipeD σd vs) (ds.drop (i + 1))) g3) := cq1
          cases e2 : ft σ1 g3 with
          | err z g' => rw [bind_bad (noerr_err e2)] at cq2; exact cq2.elim
          | bad => rw [bind_bad (noerr_bad e2)] at cq2; exact cq2.elim
          | ok b g4 =>
            rw [bind_ok (noerr_ok e2)] at cq2
            intro A5 S5 H5 P5 o5
            have PA : Post A2 S2 H2 A5 S5 H5 := PX.trans (P4.trans P5)
            cases b with
            | false =>
              rw [if_neg (by decide)] at cq2 ⊢
              exact ⟨hlt, A5, S5, g4, vs2, es2, P2.trans PA, o5, r2.post PA, lo.post PA, rl.mono PA.a PA.s, by omega, cq2⟩
            | true =>
              rw [if_pos rfl] at cq2 ⊢
              refine ⟨A5, S5, g4, σ1, o5, r4.post P5, ?_⟩
              cases e3 : fe σ1 g4 with
              | err z g' => rw [bind_bad (noerr_err e3)] at cq2; exact cq2.elim
              | bad => rw [bind_bad (noerr_bad e3)] at cq2; exact cq2.elim
              | ok yd g5 =>
                rw [bind_ok (noerr_ok e3)] at cq2
                intro A6 S6 H6 v P6 o6 r6
                have PB : Post A2 S2 H2 A6 S6 H6 := PA.trans P6
                obtain ⟨l1, l2, l3⟩ := lo.post PB
                refine ⟨vs2, l3, Nat.lt_of_le_of_lt hlen (Nat.lt_trans hlt (fit_le hf)), hlt, A6, S6, g5, vs2 ++ [v], es2 ++ [yd], (P2.trans PB).writeNew hp, o6.writeO l1 l2, ?_, ⟨l1, l2, upd_same⟩, (rl.mono PB.a PB.s).append (.cons r6 .nil), by simp; omega, ?_⟩
                · exact (r2.post PB).loose l1 fun j dd q0 es' => nown P2 r hp p1 es' q0
                · cases e4 : compM fg ft fe (wipeD σd vs) (ds.drop (i + 1)) g5 with
                  | ok rs g6 =>
                    rw [bind_ok e4] at cq2
                    have cq3 : KE U m A1 S1 H1 (.ok (.lst (es2 ++ yd :: rs)) g6) Q := cq2
                    show KE U m A1 S1 H1 (.ok (.lst (es2 ++ [yd] ++ rs)) g6) Q
                    rw [List.append_assoc]
                    exact cq3
                  | err z g6 => rw [bind_err e4] at cq2; exact cq2
                  | bad => rw [bind_bad e4] at cq2; exact cq2
      · have ei : i = ds.length := by omega
        subst ei
        refine .inl ⟨it.stop _ H2 (Nat.le_refl _) (P2.s.trans o2.ext), ?_⟩
        rw [List.drop_length] at cq
        have cq1 : KE U m A1 S1 H1 (.ok (.lst (es2 ++ [])) g2) Q := cq
        rw [List.append_nil] at cq1
        obtain ⟨l1, l2, l3⟩ := lo
        exact cq1.atLoose P2 o2 hp l1 l2 l3 rl
  · rw [if_neg hf] at q1; exact q1.elim
end
end NS
namespace NS
open PySem PySem.Spec PyProof.Rows L2
section
variable {X : Cx} {E : XK} {pos : Pos}
abbrev Blk (X : Cx) (scope : Scope) : Shared → Hp → Addr → List (Str × Addr) → List Addr → Cx := fun s H C cl fp => X.blk s H scope (compEnvC scope cl C X.env) fp
abbrev E0 : XK := fun _ _ _ => False
theorem de_comp {m : Bool} {elt tg iter : Expr} {ifs : List Expr} {scope : Scope} {own : List (Str × Nat)} {fi : DS → M (List D)} {fg : D → DS → M DS} {ft : DS → M Bool} {fe : DS → M D} (hN : X.N.Nodup) (hi : DI X E tg iter fi) (ok : BlkOk X.N X.env.scope scope own)
    (hx : ∀ d σ g e g', fg d σ g ≠ .err e g')
    (hg : ∀ s H C cl fp, DG (Blk X scope s H C cl fp) E0 (own.map (·.2)) tg fg) (ht : ∀ s H C cl fp, DTs (Blk X scope s H C cl fp) E0 ifs ft)
    (he : ∀ s H C cl fp, DE (Blk X scope s H C cl fp) E0 false elt fe) (hc : X.calm = true := by rfl) (hs : ∀ x, foldedSetIterable iter X.env x = pure x := by intro _; rfl) :
    DE X E m (.ListComp elt [⟨tg, iter, ifs, 0⟩] scope pos) (eComp fi (own.map (·.2)) fg ft fe) :=
  PE.impD (pe_lc (own := own) (g := tG ⟨X.mg, X.K, E0⟩ (own.map fun (p : Str × Nat) => p.2) fg) (tt := tT ⟨X.mg, X.K, E0⟩ ft) (te := tE ⟨X.mg, X.K, E0⟩ false fe) hc hN hi ok hg ht he hs) fun σ H Q h => comp_read hx h
theorem gN_noerr (i : Nat) : ∀ d σ g e g', gN i d σ g ≠ .err e g' := fun _ _ _ _ _ h => by cases h
theorem gNs_noerr (is : List Nat) : ∀ d σ g e g', gNs is d σ g ≠ .err e g' := fun d σ g e g' h => by
  cases d <;> first
    | cases h
    | (have h' : ((if _ then M.pure _ else M.bad : M DS) g) = .err e g' := h
       split at h' <;> cases h')

/-! ## statements -/
structure En where
  A : List GAdr
  S : Hp
  H : Hp
structure Stt (K : PySem.W.Frag) (e0 : En) (A : List GAdr) (S : Hp) (g : G) (σd : DS) (σ : L2.St) (H : Hp) : Prop where
  ok : Ok K A S H g
  rep : SRep K A S H σ σd
  post : Post e0.A e0.S e0.H A S H
  own : ∀ (i : Nat) (d : D) (p : Addr), σd[i]? = some (some (.ow d)) → σ[i]? = some (some (.ref p)) → e0.H p = none
inductive Fl where
  | nx (σ : DS) | rt (d : D) | bk (σ : DS) | ct (σ : DS)
def KS (U : Sur) (m : Bool) (e0 : En) (A : List GAdr) (S : Hp) (r : Res Fl) (Z : Ends) : Prop :=
  match r with
  | .ok (.nx σd') g' => ∀ A' S' H' σ', A <+: A' → Same S S' → Stt U.K e0 A' S' g' σd' σ' H' → Z.nx σ' H'
  | .ok (.rt d) g' => ∀ A' S' H' v, Ok U.K A' S' H' g' → Post e0.A e0.S e0.H A' S' H' → RepM U.K e0.H A' S' H' v d m → Z.rt v H'
  | .ok (.bk σd') g' => ∀ A' S' H' σ', A <+: A' → Same S S' → Stt U.K e0 A' S' g' σd' σ' H' → Z.bk σ' H'
  | .ok (.ct σd') g' => ∀ A' S' H' σ', A <+: A' → Same S S' → Stt U.K e0 A' S' g' σd' σ' H' → Z.ct σ' H'
  | .err x g' => ∀ A' S' H' c dd, Post e0.A e0.S e0.H A' S' H' → Ok U.K A' S' H' g' → XRep U.mg U.K A' S' H' x c dd → U.E c dd H'
  | .bad => False
def tS (U : Sur) (m : Bool) (e0 : En) (f : DS → M Fl) : TS := fun Z σ H => ∃ A S g σd, Stt U.K e0 A S g σd σ H ∧ KS U m e0 A S (f σd g) Z
theorem KS.floor {U : Sur} {m : Bool} {e0 : En} {A A1 : List GAdr} {S S1 : Hp} {r : Res Fl} {Z : Ends} (a : A <+: A1) (b : Same S S1) (h : KS U m e0 A S r Z) : KS U m e0 A1 S1 r Z := by
  cases r with
  | ok fl g =>
    cases fl with
    | nx σ => exact fun A' S' H' σ' p q s => h A' S' H' σ' (a.trans p) (b.trans q) s
    | bk σ => exact fun A' S' H' σ' p q s => h A' S' H' σ' (a.trans p) (b.trans q) s
    | ct σ => exact fun A' S' H' σ' p q s => h A' S' H' σ' (a.trans p) (b.trans q) s
    | rt d => exact h
  | err x g => exact h
  | bad => exact h
def DS1 (X : Cx) (E : XK) (m : Bool) (e0 : En) (st : Stmt) (f : DS → M Fl) : Prop := PS X st (tS (Cx.sur X E) m e0 f)
def DSs (X : Cx) (E : XK) (m : Bool) (e0 : En) (st : List Stmt) (f : DS → M Fl) : Prop := PSs X st (tS (Cx.sur X E) m e0 f)
variable {m : Bool} {e0 : En}
theorem Stt.post' {K : PySem.W.Frag} {A A1 : List GAdr} {S S1 H H1 : Hp} {g g1 : G} {σd : DS} {σ : L2.St} (h : Stt K e0 A S g σd σ H) (p : Post A S H A1 S1 H1) (o : Ok K A1 S1 H1 g1) : Stt K e0 A1 S1 g1 σd σ H1 :=
  ⟨o, h.rep.post p, h.post.trans p, h.own⟩
/-- an expression within a statement -/
theorem KS.bindE {U : Sur} {m1 : Bool} {A : List GAdr} {S H : Hp} {x : M D} {k : D → M Fl} {g : G} {Z : Ends} (p : Post e0.A e0.S e0.H A S H) (h : KS U m e0 A S (M.bind x k g) Z) :
    KE U m1 A S H (x g) fun v H1 => ∃ A1 S1 g1 d, Post A S H A1 S1 H1 ∧ Ok U.K A1 S1 H1 g1 ∧ RepM U.K H A1 S1 H1 v d m1 ∧ KS U m e0 A1 S1 (k d g1) Z := by
  cases e : x g with
  | ok d g1 => rw [bind_ok e] at h; exact fun A' S' H' v q o r => ⟨A', S', g1, d, q, o, r, h.floor q.a q.s⟩
  | err e1 g1 => rw [bind_err e] at h; exact fun A' S' H' c dd q o r => h A' S' H' c dd (p.trans q) o r
  | bad => rw [bind_bad e] at h; exact h
theorem KS.bindL {U : Sur} {A : List GAdr} {S H : Hp} {x : M (List D)} {k : List D → M Fl} {g : G} {Z : Ends} (p : Post e0.A e0.S e0.H A S H) (h : KS U m e0 A S (M.bind x k g) Z) :
    KL U A S H (x g) fun v H1 => ∃ A1 S1 g1 d, Post A S H A1 S1 H1 ∧ Ok U.K A1 S1 H1 g1 ∧ RepL U.K A1 S1 v d ∧ KS U m e0 A1 S1 (k d g1) Z := by
  cases e : x g with
  | ok d g1 => rw [bind_ok e] at h; exact fun A' S' H' v q o r => ⟨A', S', g1, d, q, o, r, h.floor q.a q.s⟩
  | err e1 g1 => rw [bind_err e] at h; exact fun A' S' H' c dd q o r => h A' S' H' c dd (p.trans q) o r
  | bad => rw [bind_bad e] at h; exact h
theorem KS.bindT {U : Sur} {A : List GAdr} {S H : Hp} {x : M Bool} {k : Bool → M Fl} {g : G} {Z : Ends} (p : Post e0.A e0.S e0.H A S H) (h : KS U m e0 A S (M.bind x k g) Z) :
    KT U A S H (x g) fun v H1 => ∃ A1 S1 g1, Post A S H A1 S1 H1 ∧ Ok U.K A1 S1 H1 g1 ∧ KS U m e0 A1 S1 (k v g1) Z := by
  cases e : x g with
  | ok d g1 => rw [bind_ok e] at h; exact fun A' S' H' q o => ⟨A', S', g1, q, o, h.floor q.a q.s⟩
  | err e1 g1 => rw [bind_err e] at h; exact fun A' S' H' c dd q o r => h A' S' H' c dd (p.trans q) o r
  | bad => rw [bind_bad e] at h; exact h
theorem KS.bindI {U : Sur} {A : List GAdr} {S H : Hp} {x : M (List D)} {k : List D → M Fl} {g : G} {Z : Ends} (p : Post e0.A e0.S e0.H A S H) (h : KS U m e0 A S (M.bind x k g) Z) :
    KI U A S H (x g) fun J H1 => ∃ A1 S1 g1 ds, Post A S H A1 S1 H1 ∧ Ok U.K A1 S1 H1 g1 ∧ DIt U.K A1 S1 J ds ∧ KS U m e0 A1 S1 (k ds g1) Z := by
  cases e : x g with
  | ok d g1 => rw [bind_ok e] at h; exact fun A' S' H' v q o r => ⟨A', S', g1, d, q, o, r, h.floor q.a q.s⟩
  | err e1 g1 => rw [bind_err e] at h; exact fun A' S' H' c dd q o r => h A' S' H' c dd (p.trans q) o r
  | bad => rw [bind_bad e] at h; exact h

/-! ### blocks -/
def sNil : DS → M Fl := fun σ => M.pure (.nx σ)
def sSeq (f h : DS → M Fl) : DS → M Fl := fun σ => M.bind (f σ) fun x => match x with
  | .nx σ' => h σ'
  | y => M.pure y
variable {st : Stmt} {rest : List Stmt} {f h : DS → M Fl} {e : Expr} {fe : DS → M D}
theorem ds_nil : DSs X E m e0 [] sNil := PSs.impD pss_nil fun Z σ H ⟨A, S, g, σd, s, q⟩ => q A S H σ (List.prefix_refl _) (Same.refl _) s
theorem ds_one (h1 : DS1 X E m e0 st f) : DSs X E m e0 [st] f := pss_one h1
theorem ds_cons (h1 : DS1 X E m e0 st f) (h2 : DSs X E m e0 rest h) : DSs X E m e0 (st :: rest) (sSeq f h) :=
  (pss_cons h1 h2).impD fun Z σ H ⟨A, S, g, σd, s, q⟩ => by
    refine ⟨A, S, g, σd, s, ?_⟩
    have q' : KS (Cx.sur X E) m e0 A S (M.bind (f σd) (fun x => match x with | .nx σ' => h σ' | y => M.pure y) g) Z := q
    cases e : f σd g with
    | ok fl g1 =>
      rw [bind_ok e] at q'
      cases fl with
      | nx σ1 => exact fun A' S' H' σ' a b s' => ⟨A', S', g1, σ1, s', q'.floor a b⟩
      | rt d => exact q'
      | bk d => exact q'
      | ct d => exact q'
    | err x g1 => rw [bind_err e] at q'; exact q'
    | bad => rw [bind_bad e] at q'; exact q'
def sNever : DS → M Fl := fun _ => M.bad
theorem ds_never : DS1 X E m e0 st sNever := PS.impD ps_never fun Z σ H ⟨A, S, g, σd, s, q⟩ => q
theorem dss_never {sts : List Stmt} : DSs X E m e0 sts sNever := PSs.impD pss_never fun Z σ H ⟨A, S, g, σd, s, q⟩ => q
theorem ds_pass : DS1 X E m e0 (.Pass pos) sNil := PS.impD ps_pass fun Z σ H ⟨A, S, g, σd, s, q⟩ => q A S H σ (List.prefix_refl _) (Same.refl _) s
def sBrk : DS → M Fl := fun σ => M.pure (.bk σ)
def sCnt : DS → M Fl := fun σ => M.pure (.ct σ)
theorem ds_break : DS1 X E m e0 (.Break pos) sBrk := PS.impD ps_break fun Z σ H ⟨A, S, g, σd, s, q⟩ => q A S H σ (List.prefix_refl _) (Same.refl _) s
theorem ds_continue : DS1 X E m e0 (.Continue pos) sCnt := PS.impD ps_continue fun Z σ H ⟨A, S, g, σd, s, q⟩ => q A S H σ (List.prefix_refl _) (Same.refl _) s

/-! ### return, expression, if -/
def sRet (fe : DS → M D) : DS → M Fl := fun σ => M.bind (fe σ) fun d => M.pure (.rt d)
theorem ds_ret (he : DE X E m e fe) : DS1 X E m e0 (.Return (some e) pos) (sRet fe) :=
  PS.impD (ps_ret he) fun Z σ H ⟨A, S, g, σd, s, q⟩ => ⟨A, S, g, σd, s.ok, s.rep, (KS.bindE (m1 := m) s.post q).imp fun v H1 ⟨A1, S1, g1, d, p1, o1, r1, q1⟩ => by
    exact q1 A1 S1 H1 v o1 (s.post.trans p1) (RepM.back s.post r1)⟩
/-- an own slot is handed back -/
def sRetO (i : Nat) : DS → M Fl := fun σ => match σ[i]? with
  | some (some (.ow d)) => M.pure (.rt d)
  | _ => M.bad
theorem ds_retO (i : Nat) {x : Str} {p : Pos} (hN : X.N[i]? = some x := by rfl) (hv : Vis X.env.scope x := by first | exact Or.inl rfl | exact Or.inr (Or.inl rfl) | exact Or.inr (Or.inr rfl)) (hd : (x == ("__debug__" : Str)) = false := by decide)
    (hcd : (x == ("__classdict__" : Str)) = false := by decide) : DS1 X E true e0 (.Return (some (.Name x p)) pos) (sRetO i) :=
  PS.impD (ps_ret (pe_var hN hv hd hcd)) fun Z σ H ⟨A, S, g, σd, s, q⟩ => by
    unfold sRetO at q
    match e : σd[i]? with
    | some (some (.ow d)) =>
      rw [e] at q
      obtain ⟨p, e1, e2, e3, e4⟩ := s.rep.ow e
      exact ⟨.ref p, e1, q A S H (.ref p) s.ok s.post ⟨p, rfl, s.own i d p e e1, e2, e3, e4⟩⟩
    | some (some (.sh d)) => rw [e] at q; exact q.elim
    | some none => rw [e] at q; exact q.elim
    | none => rw [e] at q; exact q.elim
def sExpr (fe : DS → M D) : DS → M Fl := fun σ => M.bind (fe σ) fun _ => M.pure (.nx σ)
theorem ds_expr (he : DE X E false e fe) (hs : swapsWith e none pos.line X.env = pure false := by rfl) : DS1 X E m e0 (.Expr e pos) (sExpr fe) :=
  PS.impD (ps_expr he hs) fun Z σ H ⟨A, S, g, σd, s, q⟩ => ⟨A, S, g, σd, s.ok, s.rep, (KS.bindE (m1 := false) s.post q).imp fun v H1 ⟨A1, S1, g1, d, p1, o1, r1, q1⟩ => q1 A1 S1 H1 σ (List.prefix_refl _) (Same.refl _) (s.post' p1 o1)⟩
def sIf (t : DS → M Bool) (f h : DS → M Fl) : DS → M Fl := fun σ => M.bind (t σ) fun b => if b = true then f σ else h σ
theorem ds_if {c : Expr} {a b : List Stmt} {tc : DS → M Bool} (hc : DT X E c tc) (ha : DSs X E m e0 a f) (hb : DSs X E m e0 b h) : DS1 X E m e0 (.If c a b pos) (sIf tc f h) :=
  PS.impD (ps_if hc ha hb) fun Z σ H ⟨A, S, g, σd, s, q⟩ => ⟨A, S, g, σd, s.ok, s.rep, (KS.bindT s.post q).imp fun t H1 ⟨A1, S1, g1, p1, o1, q1⟩ => by
    show if t = true then _ else _
    cases t with
    | true => rw [if_pos rfl] at q1 ⊢; exact ⟨A1, S1, g1, σd, s.post' p1 o1, q1⟩
    | false => rw [if_neg (by decide)] at q1 ⊢; exact ⟨A1, S1, g1, σd, s.post' p1 o1, q1⟩⟩

/-! ### names stored -/
theorem Stt.setSh {K : PySem.W.Frag} {A : List GAdr} {S H : Hp} {g : G} {σd : DS} {σ : L2.St} (s : Stt K e0 A S g σd σ H) {v : V} {d : D} (r : Rep K A S v d) (i : Nat) : Stt K e0 A S g (σd.set i (some (.sh d))) (σ.set i (some v)) H :=
  ⟨s.ok, s.rep.setSh r i, s.post, fun j d' p e1 e2 => by
    rcases set_get e1 with ⟨rfl, z, _⟩ | ⟨ne, e1⟩
    · cases z
    · rw [List.getElem?_set_ne ne] at e2; exact s.own j d' p e1 e2⟩
theorem Stt.setM {K : PySem.W.Frag} {A A1 : List GAdr} {S S1 H H1 : Hp} {g g1 : G} {σd : DS} {σ : L2.St} {m1 : Bool} (s : Stt K e0 A S g σd σ H) (p : Post A S H A1 S1 H1) (o : Ok K A1 S1 H1 g1) {v : V} {d : D} (r : RepM K H A1 S1 H1 v d m1) (i : Nat) : Stt K e0 A1 S1 g1 (σd.set i (some (mkV m1 d))) (σ.set i (some v)) H1 := by
  cases m1 with
  | false => exact (s.post' p o).setSh r i
  | true =>
    obtain ⟨q, rfl, h1, h2, h3, h4⟩ := r
    have s1 := s.post' p o
    refine ⟨o, s1.rep.setOw h2 h3 h4 i fun j e ne ej es => ?_, s1.post, fun j d' p' e1 e2 => ?_⟩
    · obtain ⟨p', e1, _, _, e4⟩ := s.rep.ow ej
      rw [es] at e1; cases e1
      obtain ⟨u, hu⟩ := e4.some
      rw [h1] at hu; cases hu
    · rcases set_get e1 with ⟨rfl, z, hl⟩ | ⟨ne, e1⟩
      · rw [List.getElem?_set_self (by rw [s.rep.len]; exact hl)] at e2
        cases e2
        exact none_back s.post.dom h1
      · rw [List.getElem?_set_ne ne] at e2; exact s.own j d' p' e1 e2
def sSet (m1 : Bool) (i : Nat) (fe : DS → M D) : DS → M Fl := fun σ => M.bind (fe σ) fun d => M.pure (.nx (σ.set i (some (mkV m1 d))))
theorem set_read {U : Sur} {m1 : Bool} {i : Nat} {Z : Ends} {σ : L2.St} {H : Hp} (h : tS U m e0 (sSet m1 i fe) Z σ H) : tAsg (tE U m1 fe) (gName i) Z σ H := by
  obtain ⟨A, S, g, σd, s, q⟩ := h
  exact ⟨A, S, g, σd, s.ok, s.rep, (KS.bindE (m1 := m1) s.post q).imp fun v H1 ⟨A1, S1, g1, d, p1, o1, r1, q1⟩ => q1 A1 S1 H1 _ (List.prefix_refl _) (Same.refl _) (s.setM p1 o1 r1 i)⟩
theorem ds_set {m1 : Bool} {i : Nat} {x : Str} {pos' : Pos} (hN : X.N.Nodup) (he : DE X E m1 e fe) (hi : X.N[i]? = some x := by rfl) (hx : Loc X.env.scope x := by first | exact Or.inl rfl | exact Or.inr rfl) (hs : swapsWith e (some (.Name x pos')) pos.line X.env = pure false := by rfl)
    (hf : X.fn x = true ∨ X.env.scope.names.lookup x = some .local := by first | exact .inl rfl | exact .inr rfl | assumption) : DS1 X E m e0 (.Assign [.Name x pos'] e pos) (sSet m1 i fe) :=
  PS.impD (ps_set hN hi hx he hs hf) fun Z σ H h => set_read h
/-- name = [..] on one line, the name a local -/
theorem ds_setComp {m1 : Bool} {i : Nat} {y : Str} {py spos : Pos} {elt tg iter : Expr} {ifs : List Expr} {scope : Scope} {own : List (Str × Nat)} {fi : DS → M (List D)} {fg : D → DS → M DS} {ft : DS → M Bool} {fe : DS → M D} (hN : X.N.Nodup) (hi : DI X E tg iter fi) (ok : BlkOk X.N X.env.scope scope own)
    (hx : ∀ d σ g e g', fg d σ g ≠ .err e g')
    (hg : ∀ s H C cl fp, DG (Blk X scope s H C cl fp) E0 (own.map (·.2)) tg fg) (ht : ∀ s H C cl fp, DTs (Blk X scope s H C cl fp) E0 ifs ft)
    (he : ∀ s H C cl fp, DE (Blk X scope s H C cl fp) E0 false elt fe)
    (hy : X.N[i]? = some y := by rfl) (hyl : X.env.scope.names.lookup y = some .local := by rfl)
    (hsw : swapsWith (.ListComp elt [⟨tg, iter, ifs, 0⟩] scope pos) (some (.Name y py)) spos.line X.env = pure true := by exact sw_true rfl rfl rfl (by decide +kernel)) (hc : X.calm = true := by rfl) (hs : ∀ x, foldedSetIterable iter X.env x = pure x := by intro _; rfl) :
    DS1 X E m e0 (.Assign [.Name y py] (.ListComp elt [⟨tg, iter, ifs, 0⟩] scope pos) spos) (sSet m1 i (eComp fi (own.map (·.2)) fg ft fe)) :=
  PS.impD (ps_setLc (own := own) (g := tG ⟨X.mg, X.K, E0⟩ (own.map fun (p : Str × Nat) => p.2) fg) (tt := tT ⟨X.mg, X.K, E0⟩ ft) (te := tE ⟨X.mg, X.K, E0⟩ false fe) hc hN hy hyl hsw hi ok hg ht he hs) fun Z σ H h => by
    obtain ⟨A, S, g, σd, s, q⟩ := h
    exact comp_read hx ⟨A, S, g, σd, s.ok, s.rep, (KS.bindE (m1 := m1) s.post q).imp fun v H1 ⟨A1, S1, g1, d, p1, o1, r1, q1⟩ => q1 A1 S1 H1 _ (List.prefix_refl _) (Same.refl _) (s.setM p1 o1 r1 i)⟩
/-- a target with a shared value -/
def sAsg (fe : DS → M D) (fg : D → DS → M DS) : DS → M Fl := fun σ => M.bind (fe σ) fun d => M.bind (fg d σ) fun σ' => M.pure (.nx σ')
def Own2 (σd σd' : DS) (vs : List Nat) : Prop := ∀ i d, σd'[i]? = some (some (.ow d)) → σd[i]? = some (some (.ow d)) ∧ i ∉ vs
/-- a target changes no own slot -/
structure TgOk (vs : List Nat) (fg : D → DS → M DS) : Prop where
  ne : ∀ d σ g e g', fg d σ g ≠ .err e g'
  ow : ∀ d σ g σ' g', fg d σ g = .ok σ' g' → g' = g ∧ Own2 σ σ' vs
theorem tg_name (i : Nat) : TgOk [i] (gN i) := ⟨gN_noerr i, fun d σ g σ' g' h => by
  cases h
  refine ⟨rfl, fun j x e => ?_⟩
  rcases set_get e with ⟨rfl, z, _⟩ | ⟨ne, e⟩
  · cases z
  · exact ⟨e, by simp; exact Ne.symm ne⟩⟩
theorem tg_names (is : List Nat) : TgOk is (gNs is) := ⟨gNs_noerr is, fun d σ g σ' g' h => by
  cases d <;> first
    | cases h
    | skip
  rename_i ds
  have h' : ((if ds.length = is.length then M.pure ((is.zip ds).foldl (fun s p => s.set p.1 (some (.sh p.2))) σ) else M.bad : M DS) g) = .ok σ' g' := h
  split at h'
  · rename_i hl
    have e1 : σ' = (is.zip ds).foldl (fun s p => s.set p.1 (some (.sh p.2))) σ := by cases h'; rfl
    have e2 : g' = g := by cases h'; rfl
    refine ⟨e2, fun j x e => ?_⟩
    rw [e1] at e
    clear h h' e1 e2
    induction is generalizing ds σ with
    | nil => exact ⟨e, by simp⟩
    | cons i is ih =>
      cases ds with
      | nil => cases hl
      | cons y ys =>
        have q := ih (σ.set i (some (.sh y))) ys (Nat.succ.inj hl) e
        rcases set_get q.1 with ⟨rfl, z, _⟩ | ⟨ne, e'⟩
        · cases z
        · exact ⟨e', by simp; exact ⟨Ne.symm ne, q.2⟩⟩
  · cases h'⟩
theorem wipe_get {σ σ' : L2.St} {vs : List Nat} {i : Nat} (h : L2.wipe σ' vs = L2.wipe σ vs) (hi : i ∉ vs) : σ'[i]? = σ[i]? := by
  have gen : ∀ (σ : L2.St) (us : List Nat), i ∉ us → (L2.wipe σ us)[i]? = σ[i]? := by
    intro σ us
    induction us with
    | nil => intro _; rfl
    | cons u us ih =>
      intro hu
      show ((L2.wipe σ us).set u none)[i]? = _
      rw [List.getElem?_set_ne (fun z => hu (by rw [z]; exact List.mem_cons_self)), ih fun z => hu (List.mem_cons_of_mem _ z)]
  rw [← gen σ vs hi, ← gen σ' vs hi, h]
theorem Stt.tg {K : PySem.W.Frag} {A A1 : List GAdr} {S S1 H H1 : Hp} {g g1 : G} {σd σd' : DS} {σ σ' : L2.St} {vs : List Nat} (s : Stt K e0 A S g σd σ H) (ow : Own2 σd σd' vs) (p : Post A S H A1 S1 H1) (o : Ok K A1 S1 H1 g1) (r : SRep K A1 S1 H1 σ' σd') (w : L2.wipe σ' vs = L2.wipe σ vs) : Stt K e0 A1 S1 g1 σd' σ' H1 :=
  ⟨o, r, s.post.trans p, fun i d q e1 e2 => by
    obtain ⟨e3, ni⟩ := ow i d e1
    rw [wipe_get w ni] at e2
    exact s.own i d q e3 e2⟩
theorem ds_asg {tg : Expr} {vs : List Nat} {fg : D → DS → M DS} (he : DE X E false e fe) (hg : DG X E vs tg fg) (tk : TgOk vs fg) (hs : swapsWithSole [tg] e pos.line X.env = pure false := by rfl) (hw : swappedStores [tg] e X.env = pure none := by rfl)
    (h1 : (assignEach [tg] X.env).map (·.2) = [assign tg X.env] := by rfl) : DS1 X E m e0 (.Assign [tg] e pos) (sAsg fe fg) :=
  PS.impD (ps_asg he hg hs hw h1) fun Z σ H ⟨A, S, g, σd, s, q⟩ => ⟨A, S, g, σd, s.ok, s.rep, (KS.bindE (m1 := false) s.post q).imp fun v H1 ⟨A1, S1, g1, d, p1, o1, r1, q1⟩ => by
    have s1 := s.post' p1 o1
    refine ⟨A1, S1, g1, σd, d, o1, s1.rep, r1, ?_⟩
    cases e : fg d σd g1 with
    | err x g2 => exact (tk.ne _ _ _ _ _ e).elim
    | bad => rw [bind_bad e] at q1; exact q1.elim
    | ok σ2 g2 =>
      rw [bind_ok e] at q1
      exact fun A' S' H' σ' p o r w => q1 A' S' H' σ' p.a p.s (s1.tg (tk.ow _ _ _ _ _ e).2 p o r w)⟩
end
end NS
namespace NS
open PySem PySem.Spec PyProof.Rows L2
section
variable {X : Cx} {E : XK} {pos : Pos} {m : Bool} {e0 : En}

/-! ### for -/
def forM (fg : D → DS → M DS) (b : DS → M Fl) : List D → DS → M Fl
  | [], σ => M.pure (.nx σ)
  | d :: ds, σ => M.bind (fg d σ) fun σ1 => M.bind (b σ1) fun fl => match fl with
    | .nx σ' => forM fg b ds σ'
    | .ct σ' => forM fg b ds σ'
    | .bk σ' => M.pure (.nx σ')
    | .rt d => M.pure (.rt d)
def sFor (fi : DS → M (List D)) (fg : D → DS → M DS) (b : DS → M Fl) : DS → M Fl := fun σ => M.bind (fi σ) fun ds => forM fg b ds σ
theorem ds_for {tg iter : Expr} {body : List Stmt} {fi : DS → M (List D)} {fg : D → DS → M DS} {b : DS → M Fl} {vs : List Nat} (hp : PassesOwn (model X.prog X.w) X.A X.env X.xe) (hi : DI X E tg iter fi) (hg : DG X E vs tg fg) (tk : TgOk vs fg) (hb : DSs X E m e0 body b)
    (hc : X.calm = true := by rfl) (hs : ∀ x, foldedSetIterable iter X.env x = pure x := by intro _; rfl) : DS1 X E m e0 (.For tg iter body [] pos) (sFor fi fg b) :=
  PS.impD (ps_for hp hc hi hg hb hs) fun Z σ H ⟨A, S, g, σd, s, q⟩ => ⟨A, S, g, σd, s.ok, s.rep, (KS.bindI s.post q).imp fun J H1 ⟨A1, S1, g1, ds, p1, o1, it, q1⟩ => by
    refine ⟨fun i mm σ2 H2 => mm = ds.length - i ∧ i ≤ ds.length ∧ ∃ A2 S2 g2 σd2, Stt X.K e0 A2 S2 g2 σd2 σ2 H2 ∧ Same S1 S2 ∧ A1 <+: A2 ∧ KS (Cx.sur X E) m e0 A2 S2 (forM fg b (ds.drop i) σd2 g2) Z, ⟨_, rfl, Nat.zero_le _, A1, S1, g1, σd, s.post' p1 o1, Same.refl _, List.prefix_refl _, by rw [List.drop_zero]; exact q1⟩, ?_⟩
    rintro i mm σ2 H2 ⟨rfl, hi, A2, S2, g2, σd2, s2, sm, pf, q2⟩
    by_cases hlt : i < ds.length
    · refine .inr ⟨it.go i H2 hlt (sm.trans s2.ok.ext), fun σ3 H3 => i + 1 ≤ ds.length ∧ ∃ A3 S3 g3 σd3, Stt X.K e0 A3 S3 g3 σd3 σ3 H3 ∧ Same S1 S3 ∧ A1 <+: A3 ∧ KS (Cx.sur X E) m e0 A3 S3 (forM fg b (ds.drop (i + 1)) σd3 g3) Z, fun σ3 H3 h3 => ⟨ds.length - (i + 1), by omega, rfl, h3⟩, fun x H3 y => ?_⟩
      obtain ⟨d, ed, yy⟩ := it.yld i H2 x H3 hlt (sm.trans s2.ok.ext) y
      have edrop : ds.drop i = d :: ds.drop (i + 1) := by
        obtain ⟨hl2, e2⟩ := List.getElem?_eq_some_iff.mp ed
        rw [List.drop_eq_getElem_cons hl2, e2]
      rw [edrop] at q2
      obtain ⟨S3, PX, oX, rX⟩ : ∃ S3, Post A2 S2 H2 A2 S3 H3 ∧ Ok X.K A2 S3 H3 g2 ∧ Rep X.K A2 S3 x d := by
        rcases yy with ⟨rfl, rx⟩ | ⟨T, ws, es, rfl, rfl, hT, rfl, rr⟩
        · exact ⟨S2, Post.refl _ _ _, s2.ok, rx.mono pf sm⟩
        · have PT := Post.lay (A := A2) (o := .tup ws) hT s2.ok.ext
          exact ⟨_, PT, s2.ok.lay hT, .tup upd_same (rr.mono pf (sm.trans PT.s))⟩
      have s3 := s2.post' PX oX
      refine ⟨A2, S3, g2, σd2, d, oX, s3.rep, rX, ?_⟩
      have q3 : KS (Cx.sur X E) m e0 A2 S2 (M.bind (fg d σd2) (fun σ1 => M.bind (b σ1) fun fl => match fl with
        | .nx σ' => forM fg b (ds.drop (i + 1)) σ'
        | .ct σ' => forM fg b (ds.drop (i + 1)) σ'
        | .bk σ' => M.pure (.nx σ')
        | .rt d => M.pure (.rt d)) g2) Z := q2
      cases e1 : fg d σd2 g2 with
      | err z g' => exact (tk.ne _ _ _ _ _ e1).elim
      | bad => rw [bind_bad e1] at q3; exact q3.elim
      | ok σd3 g3 =>
        rw [bind_ok e1] at q3
        intro A4 S4 H4 σ4 P4 o4 r4 w4
        have s4 := s3.tg (tk.ow _ _ _ _ _ e1).2 P4 o4 r4 w4
        have sm4 : Same S1 S4 := (sm.trans PX.s).trans P4.s
        have pf4 : A1 <+: A4 := (pf.trans PX.a).trans P4.a
        refine ⟨A4, S4, g3, σd3, s4, ?_⟩
        cases e2 : b σd3 g3 with
        | err z g' => rw [bind_err e2] at q3; exact q3
        | bad => rw [bind_bad e2] at q3; exact q3.elim
        | ok fl g4 =>
          rw [bind_ok e2] at q3
          have gi := (tk.ow _ _ _ _ _ e1).1
          cases fl with
          | nx σ5 => exact fun A5 S5 H5 σ6 a b s5 => ⟨hlt, A5, S5, g4, σ5, s5, sm4.trans b, pf4.trans a, q3.floor ((PX.a.trans P4.a).trans a) ((PX.s.trans P4.s).trans b)⟩
          | ct σ5 => exact fun A5 S5 H5 σ6 a b s5 => ⟨hlt, A5, S5, g4, σ5, s5, sm4.trans b, pf4.trans a, q3.floor ((PX.a.trans P4.a).trans a) ((PX.s.trans P4.s).trans b)⟩
          | bk σ5 => exact fun A5 S5 H5 σ6 a b s5 => q3 A5 S5 H5 σ6 ((PX.a.trans P4.a).trans a) ((PX.s.trans P4.s).trans b) s5
          | rt dd => exact q3
    · have ei : i = ds.length := by omega
      subst ei
      refine .inl ⟨it.stop _ H2 (Nat.le_refl _) (sm.trans s2.ok.ext), ?_⟩
      rw [List.drop_length] at q2
      exact q2 A2 S2 H2 σ2 (List.prefix_refl _) (Same.refl _) s2⟩

/-! ### while -/
def whileM (c : DS → M Bool) (b : DS → M Fl) : Nat → DS → M Fl
  | 0, _ => M.bad
  | n + 1, σ => M.bind (c σ) fun t => if t = true then M.bind (b σ) fun fl => match fl with
    | .nx σ' => whileM c b n σ'
    | .ct σ' => whileM c b n σ'
    | .bk σ' => M.pure (.nx σ')
    | .rt d => M.pure (.rt d) else M.pure (.nx σ)
theorem ds_while (n : Nat) {c : Expr} {body : List Stmt} {tc : DS → M Bool} {b : DS → M Fl} (hp : PassesOwn (model X.prog X.w) X.A X.env X.xe) (hc : DT X E c tc) (hb : DSs X E m e0 body b) : DS1 X E m e0 (.While c body [] pos) (whileM tc b n) :=
  PS.impD (ps_while hp hc hb) fun Z σ H ⟨A, S, g, σd, s, q⟩ => by
    refine ⟨fun k σ2 H2 => ∃ A2 S2 g2 σd2, Stt X.K e0 A2 S2 g2 σd2 σ2 H2 ∧ KS (Cx.sur X E) m e0 A2 S2 (whileM tc b k σd2 g2) Z, ⟨n, A, S, g, σd, s, q⟩, ?_⟩
    rintro k σ2 H2 ⟨A2, S2, g2, σd2, s2, q2⟩
    cases k with
    | zero => exact q2.elim
    | succ k =>
      refine ⟨A2, S2, g2, σd2, s2.ok, s2.rep, (KS.bindT s2.post q2).imp fun t H3 ⟨A3, S3, g3, p3, o3, q3⟩ => ?_⟩
      have s3 := s2.post' p3 o3
      cases t with
      | false =>
        rw [if_neg (by decide)] at q3 ⊢
        exact q3 A3 S3 H3 σ2 (List.prefix_refl _) (Same.refl _) s3
      | true =>
        rw [if_pos rfl] at q3 ⊢
        refine ⟨fun σ' H' => ∃ A2 S2 g2 σd2, Stt X.K e0 A2 S2 g2 σd2 σ' H' ∧ KS (Cx.sur X E) m e0 A2 S2 (whileM tc b k σd2 g2) Z, fun σ' H' h => ⟨k, Nat.lt_succ_self k, h⟩, A3, S3, g3, σd2, s3, ?_⟩
        cases e2 : b σd2 g3 with
        | err z g' => rw [bind_err e2] at q3; exact q3
        | bad => rw [bind_bad e2] at q3; exact q3.elim
        | ok fl g4 =>
          rw [bind_ok e2] at q3
          cases fl with
          | nx σ5 => exact fun A5 S5 H5 σ6 a b s5 => ⟨A5, S5, g4, σ5, s5, q3.floor a b⟩
          | ct σ5 => exact fun A5 S5 H5 σ6 a b s5 => ⟨A5, S5, g4, σ5, s5, q3.floor a b⟩
          | bk σ5 => exact fun A5 S5 H5 σ6 a b s5 => q3 A5 S5 H5 σ6 a b s5
          | rt dd => exact q3

/-! ### own lists changed -/
theorem Stt.write {K : PySem.W.Frag} {A : List GAdr} {S H : Hp} {g : G} {σd : DS} {σ : L2.St} (s : Stt K e0 A S g σd σ H) {i : Nat} {d d' : D} {p : Addr} {o : HO} (e : σd[i]? = some (some (.ow d))) (es : σ[i]? = some (some (.ref p))) (r : Top K A S (upd H p o) p d') :
    Stt K e0 A S g (σd.set i (some (.ow d'))) σ (upd H p o) := by
  obtain ⟨q, e1, q1, q2, q3⟩ := s.rep.ow e
  rw [es] at e1; cases e1
  have hp := s.own i d p e es
  refine ⟨s.ok.writeO q1 q2, s.rep.write e es r, s.post.writeNew hp, fun j d2 p2 e1 e2 => ?_⟩
  rcases set_get e1 with ⟨rfl, z, _⟩ | ⟨ne, e1⟩
  · exact s.own i d p2 e e2
  · exact s.own j d2 p2 e1 e2
def ownL : Option (Option DV) → Option (List D)
  | some (some (.ow (.lst ds))) => some ds
  | _ => none
theorem ownL_eq {o : Option (Option DV)} {ds : List D} (h : ownL o = some ds) : o = some (some (.ow (.lst ds))) := by
  unfold ownL at h
  split at h
  · cases h; rfl
  · cases h
/-- k on the list of slot i and a value: the slot's new list -/
def sOwn (i : Nat) (k : List D → D → Option (List D)) (fe : DS → M D) : DS → M Fl := fun σ => match ownL σ[i]? with
  | some ds => M.bind (fe σ) fun d => match k ds d with
    | some ds' => M.pure (.nx (σ.set i (some (.ow (.lst ds')))))
    | none => M.bad
  | none => M.bad
theorem own_read {U : Sur} {i : Nat} {k : List D → D → Option (List D)} {fe : DS → M D} {Z : Ends} {A : List GAdr} {S H : Hp} {g : G} {σd : DS} {σ : L2.St} (s : Stt U.K e0 A S g σd σ H) (q : KS U m e0 A S (sOwn i k fe σd g) Z) :
    ∃ p vs ds, σ[i]? = some (some (.ref p)) ∧ H p = some (.lst vs) ∧ KE U false A S H (fe σd g) fun v H1 => ∃ A1 S1 g1 d ds', Post A S H A1 S1 H1 ∧ Ok U.K A1 S1 H1 g1 ∧ Rep U.K A1 S1 v d ∧ H1 p = some (.lst vs) ∧ RepL U.K A1 S1 vs ds ∧ k ds d = some ds' ∧
      S1 p = none ∧ ∀ vs', RepL U.K A1 S1 vs' ds' → Z.nx σ (upd H1 p (.lst vs')) := by
  cases eo : ownL σd[i]? with
  | none =>
    have q' : KS U m e0 A S ((match ownL σd[i]? with | some ds => M.bind (fe σd) (fun d => match k ds d with | some ds' => M.pure (.nx (σd.set i (some (.ow (.lst ds'))))) | none => M.bad) | none => M.bad : M Fl) g) Z := q
    rw [eo] at q'; exact q'.elim
  | some ds =>
    have q' : KS U m e0 A S ((match ownL σd[i]? with | some ds => M.bind (fe σd) (fun d => match k ds d with | some ds' => M.pure (.nx (σd.set i (some (.ow (.lst ds'))))) | none => M.bad) | none => M.bad : M Fl) g) Z := q
    rw [eo] at q'
    have e := ownL_eq eo
    obtain ⟨p, e1, h1, h2, vs, h3, h4⟩ := s.rep.ow e
    refine ⟨p, vs, ds, e1, h3, (KS.bindE (m1 := false) s.post q').imp fun v H1 ⟨A1, S1, g1, d, p1, o1, r1, q1⟩ => ?_⟩
    have s1 := s.post' p1 o1
    have k1 : H1 p = some (.lst vs) := p1.keep p _ h3 h2
    have r2 : RepL U.K A1 S1 vs ds := h4.mono p1.a p1.s
    obtain ⟨p', e1', h1', _⟩ := s1.rep.ow e
    rw [e1] at e1'; cases e1'
    cases ek : k ds d with
    | none => rw [ek] at q1; exact q1.elim
    | some ds' =>
      rw [ek] at q1
      exact ⟨A1, S1, g1, d, ds', p1, o1, r1, k1, r2, ek, h1', fun vs' r' => q1 A1 S1 _ σ (List.prefix_refl _) (Same.refl _) (s1.write e e1 ⟨vs', upd_same, r'⟩)⟩
variable {e : Expr} {fe : DS → M D}
theorem tyV_lst {K : PySem.W.Frag} {H : Hp} {p : Addr} {vs : List V} (h : H p = some (.lst vs)) : tyV K "list" (.ref p) H := .inl ⟨rfl, _, .inl (.inl h)⟩
def kApp (ds : List D) (d : D) : Option (List D) := if fit ds.length = true then some (ds ++ [d]) else none
theorem ds_append (i : Nat) {x : Str} {px apos cpos : Pos} (he : DE X E false e fe) (hN : X.N[i]? = some x := by rfl) (hv : Vis X.env.scope x := by first | exact Or.inl rfl | exact Or.inr (Or.inl rfl) | exact Or.inr (Or.inr rfl)) (hd : (x == ("__debug__" : Str)) = false := by decide)
    (hcd : (x == ("__classdict__" : Str)) = false := by decide) (hbase : attributeBase (.Name x px) "append" X.env (eval (.Name x px) X.env) = eval (.Name x px) X.env := by rfl)
    (hfew : ((backTo cpos (starEach [e] X.env)).all (fun x => !x.1) && (backToKw cpos (keywordEach [] X.env)).all (fun x => x.1.isSome)
      && decide (([e] : List Expr).length + ([] : List Keyword).length + (if ([] : List Keyword).isEmpty then 0 else 1) < 30)) = true := by rfl)
    (hline : (apos.endLine == cpos.line) = true := by rfl) (hs : starEach [e] X.env = (false, eval e X.env) :: starEach [] X.env := by rfl) (hplain : (backTo cpos (starEach [] X.env)).any (·.1) = false := by rfl)
    (hsw : swapsWith (.Call (.Attribute (.Name x px) "append" apos) [e] [] cpos) none pos.line X.env = pure false := by rfl) :
    DS1 X E m e0 (.Expr (.Call (.Attribute (.Name x px) "append" apos) [e] [] cpos) pos) (sOwn i kApp fe) :=
  PS.impD (ps_expr (pe_bm PySem.F.plainAttrs_list PySem.F.slot_list_append PySem.F.type_list_append mt_append (pe_var hN hv hd hcd) (pa_cons he pa_nil hs) hbase hfew hline hs hplain) hsw) fun Z σ H ⟨A, S, g, σd, s, q⟩ => by
    obtain ⟨p, vs, ds, e1, h1, q'⟩ := own_read s q
    refine ⟨.ref p, e1, tyV_lst h1, A, S, g, σd, s.ok, s.rep, q'.imp fun v H1 ⟨A1, S1, g1, d, ds', p1, o1, r1, k1, r2, ek, sp, z⟩ => ?_⟩
    unfold kApp at ek
    by_cases hf : fit ds.length = true
    · rw [if_pos hf] at ek; cases ek
      exact ⟨p, vs, v, rfl, rfl, k1, by rw [r2.length]; exact fit_le hf, z _ (r2.append (.cons r1 .nil))⟩
    · rw [if_neg hf] at ek; cases ek
def kExt (ds : List D) (d : D) : Option (List D) := match d with
  | .lst es => if fit (ds.length + es.length) = true then some (ds ++ es) else none
  | _ => none
theorem ds_extend (i : Nat) {x : Str} {px apos cpos : Pos} (he : DE X E false e fe) (hN : X.N[i]? = some x := by rfl) (hv : Vis X.env.scope x := by first | exact Or.inl rfl | exact Or.inr (Or.inl rfl) | exact Or.inr (Or.inr rfl)) (hd : (x == ("__debug__" : Str)) = false := by decide)
    (hcd : (x == ("__classdict__" : Str)) = false := by decide) (hbase : attributeBase (.Name x px) "extend" X.env (eval (.Name x px) X.env) = eval (.Name x px) X.env := by rfl)
    (hfew : ((backTo cpos (starEach [e] X.env)).all (fun x => !x.1) && (backToKw cpos (keywordEach [] X.env)).all (fun x => x.1.isSome)
      && decide (([e] : List Expr).length + ([] : List Keyword).length + (if ([] : List Keyword).isEmpty then 0 else 1) < 30)) = true := by rfl)
    (hline : (apos.endLine == cpos.line) = true := by rfl) (hs : starEach [e] X.env = (false, eval e X.env) :: starEach [] X.env := by rfl) (hplain : (backTo cpos (starEach [] X.env)).any (·.1) = false := by rfl)
    (hsw : swapsWith (.Call (.Attribute (.Name x px) "extend" apos) [e] [] cpos) none pos.line X.env = pure false := by rfl) :
    DS1 X E m e0 (.Expr (.Call (.Attribute (.Name x px) "extend" apos) [e] [] cpos) pos) (sOwn i kExt fe) :=
  PS.impD (ps_expr (pe_bm PySem.F.plainAttrs_list PySem.F.slot_list_extend PySem.F.type_list_extend mt_extend (pe_var hN hv hd hcd) (pa_cons he pa_nil hs) hbase hfew hline hs hplain) hsw) fun Z σ H ⟨A, S, g, σd, s, q⟩ => by
    obtain ⟨p, vs, ds, e1, h1, q'⟩ := own_read s q
    refine ⟨.ref p, e1, tyV_lst h1, A, S, g, σd, s.ok, s.rep, q'.imp fun v H1 ⟨A1, S1, g1, d, ds', p1, o1, r1, k1, r2, ek, sp, z⟩ => ?_⟩
    cases r1 with
    | @lst b ws es hb rr =>
      have ek' : (if fit (ds.length + es.length) = true then some (ds ++ es) else none) = some ds' := ek
      by_cases hf : fit (ds.length + es.length) = true
      · rw [if_pos hf] at ek'; cases ek'
        exact ⟨p, b, vs, ws, rfl, rfl, k1, o1.ext _ _ hb, by rw [r2.length, rr.length]; exact Nat.le_of_lt (fit_le hf), z _ (r2.append rr)⟩
      · rw [if_neg hf] at ek'; cases ek'
    | _ => simp [kExt] at ek

/-! ### x[i] = e of an own list -/
def sSetIx (j : Nat) (fe fi : DS → M D) : DS → M Fl := fun σ => M.bind (fe σ) fun d => match ownL σ[j]? with
  | some ds => M.bind (fi σ) fun i => match i with
    | .int k => (match ixN ds.length k with
      | some n => M.pure (.nx (σ.set j (some (.ow (.lst (ds.set n d))))))
      | none => M.bad)
    | _ => M.bad
  | none => M.bad
variable {ei : Expr} {fi : DS → M D}
theorem ds_setIx (j : Nat) {x : Str} {px tpos : Pos} (he : DE X E false e fe) (hi : DE X E false ei fi) (hN : X.N[j]? = some x := by rfl) (hv : Vis X.env.scope x := by first | exact Or.inl rfl | exact Or.inr (Or.inl rfl) | exact Or.inr (Or.inr rfl)) (hd : (x == ("__debug__" : Str)) = false := by decide)
    (hcd : (x == ("__classdict__" : Str)) = false := by decide)
    (ha : ∀ v, assign (.Subscript (.Name x px) ei tpos) X.env v = (do
      let ov ← holding [v] (eval (.Name x px) X.env)
      let iv ← holding [v, ov] (eval ei X.env)
      standAt tpos
      holding [v, ov, iv] (setItem ov iv v)
      release [v, ov, iv] []) := by intro _; rfl)
    (hs : swapsWithSole [.Subscript (.Name x px) ei tpos] e pos.line X.env = pure false := by rfl) (hw : swappedStores [.Subscript (.Name x px) ei tpos] e X.env = pure none := by rfl)
    (h1 : (assignEach [.Subscript (.Name x px) ei tpos] X.env).map (·.2) = [assign (.Subscript (.Name x px) ei tpos) X.env] := by rfl) :
    DS1 X E m e0 (.Assign [.Subscript (.Name x px) ei tpos] e pos) (sSetIx j fe fi) :=
  PS.impD (ps_asg he (pg_sub (pe_var hN hv hd hcd) hi set_list ha) hs hw h1) fun Z σ H ⟨A, S, g, σd, s, q⟩ => ⟨A, S, g, σd, s.ok, s.rep, (KS.bindE (m1 := false) s.post q).imp fun v H1 ⟨A1, S1, g1, d, p1, o1, r1, q1⟩ => by
    have s1 := s.post' p1 o1
    cases eo : ownL σd[j]? with
    | none => rw [eo] at q1; exact q1.elim
    | some ds =>
      rw [eo] at q1
      have e1 := ownL_eq eo
      obtain ⟨p, e2, h1, h2, vs, h3, h4⟩ := s1.rep.ow e1
      refine ⟨.ref p, e2, A1, S1, g1, σd, o1, s1.rep, (KS.bindE (m1 := false) s1.post q1).imp fun w H2 ⟨A2, S2, g2, d2, p2, o2, r2, q2⟩ => ?_⟩
      have s2 := s1.post' p2 o2
      have k1 : H2 p = some (.lst vs) := p2.keep p _ h3 h2
      have rr : RepL X.K A2 S2 vs ds := h4.mono p2.a p2.s
      cases r2 with
      | int k =>
        cases en : ixN ds.length k with
        | none =>
          have q2' : KS (Cx.sur X E) m e0 A2 S2 ((match ixN ds.length k with | some n => M.pure (.nx (σd.set j (some (.ow (.lst (ds.set n d)))))) | none => M.bad : M Fl) g2) Z := q2
          rw [en] at q2'; exact q2'.elim
        | some n =>
          have q2' : KS (Cx.sur X E) m e0 A2 S2 ((match ixN ds.length k with | some n => M.pure (.nx (σd.set j (some (.ow (.lst (ds.set n d)))))) | none => M.bad : M Fl) g2) Z := q2
          rw [en] at q2'
          exact ⟨p, vs, k, n, rfl, rfl, k1, by rw [rr.length]; exact en, q2' A2 S2 _ σ (List.prefix_refl _) (Same.refl _) (s2.write e1 e2 ⟨_, upd_same, rr.set (Rep.mono p2.a p2.s r1) n⟩)⟩
      | _ => exact q2.elim⟩

/-! ### x op= e, the name's value shared -/
def sAug (k : D → D → M D) (i : Nat) (fe : DS → M D) : DS → M Fl := fun σ => M.bind (eVar i σ) fun x => M.bind (fe σ) fun y => M.bind (k x y) fun z => M.pure (.nx (σ.set i (some (.sh z))))
theorem eVar_get {U : Sur} {i : Nat} {A : List GAdr} {S H : Hp} {σ : L2.St} {σd : DS} {g : G} {m2 : Bool} {k : D → M Fl} {Z : Ends} (r : SRep U.K A S H σ σd) (q : KS U m2 e0 A S (M.bind (eVar i σd) k g) Z) :
    ∃ d v, σd[i]? = some (some (.sh d)) ∧ σ[i]? = some (some v) ∧ Rep U.K A S v d ∧ KS U m2 e0 A S (k d g) Z := by
  unfold eVar at q
  match e : σd[i]? with
  | some (some (.sh d)) =>
    rw [e] at q
    obtain ⟨v, e1, e2⟩ := r.sh e
    exact ⟨d, v, rfl, e1, e2, q⟩
  | some (some (.ow d)) => rw [e] at q; exact q.elim
  | some none => rw [e] at q; exact q.elim
  | none => rw [e] at q; exact q.elim
theorem ds_aug (i : Nat) {x : Str} {op : Operator} {k : D → D → M D} {pos' : Pos} (hN : X.N.Nodup) (ho : OpD X E (inplaceOp op) false k) (he : DE X E false e fe) (hi : X.N[i]? = some x := by rfl) (hx : Loc X.env.scope x := by first | exact Or.inl rfl | exact Or.inr rfl)
    (hf : X.fn x = true ∨ X.env.scope.names.lookup x = some .local := by first | exact .inl rfl | exact .inr rfl | assumption) : DS1 X E m e0 (.AugAssign (.Name x pos') op e pos) (sAug k i fe) :=
  PS.impD (ps_aug hN hi hx he ho hf) fun Z σ H ⟨A, S, g, σd, s, q⟩ => by
    obtain ⟨d, v, e1, e2, r, q1⟩ := eVar_get s.rep q
    refine ⟨v, e2, A, S, g, σd, s.ok, s.rep, (KS.bindE (m1 := false) s.post q1).imp fun w H1 ⟨A1, S1, g1, d1, p1, o1, r1, q2⟩ => ?_⟩
    have s1 := s.post' p1 o1
    refine ⟨A1, S1, g1, d, d1, o1, r.mono p1.a p1.s, r1, (KS.bindE (m1 := false) s1.post q2).imp fun u H2 ⟨A2, S2, g2, d2, p2, o2, r2, q3⟩ => ?_⟩
    exact q3 A2 S2 H2 _ (List.prefix_refl _) (Same.refl _) ((s1.post' p2 o2).setSh r2 i)

/-! ### a, b = x, y -/
/-- argument lists with own results -/
inductive RepMs (K : PySem.W.Frag) (H : Hp) (A' : List GAdr) (S' H' : Hp) : List V → List D → List Bool → Prop where
  | nil : RepMs K H A' S' H' [] [] []
  | cons {v : V} {d : D} {b : Bool} {vs : List V} {ds : List D} {bs : List Bool} : RepM K H A' S' H' v d b → RepMs K H A' S' H' vs ds bs → (b = true → ∀ (j : Nat) w, vs[j]? = some w → bs[j]? = some true → w ≠ v) → RepMs K H A' S' H' (v :: vs) (d :: ds) (b :: bs)
theorem RepM.post {K : PySem.W.Frag} {H : Hp} {A1 A2 : List GAdr} {S1 S2 H1 H2 : Hp} {v : V} {d : D} {b : Bool} (p : Post A1 S1 H1 A2 S2 H2) (r : RepM K H A1 S1 H1 v d b) : RepM K H A2 S2 H2 v d b := by
  cases b with
  | false => exact Rep.mono p.a p.s r
  | true =>
    obtain ⟨q, e, h0, h1, h2, h3⟩ := r
    have := SlotOk.post (v := some (.ref q)) (x := .ow d) p ⟨h1, h2, h3⟩
    exact ⟨q, e, h0, this⟩
theorem RepMs.back {K : PySem.W.Frag} {A A1 : List GAdr} {S S1 H H1 : Hp} {A' : List GAdr} {S' H' : Hp} (p : Post A S H A1 S1 H1) : ∀ {vs : List V} {ds : List D} {bs : List Bool}, RepMs K H1 A' S' H' vs ds bs → RepMs K H A' S' H' vs ds bs
  | _, _, _, .nil => .nil
  | _, _, _, .cons h r n => .cons (h.back p) (RepMs.back p r) n
theorem RepMs.own {K : PySem.W.Frag} {H : Hp} {A' : List GAdr} {S' H' : Hp} : ∀ {vs : List V} {ds : List D} {bs : List Bool} {j : Nat} {w : V}, RepMs K H A' S' H' vs ds bs → vs[j]? = some w → bs[j]? = some true → ∃ p, w = .ref p ∧ H p = none
  | _, _, _, 0, w, .cons h r n, e1, e2 => by
    simp at e1 e2; subst e1; subst e2
    obtain ⟨p, e, h0, _⟩ := h
    exact ⟨p, e, h0⟩
  | _, _, _, j + 1, w, .cons h r n, e1, e2 => RepMs.own (j := j) r (by simpa using e1) (by simpa using e2)
def KMs (U : Sur) (bs : List Bool) (A : List GAdr) (S H : Hp) (r : Res (List D)) (Q : List V → Hp → Prop) : Prop :=
  match r with
  | .ok ds g' => ∀ A' S' H' vs, Post A S H A' S' H' → Ok U.K A' S' H' g' → RepMs U.K H A' S' H' vs ds bs → Q vs H'
  | .err x g' => ∀ A' S' H' c dd, Post A S H A' S' H' → Ok U.K A' S' H' g' → XRep U.mg U.K A' S' H' x c dd → U.E c dd H'
  | .bad => False
def tMs (U : Sur) (bs : List Bool) (f : DS → M (List D)) : TA := fun σ H Q => ∃ A S g σd, Ok U.K A S H g ∧ SRep U.K A S H σ σd ∧ KMs U bs A S H (f σd g) Q
def DMs (X : Cx) (E : XK) (es : List Expr) (bs : List Bool) (f : DS → M (List D)) : Prop := PA X es (tMs (Cx.sur X E) bs f)
theorem dms_nil : DMs X E [] [] lNil := PA.impD pa_nil fun σ H Q ⟨A, S, g, σd, o, r, q⟩ => q A S H [] (Post.refl _ _ _) o .nil
theorem KMs.imp {U : Sur} {bs : List Bool} {A : List GAdr} {S H : Hp} {r : Res (List D)} {Q Q' : List V → Hp → Prop} (h : KMs U bs A S H r Q) (i : ∀ v H', Q v H' → Q' v H') : KMs U bs A S H r Q' := by
  cases r with
  | ok d g => exact fun A' S' H' vs q o r => i _ _ (h A' S' H' vs q o r)
  | err x g => exact h
  | bad => exact h
variable {es : List Expr} {bs : List Bool} {fl : DS → M (List D)} {b : Bool}
theorem dms_cons (ha : DE X E b e fe) (hr : DMs X E es bs fl) (hs : starEach (e :: es) X.env = (false, eval e X.env) :: starEach es X.env := by rfl) : DMs X E (e :: es) (b :: bs) (lCons fe fl) :=
  PA.impD (pa_cons ha hr hs) fun σ H Q ⟨A, S, g, σd, o, r, q⟩ => ⟨A, S, g, σd, o, r, by
    have q' : KMs (Cx.sur X E) (b :: bs) A S H (M.bind (fe σd) (fun x => M.bind (fl σd) fun xs => M.pure (x :: xs)) g) Q := q
    cases e1 : fe σd g with
    | err z g' => rw [bind_err e1] at q'; exact q'
    | bad => rw [bind_bad e1] at q'; exact q'
    | ok d g1 =>
      rw [bind_ok e1] at q'
      intro A1 S1 H1 v p1 o1 r1
      refine ⟨A1, S1, g1, σd, o1, r.post p1, ?_⟩
      cases e2 : fl σd g1 with
      | err z g' => rw [bind_err e2] at q'; exact fun A' S' H' c dd p o x => q' A' S' H' c dd (p1.trans p) o x
      | bad => rw [bind_bad e2] at q'; exact q'
      | ok ds g2 =>
        rw [bind_ok e2] at q'
        intro A2 S2 H2 vs p2 o2 r2
        refine q' A2 S2 H2 (v :: vs) (p1.trans p2) o2 (.cons (RepM.post p2 r1) (r2.back p1) fun hb j w ej eb => ?_)
        subst hb
        obtain ⟨p, rfl, hp⟩ := r2.own ej eb
        obtain ⟨p', rfl, h0, h1, h2, h3⟩ := r1
        rintro ⟨⟩
        obtain ⟨u, hu⟩ := h3.some
        rw [hp] at hu; cases hu⟩
/-- slots stored one after another, each in its way -/
def setMs : List Nat → List Bool → List D → DS → DS
  | i :: is, b :: bs, d :: ds, σ => setMs is bs ds (σ.set i (some (mkV b d)))
  | _, _, _, σ => σ
theorem Stt.setMs {K : PySem.W.Frag} {A : List GAdr} {S H : Hp} {g : G} {A1 : List GAdr} {S1 H1 : Hp} {g1 : G} {σd : DS} {σ : L2.St} (s : Stt K e0 A S g σd σ H) (p : Post A S H A1 S1 H1) (o : Ok K A1 S1 H1 g1) {vs : List V} {ds : List D} (r : RepMs K H A1 S1 H1 vs ds bs) (is : List Nat) :
    Stt K e0 A1 S1 g1 (NS.setMs is bs ds σd) ((is.zip vs).foldl (fun s p => s.set p.1 (some p.2)) σ) H1 := by
  -- no own slot holds one of the new own values
  have gen : ∀ {vs : List V} {ds : List D} {bs : List Bool} (is : List Nat) (σd : DS) (σ : L2.St), Stt K e0 A1 S1 g1 σd σ H1 → RepMs K H A1 S1 H1 vs ds bs →
      (∀ (j : Nat) (e : D) (k : Nat) (q : Addr), σd[j]? = some (some (.ow e)) → σ[j]? = some (some (.ref q)) → vs[k]? = some (.ref q) → bs[k]? = some true → False) →
      Stt K e0 A1 S1 g1 (NS.setMs is bs ds σd) ((is.zip vs).foldl (fun s p => s.set p.1 (some p.2)) σ) H1 := by
    intro vs
    induction vs with
    | nil =>
      intro ds bs is σd σ s1 r _
      cases r
      cases is <;> exact s1
    | cons v vs ih =>
      intro ds bs is σd σ s1 r no
      cases r with
      | @cons _ d b _ ds bs h r n =>
        cases is with
        | nil => exact s1
        | cons i is =>
          show Stt K e0 A1 S1 g1 (NS.setMs is bs ds (σd.set i (some (mkV b d)))) ((is.zip vs).foldl (fun s p => s.set p.1 (some p.2)) (σ.set i (some v))) H1
          have s2 : Stt K e0 A1 S1 g1 (σd.set i (some (mkV b d))) (σ.set i (some v)) H1 := by
            cases b with
            | false => exact s1.setSh h i
            | true =>
              obtain ⟨q, rfl, h0, h1, h2, h3⟩ := h
              refine ⟨o, s1.rep.setOw h1 h2 h3 i fun j e ne ej es => no j e 0 q ej es rfl rfl, s1.post, fun j d' p' e1 e2 => ?_⟩
              rcases set_get e1 with ⟨rfl, z, hl⟩ | ⟨ne, e1⟩
              · rw [List.getElem?_set_self (by rw [s1.rep.len]; exact hl)] at e2
                cases e2
                exact none_back s.post.dom h0
              · rw [List.getElem?_set_ne ne] at e2; exact s1.own j d' p' e1 e2
          refine ih is _ _ s2 r fun j e k q e1 e2 e3 e4 => ?_
          rcases set_get e1 with ⟨rfl, z, hl⟩ | ⟨ne, e1⟩
          · rw [List.getElem?_set_self (by rw [s1.rep.len]; exact hl)] at e2
            cases e2
            cases b with
            | false => cases z
            | true => exact n rfl k _ e3 e4 rfl
          · rw [List.getElem?_set_ne ne] at e2
            exact no j e (k + 1) q e1 e2 (by simpa using e3) (by simpa using e4)
  refine gen is σd σ (s.post' p o) r fun j e k q e1 e2 e3 e4 => ?_
  obtain ⟨q', e5, _, _, h4⟩ := s.rep.ow e1
  rw [e2] at e5; cases e5
  obtain ⟨u, hu⟩ := h4.some
  obtain ⟨q2, z, hq⟩ := r.own e3 e4
  cases z
  rw [hq] at hu; cases hu
def sPar (is : List Nat) (bs : List Bool) (fl : DS → M (List D)) : DS → M Fl := fun σ => M.bind (fl σ) fun ds => if ds.length = is.length then M.pure (.nx (setMs is bs ds σ)) else M.bad
theorem RepMs.length {K : PySem.W.Frag} {H : Hp} {A' : List GAdr} {S' H' : Hp} : ∀ {vs : List V} {ds : List D} {bs : List Bool}, RepMs K H A' S' H' vs ds bs → vs.length = ds.length ∧ ds.length = bs.length
  | _, _, _, .nil => ⟨rfl, rfl⟩
  | _, _, _, .cons _ r _ => ⟨congrArg (· + 1) r.length.1, congrArg (· + 1) r.length.2⟩
theorem par_read {U : Sur} {is : List Nat} {Z : Ends} {A : List GAdr} {S H : Hp} {g : G} {σd : DS} {σ : L2.St} (s : Stt U.K e0 A S g σd σ H) (q : KS U m e0 A S (sPar is bs fl σd g) Z) :
    KMs U bs A S H (fl σd g) fun vs H1 => vs.length = is.length ∧ Z.nx ((is.zip vs).foldl (fun s p => s.set p.1 (some p.2)) σ) H1 ∧ (∀ p T, H1 p = none → Z.nx ((is.zip vs).foldl (fun s p => s.set p.1 (some p.2)) σ) (upd H1 p (.tup T))) := by
  have q' : KS U m e0 A S (M.bind (fl σd) (fun ds => if ds.length = is.length then M.pure (.nx (setMs is bs ds σd)) else M.bad) g) Z := q
  cases e1 : fl σd g with
  | err z g' => rw [bind_err e1] at q'; exact fun A' S' H' c dd p o r => q' A' S' H' c dd (s.post.trans p) o r
  | bad => rw [bind_bad e1] at q'; exact q'
  | ok ds g1 =>
    rw [bind_ok e1] at q'
    intro A1 S1 H1 vs p1 o1 r1
    by_cases hl : ds.length = is.length
    · rw [if_pos hl] at q'
      have s1 := s.setMs p1 o1 r1 is
      exact ⟨by rw [r1.length.1, hl], q' A1 S1 H1 _ p1.a p1.s s1, fun p T hp => q' A1 S1 _ _ p1.a p1.s (s1.post' (Post.layO hp) (o1.layO hp))⟩
    · rw [if_neg hl] at q'; exact q'.elim
theorem ds_par2 {i j : Nat} {x y : Str} {a b : Expr} {b1 b2 : Bool} {px py pt : Pos} {kt k2 pt2} (hN : X.N.Nodup) (ha : DMs X E [a, b] [b1, b2] fl) (hij : i ≠ j := by decide) (hi : X.N[i]? = some x := by rfl) (hj : X.N[j]? = some y := by rfl)
    (hx : X.env.scope.names.lookup x = some .local := by rfl) (hy : X.env.scope.names.lookup y = some .local := by rfl)
    (hw : swappedStores [.Tuple [.Name x px, .Name y py] kt pt] (.Tuple [a, b] k2 pt2) X.env = pure (some [x, y]) := by rfl)
    (hs : swapsWithSole [.Tuple [.Name x px, .Name y py] kt pt] (.Tuple [a, b] k2 pt2) pos.line X.env = pure false := by rfl) (hc : X.calm = true := by rfl) :
    DS1 X E m e0 (.Assign [.Tuple [.Name x px, .Name y py] kt pt] (.Tuple [a, b] k2 pt2) pos) (sPar [i, j] [b1, b2] fl) :=
  PS.impD (ps_par hc hN hi hj hij hx hy ha hw hs) fun Z σ H ⟨A, S, g, σd, s, q⟩ => ⟨A, S, g, σd, s.ok, s.rep, (par_read s q).imp fun vs H1 ⟨hl, z, _⟩ => by
    match vs, hl, z with
    | [v, w], _, z => exact ⟨v, w, rfl, z⟩⟩
theorem ds_par3 {i j l : Nat} {x y z : Str} {a b c : Expr} {b1 b2 b3 : Bool} {px py pz pt : Pos} {kt k2 pt2} (hN : X.N.Nodup) (ha : DMs X E [a, b, c] [b1, b2, b3] fl) (hij : i ≠ j := by decide) (hil : i ≠ l := by decide) (hjl : j ≠ l := by decide) (hi : X.N[i]? = some x := by rfl) (hj : X.N[j]? = some y := by rfl) (hl : X.N[l]? = some z := by rfl)
    (hx : X.env.scope.names.lookup x = some .local := by rfl) (hy : X.env.scope.names.lookup y = some .local := by rfl) (hz : X.env.scope.names.lookup z = some .local := by rfl)
    (hw : swappedStores [.Tuple [.Name x px, .Name y py, .Name z pz] kt pt] (.Tuple [a, b, c] k2 pt2) X.env = pure (some [x, y, z]) := by rfl)
    (hs : swapsWithSole [.Tuple [.Name x px, .Name y py, .Name z pz] kt pt] (.Tuple [a, b, c] k2 pt2) pos.line X.env = pure false := by rfl) (hc : X.calm = true := by rfl) :
    DS1 X E m e0 (.Assign [.Tuple [.Name x px, .Name y py, .Name z pz] kt pt] (.Tuple [a, b, c] k2 pt2) pos) (sPar [i, j, l] [b1, b2, b3] fl) :=
  PS.impD (ps_par3 hc hN hi hj hl hij hil hjl hx hy hz ha hw hs) fun Z σ H ⟨A, S, g, σd, s, q⟩ => ⟨A, S, g, σd, s.ok, s.rep, (par_read s q).imp fun vs H1 ⟨hl, z, _⟩ => by
    match vs, hl, z with
    | [v, w, u], _, z => exact ⟨v, w, u, rfl, z⟩⟩
/-- by a tuple, where a name is no plain local -/
theorem ds_parT {is : List Nat} {tg ev : List Expr} {kt k2 : Nat} {pt pt2 : Pos} (ha : DMs X E ev bs fl) (h : PGs X tg (gNames is)) (hln : fit is.length = true := by rfl) (hc : X.calm = true := by rfl)
    (hn : (assignEach tg X.env).length = is.length := by rfl) (hst : (assignEach tg X.env).findIdx? (·.1) = none := by rfl)
    (hs : swapsWithSole [.Tuple tg kt pt] (.Tuple ev k2 pt2) pos.line X.env = pure false := by rfl) (hw : swappedStores [.Tuple tg kt pt] (.Tuple ev k2 pt2) X.env = pure none := by rfl)
    (h1 : (assignEach [.Tuple tg kt pt] X.env).map (·.2) = [assign (.Tuple tg kt pt) X.env] := by rfl) :
    DS1 X E m e0 (.Assign [.Tuple tg kt pt] (.Tuple ev k2 pt2) pos) (sPar is bs fl) :=
  PS.impD (ps_asg (pe_tup ha) (pg_tup hc h hn hst) hs hw h1) fun Z σ H ⟨A, S, g, σd, s, q⟩ => ⟨A, S, g, σd, s.ok, s.rep, (par_read s q).imp fun vs H1 ⟨hl, _, z⟩ => by
    refine ⟨by rw [hl]; exact Nat.le_of_lt (fit_le hln), fun p hp => ⟨p, vs, rfl, .inl (.inl upd_same), by rw [hl], by rw [hl], z p vs hp⟩⟩⟩
end
end NS
namespace NS
open PySem PySem.Spec PyProof.Rows L2

/-! ## defs -/
def startD (n : Nat) (ds : List D) : DS := ds.map (fun d => some (.sh d)) ++ List.replicate (n - ds.length) none
def runD (n : Nat) (m : Bool) (b : DS → M Fl) (ds : List D) : M D := M.bind (b (startD n ds)) fun fl => match fl with
  | .rt d => M.pure d
  | .nx _ => if m = true then M.bad else M.pure .non
  | _ => M.bad
theorem start_rep {K : PySem.W.Frag} {A : List GAdr} {S H : Hp} {N : List Str} {vs : List V} {ds : List D} (r : RepL K A S vs ds) : SRep K A S H (L2.start N vs) (startD N.length ds) := by
  have hl := r.length
  refine ⟨by simp [L2.start, startD, hl], fun i x e => ?_, fun i j d e p ne ea eb sa sb => ?_⟩
  · by_cases hi : i < ds.length
    · have e' : (ds.map (fun d => some (DV.sh d)))[i]? = some (some x) := by
        unfold startD at e
        rw [List.getElem?_append_left (by simpa using hi)] at e
        exact e
      rw [List.getElem?_map] at e'
      cases ed : ds[i]? with
      | none => rw [ed] at e'; cases e'
      | some d =>
        rw [ed] at e'
        cases e'
        obtain ⟨v, e1, e2⟩ := r.getD ed
        refine ⟨some v, ?_, e2⟩
        unfold L2.start
        rw [List.getElem?_append_left (by simp [hl]; exact hi), List.getElem?_map, e1]
        rfl
    · unfold startD at e
      rw [List.getElem?_append_right (by simpa using Nat.le_of_not_lt hi)] at e
      rw [List.getElem?_replicate] at e
      split at e <;> cases e
  · exfalso
    by_cases hi : i < ds.length
    · unfold startD at ea
      rw [List.getElem?_append_left (by simpa using hi), List.getElem?_map] at ea
      cases ed : ds[i]? with
      | none => rw [ed] at ea; cases ea
      | some d => rw [ed] at ea; cases ea
    · unfold startD at ea
      rw [List.getElem?_append_right (by simpa using Nat.le_of_not_lt hi), List.getElem?_replicate] at ea
      split at ea <;> cases ea
theorem start_noown {n : Nat} {ds : List D} {i : Nat} {d : D} (ea : (startD n ds)[i]? = some (some (.ow d))) : False := by
  by_cases hi : i < ds.length
  · unfold startD at ea
    rw [List.getElem?_append_left (by simpa using hi), List.getElem?_map] at ea
    cases ed : ds[i]? with
    | none => rw [ed] at ea; cases ea
    | some d => rw [ed] at ea; cases ea
  · unfold startD at ea
    rw [List.getElem?_append_right (by simpa using Nat.le_of_not_lt hi), List.getElem?_replicate] at ea
    split at ea <;> cases ea
abbrev XC (P : Program) (w : World) : CXT := L2.CX P w
theorem run_read {U : Sur} {m : Bool} {N : List Str} {b : DS → M Fl} {vs : List V} {ds : List D} {A : List GAdr} {S H : Hp} {g : G} {Q : VK} (o : Ok U.K A S H g) (r : RepL U.K A S vs ds) (q : KE U m A S H (runD N.length m b ds g) Q) :
    tS U m ⟨A, S, H⟩ b { nx := fun _ H' => Q .non H', rt := Q } (L2.start N vs) H := by
  refine ⟨A, S, g, startD N.length ds, ⟨o, start_rep r, Post.refl _ _ _, fun i d p e => (start_noown e).elim⟩, ?_⟩
  unfold runD at q
  cases e : b (startD N.length ds) g with
  | err z g' => rw [bind_err e] at q; exact q
  | bad => rw [bind_bad e] at q; exact q
  | ok fl g1 =>
    rw [bind_ok e] at q
    cases fl with
    | nx σ =>
      intro A' S' H' σ' _ _ s
      cases m with
      | true => exact q.elim
      | false => exact q A' S' H' .non s.post s.ok .non
    | rt d => exact fun A' S' H' v o' p rr => q A' S' H' v p o' rr
    | bk σ => exact q.elim
    | ct σ => exact q.elim
section
variable {P : Program} {w : World} {K : PySem.W.Frag} {mg : Str → Option Value} {base : Heap}
abbrev XOf (P : Program) (w : World) (K : PySem.W.Frag) (mg : Str → Option Value) (base : Heap) (N : List Str) (qual : Str) (sc : Scope) (f : Addr) (cdv : Value) (A : Around) (outer : List Env) (s : Shared) (H : Hp) (E : XK) : Cx :=
  cxOf (XC P w) P w K mg base N qual sc f cdv A outer s H E
theorem ok_def {x qual : Str} {st : Stmt} {f : Addr} {fd : FuncData} {N ps : List Str} {k : Nat} {m : Bool} {b : DS → M Fl} (F : Fun K x qual st f fd) (Sc : FnScope N ps (defScope st))
    (hbody : ∀ (cdv : Value) (A : Around) (outer : List Env) (s : Shared) (H : Hp) (E : XK) (e0 : En), RoomG k (XOf P w K mg base N qual (defScope st) f cdv A outer s H E).A →
      Passes (XC P w) (XOf P w K mg base N qual (defScope st) f cdv A outer s H E) E → PassesOwn (model P w) (XOf P w K mg base N qual (defScope st) f cdv A outer s H E).A (XOf P w K mg base N qual (defScope st) f cdv A outer s H E).env (XOf P w K mg base N qual (defScope st) f cdv A outer s H E).xe →
      DSs (XOf P w K mg base N qual (defScope st) f cdv A outer s H E) E m e0 (defBody st) b) :
    FnD P w K mg base (XC P w) (k + 1) f fd ps m (runD N.length m b) := by
  refine fnG F Sc (fun vs H Q E h => h.1) (fun cdv A outer s H vs Q E hr h => ?_)
  obtain ⟨hl, A0, S, g, ds, o, r, q⟩ := h
  have tk : Takes (XOf P w K mg base N qual (defScope st) f cdv A outer s H E) (fun cls d _ H => E cls d H) := takes_of rfl rfl rfl rfl
  exact ⟨_, hbody cdv A outer s H E ⟨A0, S, H⟩ hr (passes_call tk fun _ _ _ _ h => h) PassesOwn.leaving, run_read o r q⟩
end
theorem passD {X : Cx} : Passes (XC X.prog X.w) X E0 := passL
end NS
namespace NS
open PySem PySem.Spec PyProof.Rows L2

/-! ## data as the library's data -/
mutual
def D.py : D → PyData
  | .non => .none | .bl b => .bool b | .int i => .int i | .str x => .str x
  | .tup xs => .tuple (D.pys xs) | .lst xs => .list (D.pys xs) | .slst xs => .list (D.pys xs)
  | .dT _ => .none | .dK _ => .none | .hdl _ => .none
def D.pys : List D → List PyData
  | [] => []
  | x :: xs => D.py x :: D.pys xs
end
mutual
def D.pyOk : D → Bool
  | .non => true | .bl _ => true | .int _ => true | .str _ => true
  | .tup xs => D.pysOk xs | .lst xs => D.pysOk xs | .slst xs => D.pysOk xs
  | .dT _ => false | .dK _ => false | .hdl _ => false
def D.pysOk : List D → Bool
  | [] => true
  | x :: xs => D.pyOk x && D.pysOk xs
end
section
variable {K : PySem.W.Frag} {A : List GAdr} {S H : Hp}
mutual
theorem Rep.dp (e : Same S H) : ∀ {v : V} {d : D}, Rep K A S v d → D.pyOk d = true → Dp K H v (D.py d)
  | _, _, .non, _ => .non
  | _, _, .bl b, _ => .bl b
  | _, _, .int i, _ => .int i
  | _, _, .str x, _ => .str x
  | _, _, .tup h r, p => .tup (tq e h) (RepL.dp e r p)
  | _, _, .lst h r, p => .lst (.inl (.inl (e _ _ h))) (RepL.dp e r p)
  | _, _, .slst h r, p => .lst (SqL.mono e h) (RepL.dp e r p)
  | _, _, .dT _ _, p => nomatch p
  | _, _, .dK _ _, p => nomatch p
  | _, _, .hdl _, p => nomatch p
theorem RepL.dp (e : Same S H) : ∀ {vs : List V} {ds : List D}, RepL K A S vs ds → D.pysOk ds = true → DpAll K H vs (D.pys ds)
  | _, _, .nil, _ => .nil
  | _, _, .cons h r, p => .cons (Rep.dp e h (Bool.and_eq_true_iff.mp p).1) (RepL.dp e r (Bool.and_eq_true_iff.mp p).2)
end
theorem Rep.sq (o : Same S H) {a : Addr} {xs : List D} (r : Rep K A S (.ref a) (.lst xs)) : ∃ vs, H a = some (.lst vs) ∧ RepL K A S vs xs := by
  cases r with | lst h r => exact ⟨_, o _ _ h, r⟩
end
def kEq (x y : D) : M D := if D.pyOk x = true ∧ D.pyOk y = true ∧ SeqAt.shaped (D.py x) = true ∧ SeqAt.shaped (D.py y) = true then M.pure (.bl (PyData.eqv (D.py x) (D.py y))) else M.bad
def kNe (x y : D) : M D := if D.pyOk x = true ∧ D.pyOk y = true ∧ SeqAt.shaped (D.py x) = true ∧ SeqAt.shaped (D.py y) = true then M.pure (.bl (!PyData.eqv (D.py x) (D.py y))) else M.bad
section
variable {X : Cx} {E : XK} {m : Bool}
theorem op_eqDD (hu : X.A.units + 64 < cLine) : OpD X E (compareOp .Eq) false kEq := OpR.imp (op_eqD hu) fun x y H Q ⟨A, S, g, dx, dy, o, r1, r2, q⟩ => by
  unfold kEq at q
  by_cases c : D.pyOk dx = true ∧ D.pyOk dy = true ∧ SeqAt.shaped (D.py dx) = true ∧ SeqAt.shaped (D.py dy) = true
  · rw [if_pos c] at q
    exact ⟨_, _, r1.dp o.ext c.1, r2.dp o.ext c.2.1, c.2.2.1, c.2.2.2, KE.val q o (.bl _)⟩
  · rw [if_neg c] at q; exact q.elim
theorem op_neDD (hu : X.A.units + 64 < cLine) : OpD X E (compareOp .NotEq) false kNe := OpR.imp (op_neD hu) fun x y H Q ⟨A, S, g, dx, dy, o, r1, r2, q⟩ => by
  unfold kNe at q
  by_cases c : D.pyOk dx = true ∧ D.pyOk dy = true ∧ SeqAt.shaped (D.py dx) = true ∧ SeqAt.shaped (D.py dy) = true
  · rw [if_pos c] at q
    exact ⟨_, _, r1.dp o.ext c.1, r2.dp o.ext c.2.1, c.2.2.1, c.2.2.2, KE.val q o (.bl _)⟩
  · rw [if_neg c] at q; exact q.elim
/-! ## ints -/
def kII (f : Int → Int → Option D) : D → D → M D
  | .int i, .int j => M.opt (f i j)
  | _, _ => M.bad
theorem op_II {fn : Value → Value → Sem Value} {r : R2} {f : Int → Int → Option D} (h : OpR X fn r)
    (hf : ∀ i j d, f i j = some d → ∃ v, (∀ A S, Rep X.K A S v d) ∧ ∀ (H : Hp) (Q : VK), Q v H → r (.int i) (.int j) H Q) : OpD X E fn false (kII f) := OpR.imp h fun x y H Q ⟨A, S, g, dx, dy, o, r1, r2, q⟩ => by
  cases r1 with
  | int i =>
    cases r2 with
    | int j =>
      have q' : KE (Cx.sur X E) false A S H (M.opt (f i j) g) Q := q
      cases e : f i j with
      | none => rw [e] at q'; exact q'.elim
      | some d =>
        rw [e] at q'
        obtain ⟨v, rv, k⟩ := hf i j d e
        exact k H Q (KE.val q' o (rv A S))
    | _ => exact q.elim
  | _ => cases r2 <;> exact q.elim
theorem op_int (f : Int → Int → Int) {fn : Value → Value → Sem Value} (h : OpR X fn (rI0 fun i j => .int (f i j))) : OpD X E fn false (kII fun i j => some (.int (f i j))) :=
  op_II h fun i j d e => by cases e; exact ⟨_, fun _ _ => .int _, fun H Q q => ⟨i, j, rfl, rfl, q⟩⟩
theorem op_cond (C : Int → Int → Prop) [∀ i j, Decidable (C i j)] (f : Int → Int → Int) {C' : Int → Int → Prop} (hc : ∀ i j, C i j → C' i j) {fn : Value → Value → Sem Value} (h : OpR X fn (rI C' fun i j => .int (f i j))) :
    OpD X E fn false (kII fun i j => if C i j then some (.int (f i j)) else none) :=
  op_II h fun i j d e => by
    by_cases c : C i j
    · rw [if_pos c] at e; cases e; exact ⟨_, fun _ _ => .int _, fun H Q q => ⟨i, j, rfl, rfl, hc i j c, q⟩⟩
    · rw [if_neg c] at e; cases e
theorem op_bool (f : Int → Int → Bool) {fn : Value → Value → Sem Value} (h : OpR X fn (rI0 fun i j => .bl (f i j))) : OpD X E fn false (kII fun i j => some (.bl (f i j))) :=
  op_II h fun i j d e => by cases e; exact ⟨_, fun _ _ => .bl _, fun H Q q => ⟨i, j, rfl, rfl, q⟩⟩
/-- small: within ± 2^64 -/
def sm (i : Int) : Bool := decide (-(2 ^ 64) < i) && decide (i < 2 ^ 64)
abbrev kSub := kII fun i j => some (.int (i - j))
abbrev kFdiv := kII fun i j => if 0 < j ∧ j < 1073741824 then some (.int (i / j)) else none
abbrev kMod := kII fun i j => if 0 < j then some (.int (i % j)) else none
abbrev kPow := kII fun i j => if 0 ≤ j ∧ j ≤ 1000000 ∧ i.natAbs < 2 ^ 64 then some (.int (i ^ j.toNat)) else none
theorem op_subD : OpD X E (binaryOp .Sub) false kSub := op_int (fun i j => i - j) op_sub
theorem iop_subD : OpD X E (inplaceOp .Sub) false kSub := op_int (fun i j => i - j) iop_sub
theorem op_fdivD : OpD X E (binaryOp .FloorDiv) false kFdiv := op_cond (fun i j => 0 < j ∧ j < 1073741824) (fun i j => i / j) (fun _ _ h => h) op_fdiv
theorem op_modD : OpD X E (binaryOp .Mod) false kMod := op_cond (fun i j => 0 < j) (fun i j => i % j) (fun _ _ h => h) op_mod
theorem op_powD : OpD X E (binaryOp .Pow) false kPow := op_cond (fun i j => 0 ≤ j ∧ j ≤ 1000000 ∧ i.natAbs < 2 ^ 64) (fun i j => i ^ j.toNat) (fun _ _ h => h) op_pow
/-! ## order: ints; tuples of ints -/
def D.ints : List D → Option (List Int)
  | [] => some []
  | .int i :: r => (D.ints r).map (i :: ·)
  | _ => none
theorem ints_rep {K : PySem.W.Frag} {A : List GAdr} {S : Hp} : ∀ {vs : List V} {ds : List D} {ns : List Int}, RepL K A S vs ds → D.ints ds = some ns → vs = ns.map V.int
  | _, _, _, .nil, e => by cases e; rfl
  | _, _, _, .cons h r, e => by
    cases h with
    | int i =>
      unfold D.ints at e
      cases ei : D.ints _ with
      | none => rw [ei] at e; cases e
      | some ms => rw [ei] at e; cases e; rw [ints_rep r ei]; rfl
    | _ => cases e
def kLt : D → D → M D
  | .int i, .int j => M.pure (.bl (decide (i < j)))
  | .tup a, .tup b => (match D.ints a, D.ints b with
    | some ns, some ms => M.pure (.bl (HT.lexLt ns ms))
    | _, _ => M.bad)
  | _, _ => M.bad
theorem op_ltD (hu : X.A.units < cLine) : OpD X E (compareOp .Lt) false kLt := OpR.imp (OpR.or op_lt (op_ltT hu)) fun x y H Q ⟨A, S, g, dx, dy, o, r1, r2, q⟩ => by
  cases r1 with
  | int i =>
    cases r2 with
    | int j => exact .inl ⟨_, _, rfl, rfl, KE.val q o (.bl _)⟩
    | _ => exact q.elim
  | @tup a xs ds h1 r1 =>
    cases r2 with
    | @tup b ys es h2 r2 =>
      have q' : KE (Cx.sur X E) false A S H ((match D.ints ds, D.ints es with | some ns, some ms => M.pure (.bl (HT.lexLt ns ms)) | _, _ => M.bad : M D) g) Q := q
      cases e1 : D.ints ds with
      | none => rw [e1] at q'; exact q'.elim
      | some ns =>
        cases e2 : D.ints es with
        | none => rw [e1, e2] at q'; exact q'.elim
        | some ms =>
          rw [e1, e2] at q'
          have z1 := ints_rep r1 e1
          have z2 := ints_rep r2 e2
          subst z1 z2
          exact .inr ⟨a, b, ns, ms, rfl, rfl, tq o.ext h1, tq o.ext h2, KE.val q' o (.bl _)⟩
    | _ => exact q.elim
  | _ => cases r2 <;> exact q.elim
abbrev kLe := kII fun i j => some (.bl (decide (i ≤ j)))
abbrev kGt := kII fun i j => some (.bl (decide (j < i)))
abbrev kGe := kII fun i j => some (.bl (decide (j ≤ i)))
theorem op_leD : OpD X E (compareOp .LtE) false kLe := op_bool (fun i j => decide (i ≤ j)) op_le
theorem op_gtD : OpD X E (compareOp .Gt) false kGt := op_bool (fun i j => decide (j < i)) op_gt
theorem op_geD : OpD X E (compareOp .GtE) false kGe := op_bool (fun i j => decide (j ≤ i)) op_ge
/-! ## + and * -/
def kAdd : D → D → M D
  | .int i, .int j => M.pure (.int (i + j))
  | .str a, .str b => if fit (a.length + b.length) = true then M.pure (.str (a ++ b)) else M.bad
  | .lst a, .lst b => if fit (a.length + b.length) = true then M.pure (.lst (a ++ b)) else M.bad
  | .tup a, .tup b => if fit (a.length + b.length) = true then M.pure (.tup (a ++ b)) else M.bad
  | _, _ => M.bad
def kCat : D → D → M D
  | .lst a, .lst b => if fit (a.length + b.length) = true then M.pure (.lst (a ++ b)) else M.bad
  | _, _ => M.bad
theorem cat_rd {U : Sur} {A : List GAdr} {S H : Hp} {g : G} {a b : Addr} {xs ys : List V} {ds es : List D} {Q : VK} (o : Ok U.K A S H g) (h1 : S a = some (.lst xs)) (r1 : RepL U.K A S xs ds) (h2 : S b = some (.lst ys)) (r2 : RepL U.K A S ys es)
    (q : KE U m A S H ((if fit (ds.length + es.length) = true then M.pure (.lst (ds ++ es)) else M.bad : M D) g) Q) : rCat (.ref a) (.ref b) H Q := by
  by_cases hf : fit (ds.length + es.length) = true
  · rw [if_pos hf] at q
    exact ⟨a, b, xs, ys, rfl, rfl, o.ext _ _ h1, o.ext _ _ h2, by rw [r1.length, r2.length]; exact Nat.le_of_lt (fit_le hf), fun p hp => KE.newL q o (r1.append r2) hp⟩
  · rw [if_neg hf] at q; exact q.elim
theorem op_catD : OpD X E (binaryOp .Add) m kCat := OpR.imp op_cat fun x y H Q ⟨A, S, g, dx, dy, o, r1, r2, q⟩ => by
  cases r1 with
  | lst h1 r1 =>
    cases r2 with
    | lst h2 r2 => exact cat_rd o h1 r1 h2 r2 q
    | _ => exact q.elim
  | _ => cases r2 <;> exact q.elim
theorem op_addD : OpD X E (binaryOp .Add) false kAdd := OpR.imp (OpR.or op_add (OpR.or op_add_str (OpR.or op_cat op_catA))) fun x y H Q ⟨A, S, g, dx, dy, o, r1, r2, q⟩ => by
  cases r1 with
  | int i =>
    cases r2 with
    | int j => exact .inl ⟨_, _, rfl, rfl, KE.val q o (.int _)⟩
    | _ => exact q.elim
  | str a =>
    cases r2 with
    | str b =>
      have q' : KE (Cx.sur X E) false A S H ((if fit (a.length + b.length) = true then M.pure (.str (a ++ b)) else M.bad : M D) g) Q := q
      by_cases hf : fit (a.length + b.length) = true
      · rw [if_pos hf] at q'
        exact .inr (.inl ⟨_, _, rfl, rfl, Nat.le_of_lt (fit_le hf), KE.val q' o (.str _)⟩)
      · rw [if_neg hf] at q'; exact q'.elim
    | _ => exact q.elim
  | lst h1 r1 =>
    cases r2 with
    | lst h2 r2 => exact .inr (.inr (.inl (cat_rd (m := false) o h1 r1 h2 r2 q)))
    | _ => exact q.elim
  | @tup a xs ds h1 r1 =>
    cases r2 with
    | @tup b ys es h2 r2 =>
      have q' : KE (Cx.sur X E) false A S H ((if fit (ds.length + es.length) = true then M.pure (.tup (ds ++ es)) else M.bad : M D) g) Q := q
      by_cases hf : fit (ds.length + es.length) = true
      · rw [if_pos hf] at q'
        refine .inr (.inr (.inr ⟨a, b, xs, ys, rfl, rfl, tq o.ext h1, tq o.ext h2, by rw [r1.length, r2.length]; exact Nat.le_of_lt (fit_le hf), fun e => ?_, fun _ e => ?_, fun _ _ p hp => KE.newT q' o (r1.append r2) hp⟩))
        · subst e
          cases r1
          exact KE.val q' o (.tup h2 r2)
        · subst e
          cases r2
          rw [List.append_nil] at q'
          exact KE.val q' o (.tup h1 r1)
      · rw [if_neg hf] at q'; exact q'.elim
    | _ => exact q.elim
  | _ => cases r2 <;> exact q.elim
def kAddI := kII fun i j => some (.int (i + j))
theorem iop_addD : OpD X E (inplaceOp .Add) false kAddI := op_int (fun i j => i + j) iop_add
/-- ints, one of them small -/
def mulI (i j : Int) : Option D := if (sm i || sm j) = true then some (.int (i * j)) else none
theorem sm_iff {i : Int} : sm i = true ↔ -(2 ^ 64) < i ∧ i < 2 ^ 64 := by simp [sm]
section
variable {X : Cx}
theorem ns_tuple_mul1 (l : Addr) (items : Array Value) (n : Nat) (dd : Option Addr) (sl : Array (Option Value)) (u : Tok) :
    Meets (Builtin.«tuple.__mul__» ⟨[.ref l, .int 1 u], []⟩) (fun _ R s => s.heap.get? l = some { cls := .type "tuple", dict := dd, data := .seq items n, slots := sl } ∧ R (.ok (.ret (Value.ref l))) s) :=
  .of_wp fun prog w A R s h => by
    obtain ⟨hp, g, d, tk, os⟩ := s
    obtain ⟨hl, h⟩ := h
    have f1 := AutoSeq1.idx_int
    wp_walk using wpAny_loadPart' hl
    exact ⟨_, rfl, h⟩
/-- a tuple once: the same one -/
def rRep1 (K : PySem.W.Frag) : R2 := fun x y H Q => ∃ l xs, x = .ref l ∧ y = .int 1 ∧ SqT K H l xs ∧ Q (.ref l) H
theorem op_rep1 : OpR X (binaryOp .Mult) (rRep1 X.K) := by
  intro pins s σ H x y v u Q I rx ry h
  obtain ⟨l, xs, rfl, rfl, hT, q⟩ := h
  cases rx
  obtain ⟨t, rfl⟩ := ry
  obtain ⟨its, r, ⟨⟨cls, dd, data, sl⟩, ho, hc, n, hd⟩, hs⟩ := I.tuple hT
  simp only at hc hd
  subst hc hd
  refine wpAny_binaryOp_repeat_ref (T := "tuple") (U := "int") (by decide) ⟨_, ho, rfl⟩ (fun s' => typeIs_int s' 1 t) noFill_tuple_mul F.fills_int_mul F.slot_int_rmul repeat_tuple F.slot_int_index.lookup
    (call_meets F.slot_int_rmul (typeIs_int s 1 t) F.entry_int_rmul (F.args_int_rmul_2 _ _) (int_rmul_tuple 1 t l its.toArray n dd sl)
      ⟨ho, rfl, ⟨_, ho, rfl⟩, call_meets F.slot_tuple_mul ⟨_, ho, rfl⟩ F.entry_tuple_mul (F.args_tuple_mul_2 _ _) (ns_tuple_mul1 l its.toArray n dd sl t) ⟨ho, ?_⟩⟩)
  exact ⟨.ref l, H, I, rfl, q⟩
end
def kMul : D → D → M D
  | .int i, .int j => M.opt (mulI i j)
  | .lst a, .int k => if 0 ≤ k ∧ k ≤ 1000 ∧ a.length ≤ 1000 then M.pure (.lst (List.replicate k.toNat a).flatten) else M.bad
  | .tup a, .int k => if k = 1 then M.pure (.tup a) else if 2 ≤ k ∧ k ≤ 1000 ∧ a.length ≤ 1000 ∧ a ≠ [] then M.pure (.tup (List.replicate k.toNat a).flatten) else M.bad
  | _, _ => M.bad
def kRep : D → D → M D
  | .lst a, .int k => if 0 ≤ k ∧ k ≤ 1000 ∧ a.length ≤ 1000 then M.pure (.lst (List.replicate k.toNat a).flatten) else M.bad
  | _, _ => M.bad
theorem rep_rd {U : Sur} {A : List GAdr} {S H : Hp} {g : G} {a : Addr} {k : Int} {xs : List V} {ds : List D} {Q : VK} (o : Ok U.K A S H g) (h1 : S a = some (.lst xs)) (r1 : RepL U.K A S xs ds)
    (q : KE U m A S H ((if 0 ≤ k ∧ k ≤ 1000 ∧ ds.length ≤ 1000 then M.pure (.lst (List.replicate k.toNat ds).flatten) else M.bad : M D) g) Q) : rRep (.ref a) (.int k) H Q := by
  by_cases c : 0 ≤ k ∧ k ≤ 1000 ∧ ds.length ≤ 1000
  · rw [if_pos c] at q
    refine ⟨a, k, xs, rfl, rfl, o.ext _ _ h1, by omega, by omega, ?_, fun p hp => KE.newL q o (r1.rep _) hp⟩
    rw [r1.length, sizeLine_eq]
    calc ds.length * k.toNat ≤ 1000 * 1000 := Nat.mul_le_mul c.2.2 (by omega)
      _ ≤ 16777216 := by decide
  · rw [if_neg c] at q; exact q.elim
theorem op_repD : OpD X E (binaryOp .Mult) m kRep := OpR.imp op_rep fun x y H Q ⟨A, S, g, dx, dy, o, r1, r2, q⟩ => by
  cases r1 with
  | lst h1 r1 =>
    cases r2 with
    | int k => exact rep_rd o h1 r1 q
    | _ => exact q.elim
  | _ => cases r2 <;> exact q.elim
theorem op_mulD : OpD X E (binaryOp .Mult) false kMul := OpR.imp (OpR.or op_mul (OpR.or op_rep (OpR.or op_repT op_rep1))) fun x y H Q ⟨A, S, g, dx, dy, o, r1, r2, q⟩ => by
  cases r1 with
  | int i =>
    cases r2 with
    | int j =>
      have q' : KE (Cx.sur X E) false A S H (M.opt (mulI i j) g) Q := q
      unfold mulI at q'
      by_cases c : (sm i || sm j) = true
      · rw [if_pos c] at q'
        refine .inl ⟨_, _, rfl, rfl, ?_, KE.val q' o (.int _)⟩
        rcases Bool.or_eq_true_iff.mp c with c | c
        · exact .inl (sm_iff.mp c)
        · exact .inr (sm_iff.mp c)
      · rw [if_neg c] at q'; exact q'.elim
    | _ => exact q.elim
  | lst h1 r1 =>
    cases r2 with
    | int k => exact .inr (.inl (rep_rd (m := false) o h1 r1 q))
    | _ => exact q.elim
  | @tup a xs ds h1 r1 =>
    cases r2 with
    | int k =>
      have q0 : KE (Cx.sur X E) false A S H ((if k = 1 then M.pure (.tup ds) else if 2 ≤ k ∧ k ≤ 1000 ∧ ds.length ≤ 1000 ∧ ds ≠ [] then M.pure (.tup (List.replicate k.toNat ds).flatten) else M.bad : M D) g) Q := q
      by_cases c1 : k = 1
      · subst c1
        rw [if_pos rfl] at q0
        exact .inr (.inr (.inr ⟨a, xs, rfl, rfl, tq o.ext h1, KE.val q0 o (.tup h1 r1)⟩))
      rw [if_neg c1] at q0
      have q' : KE (Cx.sur X E) false A S H ((if 2 ≤ k ∧ k ≤ 1000 ∧ ds.length ≤ 1000 ∧ ds ≠ [] then M.pure (.tup (List.replicate k.toNat ds).flatten) else M.bad : M D) g) Q := q0
      by_cases c : 2 ≤ k ∧ k ≤ 1000 ∧ ds.length ≤ 1000 ∧ ds ≠ []
      · rw [if_pos c] at q'
        refine .inr (.inr (.inl ⟨a, k, xs, rfl, rfl, tq o.ext h1, fun e => ?_, c.1, c.2.1, by rw [r1.length]; exact c.2.2.1, fun p hp => KE.newT q' o (r1.rep _) hp⟩))
        subst e
        cases r1
        exact c.2.2.2 rfl
      · rw [if_neg c] at q'; exact q'.elim
    | _ => exact q.elim
  | _ => cases r2 <;> exact q.elim
/-! ## is None, is True -/
def D.isN : D → Bool
  | .non => true
  | _ => false
def kIs : D → D → M D
  | x, .non => M.pure (.bl (D.isN x))
  | .bl a, .bl b => M.pure (.bl (decide (a = b)))
  | _, _ => M.bad
def kIsNot : D → D → M D
  | x, .non => M.pure (.bl (!D.isN x))
  | .bl a, .bl b => M.pure (.bl (!decide (a = b)))
  | _, _ => M.bad
theorem isN_dec {K : PySem.W.Frag} {A : List GAdr} {S : Hp} {v : V} {d : D} (r : Rep K A S v d) : decide (v = .non) = D.isN d := by cases r <;> rfl
theorem op_isD : OpD X E (compareOp .Is) false kIs := OpR.imp (OpR.or op_isN op_isBl) fun x y H Q ⟨A, S, g, dx, dy, o, r1, r2, q⟩ => by
  cases r2 with
  | non => exact .inl ⟨rfl, by rw [isN_dec r1]; exact KE.val (by cases r1 <;> exact q) o (.bl _)⟩
  | bl b =>
    cases r1 with
    | bl a => exact .inr ⟨a, b, rfl, rfl, KE.val q o (.bl _)⟩
    | _ => exact q.elim
  | _ => cases r1 <;> exact q.elim
theorem op_isnotD : OpD X E (compareOp .IsNot) false kIsNot := OpR.imp (OpR.or op_notN op_notBl) fun x y H Q ⟨A, S, g, dx, dy, o, r1, r2, q⟩ => by
  cases r2 with
  | non => exact .inl ⟨rfl, by rw [isN_dec r1]; exact KE.val (by cases r1 <;> exact q) o (.bl _)⟩
  | bl b =>
    cases r1 with
    | bl a => exact .inr ⟨a, b, rfl, rfl, KE.val q o (.bl _)⟩
    | _ => exact q.elim
  | _ => cases r1 <;> exact q.elim
end
end NS
namespace NS
open PySem PySem.Spec PyProof.Rows L2
section
variable {X : Cx} {E : XK} {m : Bool} {pos : Pos} {a b e : Expr} {fa fb fe : DS → M D}
theorem RepL.atI {K : PySem.W.Frag} {A : List GAdr} {S : Hp} {vs : List V} {ds : List D} {i : Int} {d : D} (r : RepL K A S vs ds) (h : L2.atI ds i = some d) : ∃ v, L2.atI vs i = some v ∧ Rep K A S v d := by
  unfold L2.atI at h ⊢
  rw [r.length]
  cases e : ixN ds.length i with
  | none => rw [e] at h; cases h
  | some j =>
    rw [e] at h
    obtain ⟨v, e1, e2⟩ := r.getD (i := j) h
    exact ⟨v, e1, e2⟩
/-! ## x[i] -/
def cellIx (c : GCell) (i : Int) : Option D := match c with
  | .src x y z => L2.atI [D.int x, D.int y, D.int z] i
  | _ => none
def kIx : D → D → M D
  | .lst xs, .int i => M.opt (L2.atI xs i)
  | .slst xs, .int i => M.opt (L2.atI xs i)
  | .tup xs, .int i => M.opt (L2.atI xs i)
  | .str z, .int i => if fit z.length = true then M.opt ((L2.atI z.cps.toList i).map fun c => .str ⟨#[c]⟩) else M.bad
  | .hdl h, .int i => fun g => M.opt (match g[h]? with | some c => cellIx c i | none => none) g
  | _, _ => M.bad
theorem opt_ok {U : Sur} {A : List GAdr} {S H : Hp} {g : G} {Q : VK} {o : Option D} (q : KE U m A S H (M.opt o g) Q) : ∃ d, o = some d ∧ KE U m A S H (.ok d g) Q := by
  cases o with
  | none => exact q.elim
  | some d => exact ⟨d, rfl, q⟩
theorem ix_rd {K : PySem.W.Frag} {U : Sur} (hK : U.K = K) : ∀ x y H Q, rD U false kIx x y H Q → rIx K x y H Q := by
  subst hK
  intro x y H Q ⟨A, S, g, dx, dy, o, r1, r2, q⟩
  cases r1 with
  | @lst p xs ds h r =>
    cases r2 with
    | int i =>
      obtain ⟨d, e1, q⟩ := opt_ok (o := L2.atI ds i) q
      obtain ⟨v, e2, rv⟩ := r.atI e1
      exact .inl ⟨p, xs, i, v, rfl, rfl, .inl (.inl (o.ext _ _ h)), e2, KE.val q o rv⟩
    | _ => exact q.elim
  | @slst p xs ds h r =>
    cases r2 with
    | int i =>
      obtain ⟨d, e1, q⟩ := opt_ok (o := L2.atI ds i) q
      obtain ⟨v, e2, rv⟩ := r.atI e1
      exact .inl ⟨p, xs, i, v, rfl, rfl, SqL.mono o.ext h, e2, KE.val q o rv⟩
    | _ => exact q.elim
  | @tup p xs ds h r =>
    cases r2 with
    | int i =>
      obtain ⟨d, e1, q⟩ := opt_ok (o := L2.atI ds i) q
      obtain ⟨v, e2, rv⟩ := r.atI e1
      exact .inr (.inl ⟨p, xs, i, v, rfl, rfl, tq o.ext h, e2, KE.val q o rv⟩)
    | _ => exact q.elim
  | str z =>
    cases r2 with
    | int i =>
      have q' : KE U false A S H ((if fit z.length = true then M.opt ((L2.atI z.cps.toList i).map fun c => D.str ⟨#[c]⟩) else M.bad : M D) g) Q := q
      by_cases hf : fit z.length = true
      · rw [if_pos hf] at q'
        obtain ⟨d, e1, q⟩ := opt_ok q'
        cases e2 : L2.atI z.cps.toList i with
        | none => rw [e2] at e1; cases e1
        | some c =>
          rw [e2] at e1; cases e1
          exact .inr (.inr ⟨z, i, c, rfl, rfl, Nat.le_of_lt (fit_le hf), e2, KE.val q o (.str _)⟩)
      · rw [if_neg hf] at q'; exact q'.elim
    | _ => exact q.elim
  | @hdl k ga hk =>
    cases r2 with
    | int i =>
      have q' : KE U false A S H (M.opt (match g[k]? with | some c => cellIx c i | none => none) g) Q := q
      obtain ⟨d, e1, q⟩ := opt_ok q'
      cases e2 : g[k]? with
      | none => rw [e2] at e1; cases e1
      | some c =>
        rw [e2] at e1
        have cl := o.cel k ga c hk e2
        cases c with
        | sto _ _ => cases e1
        | src x y z =>
          cases ga with
          | sto _ _ _ _ _ => exact cl.elim
          | src p =>
            have e1' : L2.atI [D.int x, D.int y, D.int z] i = some d := e1
            have rr : RepL U.K A S [.int x, .int y, .int z] [D.int x, D.int y, D.int z] := .cons (.int _) (.cons (.int _) (.cons (.int _) .nil))
            obtain ⟨v, e3, rv⟩ := rr.atI e1'
            exact .inl ⟨p, _, i, v, rfl, rfl, .inl (.inl cl), e3, KE.val q o rv⟩
    | _ => exact q.elim
  | _ => cases r2 <;> exact q.elim
theorem de_ix (ha : DE X E false a fa) (hb : DE X E false b fb) (hs : PlainIx b := by exact fun _ _ => rfl) : DE X E false (.Subscript a b pos) (eBin kIx fa fb) :=
  PE.impD (pe_ix ix_seq ha hb hs) fun σ H Q h => by
    have := bin_read h
    obtain ⟨A, S, g, σd, o, r, q⟩ := this
    exact ⟨A, S, g, σd, o, r, q.imp fun v H1 ⟨A1, S1, g1, σd1, o1, r1, q1⟩ => ⟨A1, S1, g1, σd1, o1, r1, q1.imp fun u H2 q2 => ix_rd rfl _ _ _ _ q2⟩⟩
/-! ## slices -/
def cutD (xs : List D) (lo hi : Option Int) : List D := (xs.drop (HT.sIx xs.length 0 lo)).take (HT.sIx xs.length xs.length hi - HT.sIx xs.length 0 lo)
def kSl (lo hi : Option Int) : D → M D
  | .lst xs => M.pure (.lst (cutD xs lo hi))
  | .tup xs => M.pure (.tup (cutD xs lo hi))
  | .str z => if fit z.length = true then M.pure (.str (cutS z lo hi)) else M.bad
  | _ => M.bad
def kSlL (lo hi : Option Int) : D → M D
  | .lst xs => M.pure (.lst (cutD xs lo hi))
  | _ => M.bad
abbrev FO := DS → M (Option Int)
def KO (U : Sur) (A : List GAdr) (S H : Hp) (r : Res (Option Int)) (Q : Option Int → Hp → Prop) : Prop :=
  match r with
  | .ok b g' => ∀ A' S' H', Post A S H A' S' H' → Ok U.K A' S' H' g' → Q b H'
  | .err x g' => ∀ A' S' H' c dd, Post A S H A' S' H' → Ok U.K A' S' H' g' → XRep U.mg U.K A' S' H' x c dd → U.E c dd H'
  | .bad => False
def tO (U : Sur) (f : FO) : TO := fun σ H Q => ∃ A S g σd, Ok U.K A S H g ∧ SRep U.K A S H σ σd ∧ KO U A S H (f σd g) Q
def DO (X : Cx) (E : XK) (e : Option Expr) (f : FO) : Prop := PO X e (tO (Cx.sur X E) f)
theorem _root_.L2.PO.impD {X : Cx} {e : Option Expr} {t t' : TO} (h : PO X e t) (i : ∀ σ H Q, t' σ H Q → t σ H Q) : PO X e t' := ⟨fun pins s σ H Q I q => h.run pins s σ H Q I (i σ H Q q)⟩
def oNone : FO := fun _ => M.pure none
def oSome (f : DS → M D) : FO := fun σ => M.bind (f σ) fun d => match d with | .int i => M.pure (some i) | _ => M.bad
theorem do_none : DO X E none oNone := PO.impD po_none fun σ H Q ⟨A, S, g, σd, o, r, q⟩ => q A S H (Post.refl _ _ _) o
theorem do_some (h : DE X E false e fe) : DO X E (some e) (oSome fe) := PO.impD (po_some h) fun σ H Q ⟨A, S, g, σd, o, r, q⟩ => ⟨A, S, g, σd, o, r, by
  have q' : KO (Cx.sur X E) A S H (M.bind (fe σd) (fun d => match d with | .int i => M.pure (some i) | _ => M.bad) g) Q := q
  cases e1 : fe σd g with
  | err z g' => rw [bind_err e1] at q'; exact q'
  | bad => rw [bind_bad e1] at q'; exact q'
  | ok d g1 =>
    rw [bind_ok e1] at q'
    intro A1 S1 H1 v p1 o1 r1
    cases r1 with
    | int i => exact ⟨i, rfl, q' A1 S1 H1 p1 o1⟩
    | _ => exact q'.elim⟩
def eSl (k : Option Int → Option Int → D → M D) (fe : DS → M D) (fl fh : FO) : DS → M D := fun σ => M.bind (fe σ) fun x => M.bind (fl σ) fun l => M.bind (fh σ) fun h => k l h x
theorem KE.bindO {U : Sur} {A : List GAdr} {S H : Hp} {x : M (Option Int)} {k : Option Int → M D} {g : G} {Q : VK} (h : KE U m A S H (M.bind x k g) Q) :
    KO U A S H (x g) fun b H1 => ∃ A1 S1 g1, Post A S H A1 S1 H1 ∧ Ok U.K A1 S1 H1 g1 ∧ KE U m A1 S1 H1 (k b g1) Q := by
  unfold M.bind at h
  cases e : x g with
  | ok d g1 => rw [e] at h; exact fun A' S' H' p o => ⟨A', S', g1, p, o, h.shift p⟩
  | err e1 g1 => rw [e] at h; exact h
  | bad => rw [e] at h; exact h
theorem KO.imp {U : Sur} {A : List GAdr} {S H : Hp} {r : Res (Option Int)} {Q Q' : Option Int → Hp → Prop} (h : KO U A S H r Q) (i : ∀ v H', Q v H' → Q' v H') : KO U A S H r Q' := by
  cases r with
  | ok d g => exact fun A' S' H' q o => i _ _ (h A' S' H' q o)
  | err x g => exact h
  | bad => exact h
theorem RepL.cut {K : PySem.W.Frag} {A : List GAdr} {S : Hp} {vs : List V} {ds : List D} (r : RepL K A S vs ds) (lo hi : Option Int) : RepL K A S (cutV vs lo hi) (cutD ds lo hi) := by
  unfold cutV cutD
  rw [r.length]
  exact (r.drop _).take _
theorem cutD_whole {xs : List D} {lo hi : Option Int} (h : HT.sIx xs.length 0 lo = 0 ∧ HT.sIx xs.length xs.length hi = xs.length) : cutD xs lo hi = xs := by
  unfold cutD
  rw [h.1, h.2]
  simp
variable {lo hi : Option Expr} {fl fh : FO} {p2 : Pos}
theorem sl_read {U : Sur} {k : Option Int → Option Int → D → M D} {r : V → Option Int → Option Int → Hp → VK → Prop} (hr : ∀ A S H g x dx l h Q, Ok U.K A S H g → Rep U.K A S x dx → KE U m A S H (k l h dx g) Q → r x l h H Q) {σ : L2.St} {H : Hp} {Q : VK}
    (h : tE U m (eSl k fe fl fh) σ H Q) : tSl r (tE U false fe) (tO U fl) (tO U fh) σ H Q := by
  obtain ⟨A, S, g, σd, o, rr, q⟩ := h
  refine ⟨A, S, g, σd, o, rr, (KE.bindE q).imp fun v H1 ⟨A1, S1, g1, d, p1, o1, r1, q1⟩ => ?_⟩
  refine ⟨A1, S1, g1, σd, o1, rr.post p1, (KE.bindO q1).imp fun l H2 ⟨A2, S2, g2, p2, o2, q2⟩ => ?_⟩
  refine ⟨A2, S2, g2, σd, o2, (rr.post p1).post p2, (KE.bindO q2).imp fun l2 H3 ⟨A3, S3, g3, p3, o3, q3⟩ => ?_⟩
  exact hr A3 S3 H3 g3 v d l l2 Q o3 (Rep.mono (p2.trans p3).a (p2.trans p3).s r1) q3
theorem de_sl (he : DE X E false e fe) (hl : DO X E lo fl) (hh : DO X E hi fh) : DE X E false (.Subscript e (.Slice lo hi none p2) pos) (eSl kSl fe fl fh) :=
  PE.impD (pe_slice (SlR.or sl_list (SlR.or sl_tupA sl_str)) he hl hh) fun σ H Q h => sl_read (m := false) (fun A S H g x dx l h Q o r q => by
    cases r with
    | @lst p xs ds h1 r1 => exact .inl ⟨p, xs, rfl, .inl (.inl (o.ext _ _ h1)), fun q0 hq => KE.newL q o (r1.cut l h) hq⟩
    | @tup p xs ds h1 r1 =>
      refine .inr (.inl ⟨p, xs, rfl, tq o.ext h1, fun w => ?_, fun _ q0 hq => KE.newT q o (r1.cut l h) hq⟩)
      have q' : KE (Cx.sur X E) false A S H (.ok (.tup (cutD ds l h)) g) Q := q
      rw [cutD_whole (by rw [← r1.length]; exact w)] at q'
      exact KE.val q' o (.tup h1 r1)
    | str z =>
      have q' : KE (Cx.sur X E) false A S H ((if fit z.length = true then M.pure (.str (cutS z l h)) else M.bad : M D) g) Q := q
      by_cases hf : fit z.length = true
      · rw [if_pos hf] at q'; exact .inr (.inr ⟨z, rfl, Nat.le_of_lt (fit_le hf), KE.val q' o (.str _)⟩)
      · rw [if_neg hf] at q'; exact q'.elim
    | _ => exact q.elim) h
theorem de_slL (he : DE X E false e fe) (hl : DO X E lo fl) (hh : DO X E hi fh) : DE X E m (.Subscript e (.Slice lo hi none p2) pos) (eSl kSlL fe fl fh) :=
  PE.impD (pe_slice sl_list he hl hh) fun σ H Q h => sl_read (m := m) (fun A S H g x dx l h Q o r q => by
    cases r with
    | @lst p xs ds h1 r1 => exact ⟨p, xs, rfl, .inl (.inl (o.ext _ _ h1)), fun q0 hq => KE.newL q o (r1.cut l h) hq⟩
    | _ => exact q.elim) h
/-! ## in, not in: flat items; data of any depth; texts -/
def D.flat : D → Bool
  | .non => true | .bl _ => true | .int _ => true | .str _ => true
  | _ => false
def eqF : D → D → Bool
  | .non, .non => true
  | .bl a, .bl b => a == b
  | .bl a, .int b => (if a then 1 else 0) == b
  | .int a, .bl b => a == (if b then 1 else 0)
  | .int a, .int b => a == b
  | .str a, .str b => a == b
  | _, _ => false
def inF (x : D) (xs : List D) : Bool := xs.any fun y => eqF y x
def kInF (x : D) (xs : List D) : Option Bool := if D.flat x = true ∧ xs.all D.flat = true then some (inF x xs) else none
def kInP (x : D) (xs : List D) : Option Bool := if D.pyOk x = true ∧ D.pysOk xs = true ∧ SeqAt.shaped (D.py x) = true ∧ SeqAt.shaped (.list (D.pys xs)) = true then some ((D.pys xs).any fun z => PyData.eqv z (D.py x)) else none
def sign1 (a : Str) : Option Nat := match a.cps.toList with
  | [c] => some c
  | _ => none
theorem sign1_eq {a : Str} {c : Nat} (h : sign1 a = some c) : a = ⟨#[c]⟩ := by
  unfold sign1 at h
  split at h
  · rename_i d e
    cases h
    cases a with | mk cps => cases cps with | mk l => cases e; rfl
  · cases h
def inD : D → D → Option Bool
  | x, .lst xs => (match kInF x xs with | some b => some b | none => kInP x xs)
  | x, .tup xs => kInF x xs
  | .str a, .str b => (sign1 a).map fun c => decide (c ∈ b.cps.toList)
  | _, _ => none
def kIn (x y : D) : M D := M.opt ((inD x y).map .bl)
def kNotIn (x y : D) : M D := M.opt ((inD x y).map fun b => .bl !b)
theorem flat_of {K : PySem.W.Frag} {A : List GAdr} {S : Hp} {v : V} {d : D} (r : Rep K A S v d) : flatV v = D.flat d := by cases r <;> rfl
theorem eqF_of {K : PySem.W.Frag} {A : List GAdr} {S : Hp} {v w : V} {d c : D} (r : Rep K A S v d) (r2 : Rep K A S w c) (h : D.flat d = true) (h2 : D.flat c = true) : eqV v w = eqF d c := by
  cases r <;> cases r2 <;> first
    | rfl
    | exact absurd h (by decide)
    | exact absurd h2 (by decide)
    | (simp [D.flat] at h; done)
    | (simp [D.flat] at h2; done)
theorem flats_of {K : PySem.W.Frag} {A : List GAdr} {S : Hp} : ∀ {vs : List V} {ds : List D}, RepL K A S vs ds → vs.all flatV = ds.all D.flat
  | _, _, .nil => rfl
  | _, _, .cons h r => by simp only [List.all_cons, flat_of h, flats_of r]
theorem inF_of {K : PySem.W.Frag} {A : List GAdr} {S : Hp} {w : V} {c : D} (r2 : Rep K A S w c) (h2 : D.flat c = true) : ∀ {vs : List V} {ds : List D}, RepL K A S vs ds → ds.all D.flat = true → inV w vs = inF c ds
  | _, _, .nil, _ => rfl
  | _, _, .cons h r, e => by
    simp only [List.all_cons, Bool.and_eq_true] at e
    have := inF_of r2 h2 r e.2
    unfold inV inF at this ⊢
    simp only [List.any_cons, this, eqF_of h r2 e.1 h2]
theorem in_rd {K : PySem.W.Frag} {A : List GAdr} {S H : Hp} (o : Same S H) {x y : V} {dx dy : D} (r1 : Rep K A S x dx) (r2 : Rep K A S y dy) {b : Bool} (h : inD dx dy = some b) :
    (∃ p xs, y = .ref p ∧ (SqL K H p xs ∨ SqT K H p xs) ∧ flatV x = true ∧ xs.all flatV = true ∧ b = inV x xs) ∨
    (∃ d ds, Dp K H x d ∧ Dp K H y (.list ds) ∧ SeqAt.shaped d = true ∧ SeqAt.shaped (.list ds) = true ∧ b = ds.any fun z => PyData.eqv z d) ∨
    (∃ (c : Nat) (z : Str), x = .str ⟨#[c]⟩ ∧ y = .str z ∧ b = decide (c ∈ z.cps.toList)) := by
  have fl : ∀ {xs : List V} {ds : List D}, RepL K A S xs ds → kInF dx ds = some b → flatV x = true ∧ xs.all flatV = true ∧ b = inV x xs := fun {xs ds} r e => by
    unfold kInF at e
    by_cases c : D.flat dx = true ∧ ds.all D.flat = true
    · rw [if_pos c] at e; cases e
      exact ⟨by rw [flat_of r1]; exact c.1, by rw [flats_of r]; exact c.2, (inF_of r1 c.1 r c.2).symm⟩
    · rw [if_neg c] at e; cases e
  cases r2 with
  | @lst p xs ds h2 r2 =>
    have h' : (match kInF dx ds with | some b => some b | none => kInP dx ds) = some b := by cases r1 <;> exact h
    cases e : kInF dx ds with
    | some b' =>
      rw [e] at h'; cases h'
      exact .inl ⟨p, xs, rfl, .inl (.inl (.inl (o _ _ h2))), fl r2 e⟩
    | none =>
      rw [e] at h'
      have h2' : kInP dx ds = some b := h'
      unfold kInP at h2'
      by_cases c : D.pyOk dx = true ∧ D.pysOk ds = true ∧ SeqAt.shaped (D.py dx) = true ∧ SeqAt.shaped (.list (D.pys ds)) = true
      · rw [if_pos c] at h2'; cases h2'
        exact .inr (.inl ⟨_, _, r1.dp o c.1, .lst (.inl (.inl (o _ _ h2))) (r2.dp o c.2.1), c.2.2.1, c.2.2.2, rfl⟩)
      · rw [if_neg c] at h2'; cases h2'
  | @tup p xs ds h2 r2 =>
    have h' : kInF dx ds = some b := by cases r1 <;> exact h
    exact .inl ⟨p, xs, rfl, .inr (tq o h2), fl r2 h'⟩
  | str z =>
    cases r1 with
    | str a =>
      have h' : ((sign1 a).map fun c => decide (c ∈ z.cps.toList)) = some b := h
      cases e : sign1 a with
      | none => rw [e] at h'; cases h'
      | some c =>
        rw [e] at h'; cases h'
        have := sign1_eq e
        subst this
        exact .inr (.inr ⟨c, z, rfl, rfl, rfl⟩)
    | _ => cases h
  | _ => cases r1 <;> cases h
theorem op_inDD (hu : X.A.units + 65 < cLine) : OpD X E (compareOp .In) false kIn := OpR.imp (OpR.or op_in_seq (OpR.or (op_inD hu) op_in_sign)) fun x y H Q ⟨A, S, g, dx, dy, o, r1, r2, q⟩ => by
  obtain ⟨d, e1, q1⟩ := opt_ok (o := (inD dx dy).map D.bl) q
  cases e2 : inD dx dy with
  | none => rw [e2] at e1; cases e1
  | some b =>
    rw [e2] at e1; cases e1
    rcases in_rd o.ext r1 r2 e2 with ⟨p, xs, h1, h2, h3, h4, h5⟩ | ⟨d, ds, h1, h2, h3, h4, h5⟩ | ⟨c, z, h1, h2, h3⟩
    · subst h5; exact .inl ⟨p, xs, h1, h2, h3, h4, KE.val q1 o (.bl _)⟩
    · subst h5; exact .inr (.inl ⟨d, ds, h1, h2, h3, h4, KE.val q1 o (.bl _)⟩)
    · subst h3; exact .inr (.inr ⟨c, z, h1, h2, KE.val q1 o (.bl _)⟩)
theorem op_notInDD (hu : X.A.units + 65 < cLine) : OpD X E (compareOp .NotIn) false kNotIn := OpR.imp (OpR.or op_notIn_seq (OpR.or (op_notInD hu) op_notIn_sign)) fun x y H Q ⟨A, S, g, dx, dy, o, r1, r2, q⟩ => by
  obtain ⟨d, e1, q1⟩ := opt_ok (o := (inD dx dy).map fun b => D.bl !b) q
  cases e2 : inD dx dy with
  | none => rw [e2] at e1; cases e1
  | some b =>
    rw [e2] at e1; cases e1
    rcases in_rd o.ext r1 r2 e2 with ⟨p, xs, h1, h2, h3, h4, h5⟩ | ⟨d, ds, h1, h2, h3, h4, h5⟩ | ⟨c, z, h1, h2, h3⟩
    · subst h5; exact .inl ⟨p, xs, h1, h2, h3, h4, KE.val q1 o (.bl _)⟩
    · subst h5; exact .inr (.inl ⟨d, ds, h1, h2, h3, h4, KE.val q1 o (.bl _)⟩)
    · subst h3; exact .inr (.inr ⟨c, z, h1, h2, KE.val q1 o (.bl _)⟩)
/-! ## built-in functions, by values -/
def kAbs : List D → M D
  | [.int i] => M.pure (.int (if i < 0 then -i else i))
  | _ => M.bad
theorem CallR.imp {f : Value} {r r' : List V → Hp → VK → Prop} (h : CallR X f r) (i : ∀ xs H Q, r' xs H Q → r xs H Q) : CallR X f r' := fun pins s σ H xs us Q I rr q => h pins s σ H xs us Q I rr (i xs H Q q)
theorem cl_abs : CallD X E (.builtin "abs") false kAbs := CallR.imp call_abs fun xs H Q ⟨A, S, g, ds, o, r, q⟩ => by
  cases r with
  | cons h r =>
    cases h with
    | int i =>
      cases r with
      | nil => exact ⟨i, rfl, KE.val q o (.int _)⟩
      | _ => exact q.elim
    | _ => cases r <;> exact q.elim
  | _ => exact q.elim
def D.len : D → Option Nat
  | .lst xs => some xs.length | .tup xs => some xs.length | .slst xs => some xs.length
  | .str z => if fit z.length = true then some z.length else none
  | .hdl _ => none
  | _ => none
def kLen : List D → M D
  | [d] => M.opt ((D.len d).map fun n => .int (n : Int))
  | _ => M.bad
theorem cl_len : CallD X E (.builtin "len") false kLen := CallR.imp (CallR.or call_len_seq call_len_str) fun xs H Q ⟨A, S, g, ds, o, r, q⟩ => by
  cases r with
  | nil => exact q.elim
  | @cons v d vs ds h r =>
    cases r with
    | cons _ _ => exact q.elim
    | nil =>
      obtain ⟨c, e1, q1⟩ := opt_ok (o := (D.len d).map fun n => D.int (n : Int)) q
      cases h with
      | @lst p ws es h r => cases e1; exact .inl ⟨p, ws, rfl, .inl (.inl (.inl (o.ext _ _ h))), by rw [r.length]; exact KE.val q1 o (.int _)⟩
      | @slst p ws es h r => cases e1; exact .inl ⟨p, ws, rfl, .inl (SqL.mono o.ext h), by rw [r.length]; exact KE.val q1 o (.int _)⟩
      | @tup p ws es h r => cases e1; exact .inl ⟨p, ws, rfl, .inr (tq o.ext h), by rw [r.length]; exact KE.val q1 o (.int _)⟩
      | str z =>
        have e2 : ((if fit z.length = true then some z.length else none : Option Nat).map fun n => D.int (n : Int)) = some c := e1
        by_cases hf : fit z.length = true
        · rw [if_pos hf] at e2; cases e2
          exact .inr ⟨z, rfl, Nat.le_of_lt (fit_le hf), KE.val q1 o (.int _)⟩
        · rw [if_neg hf] at e2; cases e2
      | _ => cases e1
def kMax2 : List D → M D
  | [.int i, .int j] => M.pure (.int (if j > i then j else i))
  | _ => M.bad
def kMin2 : List D → M D
  | [.int i, .int j] => M.pure (.int (if j < i then j else i))
  | _ => M.bad
theorem rep2 {K : PySem.W.Frag} {A : List GAdr} {S : Hp} {xs : List V} {ds : List D} {i j : Int} (r : RepL K A S xs ds) (e : ds = [.int i, .int j]) : xs = [.int i, .int j] := by
  subst e
  cases r with | cons h r => cases r with | cons h2 r => cases r; cases h; cases h2; rfl
theorem cl_max2 (hc : X.calm = true := by rfl) : CallD X E (.builtin "max") false kMax2 := CallR.imp (call_max2 hc) fun xs H Q ⟨A, S, g, ds, o, r, q⟩ => by
  unfold kMax2 at q
  split at q
  · rename_i i j
    exact ⟨i, j, rep2 r rfl, KE.val q o (.int _)⟩
  · exact q.elim
theorem cl_min2 (hc : X.calm = true := by rfl) : CallD X E (.builtin "min") false kMin2 := CallR.imp (call_min2 hc) fun xs H Q ⟨A, S, g, ds, o, r, q⟩ => by
  unfold kMin2 at q
  split at q
  · rename_i i j
    exact ⟨i, j, rep2 r rfl, KE.val q o (.int _)⟩
  · exact q.elim
theorem rep1 {K : PySem.W.Frag} {A : List GAdr} {S : Hp} {xs : List V} {d : D} (r : RepL K A S xs [d]) : ∃ v, xs = [v] ∧ Rep K A S v d := by
  cases r with | cons h r => cases r; exact ⟨_, rfl, h⟩
/-- of one list of ints -/
def kOfInts (f : List Int → M D) : List D → M D
  | [.lst ds] => (match D.ints ds with | some ns => f ns | none => M.bad)
  | _ => M.bad
theorem ofInts {U : Sur} {f : List Int → M D} {A : List GAdr} {S H : Hp} {g : G} {ds : List D} {xs : List V} {Q : VK} (o : Ok U.K A S H g) (r : RepL U.K A S xs ds) (q : KE U m A S H (kOfInts f ds g) Q) :
    ∃ a ns, xs = [.ref a] ∧ SqL U.K H a (ns.map V.int) ∧ KE U m A S H (f ns g) Q := by
  unfold kOfInts at q
  split at q
  · rename_i ds
    obtain ⟨v, rfl, h⟩ := rep1 r
    cases h with
    | @lst a ws _ h r =>
      cases e : D.ints ds with
      | none => rw [e] at q; exact q.elim
      | some ns =>
        rw [e] at q
        have z := ints_rep r e
        subst z
        exact ⟨a, ns, rfl, .inl (.inl (o.ext _ _ h)), q⟩
  · exact q.elim
theorem cl_sum (hc : X.calm = true := by rfl) : CallD X E (.builtin "sum") false (kOfInts fun ns => M.pure (.int ns.sum)) := CallR.imp (cr_sum hc) fun xs H Q ⟨A, S, g, ds, o, r, q⟩ => by
  obtain ⟨a, ns, e, h, q⟩ := ofInts o r q
  exact ⟨a, ns, e, h, KE.val q o (.int _)⟩
def maxI : List Int → Option Int
  | [] => none
  | x :: r => some (r.foldl max x)
def minI : List Int → Option Int
  | [] => none
  | x :: r => some (r.foldl min x)
theorem foldl_max_spec : ∀ (r : List Int) (x : Int), (r.foldl max x = x ∨ r.foldl max x ∈ r) ∧ x ≤ r.foldl max x ∧ ∀ y ∈ r, y ≤ r.foldl max x
  | [], x => ⟨.inl rfl, Int.le_refl _, fun _ h => nomatch h⟩
  | z :: r, x => by
    obtain ⟨h1, h2, h3⟩ := foldl_max_spec r (max x z)
    refine ⟨?_, ?_, fun y hy => ?_⟩
    · rcases h1 with h1 | h1
      · rw [List.foldl_cons, h1]
        rcases Int.le_total x z with e | e
        · rw [Int.max_eq_right e]; exact .inr List.mem_cons_self
        · rw [Int.max_eq_left e]; exact .inl rfl
      · exact .inr (List.mem_cons_of_mem _ h1)
    · exact Int.le_trans (Int.le_max_left _ _) h2
    · rcases List.mem_cons.mp hy with e | e
      · subst e; exact Int.le_trans (Int.le_max_right _ _) h2
      · exact h3 y e
theorem foldl_min_spec : ∀ (r : List Int) (x : Int), (r.foldl min x = x ∨ r.foldl min x ∈ r) ∧ r.foldl min x ≤ x ∧ ∀ y ∈ r, r.foldl min x ≤ y
  | [], x => ⟨.inl rfl, Int.le_refl _, fun _ h => nomatch h⟩
  | z :: r, x => by
    obtain ⟨h1, h2, h3⟩ := foldl_min_spec r (min x z)
    refine ⟨?_, ?_, fun y hy => ?_⟩
    · rcases h1 with h1 | h1
      · rw [List.foldl_cons, h1]
        rcases Int.le_total x z with e | e
        · rw [Int.min_eq_left e]; exact .inl rfl
        · rw [Int.min_eq_right e]; exact .inr List.mem_cons_self
      · exact .inr (List.mem_cons_of_mem _ h1)
    · exact Int.le_trans h2 (Int.min_le_left _ _)
    · rcases List.mem_cons.mp hy with e | e
      · subst e; exact Int.le_trans h2 (Int.min_le_right _ _)
      · exact h3 y e
theorem cl_max (hc : X.calm = true := by rfl) : CallD X E (.builtin "max") false (kOfInts fun ns => M.opt ((maxI ns).map .int)) := CallR.imp (cr_max hc) fun xs H Q ⟨A, S, g, ds, o, r, q⟩ => by
  obtain ⟨a, ns, e, h, q⟩ := ofInts o r q
  cases ns with
  | nil => exact q.elim
  | cons x r =>
    have q' : KE (Cx.sur X E) false A S H (.ok (.int (r.foldl max x)) g) Q := q
    refine ⟨a, x :: r, e, h, Nat.zero_lt_succ _, fun mm hm hle => ?_⟩
    have : mm = r.foldl max x := by
      obtain ⟨h1, h2, h3⟩ := foldl_max_spec r x
      apply Int.le_antisymm
      · rcases List.mem_cons.mp hm with e | e
        · subst e; exact h2
        · exact h3 _ e
      · rcases h1 with h1 | h1
        · rw [h1]; exact hle _ List.mem_cons_self
        · exact hle _ (List.mem_cons_of_mem _ h1)
    subst this
    exact KE.val q' o (.int _)
theorem cl_min (hc : X.calm = true := by rfl) : CallD X E (.builtin "min") false (kOfInts fun ns => M.opt ((minI ns).map .int)) := CallR.imp (cr_min hc) fun xs H Q ⟨A, S, g, ds, o, r, q⟩ => by
  obtain ⟨a, ns, e, h, q⟩ := ofInts o r q
  cases ns with
  | nil => exact q.elim
  | cons x r =>
    have q' : KE (Cx.sur X E) false A S H (.ok (.int (r.foldl min x)) g) Q := q
    refine ⟨a, x :: r, e, h, Nat.zero_lt_succ _, fun mm hm hle => ?_⟩
    have : mm = r.foldl min x := by
      obtain ⟨h1, h2, h3⟩ := foldl_min_spec r x
      apply Int.le_antisymm
      · rcases h1 with h1 | h1
        · rw [h1]; exact hle _ List.mem_cons_self
        · exact hle _ (List.mem_cons_of_mem _ h1)
      · rcases List.mem_cons.mp hm with e | e
        · subst e; exact h2
        · exact h3 _ e
    subst this
    exact KE.val q' o (.int _)
def D.bls : List D → Option (List Bool)
  | [] => some []
  | .bl b :: r => (D.bls r).map (b :: ·)
  | _ => none
theorem bls_rep {K : PySem.W.Frag} {A : List GAdr} {S : Hp} : ∀ {vs : List V} {ds : List D} {ns : List Bool}, RepL K A S vs ds → D.bls ds = some ns → vs = ns.map V.bl
  | _, _, _, .nil, e => by cases e; rfl
  | _, _, _, .cons h r, e => by
    cases h with
    | bl i =>
      unfold D.bls at e
      cases ei : D.bls _ with
      | none => rw [ei] at e; cases e
      | some ms => rw [ei] at e; cases e; rw [bls_rep r ei]; rfl
    | _ => cases e
def kOfBls (f : List Bool → M D) : List D → M D
  | [.lst ds] => (match D.bls ds with | some ns => f ns | none => M.bad)
  | _ => M.bad
theorem ofBls {U : Sur} {f : List Bool → M D} {A : List GAdr} {S H : Hp} {g : G} {ds : List D} {xs : List V} {Q : VK} (o : Ok U.K A S H g) (r : RepL U.K A S xs ds) (q : KE U m A S H (kOfBls f ds g) Q) :
    ∃ a ns, xs = [.ref a] ∧ SqL U.K H a (ns.map V.bl) ∧ KE U m A S H (f ns g) Q := by
  unfold kOfBls at q
  split at q
  · rename_i ds
    obtain ⟨v, rfl, h⟩ := rep1 r
    cases h with
    | @lst a ws _ h r =>
      cases e : D.bls ds with
      | none => rw [e] at q; exact q.elim
      | some ns =>
        rw [e] at q
        have z := bls_rep r e
        subst z
        exact ⟨a, ns, rfl, .inl (.inl (o.ext _ _ h)), q⟩
  · exact q.elim
theorem cl_all (hc : X.calm = true := by rfl) : CallD X E (.builtin "all") false (kOfBls fun bs => M.pure (.bl (bs.all id))) := CallR.imp (cr_all hc) fun xs H Q ⟨A, S, g, ds, o, r, q⟩ => by
  obtain ⟨a, ns, e, h, q⟩ := ofBls o r q
  exact ⟨a, ns, e, h, KE.val q o (.bl _)⟩
theorem cl_any (hc : X.calm = true := by rfl) : CallD X E (.builtin "any") false (kOfBls fun bs => M.pure (.bl (bs.any id))) := CallR.imp (cr_any hc) fun xs H Q ⟨A, S, g, ds, o, r, q⟩ => by
  obtain ⟨a, ns, e, h, q⟩ := ofBls o r q
  exact ⟨a, ns, e, h, KE.val q o (.bl _)⟩
def kList : List D → M D
  | [.lst xs] => M.pure (.lst xs)
  | [.tup xs] => M.pure (.lst xs)
  | [.slst xs] => M.pure (.lst xs)
  | _ => M.bad
theorem cl_list : CallD X E (.type "list") m kList := CallR.imp call_list_of fun xs H Q ⟨A, S, g, ds, o, r, q⟩ => by
  unfold kList at q
  split at q
  · obtain ⟨v, rfl, h⟩ := rep1 r
    cases h with
    | @lst a ws _ h r => exact ⟨a, ws, rfl, .inl (.inl (.inl (o.ext _ _ h))), fun l hl => KE.newL q o r hl⟩
  · obtain ⟨v, rfl, h⟩ := rep1 r
    cases h with
    | @tup a ws _ h r => exact ⟨a, ws, rfl, .inr (tq o.ext h), fun l hl => KE.newL q o r hl⟩
  · obtain ⟨v, rfl, h⟩ := rep1 r
    cases h with
    | @slst a ws _ h r => exact ⟨a, ws, rfl, .inl (SqL.mono o.ext h), fun l hl => KE.newL q o r hl⟩
  · exact q.elim
def kTuple : List D → M D
  | [.lst xs] => M.pure (.tup xs)
  | [.tup xs] => M.pure (.tup xs)
  | _ => M.bad
theorem cl_tuple : CallD X E (.type "tuple") false kTuple := CallR.imp call_tuple_of fun xs H Q ⟨A, S, g, ds, o, r, q⟩ => by
  unfold kTuple at q
  split at q
  · obtain ⟨v, rfl, h⟩ := rep1 r
    cases h with
    | @lst a ws _ h r => exact ⟨a, ws, rfl, .inl ⟨.inl (.inl (o.ext _ _ h)), fun l hl => KE.newT q o r hl⟩⟩
  · obtain ⟨v, rfl, h⟩ := rep1 r
    cases h with
    | @tup a ws _ h r => exact ⟨a, ws, rfl, .inr ⟨tq o.ext h, KE.val q o (.tup h r)⟩⟩
  · exact q.elim
def kInt : List D → M D
  | [.int i] => M.pure (.int i)
  | [.bl k] => M.pure (.int (if k then 1 else 0))
  | _ => M.bad
theorem cl_int : CallD X E (.type "int") false kInt := CallR.imp call_int1 fun xs H Q ⟨A, S, g, ds, o, r, q⟩ => by
  unfold kInt at q
  split at q
  · obtain ⟨v, rfl, h⟩ := rep1 r
    cases h with
    | int i => exact .inl ⟨_, rfl, KE.val q o (.int _)⟩
  · obtain ⟨v, rfl, h⟩ := rep1 r
    cases h with
    | bl k => exact .inr ⟨_, rfl, KE.val q o (.int _)⟩
  · exact q.elim
/-! ## isinstance with built-in types -/
def D.ty : D → String
  | .non => "NoneType" | .bl _ => "bool" | .int _ => "int" | .str _ => "str"
  | .tup _ => "tuple" | .lst _ => "list" | .slst _ => "list" | .dT _ => "dict" | .dK _ => "dict" | .hdl _ => "?"
def isTy (t n : String) : Bool := t == n || (t == "bool" && n == "int")
def kIsi (ns : List String) : D → M D
  | .hdl _ => M.bad
  | d => M.pure (.bl (ns.any (isTy (D.ty d))))
theorem Rep.tyx {K : PySem.W.Frag} {A : List GAdr} {S H : Hp} (o : Same S H) {v : V} {d : D} (r : Rep K A S v d) (hn : ∀ k, d ≠ .hdl k) : TyX K H v (.type (D.ty d)) := by
  cases r with
  | non => exact .base .non
  | bl b => exact .base (.bl b)
  | int i => exact .base (.int i)
  | str x => exact .base (.str x)
  | tup h r =>
    exact .base (.tup (o _ _ h))
  | lst h r => exact .base (.lst (o _ _ h))
  | slst h r =>
    rcases h with (h | ⟨u, h⟩) | ⟨ob, its, n, hk, hc, _⟩
    · exact .base (.lst (o _ _ h))
    · exact .base (.frz (o _ _ h))
    · exact .kList hk hc
  | dT h r => exact .base (.dT (o _ _ h))
  | dK h r => exact .base (.dK (o _ _ h))
  | @hdl k _ h => exact absurd rfl (hn k)
def tyNames : List String := ["NoneType", "bool", "int", "str", "tuple", "list", "dict"]
def clNames : List String := ["int", "bool", "str", "list", "tuple"]
theorem kit_one (K : PySem.W.Frag) : ∀ t ∈ tyNames, ∀ n ∈ clNames, PySem.W.kitOne K (.type t) (.type n) = some (isTy t n) := by
  intro t ht n hn
  simp only [tyNames, clNames, List.mem_cons, List.not_mem_nil, or_false] at ht hn
  rcases ht with rfl | rfl | rfl | rfl | rfl | rfl | rfl <;> rcases hn with rfl | rfl | rfl | rfl | rfl <;> rfl
end
end NS
namespace NS
open PySem PySem.Spec PyProof.Rows L2
section
variable {X : Cx} {E : XK} {m : Bool} {pos : Pos} {tg e : Expr} {fe : DS → M D}
theorem dit_list {K : PySem.W.Frag} {A : List GAdr} {S : Hp} {a : Addr} {xs : List V} {ds : List D} (r : RepL K A S xs ds) (h : SqL K S a xs) : DIt K A S (Itl K a) ds := by
  have w := walk_list (K := K) (a := a) (xs := xs)
  refine ⟨fun i H hi e => w.goes i H (by rw [r.length]; exact hi) (SqL.mono e h), fun i H hi e => ⟨xs, SqL.mono e h, by rw [r.length]; exact hi⟩, fun i H x H' hi e y => ?_⟩
  obtain ⟨e1, e2⟩ := w.yields i H x H' (by rw [r.length]; exact hi) (SqL.mono e h) y
  obtain ⟨d, e3, rr⟩ := r.get e2
  exact ⟨d, e3, .inl ⟨e1, rr⟩⟩
theorem dit_tup {K : PySem.W.Frag} {A : List GAdr} {S : Hp} {a : Addr} {xs : List V} {ds : List D} (r : RepL K A S xs ds) (h : SqT K S a xs) : DIt K A S (Itt K a) ds := by
  have w := walk_tup (K := K) (a := a) (xs := xs)
  refine ⟨fun i H hi e => w.goes i H (by rw [r.length]; exact hi) (SqT.mono e h), fun i H hi e => ⟨xs, SqT.mono e h, by rw [r.length]; exact hi⟩, fun i H x H' hi e y => ?_⟩
  obtain ⟨e1, e2⟩ := w.yields i H x H' (by rw [r.length]; exact hi) (SqT.mono e h) y
  obtain ⟨d, e3, rr⟩ := r.get e2
  exact ⟨d, e3, .inl ⟨e1, rr⟩⟩
theorem PI.or {t t' : TI} (h : PI X tg e t) (h' : PI X tg e t') : PI X tg e (fun σ H R => t σ H R ∨ t' σ H R) := ⟨fun pins s σ H R I q => q.elim (h.run pins s σ H R I) (h'.run pins s σ H R I)⟩
def itD : D → M (List D)
  | .lst xs => M.pure xs
  | .slst xs => M.pure xs
  | .tup xs => M.pure xs
  | _ => M.bad
def iSeq (f : DS → M D) : DS → M (List D) := fun σ => M.bind (f σ) itD
theorem KI.now {U : Sur} {A : List GAdr} {S H : Hp} {ds : List D} {g : G} {R : It → Hp → Prop} (h : KI U A S H (.ok ds g) R) (o : Ok U.K A S H g) {J : It} (d : DIt U.K A S J ds) : R J H := h A S H J (Post.refl _ _ _) o d
/-- over a list or a tuple -/
theorem di_seq (he : DE X E false e fe) : DI X E tg e (iSeq fe) :=
  PI.impD (PI.or (pi_list he) (pi_tup he)) fun σ H R ⟨A, S, g, σd, o, r, q⟩ => by
    have q' : KI (Cx.sur X E) A S H (M.bind (fe σd) itD g) R := q
    cases e1 : fe σd g with
    | bad => rw [bind_bad e1] at q'; exact q'.elim
    | err x g' =>
      rw [bind_err e1] at q'
      refine .inl ⟨A, S, g, σd, o, r, ?_⟩
      rw [e1]
      exact q'
    | ok d g1 =>
      rw [bind_ok e1] at q'
      cases d with
      | lst ds =>
        refine .inl ⟨A, S, g, σd, o, r, ?_⟩
        rw [e1]
        intro A' S' H' v p o' rv
        cases rv with
        | @lst a xs _ h rr => exact ⟨a, rfl, ⟨xs, .inl (.inl (o'.ext _ _ h))⟩, KI.now (q'.shift p) o' (dit_list rr (.inl (.inl h)))⟩
      | slst ds =>
        refine .inl ⟨A, S, g, σd, o, r, ?_⟩
        rw [e1]
        intro A' S' H' v p o' rv
        cases rv with
        | @slst a xs _ h rr => exact ⟨a, rfl, ⟨xs, SqL.mono o'.ext h⟩, KI.now (q'.shift p) o' (dit_list rr h)⟩
      | tup ds =>
        refine .inr ⟨A, S, g, σd, o, r, ?_⟩
        rw [e1]
        intro A' S' H' v p o' rv
        cases rv with
        | @tup a xs _ h rr => exact ⟨a, rfl, ⟨xs, tq o'.ext h⟩, KI.now (q'.shift p) o' (dit_tup rr (.inl (.inl h)))⟩
      | _ => exact q'.elim
/-! ## range -/
def rngD (i j : Int) : List D := (List.range (j - i).toNat).map fun k => .int (i + (k : Nat))
def inR (i : Int) : Bool := decide (-(2 ^ 62) ≤ i) && decide (i < 2 ^ 62)
theorem inR_iff {i : Int} : inR i = true ↔ -(2 ^ 62) ≤ i ∧ i < 2 ^ 62 := by simp [inR]
def rng1 : List D → M (List D)
  | [.int j] => if inR j = true then M.pure (rngD 0 j) else M.bad
  | _ => M.bad
def rng2 : List D → M (List D)
  | [.int i, .int j] => if inR i = true ∧ inR j = true then M.pure (rngD i j) else M.bad
  | _ => M.bad
def iArgs (k : List D → M (List D)) (fl : DS → M (List D)) : DS → M (List D) := fun σ => M.bind (fl σ) k
theorem dit_rng {K : PySem.W.Frag} {A : List GAdr} {S : Hp} {lo hi : Int} {n : Nat} (hn : (hi - lo).toNat = n) : DIt K A S (Itr lo n) (rngD lo hi) := by
  have hl : (rngD lo hi).length = n := by simp [rngD, hn]
  refine ⟨fun i H h _ => by rw [hl] at h; exact h, fun i H h _ => by rw [hl] at h; exact h, fun i H x H' h _ y => ?_⟩
  obtain ⟨e1, e2⟩ := y
  subst e2
  refine ⟨.int (lo + (i : Nat)), ?_, .inl ⟨e1, .int _⟩⟩
  rw [hl] at h
  simp [rngD, hn, h]
variable {a b : Expr} {fl : DS → M (List D)} {p : Pos}
theorem di_range1 (hm : X.mg "range" = none) (ha : DL X E [a] fl) (hg : Gl X "range" := by rfl) (hs : starEach [a] X.env = [(false, eval a X.env)] := by rfl) : DI X E tg (.Call (.Name "range" p) [a] [] pos) (iArgs rng1 fl) :=
  PI.impD (pi_range1 hg hm ha hs) fun σ H R ⟨A, S, g, σd, o, r, q⟩ => ⟨A, S, g, σd, o, r, (KI.bindL q).imp fun vs H1 ⟨A1, S1, g1, ds, p1, o1, r1, q1⟩ => by
    unfold rng1 at q1
    split at q1
    · rename_i j
      obtain ⟨v, rfl, h⟩ := rep1 r1
      cases h
      by_cases c : inR j = true
      · rw [if_pos c] at q1
        have := inR_iff.mp c
        exact ⟨j, rfl, this.1, this.2, KI.now q1 o1 (dit_rng (by omega))⟩
      · rw [if_neg c] at q1; exact q1.elim
    · exact q1.elim⟩
theorem di_range2 (hm : X.mg "range" = none) (ha : DL X E [a, b] fl) (hg : Gl X "range" := by rfl) (hs : starEach [a, b] X.env = [(false, eval a X.env), (false, eval b X.env)] := by rfl) (hs2 : starEach [b] X.env = [(false, eval b X.env)] := by rfl) : DI X E tg (.Call (.Name "range" p) [a, b] [] pos) (iArgs rng2 fl) :=
  PI.impD (pi_range2 hg hm ha hs hs2) fun σ H R ⟨A, S, g, σd, o, r, q⟩ => ⟨A, S, g, σd, o, r, (KI.bindL q).imp fun vs H1 ⟨A1, S1, g1, ds, p1, o1, r1, q1⟩ => by
    unfold rng2 at q1
    split at q1
    · rename_i i j
      have e := rep2 r1 rfl
      subst e
      by_cases c : inR i = true ∧ inR j = true
      · rw [if_pos c] at q1
        have h1 := inR_iff.mp c.1
        have h2 := inR_iff.mp c.2
        exact ⟨i, j, rfl, ⟨h1.1, h1.2, h2.1, h2.2⟩, KI.now q1 o1 (dit_rng rfl)⟩
      · rw [if_neg c] at q1; exact q1.elim
    · exact q1.elim⟩
/-! ## tuple(range(..)), list(range(..)) -/
def PRD (X : Cx) (E : XK) (e : Expr) (f : DS → M (Int × Int)) : Prop := PRg X e fun σ H Q => ∃ A S g σd, Ok X.K A S H g ∧ SRep X.K A S H σ σd ∧ match f σd g with
  | .ok (i, j) g' => ∀ A' S' H', Post A S H A' S' H' → Ok X.K A' S' H' g' → Q i j H'
  | .err x g' => ∀ A' S' H' c dd, Post A S H A' S' H' → Ok X.K A' S' H' g' → XRep X.mg X.K A' S' H' x c dd → E c dd H'
  | .bad => False
def asI : D → M Int
  | .int i => M.pure i
  | _ => M.bad
def r1D (fa : DS → M D) : DS → M (Int × Int) := fun σ => M.bind (M.bind (fa σ) asI) fun j => M.pure (0, j)
def r2D (fa fb : DS → M D) : DS → M (Int × Int) := fun σ => M.bind (fa σ) fun x => M.bind (fb σ) fun y => M.bind (asI x) fun i => M.bind (asI y) fun j => M.pure (i, j)
variable {fa fb : DS → M D}
theorem dr_1 (hm : X.mg "range" = none) (ha : DE X E false a fa) (hg : Gl X "range" := by rfl) (na : starEach [a] X.env = (false, eval a X.env) :: starEach [] X.env := by rfl) : PRD X E (.Call (.Name "range" p) [a] [] pos) (r1D fa) :=
  fun pins s σ H Q I ⟨A, S, g, σd, o, r, q⟩ => prg_1 hg hm ha na pins s σ H Q I ⟨A, S, g, σd, o, r, by
    unfold r1D at q
    cases e1 : fa σd g with
    | bad => rw [bind_bad (bind_bad e1)] at q; exact q.elim
    | err x g' => rw [bind_err (bind_err e1)] at q; exact q
    | ok d g1 =>
      intro A' S' H' v p' o' rv
      cases rv with
      | int j =>
        have e2 : M.bind (fa σd) asI g = .ok j g1 := by rw [bind_ok e1]; rfl
        rw [bind_ok e2] at q
        exact ⟨j, rfl, q A' S' H' p' o'⟩
      | _ =>
        rw [bind_bad (show M.bind (fa σd) asI g = .bad by rw [bind_ok e1]; rfl)] at q
        exact q.elim⟩
theorem dr_2 (hm : X.mg "range" = none) (ha : DE X E false a fa) (hb : DE X E false b fb) (hg : Gl X "range" := by rfl) (na : starEach [a, b] X.env = (false, eval a X.env) :: starEach [b] X.env := by rfl)
    (nb : starEach [b] X.env = (false, eval b X.env) :: starEach [] X.env := by rfl) (hp : (backTo pos (starEach [b] X.env)).any (·.1) = false := by rfl) : PRD X E (.Call (.Name "range" p) [a, b] [] pos) (r2D fa fb) :=
  fun pins s σ H Q I ⟨A, S, g, σd, o, r, q⟩ => prg_2 hg hm ha hb na nb hp pins s σ H Q I ⟨A, S, g, σd, o, r, by
    unfold r2D at q
    cases e1 : fa σd g with
    | bad => rw [bind_bad e1] at q; exact q.elim
    | err x g' => rw [bind_err e1] at q; exact q
    | ok d g1 =>
      rw [bind_ok e1] at q
      intro A1 S1 H1 v p1 o1 r1
      refine ⟨A1, S1, g1, σd, o1, r.post p1, ?_⟩
      cases e2 : fb σd g1 with
      | bad => rw [bind_bad e2] at q; exact q.elim
      | err x g' => rw [bind_err e2] at q; exact fun A' S' H' c dd p o x => q A' S' H' c dd (p1.trans p) o x
      | ok d2 g2 =>
        rw [bind_ok e2] at q
        intro A2 S2 H2 w p2 o2 r2
        cases r1 with
        | int i =>
          cases r2 with
          | int j => exact ⟨i, j, rfl, rfl, q A2 S2 H2 (p1.trans p2) o2⟩
          | _ => exact q.elim
        | _ => exact q.elim⟩
def rgOk (i j : Int) : Bool := inR i && inR j && decide ((j - i).toNat < 1000000)
def eLRg (f : DS → M (Int × Int)) : DS → M D := fun σ => M.bind (f σ) fun p => if rgOk p.1 p.2 = true then M.pure (.lst (rngD p.1 p.2)) else M.bad
def eTRg (f : DS → M (Int × Int)) : DS → M D := fun σ => M.bind (f σ) fun p => if rgOk p.1 p.2 = true then M.pure (.tup (rngD p.1 p.2)) else M.bad
theorem rgOk_of {i j : Int} (h : rgOk i j = true) : RgOk i j := by
  unfold rgOk at h
  simp only [Bool.and_eq_true, decide_eq_true_eq] at h
  have h1 := inR_iff.mp h.1.1
  have h2 := inR_iff.mp h.1.2
  exact ⟨h1.1, h1.2, h2.1, h2.2, by omega⟩
theorem rng_rep {K : PySem.W.Frag} {A : List GAdr} {S : Hp} (i j : Int) : RepL K A S (rgV i j) (rngD i j) := by
  unfold rgV rngD
  generalize List.range (j - i).toNat = l
  induction l with
  | nil => exact .nil
  | cons x l ih => exact .cons (.int _) ih
variable {fr : DS → M (Int × Int)}
theorem de_listRg (hm : X.mg "list" = none) (he : PRD X E e fr) (hc : X.calm = true := by rfl) (hg : Gl X "list" := by rfl) (na : starEach [e] X.env = (false, eval e X.env) :: starEach [] X.env := by rfl) : DE X E m (.Call (.Name "list" p) [e] [] pos) (eLRg fr) :=
  PE.impD (pe_listRg hc hg hm he na) fun σ H Q ⟨A, S, g, σd, o, r, q⟩ => ⟨A, S, g, σd, o, r, by
    unfold eLRg at q
    cases e1 : fr σd g with
    | bad => rw [bind_bad e1] at q; exact q.elim
    | err x g' => rw [bind_err e1] at q; exact q
    | ok d g1 =>
      rw [bind_ok e1] at q
      obtain ⟨i, j⟩ := d
      intro A1 S1 H1 p1 o1
      by_cases c : rgOk i j = true
      · rw [if_pos c] at q
        exact ⟨rgOk_of c, fun l hl => KE.newL (KE.shift p1 q) o1 (rng_rep i j) hl⟩
      · rw [if_neg c] at q; exact q.elim⟩
theorem de_tupRg (hm : X.mg "tuple" = none) (he : PRD X E e fr) (hc : X.calm = true := by rfl) (hg : Gl X "tuple" := by rfl) (na : starEach [e] X.env = (false, eval e X.env) :: starEach [] X.env := by rfl) : DE X E false (.Call (.Name "tuple" p) [e] [] pos) (eTRg fr) :=
  PE.impD (pe_tupRg hc hg hm he na) fun σ H Q ⟨A, S, g, σd, o, r, q⟩ => ⟨A, S, g, σd, o, r, by
    unfold eTRg at q
    cases e1 : fr σd g with
    | bad => rw [bind_bad e1] at q; exact q.elim
    | err x g' => rw [bind_err e1] at q; exact q
    | ok d g1 =>
      rw [bind_ok e1] at q
      obtain ⟨i, j⟩ := d
      intro A1 S1 H1 p1 o1
      by_cases c : rgOk i j = true
      · rw [if_pos c] at q
        exact ⟨rgOk_of c, fun l hl => KE.newT (KE.shift p1 q) o1 (rng_rep i j) hl⟩
      · rw [if_neg c] at q; exact q.elim⟩
/-! ## zip of lists -/
def zipD (xs ys : List D) : List D := (xs.zip ys).map fun p => .tup [p.1, p.2]
def seqOf : D → Option (List D)
  | .lst xs => some xs
  | _ => none
def iZipK : List D → M (List D)
  | [x, y] => (match seqOf x, seqOf y with | some xs, some ys => M.pure (zipD xs ys) | _, _ => M.bad)
  | _ => M.bad
end
/-! ## isinstance -/
section
variable {X : Cx} {E : XK} {pos p p1 p2 p3 : Pos} {e : Expr} {fe : DS → M D}
def eIsi (ns : List String) (fe : DS → M D) : DS → M D := fun σ => M.bind (fe σ) (kIsi ns)
theorem kIsi_or (ns : List String) (d : D) (g : G) : kIsi ns d g = .bad ∨ ((∀ k, d ≠ .hdl k) ∧ kIsi ns d g = .ok (.bl (ns.any (isTy (D.ty d)))) g) := by
  cases d <;> first
    | exact .inl rfl
    | exact .inr ⟨fun k z => D.noConfusion z, rfl⟩
theorem ty_in (d : D) (h : ∀ k, d ≠ .hdl k) : D.ty d ∈ tyNames := by
  cases d <;> first
    | exact absurd rfl (h _)
    | (simp [D.ty, tyNames])
theorem de_isi {T : Str} {n : String} (hm : X.mg "isinstance" = none) (hT : X.mg T = none) (he : DE X E false e fe) (hn : n ∈ clNames := by decide) (hv : bootBuiltins T = some (.type n) := by decide +kernel) (hgT : Gl X T := by rfl) (hg : Gl X "isinstance" := by rfl)
    (n1 : T ≠ "__name__" := by decide) (n2 : (T == ("__debug__" : Str)) = false := by decide)
    (hs : starEach [e, .Name T p1] X.env = (false, eval e X.env) :: starEach [.Name T p1] X.env := by rfl) (hs2 : starEach [.Name T p1] X.env = (false, eval (.Name T p1) X.env) :: starEach [] X.env := by rfl)
    (hpl : (backTo pos (starEach [.Name T p1] X.env)).any (·.1) = false := by rfl) : DE X E false (.Call (.Name "isinstance" p) [e, .Name T p1] [] pos) (eIsi [n] fe) :=
  PE.impD (pe_callB call_isi hg hm (by decide +kernel) (pa_cons he (pa_cons (pe_bltn (v := .ty n) hgT hT hv rfl n1 n2) pa_nil hs2) hs) (by decide) (by decide) hs hpl) fun σ H Q ⟨A, S, g, σd, o, r, q⟩ => ⟨A, S, g, σd, o, r, (KE.bindE q).imp fun v H1 ⟨A1, S1, g1, d, p1, o1, r1, q1⟩ => by
    rcases kIsi_or [n] d g1 with h | ⟨h, h2⟩
    · rw [h] at q1; exact q1.elim
    · rw [h2] at q1
      have hk := kit_one X.K _ (ty_in d h) n hn
      exact ⟨v, .ty n, _, _, _, rfl, .ty n, Rep.tyx o1.ext r1 h, hk, by simpa using KE.val q1 o1 (.bl _)⟩⟩
theorem kit_any2 (K : PySem.W.Frag) (t n1 n2 : String) (h1 : t ∈ tyNames) (h2 : n1 ∈ clNames) (h3 : n2 ∈ clNames) : PySem.W.kitAny K (.type t) [.type n1, .type n2] = some ([n1, n2].any (isTy t)) := by
  unfold PySem.W.kitAny PySem.W.kitAny PySem.W.kitAny
  rw [kit_one K t h1 n1 h2, kit_one K t h1 n2 h3]
  simp only [List.any_cons, List.any_nil, Bool.or_false]
  cases isTy t n1 <;> cases isTy t n2 <;> rfl
theorem de_isi2 {T1 T2 : Str} {n1 n2 : String} {kt : Nat} (hm : X.mg "isinstance" = none) (hT1 : X.mg T1 = none) (hT2 : X.mg T2 = none) (he : DE X E false e fe) (hn1 : n1 ∈ clNames := by decide) (hn2 : n2 ∈ clNames := by decide) (hv1 : bootBuiltins T1 = some (.type n1) := by decide +kernel) (hv2 : bootBuiltins T2 = some (.type n2) := by decide +kernel)
    (hgT1 : Gl X T1 := by rfl) (hgT2 : Gl X T2 := by rfl) (hg : Gl X "isinstance" := by rfl)
    (a1 : T1 ≠ "__name__" := by decide) (a2 : (T1 == ("__debug__" : Str)) = false := by decide) (b1 : T2 ≠ "__name__" := by decide) (b2 : (T2 == ("__debug__" : Str)) = false := by decide)
    (hs : starEach [e, .Tuple [.Name T1 p1, .Name T2 p2] kt p3] X.env = (false, eval e X.env) :: starEach [.Tuple [.Name T1 p1, .Name T2 p2] kt p3] X.env := by rfl) (hs2 : starEach [.Tuple [.Name T1 p1, .Name T2 p2] kt p3] X.env = (false, eval (.Tuple [.Name T1 p1, .Name T2 p2] kt p3) X.env) :: starEach [] X.env := by rfl)
    (hs3 : starEach [.Name T1 p1, .Name T2 p2] X.env = (false, eval (.Name T1 p1) X.env) :: starEach [.Name T2 p2] X.env := by rfl) (hs4 : starEach [.Name T2 p2] X.env = (false, eval (.Name T2 p2) X.env) :: starEach [] X.env := by rfl)
    (hpl : (backTo pos (starEach [.Tuple [.Name T1 p1, .Name T2 p2] kt p3] X.env)).any (·.1) = false := by rfl) : DE X E false (.Call (.Name "isinstance" p) [e, .Tuple [.Name T1 p1, .Name T2 p2] kt p3] [] pos) (eIsi [n1, n2] fe) :=
  PE.impD (pe_callB call_isiT hg hm (by decide +kernel) (pa_cons he (pa_cons (pe_tup (pa_cons (pe_bltn (v := .ty n1) hgT1 hT1 hv1 rfl a1 a2) (pa_cons (pe_bltn (v := .ty n2) hgT2 hT2 hv2 rfl b1 b2) pa_nil hs4) hs3)) pa_nil hs2) hs) (by decide) (by decide) hs hpl) fun σ H Q ⟨A, S, g, σd, o, r, q⟩ => ⟨A, S, g, σd, o, r, (KE.bindE q).imp fun v H1 ⟨A1, S1, g1, d, p1, o1, r1, q1⟩ => by
    refine ⟨by show 2 ≤ sizeLine; decide, fun tp htp => ?_⟩
    have P := Post.lay (A := A1) (o := .tup [.ty n1, .ty n2]) htp o1.ext
    have o2 := o1.lay (o := .tup [.ty n1, .ty n2]) htp
    rcases kIsi_or [n1, n2] d g1 with h | ⟨h, h2⟩
    · rw [h] at q1; exact q1.elim
    · rw [h2] at q1
      have hk := kit_any2 X.K _ n1 n2 (ty_in d h) hn1 hn2
      exact ⟨v, tp, _, _, _, _, rfl, upd_same, .cons (.ty n1) (.cons (.ty n2) .nil), Rep.tyx o2.ext (Rep.mono P.a P.s r1) h, hk, KE.val (KE.shift P q1) o2 (.bl _)⟩⟩
end
end NS
namespace NS
open PySem PySem.Spec PyProof.Rows L2
/-! ## things handed around: changed, made -/
theorem gfp_sep : ∀ {A : List GAdr}, (gfp A).Nodup → ∀ {k k' : Nat} {ga ga' : GAdr} {x : Addr}, A[k]? = some ga → A[k']? = some ga' → k ≠ k' → x ∈ ga.fp → x ∉ ga'.fp
  | [], _, _, _, _, _, _, e, _, _, _ => by simp at e
  | b :: A, h, k, k', ga, ga', x, e, e', ne, hx => by
    have h1 : (b.fp ++ gfp A).Nodup := h
    obtain ⟨n1, n2, n3⟩ := List.nodup_append.mp h1
    cases k with
    | zero =>
      cases k' with
      | zero => exact absurd rfl ne
      | succ k' =>
        have ea : b = ga := by simpa using e
        subst ea
        have e2 : A[k']? = some ga' := by simpa using e'
        intro hx'
        exact n3 x hx x (List.mem_flatMap.mpr ⟨ga', List.mem_of_getElem? e2, hx'⟩) rfl
    | succ k =>
      have e1 : A[k]? = some ga := by simpa using e
      cases k' with
      | zero =>
        have ea : b = ga' := by simpa using e'
        subst ea
        intro hx'
        exact n3 x hx' x (List.mem_flatMap.mpr ⟨ga, List.mem_of_getElem? e1, hx⟩) rfl
      | succ k' =>
        have e2 : A[k']? = some ga' := by simpa using e'
        exact gfp_sep n2 e1 e2 (fun z => ne (by rw [z])) hx
section
variable {K : PySem.W.Frag} {A : List GAdr} {S H : Hp} {g : G}
theorem Ok.setSrc (o : Ok K A S H g) {k : Nat} {a : Addr} {x y z x' y' z' : Int} (e : A[k]? = some (.src a)) (eg : g[k]? = some (.src x y z)) : Ok K A S (upd H a (.lst [.int x', .int y', .int z'])) (g.set k (.src x' y' z')) := by
  have ha : a ∈ gfp A := List.mem_flatMap.mpr ⟨_, List.mem_of_getElem? e, by simp [GAdr.fp]⟩
  have sa := o.out a ha
  refine ⟨fun b u eb => by rw [upd_ne (ne_of_none eb sa)]; exact o.ext _ _ eb, by simp [o.len], fun j ga c e1 e2 => ?_, o.nd, o.out⟩
  rcases set_get e2 with ⟨rfl, z, _⟩ | ⟨ne, e2⟩
  · rw [e] at e1; cases e1; subst z; exact upd_same
  · refine (o.cel j ga c e1 e2).mono (List.prefix_refl _) (Same.refl _) fun b hb => upd_ne ?_
    rintro rfl
    exact gfp_sep o.nd e e1 ne (by simp [GAdr.fp]) hb
theorem Post.cell {A0 : List GAdr} {S0 H0 : Hp} {a : Addr} {o : HO} (p : Post A0 S0 H0 A S H) (ha : a ∈ gfp A) : Post A0 S0 H0 A S (upd H a o) where
  a := p.a
  s := p.s
  snew := p.snew
  keep := fun x u h n => by
    have ne : x ≠ a := by
      rintro rfl
      rcases p.anew x ha with z | z
      · exact n z
      · rw [h] at z; cases z
    rw [upd_ne ne]; exact p.keep x u h n
  dom := fun x u h => by
    by_cases e : x = a
    · subst e; exact ⟨_, upd_same⟩
    · obtain ⟨v, hv⟩ := p.dom x u h; exact ⟨v, by rw [upd_ne e]; exact hv⟩
  anew := p.anew
theorem Stt.setSrc {e0 : En} {σd : DS} {σ : L2.St} (s : Stt K e0 A S g σd σ H) {k : Nat} {a : Addr} {x y z x' y' z' : Int} (e : A[k]? = some (.src a)) (eg : g[k]? = some (.src x y z)) :
    Stt K e0 A S (g.set k (.src x' y' z')) σd σ (upd H a (.lst [.int x', .int y', .int z'])) := by
  have ha : a ∈ gfp A := List.mem_flatMap.mpr ⟨_, List.mem_of_getElem? e, by simp [GAdr.fp]⟩
  refine ⟨s.ok.setSrc e eg, s.rep.loose (s.ok.out a ha) fun j d ed es => ?_, s.post.cell ha, s.own⟩
  obtain ⟨p, e1, _, e3, _⟩ := s.rep.ow ed
  rw [es] at e1; cases e1
  exact e3 ha
/-- a new source -/
theorem Ok.newSrc (o : Ok K A S H g) {p : Addr} {x y z : Int} (hp : S p = none) (hg : p ∉ gfp A) (hH : H p = some (.lst [.int x, .int y, .int z])) : Ok K (A ++ [.src p]) S H (g ++ [.src x y z]) := by
  refine ⟨o.ext, by simp [o.len], fun k ga c e1 e2 => ?_, ?_, fun b hb => ?_⟩
  · by_cases h : k < A.length
    · rw [List.getElem?_append_left h] at e1
      rw [List.getElem?_append_left (by rw [← o.len]; exact h)] at e2
      exact (o.cel k ga c e1 e2).mono (List.prefix_append _ _) (Same.refl _) fun _ _ => rfl
    · rw [List.getElem?_append_right (Nat.le_of_not_lt h)] at e1
      rw [List.getElem?_append_right (by rw [← o.len]; exact Nat.le_of_not_lt h)] at e2
      rw [← o.len] at e2
      cases q : k - A.length with
      | zero =>
        rw [q] at e1 e2
        cases e1; cases e2
        exact hH
      | succ n => rw [q] at e1; simp at e1
  · rw [gfp_append]
    refine List.nodup_append.mpr ⟨o.nd, by simp [gfp, GAdr.fp], fun x hx y hy => ?_⟩
    have : y = p := by simpa [gfp, GAdr.fp] using hy
    subst this
    exact fun z => hg (z ▸ hx)
  · rw [gfp_append] at hb
    rcases List.mem_append.mp hb with hb | hb
    · exact o.out b hb
    · have : b = p := by simpa [gfp, GAdr.fp] using hb
      subst this; exact hp
end
section
variable {X : Cx} {E : XK} {pos : Pos} {m : Bool} {e0 : En} {e ei : Expr} {fe fi : DS → M D}
/-- src[i] = v -/
def srcSet (x i d : D) (σ : DS) : M Fl := match x, i, d with
  | .hdl k, .int n, .int v => fun g => (match g[k]? with
    | some (.src a b c) => (match ixN 3 n with
      | some 0 => .ok (.nx σ) (g.set k (.src v b c))
      | some 1 => .ok (.nx σ) (g.set k (.src a v c))
      | some 2 => .ok (.nx σ) (g.set k (.src a b v))
      | _ => .bad)
    | _ => .bad)
  | _, _, _ => M.bad
def sSetIxH (j : Nat) (fe fi : DS → M D) : DS → M Fl := fun σ => M.bind (fe σ) fun d => M.bind (eVar j σ) fun x => M.bind (fi σ) fun i => srcSet x i d σ
theorem ds_setIxH (j : Nat) {x : Str} {px tpos : Pos} (he : DE X E false e fe) (hi : DE X E false ei fi) (hN : X.N[j]? = some x := by rfl) (hv : Vis X.env.scope x := by first | exact Or.inl rfl | exact Or.inr (Or.inl rfl) | exact Or.inr (Or.inr rfl)) (hd : (x == ("__debug__" : Str)) = false := by decide)
    (hcd : (x == ("__classdict__" : Str)) = false := by decide)
    (ha : ∀ v, assign (.Subscript (.Name x px) ei tpos) X.env v = (do
      let ov ← holding [v] (eval (.Name x px) X.env)
      let iv ← holding [v, ov] (eval ei X.env)
      standAt tpos
      holding [v, ov, iv] (setItem ov iv v)
      release [v, ov, iv] []) := by intro _; rfl)
    (hs : swapsWithSole [.Subscript (.Name x px) ei tpos] e pos.line X.env = pure false := by rfl) (hw : swappedStores [.Subscript (.Name x px) ei tpos] e X.env = pure none := by rfl)
    (h1 : (assignEach [.Subscript (.Name x px) ei tpos] X.env).map (·.2) = [assign (.Subscript (.Name x px) ei tpos) X.env] := by rfl) :
    DS1 X E m e0 (.Assign [.Subscript (.Name x px) ei tpos] e pos) (sSetIxH j fe fi) :=
  PS.impD (ps_asg he (pg_sub (pe_var hN hv hd hcd) hi set_list ha) hs hw h1) fun Z σ H ⟨A, S, g, σd, s, q⟩ => ⟨A, S, g, σd, s.ok, s.rep, (KS.bindE (m1 := false) s.post q).imp fun v H1 ⟨A1, S1, g1, d, p1, o1, r1, q1⟩ => by
    have s1 := s.post' p1 o1
    obtain ⟨dx, vx, e1, e2, rx, q2⟩ := eVar_get s1.rep q1
    refine ⟨vx, e2, A1, S1, g1, σd, o1, s1.rep, (KS.bindE (m1 := false) s1.post q2).imp fun w H2 ⟨A2, S2, g2, d2, p2, o2, r2, q3⟩ => ?_⟩
    have s2 := s1.post' p2 o2
    have rx2 := Rep.mono p2.a p2.s rx
    have r12 := Rep.mono p2.a p2.s r1
    have q3 : KS (Cx.sur X E) m e0 A2 S2 (srcSet dx d2 d σd g2) Z := q3
    cases rx2 with
    | @hdl k ga hk =>
      cases r2 with
      | int n =>
        cases r12 with
        | int u =>
          have q4 : KS (Cx.sur X E) m e0 A2 S2 ((match g2[k]? with
            | some (.src a b c) => (match ixN 3 n with
              | some 0 => .ok (.nx σd) (g2.set k (.src u b c))
              | some 1 => .ok (.nx σd) (g2.set k (.src a u c))
              | some 2 => .ok (.nx σd) (g2.set k (.src a b u))
              | _ => .bad)
            | _ => .bad : Res Fl)) Z := q3
          cases eg : g2[k]? with
          | none => rw [eg] at q4; exact q4.elim
          | some c =>
            rw [eg] at q4
            cases c with
            | sto _ _ => exact q4.elim
            | src x y z =>
              have cl := o2.cel k ga _ hk eg
              cases ga with
              | sto _ _ _ _ _ => exact cl.elim
              | src p =>
                have cl : H2 p = some (.lst [.int x, .int y, .int z]) := cl
                have q5 : KS (Cx.sur X E) m e0 A2 S2 ((match ixN 3 n with
                  | some 0 => .ok (.nx σd) (g2.set k (.src u y z))
                  | some 1 => .ok (.nx σd) (g2.set k (.src x u z))
                  | some 2 => .ok (.nx σd) (g2.set k (.src x y u))
                  | _ => .bad : Res Fl)) Z := q4
                cases en : ixN 3 n with
                | none => rw [en] at q5; exact q5.elim
                | some j =>
                  rw [en] at q5
                  match j, en, q5 with
                  | 0, en, q5 => exact ⟨p, _, n, 0, rfl, rfl, cl, en, q5 A2 S2 _ σ (List.prefix_refl _) (Same.refl _) (s2.setSrc hk eg)⟩
                  | 1, en, q5 => exact ⟨p, _, n, 1, rfl, rfl, cl, en, q5 A2 S2 _ σ (List.prefix_refl _) (Same.refl _) (s2.setSrc hk eg)⟩
                  | 2, en, q5 => exact ⟨p, _, n, 2, rfl, rfl, cl, en, q5 A2 S2 _ σ (List.prefix_refl _) (Same.refl _) (s2.setSrc hk eg)⟩
                  | j + 3, en, q5 => exact q5.elim
        | _ => exact q3.elim
      | _ => cases r12 <;> exact q3.elim
    | _ => cases r2 <;> cases r12 <;> exact q3.elim⟩
/-- return [a, b, c]: a new source -/
def srcNew : D → M Fl
  | .lst [.int a, .int b, .int c] => fun g => .ok (.rt (.hdl g.length)) (g ++ [.src a b c])
  | _ => M.bad
def sRetH (fe : DS → M D) : DS → M Fl := fun σ => M.bind (fe σ) srcNew
theorem rep3 {K : PySem.W.Frag} {A : List GAdr} {S : Hp} {xs : List V} {a b c : Int} (r : RepL K A S xs [.int a, .int b, .int c]) : xs = [.int a, .int b, .int c] := by
  cases r with | cons h r => cases r with | cons h2 r => cases r with | cons h3 r => cases r; cases h; cases h2; cases h3; rfl
theorem ds_retH (he : DE X E true e fe) : DS1 X E false e0 (.Return (some e) pos) (sRetH fe) :=
  PS.impD (ps_ret he) fun Z σ H ⟨A, S, g, σd, s, q⟩ => ⟨A, S, g, σd, s.ok, s.rep, (KS.bindE (m1 := true) s.post q).imp fun v H1 ⟨A1, S1, g1, d, p1, o1, r1, q1⟩ => by
    have s1 := s.post' p1 o1
    unfold srcNew at q1
    split at q1
    · rename_i a b c
      obtain ⟨p, rfl, h0, h1, h2, vs, h3, h4⟩ := r1
      have := rep3 h4
      subst this
      have o2 := o1.newSrc h1 h2 h3
      have q2 : KS (Cx.sur X E) false e0 A1 S1 (.ok (.rt (.hdl g1.length)) (g1 ++ [.src a b c])) Z := q1
      refine q2 (A1 ++ [.src p]) S1 H1 (.ref p) o2 ?_ (.hdl (ga := .src p) ?_)
      · refine s.post.trans ⟨p1.a.trans (List.prefix_append _ _), p1.s, p1.snew, p1.keep, p1.dom, fun x hx => ?_⟩
        rw [gfp_append] at hx
        rcases List.mem_append.mp hx with hx | hx
        · exact p1.anew x hx
        · have : x = p := by simpa [gfp, GAdr.fp] using hx
          subst this; exact .inr h0
      · rw [← o1.len]; simp
    · exact q1.elim⟩
/-! ## zip of two lists, of two tuples -/
def seq2 : D → D → Option (List D × List D)
  | .lst xs, .lst ys => some (xs, ys)
  | .tup xs, .tup ys => some (xs, ys)
  | _, _ => none
def zipK : List D → M (List D)
  | [x, y] => M.opt ((seq2 x y).map fun p => zipD p.1 p.2)
  | _ => M.bad
theorem zipD_get {xs ys : List D} {i : Nat} {x y : D} (h1 : xs[i]? = some x) (h2 : ys[i]? = some y) : (zipD xs ys)[i]? = some (.tup [x, y]) := by
  unfold zipD
  rw [List.getElem?_map, (List.getElem?_zip_eq_some (z := (x, y))).mpr ⟨h1, h2⟩]
  rfl
theorem zipD_len (xs ys : List D) : (zipD xs ys).length = min xs.length ys.length := by simp [zipD]
theorem dit_zipL {K : PySem.W.Frag} {A : List GAdr} {S : Hp} {a b : Addr} {xs ys : List V} {ds es : List D} (r1 : RepL K A S xs ds) (h1 : SqL K S a xs) (r2 : RepL K A S ys es) (h2 : SqL K S b ys) : DIt K A S (Itz K a b) (zipD ds es) := by
  refine ⟨fun i H hi e => ?_, fun i H hi e => ?_, fun i H v H' hi e y => ?_⟩
  · rw [zipD_len, ← r1.length, ← r2.length] at hi
    exact ⟨xs, ys, xs[i]'(by omega), ys[i]'(by omega), SqL.mono e h1, SqL.mono e h2, by simp, by simp⟩
  · rw [zipD_len, ← r1.length, ← r2.length] at hi
    exact ⟨xs, ys, SqL.mono e h1, SqL.mono e h2, by omega⟩
  · obtain ⟨T, x, y', rfl, hT, rfl, f1, f2⟩ := y
    obtain ⟨d, e1, rx⟩ := r1.get (f1 xs (SqL.mono e h1))
    obtain ⟨c, e2, ry⟩ := r2.get (f2 ys (SqL.mono e h2))
    exact ⟨_, zipD_get e1 e2, .inr ⟨T, _, _, rfl, rfl, hT, rfl, .cons rx (.cons ry .nil)⟩⟩
theorem dit_zipT {K : PySem.W.Frag} {A : List GAdr} {S : Hp} {a b : Addr} {xs ys : List V} {ds es : List D} (r1 : RepL K A S xs ds) (h1 : SqT K S a xs) (r2 : RepL K A S ys es) (h2 : SqT K S b ys) : DIt K A S (RZ.ItzT K a b) (zipD ds es) := by
  refine ⟨fun i H hi e => ?_, fun i H hi e => ?_, fun i H v H' hi e y => ?_⟩
  · rw [zipD_len, ← r1.length, ← r2.length] at hi
    exact ⟨xs, ys, xs[i]'(by omega), ys[i]'(by omega), SqT.mono e h1, SqT.mono e h2, by simp, by simp⟩
  · rw [zipD_len, ← r1.length, ← r2.length] at hi
    exact ⟨xs, ys, SqT.mono e h1, SqT.mono e h2, by omega⟩
  · obtain ⟨T, x, y', rfl, hT, rfl, f1, f2⟩ := y
    obtain ⟨d, e1, rx⟩ := r1.get (f1 xs (SqT.mono e h1))
    obtain ⟨c, e2, ry⟩ := r2.get (f2 ys (SqT.mono e h2))
    exact ⟨_, zipD_get e1 e2, .inr ⟨T, _, _, rfl, rfl, hT, rfl, .cons rx (.cons ry .nil)⟩⟩
variable {a b : Expr} {fl : DS → M (List D)} {p tpos : Pos} {elts : List Expr} {kk : Nat}
theorem rep2' {K : PySem.W.Frag} {A : List GAdr} {S : Hp} {xs : List V} {d c : D} (r : RepL K A S xs [d, c]) : ∃ v w, xs = [v, w] ∧ Rep K A S v d ∧ Rep K A S w c := by
  cases r with | cons h r => cases r with | cons h2 r => cases r; exact ⟨_, _, rfl, h, h2⟩
theorem opt_okI {U : Sur} {A : List GAdr} {S H : Hp} {g : G} {R : It → Hp → Prop} {o : Option (List D)} (q : KI U A S H (M.opt o g) R) : ∃ d, o = some d ∧ KI U A S H (.ok d g) R := by
  cases o with
  | none => exact q.elim
  | some d => exact ⟨d, rfl, q⟩
theorem di_zip (hm : X.mg "zip" = none) (ha : DL X E [a, b] fl) (hg : Gl X "zip" := by rfl) (hs : starEach [a, b] X.env = (false, eval a X.env) :: starEach [b] X.env := by rfl) (hpl : (backTo pos (starEach [b] X.env)).any (·.1) = false := by rfl) :
    DI X E (.Tuple elts kk tpos) (.Call (.Name "zip" p) [a, b] [] pos) (iArgs zipK fl) :=
  PI.impD (RZ.pi_zipA hg hm ha hs hpl) fun σ H R ⟨A, S, g, σd, o, r, q⟩ => ⟨A, S, g, σd, o, r, (KI.bindL q).imp fun vs H1 ⟨A1, S1, g1, ds, p1, o1, r1, q1⟩ => by
    unfold zipK at q1
    split at q1
    · rename_i x y
      obtain ⟨v, w, rfl, rx, ry⟩ := rep2' r1
      obtain ⟨d, e1, q2⟩ := opt_okI q1
      cases rx with
      | @lst a' xs _ h1 q1' =>
        cases ry with
        | @lst b' ys _ h2 r2 => cases e1; exact ⟨a', b', xs, ys, rfl, .inl ⟨.inl (.inl (o1.ext _ _ h1)), .inl (.inl (o1.ext _ _ h2)), KI.now q2 o1 (dit_zipL q1' (.inl (.inl h1)) r2 (.inl (.inl h2)))⟩⟩
        | _ => cases e1
      | @tup a' xs _ h1 q1' =>
        cases ry with
        | @tup b' ys _ h2 r2 => cases e1; exact ⟨a', b', xs, ys, rfl, .inr ⟨tq o1.ext h1, tq o1.ext h2, KI.now q2 o1 (dit_zipT q1' (.inl (.inl h1)) r2 (.inl (.inl h2)))⟩⟩
        | _ => cases e1
      | _ => cases ry <;> cases e1
    · exact q1.elim⟩
end
end NS
namespace NS
open PySem PySem.Spec PyProof.Rows L2
/-! ## own slots read -/
def frz1 (i : Nat) (σ : DS) : DS := match σ[i]? with
  | some (some (.ow d)) => σ.set i (some (.sh d))
  | _ => σ
mutual
def D.pur : D → Bool
  | .non => true | .bl _ => true | .int _ => true | .str _ => true | .hdl _ => true
  | .tup xs => D.purs xs
  | .lst _ => false | .slst _ => false | .dT _ => false | .dK _ => false
def D.purs : List D → Bool
  | [] => true
  | x :: xs => D.pur x && D.purs xs
end
def GCell.pur : GCell → Bool
  | .src _ _ _ => true
  | .sto a b => D.purs a && D.purs b
def Gpur (g : G) : Bool := g.all GCell.pur
section
variable {K : PySem.W.Frag} {A : List GAdr} {S S' H H' : Hp} {g : G} {σd : DS} {σ : L2.St}
/-- what holds of the frozen state -/
theorem frz1_ok (o : Ok K A S H g) (r : SRep K A S H σ σd) (i : Nat) : (frz1 i σd = σd) ∨ ∃ p d u, σd[i]? = some (some (.ow d)) ∧ σ[i]? = some (some (.ref p)) ∧ S p = none ∧ p ∉ gfp A ∧ H p = some u ∧ Top K A S H p d ∧ frz1 i σd = σd.set i (some (.sh d)) ∧
    Ok K A (upd S p u) H g ∧ SRep K A (upd S p u) H σ (frz1 i σd) := by
  unfold frz1
  match e : σd[i]? with
  | some (some (.ow d)) =>
    obtain ⟨p, e1, h1, h2, h3⟩ := r.ow e
    obtain ⟨u, hu, rr⟩ := h3.frozen h1
    exact .inr ⟨p, d, u, rfl, e1, h1, h2, hu, h3, rfl, o.freeze h1 hu h2, r.freeze e e1 h1 hu rr⟩
  | some (some (.sh d)) => exact .inl rfl
  | some none => exact .inl rfl
  | none => exact .inl rfl
def delH (S : Hp) (p : Addr) : Hp := fun x => if x = p then none else S x
theorem delH_ne {p x : Addr} (h : x ≠ p) : delH S p x = S x := if_neg h
theorem delH_same {p : Addr} : delH S p p = none := if_pos rfl
/-- the object at p is a list or dict: no tuple -/
def NoTup (S : Hp) (p : Addr) : Prop := ∀ xs, ¬ Rd S p (.tup xs)
mutual
theorem Rep.del {p : Addr} (nt : NoTup S p) : ∀ {v : V} {d : D}, Rep K A S v d → D.pur d = true → Rep K A (delH S p) v d
  | _, _, .non, _ => .non
  | _, _, .bl b, _ => .bl b
  | _, _, .int i, _ => .int i
  | _, _, .str x, _ => .str x
  | _, _, .hdl h, _ => .hdl h
  | _, _, .tup h r, q => .tup (by
      rw [delH_ne]; exact h; rintro rfl; exact nt _ (.inl h)) (RepL.del nt r q)
  | _, _, .lst _ _, q => nomatch q
  | _, _, .slst _ _, q => nomatch q
  | _, _, .dT _ _, q => nomatch q
  | _, _, .dK _ _, q => nomatch q
theorem RepL.del {p : Addr} (nt : NoTup S p) : ∀ {vs : List V} {ds : List D}, RepL K A S vs ds → D.purs ds = true → RepL K A (delH S p) vs ds
  | _, _, .nil, _ => .nil
  | _, _, .cons h r, q => .cons (Rep.del nt h (Bool.and_eq_true_iff.mp q).1) (RepL.del nt r (Bool.and_eq_true_iff.mp q).2)
end
theorem CellOk.del {p : Addr} (nt : NoTup S p) {ga : GAdr} {c : GCell} (h : CellOk K A S H ga c) (q : c.pur = true) : CellOk K A (delH S p) H ga c := by
  cases ga <;> cases c <;> first
    | exact h.elim
    | exact h
    | (obtain ⟨h1, h2, ⟨vs, h3, h4⟩, ws, h5, h6⟩ := h
       have q' := Bool.and_eq_true_iff.mp q
       exact ⟨h1, h2, ⟨vs, h3, h4.del nt q'.1⟩, ws, h5, h6.del nt q'.2⟩)
theorem Ok.del {p : Addr} (o : Ok K A S H g) (nt : NoTup S p) (q : Gpur g = true) : Ok K A (delH S p) H g := by
  refine ⟨fun b u e => ?_, o.len, fun k ga c e1 e2 => (o.cel k ga c e1 e2).del nt (List.all_eq_true.mp q c (List.mem_of_getElem? e2)), o.nd, fun x hx => ?_⟩
  · by_cases h : b = p
    · subst h; rw [delH_same] at e; cases e
    · rw [delH_ne h] at e; exact o.ext _ _ e
  · by_cases h : x = p
    · subst h; exact delH_same
    · rw [delH_ne h]; exact o.out x hx
theorem Top.notup {p : Addr} {d : D} (h : Top K A S H p d) (e : ∀ u, H p = Option.some u → S' p = Option.some u) : NoTup S' p := by
  intro xs hr
  cases d <;> first
    | exact h.elim
    | (obtain ⟨vs, h1, _⟩ := h
       have h2 := e _ h1
       rcases hr with hr | ⟨o, hr⟩
       · rw [h2] at hr; cases hr
       · rw [h2] at hr; cases hr)
/-- the state behind, thawed -/
theorem Post.thaw {A' : List GAdr} {S1 S' H' : Hp} {p : Addr} {u : HO} (hp : S p = none) (q : Post A (upd S p u) H A' S' H') : Post A S H A' (delH S' p) H' where
  a := q.a
  s := fun x o e => by
    have ne := ne_of_none e hp
    rw [delH_ne ne]
    exact q.s x o (by rw [upd_ne ne]; exact e)
  snew := fun x o e => by
    by_cases h : x = p
    · subst h; rw [delH_same] at e; cases e
    · rw [delH_ne h] at e
      rcases q.snew x o e with z | z
      · rw [upd_ne h] at z; exact .inl z
      · exact .inr z
  keep := q.keep
  dom := q.dom
  anew := q.anew
end
/-- the slot i read as a shared one, the answer pure -/
def eBor (i : Nat) (f : DS → M D) : DS → M D := fun σ => fun g => match f (frz1 i σ) g with
  | .ok d g' => if (D.pur d && Gpur g') = true then .ok d g' else .bad
  | .err _ _ => .bad
  | .bad => .bad
/-- .. the answer a new list of pure items -/
def eBorO (i : Nat) (f : DS → M D) : DS → M D := fun σ => fun g => match f (frz1 i σ) g with
  | .ok (.lst ds) g' => if (D.purs ds && Gpur g') = true then .ok (.lst ds) g' else .bad
  | _ => .bad
def tBor (i : Nat) (f : DS → M Bool) : DS → M Bool := fun σ => fun g => match f (frz1 i σ) g with
  | .ok d g' => if Gpur g' = true then .ok d g' else .bad
  | .err _ _ => .bad
  | .bad => .bad
section
variable {X : Cx} {E : XK} {e : Expr} {fe : DS → M D} {ft : DS → M Bool} {m : Bool} {e0 : En}
theorem de_bor (i : Nat) (he : DE X E false e fe) : DE X E false e (eBor i fe) := PE.impD he fun σ H Q ⟨A, S, g, σd, o, r, q⟩ => by
  unfold eBor at q
  rcases frz1_ok o r i with h | ⟨p, d0, u, e1, e2, h1, h2, hu, tp, ef, o2, r2⟩
  · rw [h] at q
    refine ⟨A, S, g, σd, o, r, ?_⟩
    cases e1 : fe σd g with
    | ok d g' =>
      rw [e1] at q
      have q : KE (Cx.sur X E) false A S H (if (D.pur d && Gpur g') = true then .ok d g' else .bad) Q := q
      by_cases c : (D.pur d && Gpur g') = true
      · rw [if_pos c] at q; exact q
      · rw [if_neg c] at q; exact q.elim
    | err x g' => rw [e1] at q; exact q.elim
    | bad => rw [e1] at q; exact q.elim
  · refine ⟨A, upd S p u, g, frz1 i σd, o2, r2, ?_⟩
    cases e1 : fe (frz1 i σd) g with
    | err x g' => rw [e1] at q; exact q.elim
    | bad => rw [e1] at q; exact q.elim
    | ok d g' =>
      rw [e1] at q
      have q : KE (Cx.sur X E) false A S H (if (D.pur d && Gpur g') = true then .ok d g' else .bad) Q := q
      by_cases c : (D.pur d && Gpur g') = true
      · rw [if_pos c] at q
        have c' := Bool.and_eq_true_iff.mp c
        intro A' S' H' v P o' rv
        have nt : NoTup S' p := tp.notup fun w hw => P.s p w (by rw [upd_same]; rw [hu] at hw; exact hw)
        exact q A' (delH S' p) H' v (Post.thaw (S1 := S) h1 P) (o'.del nt c'.2) (Rep.del nt rv c'.1)
      · rw [if_neg c] at q; exact q.elim
theorem de_borO (i : Nat) (he : DE X E true e fe) : DE X E true e (eBorO i fe) := PE.impD he fun σ H Q ⟨A, S, g, σd, o, r, q⟩ => by
  unfold eBorO at q
  rcases frz1_ok o r i with h | ⟨p, d0, u, e1, e2, h1, h2, hu, tp, ef, o2, r2⟩
  · rw [h] at q
    refine ⟨A, S, g, σd, o, r, ?_⟩
    cases e1 : fe σd g with
    | ok d g' =>
      rw [e1] at q
      cases d with
      | lst ds =>
        have q : KE (Cx.sur X E) true A S H (if (D.purs ds && Gpur g') = true then .ok (.lst ds) g' else .bad) Q := q
        by_cases c : (D.purs ds && Gpur g') = true
        · rw [if_pos c] at q; exact q
        · rw [if_neg c] at q; exact q.elim
      | _ => exact q.elim
    | err x g' => rw [e1] at q; exact q.elim
    | bad => rw [e1] at q; exact q.elim
  · refine ⟨A, upd S p u, g, frz1 i σd, o2, r2, ?_⟩
    cases e1 : fe (frz1 i σd) g with
    | err x g' => rw [e1] at q; exact q.elim
    | bad => rw [e1] at q; exact q.elim
    | ok d g' =>
      rw [e1] at q
      cases d with
      | lst ds =>
        have q : KE (Cx.sur X E) true A S H (if (D.purs ds && Gpur g') = true then .ok (.lst ds) g' else .bad) Q := q
        by_cases c : (D.purs ds && Gpur g') = true
        · rw [if_pos c] at q
          have c' := Bool.and_eq_true_iff.mp c
          intro A' S' H' v P o' rv
          have nt : NoTup S' p := tp.notup fun w hw => P.s p w (by rw [upd_same]; rw [hu] at hw; exact hw)
          refine q A' (delH S' p) H' v (Post.thaw (S1 := S) h1 P) (o'.del nt c'.2) ?_
          obtain ⟨z, rfl, z1, z2, z3, vs, z4, z5⟩ := rv
          refine ⟨z, rfl, z1, ?_, z3, vs, z4, z5.del nt c'.1⟩
          by_cases h : z = p
          · subst h; exact delH_same
          · rw [delH_ne h]; exact z2
        · rw [if_neg c] at q; exact q.elim
      | _ => exact q.elim
theorem dt_bor (i : Nat) (he : DT X E e ft) : DT X E e (tBor i ft) := PT.impD he fun σ H Q ⟨A, S, g, σd, o, r, q⟩ => by
  unfold tBor at q
  rcases frz1_ok o r i with h | ⟨p, d0, u, e1, e2, h1, h2, hu, tp, ef, o2, r2⟩
  · rw [h] at q
    refine ⟨A, S, g, σd, o, r, ?_⟩
    cases e1 : ft σd g with
    | ok d g' =>
      rw [e1] at q
      have q : KT (Cx.sur X E) A S H (if Gpur g' = true then .ok d g' else .bad) Q := q
      by_cases c : Gpur g' = true
      · rw [if_pos c] at q; exact q
      · rw [if_neg c] at q; exact q.elim
    | err x g' => rw [e1] at q; exact q.elim
    | bad => rw [e1] at q; exact q.elim
  · refine ⟨A, upd S p u, g, frz1 i σd, o2, r2, ?_⟩
    cases e1 : ft (frz1 i σd) g with
    | err x g' => rw [e1] at q; exact q.elim
    | bad => rw [e1] at q; exact q.elim
    | ok d g' =>
      rw [e1] at q
      have q : KT (Cx.sur X E) A S H (if Gpur g' = true then .ok d g' else .bad) Q := q
      by_cases c : Gpur g' = true
      · rw [if_pos c] at q
        intro A' S' H' P o'
        have nt : NoTup S' p := tp.notup fun w hw => P.s p w (by rw [upd_same]; rw [hu] at hw; exact hw)
        exact q A' (delH S' p) H' (Post.thaw (S1 := S) h1 P) (o'.del nt c)
      · rw [if_neg c] at q; exact q.elim
/-- a slot frozen for good, ahead of a statement -/
def sFrz (i : Nat) (f : DS → M Fl) : DS → M Fl := fun σ => f (frz1 i σ)
theorem Stt.frz {K : PySem.W.Frag} {A : List GAdr} {S H : Hp} {g : G} {σd : DS} {σ : L2.St} (s : Stt K e0 A S g σd σ H) (i : Nat) : ∃ S', Same S S' ∧ Stt K e0 A S' g (frz1 i σd) σ H := by
  rcases frz1_ok s.ok s.rep i with h | ⟨p, d0, u, e1, e2, h1, h2, hu, tp, ef, o2, r2⟩
  · rw [h]; exact ⟨S, Same.refl _, s⟩
  · have sm : Same S (upd S p u) := fun b x e => by rw [upd_ne (ne_of_none e h1)]; exact e
    refine ⟨_, sm, o2, r2, ⟨s.post.a, s.post.s.trans sm, fun x o e => ?_, s.post.keep, s.post.dom, s.post.anew⟩, fun j d q e3 e4 => ?_⟩
    · by_cases h : x = p
      · subst h; exact .inr (s.own i d0 x e1 e2)
      · rw [upd_ne h] at e; exact s.post.snew x o e
    · rw [ef] at e3
      rcases set_get e3 with ⟨rfl, z, _⟩ | ⟨ne, e3⟩
      · cases z
      · exact s.own j d q e3 e4
variable {st : Stmt} {f : DS → M Fl}
theorem ds_frz (i : Nat) (h : DS1 X E m e0 st f) : DS1 X E m e0 st (sFrz i f) := PS.impD h fun Z σ H ⟨A, S, g, σd, s, q⟩ => by
  obtain ⟨S', sm, s'⟩ := s.frz i
  exact ⟨A, S', g, frz1 i σd, s', KS.floor (List.prefix_refl _) sm q⟩
end
end NS
namespace NS
open PySem PySem.Spec PyProof.Rows L2
/-! ## a def of the text, with all that its callers need -/
structure Has (P : Program) (w : World) (K : PySem.W.Frag) (mg : Str → Option Value) (base : Heap) (x : Str) (st : Stmt) (k : Nat) (ps : List Str) (m : Bool) (d : List D → M D) : Prop where
  ex : ∃ f fd, Fun K x x st f fd ∧ mg x = some (.ref f) ∧ FnD P w K mg base (XC P w) k f fd ps m d
/-- where it stands, without its promise -/
structure At (K : PySem.W.Frag) (mg : Str → Option Value) (x : Str) (st : Stmt) : Prop where
  ex : ∃ f fd, Fun K x x st f fd ∧ mg x = some (.ref f)
def permL {α : Type} (idx : List Nat) (l : List α) : List α := idx.filterMap fun i => l[i]?
section
variable {K : PySem.W.Frag} {A : List GAdr} {S : Hp}
theorem permL_vals {zs : List V} {ws : List Value} (r : Vals zs ws) : ∀ idx : List Nat, Vals (permL idx zs) (permL idx ws)
  | [] => .nil
  | i :: idx => by
    have ih := permL_vals r idx
    unfold permL at ih ⊢
    cases e : zs[i]? with
    | none => rw [List.filterMap_cons, List.filterMap_cons, e, r.none_of e]; exact ih
    | some x =>
      obtain ⟨u, e2, h⟩ := r.get e
      rw [List.filterMap_cons, List.filterMap_cons, e, e2]
      exact .cons h ih
theorem permL_rep {zs : List V} {ws : List D} (r : RepL K A S zs ws) : ∀ idx : List Nat, RepL K A S (permL idx zs) (permL idx ws)
  | [] => .nil
  | i :: idx => by
    have ih := permL_rep r idx
    unfold permL at ih ⊢
    cases e : zs[i]? with
    | none =>
      have e2 : ws[i]? = none := by
        rw [List.getElem?_eq_none_iff] at e ⊢
        rw [← r.length]; exact e
      rw [List.filterMap_cons, List.filterMap_cons, e, e2]; exact ih
    | some x =>
      obtain ⟨u, e2, h⟩ := r.get e
      rw [List.filterMap_cons, List.filterMap_cons, e, e2]
      exact .cons h ih
theorem binds_of {x : Str} {st : Stmt} {f : Addr} {fd : FuncData} {ps : List Str} (F : Fun K x x st f fd)
    (h : ∀ (kV doc pm : Value) (an : Option Addr) (cdv ct : Value) (us : List Value), us.length = ps.length → bindArgs (PySem.W.fnOf x x (defArgs st) (defBody st) (defScope st) .none kV doc pm an cdv ct) ⟨us, []⟩ = pure (ps.zip us)) : Binds K fd ps [] := F.binds h
theorem kbinds_of {x : Str} {st : Stmt} {f : Addr} {fd : FuncData} {ps ks : List Str} {idx : List Nat} (F : Fun K x x st f fd) (hp : 0 < ps.length)
    (h : ∀ (kV doc pm : Value) (an : Option Addr) (cdv ct : Value) (ws : List Value), ws.length = ks.length → bindArgs (PySem.W.fnOf x x (defArgs st) (defBody st) (defScope st) .none kV doc pm an cdv ct) ⟨[], ks.zip ws⟩ = pure (ps.zip (permL idx ws))) :
    KBinds K fd ps ks (fun us ws => if us.length = 0 ∧ ws.length = ks.length then permL idx ws else []) (fun us ws => if us.length = 0 ∧ ws.length = ks.length then permL idx ws else []) := by
  obtain ⟨oc, od, kV, doc, pm, an, cdv, ct, osl, rfl, lk, hcd⟩ := F.ex
  refine ⟨fun s us ws hK hl => ?_, fun {vs us zs ws} r1 r2 => ?_⟩
  · by_cases c : us.length = 0 ∧ ws.length = ks.length
    · have e : us = [] := List.length_eq_zero_iff.mp c.1
      subst e
      rw [if_pos c]
      exact .of_eq (h kV doc pm an cdv ct ws c.2)
    · rw [if_neg c] at hl; simp at hl; omega
  · rw [r1.length, r2.length]
    by_cases c : us.length = 0 ∧ ws.length = ks.length
    · rw [if_pos c, if_pos c]; exact permL_vals r2 idx
    · rw [if_neg c, if_neg c]; exact .nil
end
section
variable {X : Cx} {E : XK} {m : Bool} {pos p : Pos} {x : Str} {st : Stmt} {kk : Nat} {ps : List Str} {d : List D → M D} {e : Expr} {es : List Expr} {fl : DS → M (List D)}
theorem de_fn {n : Nat} (h : Has X.prog X.w X.K X.mg X.base x st kk ps m d) (hr : RoomG kk X.A) (hx : Passes (XC X.prog X.w) X E) (ha : DL X E (e :: es) fl)
    (hb : ∀ (kV doc pm : Value) (an : Option Addr) (cdv ct : Value) (us : List Value), us.length = ps.length → bindArgs (PySem.W.fnOf x x (defArgs st) (defBody st) (defScope st) .none kV doc pm an cdv ct) ⟨us, []⟩ = pure (ps.zip us))
    (hg : Gl X x := by rfl) (hdb : (x == ("__debug__" : Str)) = false := by decide) (he : starEach (e :: es) X.env = (false, eval e X.env) :: starEach es X.env := by rfl) (hpl : (backTo pos (starEach es X.env)).any (·.1) = false := by rfl) (hn : ps.length = n := by rfl) :
    DE X E m (.Call (.Name x p) (e :: es) [] pos) (eArgs (callN n d) fl) := by
  obtain ⟨f, fd, F, hm, G⟩ := h.ex
  subst hn
  exact de_call G hr hm F.kp (binds_of F hb) hx ha hg hdb he hpl
theorem de_fn0 (h : Has X.prog X.w X.K X.mg X.base x st kk ps m d) (hr : RoomG kk X.A) (hx : Passes (XC X.prog X.w) X E) (hp : ps.length = 0)
    (hb : ∀ (kV doc pm : Value) (an : Option Addr) (cdv ct : Value) (us : List Value), us.length = ps.length → bindArgs (PySem.W.fnOf x x (defArgs st) (defBody st) (defScope st) .none kV doc pm an cdv ct) ⟨us, []⟩ = pure (ps.zip us))
    (hg : Gl X x := by rfl) (hdb : (x == ("__debug__" : Str)) = false := by decide) :
    DE X E m (.Call (.Name x p) [] [] pos) (eArgs (callN 0 d) lNil) := by
  obtain ⟨f, fd, F, hm, G⟩ := h.ex
  rw [← hp]
  exact de_call0 G hr hm F.kp (binds_of F hb) hx hp hg hdb
/-- all by keywords: idx the places of the parameters among them -/
def kwN (n : Nat) (idx : List Nat) (nk : Nat) (d : List D → M D) : List D → M D := fun ds => if ds.length = nk then callN n d (permL idx ds) else M.bad
theorem de_fnK {n nk : Nat} {kws : List Keyword} (ks : List Str) (idx : List Nat) (h : Has X.prog X.w X.K X.mg X.base x st kk ps m d) (hr : RoomG kk X.A) (hx : Passes (XC X.prog X.w) X E) (hkw : DK X E kws fl)
    (hb : ∀ (kV doc pm : Value) (an : Option Addr) (cdv ct : Value) (ws : List Value), ws.length = ks.length → bindArgs (PySem.W.fnOf x x (defArgs st) (defBody st) (defScope st) .none kV doc pm an cdv ct) ⟨[], ks.zip ws⟩ = pure (ps.zip (permL idx ws)))
    (hp : 0 < ps.length := by decide) (hg : Gl X x := by rfl) (hall : (backToKw pos (keywordEach kws X.env)).all (·.1.isSome) = true := by rfl) (hks : (backToKw pos (keywordEach kws X.env)).filterMap (·.1) = ks := by rfl)
    (hdb : (x == ("__debug__" : Str)) = false := by decide) (hpl : ((backTo pos (starEach [] X.env)).any (·.1) || (backToKw pos (keywordEach kws X.env)).any (·.1.isNone)) = false := by rfl) (hn : ps.length = n := by rfl) (hnk : ks.length = nk := by rfl) :
    DE X E m (.Call (.Name x p) [] kws pos) (eArgs (kwN n idx nk d) fl) := by
  obtain ⟨f, fd, F, hm, G⟩ := h.ex
  subst hn hnk
  have kb := kbinds_of (ks := ks) (idx := idx) F hp hb
  refine ⟨fun pins s σ H Q I ⟨A, S, g, σd, o, r, q⟩ => ?_⟩
  refine wpAny_Call_Name_kw (ld_glob I hg hm ?_ hdb)
  refine PySem.W.callWith_KW0 (h₀ := X.base) I.ok.mod.kin F.kp hall (thn (hkw.run pos pins s σ H _ I ⟨A, S, g, σd, o, r, (KE.bindL q)⟩) fun ws s2 ⟨zs, H2, I2, rz, A1, S1, g1, ds, p1, o1, r1, q1⟩ => ⟨I2.kIn, ?_⟩) hpl
  rw [hks]
  have q1 : KE (Cx.sur X E) m A1 S1 H2 (kwN ps.length idx ks.length d ds g1) Q := q1
  unfold kwN callN at q1
  by_cases c : ds.length = ks.length
  · rw [if_pos c] at q1
    by_cases c2 : (permL idx ds).length = ps.length
    · rw [if_pos c2] at q1
      refine run_fnkG (us := []) (vs := []) G hr kb hx I2 .nil rz ?_
      have cz : zs.length = ks.length := by rw [r1.length]; exact c
      have rp := permL_rep r1 idx
      show spD X.mg X.K ps.length m d (if ([] : List V).length = 0 ∧ zs.length = ks.length then permL idx zs else []) H2 Q E
      rw [if_pos ⟨rfl, cz⟩]
      exact ⟨by rw [rp.length]; exact c2, A1, S1, g1, permL idx ds, o1, rp, q1⟩
    · rw [if_neg c2] at q1; exact q1.elim
  · rw [if_neg c] at q1; exact q1.elim
end
section
variable {P : Program} {w : World} {K : PySem.W.Frag} {mg : Str → Option Value} {base : Heap}
/-- a def that is not promised anything -/
theorem Has.bad {x : Str} {st : Stmt} (a : At K mg x st) (k : Nat) (ps : List Str) (m : Bool) : Has P w K mg base x st k ps m (fun _ => M.bad) := by
  obtain ⟨f, fd, F, hm⟩ := a.ex
  exact ⟨f, fd, F, hm, ⟨fun vs H Q E h => h.1, fun A outer s H args us vs Q E _ _ _ _ h => by obtain ⟨_, _, _, _, _, _, _, q⟩ := h; exact q.elim⟩⟩
theorem Has.mk' {x : Str} {st : Stmt} {N ps : List Str} {k : Nat} {m : Bool} {b : DS → M Fl} (a : At K mg x st) (Sc : FnScope N ps (defScope st))
    (hbody : ∀ (f : Addr) (cdv : Value) (A : Around) (outer : List Env) (s : Shared) (H : Hp) (E : XK) (e0 : En), RoomG k (XOf P w K mg base N x (defScope st) f cdv A outer s H E).A →
      Passes (XC P w) (XOf P w K mg base N x (defScope st) f cdv A outer s H E) E → PassesOwn (model P w) (XOf P w K mg base N x (defScope st) f cdv A outer s H E).A (XOf P w K mg base N x (defScope st) f cdv A outer s H E).env (XOf P w K mg base N x (defScope st) f cdv A outer s H E).xe →
      DSs (XOf P w K mg base N x (defScope st) f cdv A outer s H E) E m e0 (defBody st) b) : Has P w K mg base x st (k + 1) ps m (runD N.length m b) := by
  obtain ⟨f, fd, F, hm⟩ := a.ex
  exact ⟨f, fd, F, hm, ok_def F Sc (hbody f)⟩
theorem Has.up {x : Str} {st : Stmt} {ps : List Str} {j k : Nat} {m : Bool} {d : List D → M D} (h : Has P w K mg base x st j ps m d) (hk : j ≤ k) : Has P w K mg base x st k ps m d := by
  obtain ⟨f, fd, F, hm, G⟩ := h.ex
  exact ⟨f, fd, F, hm, G.mono hk⟩
theorem At.mk' {x : Str} {st : Stmt} {f : Addr} {oc : Value} {od an : Option Addr} {osl : Array (Option Value)} {kV doc pm cdv ct : Value} {h : Heap} (X : K.In h) (G : h.Ns mainGlobals mg) (a : PySem.W.nsIn K mainGlobals x = some (some (.ref f)))
    (l : K.lookup f = some ⟨oc, od, .func (PySem.W.fnOf x x (defArgs st) (defBody st) (defScope st) .none kV doc pm an cdv ct), osl⟩)
    (c : PySem.W.codeIn K cdv x = true) (k : PySem.W.keepIn K (.ref f) = true) : At K mg x st := ⟨f, _, fun_mk l c k, PySem.W.mg_of X G a⟩
end
end NS
namespace NS
open PySem PySem.Spec PyProof.Rows L2
section
variable {X : Cx} {E : XK} {pos : Pos} {e : Expr} {fe : DS → M D}
/-- a value that is a bool, as a test -/
theorem dt_val (h : DE X E false e fe) (he : ∀ whole, isTrue e X.env whole = (do let v ← whole; standAt e.pos; holding [v] (truthy v)) := by intro _; rfl) : DT X E e (eTst fe) :=
  (pt_val h he).impD fun σ H Q h => tst_read h
/-- constants of the module -/
def GStr (mg : Str → Option Value) (x s : Str) : Prop := ∃ t, mg x = some (.str s t)
def GInt (mg : Str → Option Value) (x : Str) (i : Int) : Prop := ∃ t, mg x = some (.int i t)
theorem de_gstr {x s : Str} (h : GStr X.mg x s) (hg : Gl X x := by rfl) (hd : (x == ("__debug__" : Str)) = false := by decide) : DE X E false (.Name x pos) (eC (.str s)) := by
  obtain ⟨t, h⟩ := h
  exact de_glob (v := .str s) h ⟨t, rfl⟩ (fun _ _ => .str s) hg hd
theorem de_gint {x : Str} {i : Int} (h : GInt X.mg x i) (hg : Gl X x := by rfl) (hd : (x == ("__debug__" : Str)) = false := by decide) : DE X E false (.Name x pos) (eC (.int i)) := by
  obtain ⟨t, h⟩ := h
  exact de_glob (v := .int i) h ⟨t, rfl⟩ (fun _ _ => .int i) hg hd
abbrev kMulI := kII fun i j => if (sm i || sm j) = true then some (.int (i * j)) else none
theorem iop_mulD : OpD X E (inplaceOp .Mult) false kMulI := op_cond (fun i j => (sm i || sm j) = true) (fun i j => i * j) (fun i j h => by
  rcases Bool.or_eq_true_iff.mp h with c | c
  · exact .inl (sm_iff.mp c)
  · exact .inr (sm_iff.mp c)) iop_mul
end
end NS
namespace NS
open PySem PySem.Spec PyProof.Rows L2
theorem room0 {k : Nat} {A : Around} (h : RoomG k A) : A.units < cLine := by have := h.r.un; omega
theorem room64 {k : Nat} {A : Around} (h : RoomG k A) : A.units + 64 < cLine := by have := h.r.un; omega
theorem room65 {k : Nat} {A : Around} (h : RoomG k A) : A.units + 65 < cLine := by have := h.r.un; omega
section
variable {X : Cx} {E : XK} {pos : Pos} {e : Expr} {fe : DS → M D}
def kNeg : D → M D
  | .int i => M.pure (.int (-i))
  | _ => M.bad
def eNeg (fe : DS → M D) : DS → M D := fun σ => M.bind (fe σ) kNeg
theorem de_neg (he : DE X E false e fe) : DE X E false (.UnaryOp .USub e pos) (eNeg fe) :=
  PE.impD (pe_un un_neg he) fun σ H Q ⟨A, S, g, σd, o, r, q⟩ => ⟨A, S, g, σd, o, r, (KE.bindE q).imp fun v H1 ⟨A1, S1, g1, d, p1, o1, r1, q1⟩ => by
    cases r1 with
    | int i => exact ⟨i, rfl, KE.val q1 o1 (.int _)⟩
    | _ => exact q1.elim⟩
end
end NS
namespace NS
open PySem PySem.Spec PyProof.Rows L2
/-! ## enumerate of a tuple -/
theorem meets_enumT {v : Value} {o : Obj} {H : Heap → Prop} (B : Begins v o H) :
    Meets (Builtin.«enumerate.__new__» ⟨[.type "enumerate", v], []⟩) (fun _ R s => H s.heap ∧
      R (.ok (.ret (.ref (s.heap.push o).objs.size))) { s with heap := (s.heap.push o).push { cls := .type "enumerate", data := .fields #[.none, .bool false, .ref s.heap.objs.size, rawInt 0, .none, .none] } }) :=
  .of_wp fun prog w A R s h => by
    obtain ⟨hp, g, d, tk, os⟩ := s; obtain ⟨h1, h⟩ := h
    have hsub := sub_enumerate
    have q1 : ∀ {A' : Around} {E : Value → Shared → Prop} {Q : Value → Shared → Prop}, Q (.ref hp.objs.size) ⟨hp.push o, g, d, tk, os⟩ → wpAny (model prog w) A' (pyIter v) Q E ⟨hp, g, d, tk, os⟩ :=
      fun q => B.iter prog w _ _ ⟨hp, g, d, tk, os⟩ _ h1 q
    wp_walk using q1
    refine wpAny_stack_any fun st => wpAny_pure ?_
    split
    · rename_i c _ _ _ _ _
      cases (c == Value.type "enumerate")
      · wp_walk using q1
        exact ⟨_, rfl, h⟩
      · wp_walk using q1
        exact ⟨_, rfl, h⟩
    · wp_walk using q1
      exact ⟨_, rfl, h⟩
section
variable {prog : Program} {w : World} {A : Around} {E : Value → Shared → Prop} {s : Shared}
theorem call_enumT {t : Addr} {items : Array Value} {Q : Value → Shared → Prop} (h1 : s.heap.IsTuple t items)
    (h : ∀ h', IsEnum h' (s.heap.objs.size + 1) s.heap.objs.size 0 .none → h'.IsTupleIter s.heap.objs.size t 0 → h'.objs.size = s.heap.objs.size + 2 →
      (∀ b o, s.heap.get? b = some o → h'.get? b = some o) → Q (.ref (s.heap.objs.size + 1)) { s with heap := h' }) :
    wpAny (model prog w) A (call (.type "enumerate") [.ref t]) Q E s := by
  refine callType_new F.called_enumerate (by decide) (F.typeCall_enumerate_1 _) (F.newCall_enumerate_1 _) (fun obj => F.args_object_init_2 obj _) F.entry_enumerate_new
    (meets_enumT (begins_tuple t items)) ⟨h1, ?_⟩
  have hz : (s.heap.push { cls := .type "tuple_iterator", data := .fields #[.ref t, .int 0 0] }).objs.size = s.heap.objs.size + 1 := Heap.size_push ..
  show _ ∧ _
  rw [hz]
  have he : IsEnum ((s.heap.push { cls := .type "tuple_iterator", data := .fields #[.ref t, .int 0 0] }).push { cls := .type "enumerate", data := .fields #[.none, .bool false, .ref s.heap.objs.size, rawInt 0, .none, .none] }) (s.heap.objs.size + 1) s.heap.objs.size 0 .none := by
    have := Heap.get?_push_size (s.heap.push { cls := .type "tuple_iterator", data := .fields #[.ref t, .int 0 0] }) (o := { cls := .type "enumerate", data := .fields #[.none, .bool false, .ref s.heap.objs.size, rawInt 0, .none, .none] }) rfl
    rw [hz] at this; exact this
  refine ⟨⟨_, he, rfl⟩, h _ he ⟨_, Heap.get?_push_of_some _ (Heap.get?_push_size _ rfl), rfl, rfl⟩ (by rw [Heap.size_push, hz]) fun b o x => Heap.get?_push_of_some _ (Heap.get?_push_of_some _ x)⟩
theorem enumT_end {e it l : Addr} {i : Nat} {items : Array Value} {old : Value} {k : Int} {Q : Option Value → Shared → Prop} (hh : A.handled = none)
    (he : IsEnum s.heap e it k old) (hit : s.heap.IsTupleIter it l i) (hl : s.heap.IsTuple l items) (hx : items[i]? = none)
    (hQ : ∀ h', Heap.ExtBut it s.heap h' → Q none { s with heap := h' }) : wpAny (model prog w) A (pyNext (.ref e)) Q E s := by
  have hT : s.TypeIs (.ref e) "enumerate" := ⟨_, he, rfl⟩
  unfold pyNext
  refine wpAny_bind (wpAny_attempt (wpAny_callSpecial?_slot (name := Str.ofString "__next__") hT F.slot_enumerate_next
    (wpAny_call_entry F.slot_enumerate_next hT F.entry_enumerate_next ?_ (F.args_enumerate_next_1 _))))
  show wpAny _ _ (field (.ref e) 2 >>= _) _ _ _
  refine wpAny_bind (wpAny_field he rfl (x := .ref it) rfl ?_)
  refine wpAny_bind (wpAny_nextOf_tuple_end hh hit hl hx fun h' x he' hx' => ?_)
  obtain ⟨o, ho, hc⟩ := hx'
  refine wpAny_bind (wpAny_isInstance (T := "StopIteration") (b := true) ⟨o, ho, hc⟩ isSubtype_stop ?_)
  exact wpAny_pure (hQ _ he')
end
/-- the tuple at a as it stands at each turn, each item in a new pair -/
def Iet (K : PySem.W.Frag) (a : Addr) : It :=
  ⟨fun i H => ∃ (xs : List V) (x : V), SqT K H a xs ∧ xs[i]? = some x, fun i H v H' => ∃ T x, v = .ref T ∧ H T = none ∧ H' = upd H T (.tup [.int (i : Nat), x]) ∧ ∀ xs, SqT K H a xs → xs[i]? = some x, fun i H => ∃ xs : List V, SqT K H a xs ∧ xs.length ≤ i⟩
theorem turn_enumT {P : Program} {w : World} {K : PySem.W.Frag} {elts : List Expr} {kk : Nat} {tpos : Pos} (a e it : Addr) :
    Turn P w K (.Tuple elts kk tpos) (Iet K a) [e, it] e (fun i h => (∃ old, IsEnum h e it ((i : Nat) : Int) old) ∧ h.IsTupleIter it a i ∧ e ≠ it ∧ a ≠ e ∧ a ≠ it) where
  mem := by simp
  obj := fun i h st b hb => by
    obtain ⟨⟨old, he⟩, ⟨o, ho, hc, hd⟩, _⟩ := st
    have e' : b = e ∨ b = it := by simpa using hb
    rcases e' with z | z
    · rw [z]; exact ⟨_, he, fun v q => nomatch q⟩
    · rw [z]; exact ⟨o, ho, fun v q => by rw [hd] at q; cases q⟩
  keep := fun i h h' st k => let ⟨⟨old, he⟩, hi, hne⟩ := st; ⟨⟨old, k e (by simp) _ he⟩, hi.at fun o q => k it (by simp) o q, hne⟩
  item := by
    intro X hP hw hK hc i pins s σ H E I hf st hg
    subst hP hw hK
    obtain ⟨⟨old, he⟩, hit, hne, hae, hai⟩ := st
    obtain ⟨xs, x, hq, hx⟩ := hg
    obtain ⟨its, rv, p, hz⟩ := I.tuple hq
    obtain ⟨u, hu, ru⟩ := rv.get hx
    have hel : e < s.heap.objs.size := Heap.lt_size he
    have hil : it < s.heap.objs.size := by obtain ⟨_, q, _⟩ := hit; exact Heap.lt_size q
    have hlt : i < its.toArray.size := by
      have := (List.getElem?_eq_some_iff.mp hu).1
      simpa using this
    refine wpAny_pyNext_enum_itemD (Draws.tuple (A := X.A.in1) (I.ok.hd hc) it a hai its.toArray) he ⟨hit, p⟩ hlt hne (by simp; exact ⟨hne, Ne.symm hae⟩) fun y h' tk hP ho hst' hT hsz hk => ?_
    obtain ⟨hit', ht'⟩ := hst'
    have ey : y = u := by
      have : its.toArray[i]? = some u := by simpa using hu
      rw [this] at hP; exact (Option.some.inj hP).symm
    subst ey
    refine ⟨_, rfl, wpAny_letOwnedTupleGo_enum (s := { s with heap := h', toks := tk + 1 }) ho fun h'' he' sb => ?_⟩
    have hT2 : h''.get? s.heap.objs.size = some { cls := .type "tuple", data := .seq #[.int i tk, y] } := (sb.2 _ (Nat.ne_of_gt hel)).trans hT
    have new : ObjOk X.prog X.w (upd H s.heap.objs.size (.tup [.int (i : Nat), x])) h'' s.heap.objs.size (.tup [.int (i : Nat), x]) :=
      ⟨by show 2 ≤ sizeLine; decide, [.int i tk, y], .cons ⟨_, rfl⟩ (.cons ru .nil), ⟨_, hT2, rfl, _, rfl⟩⟩
    have I1 : Inv X pins σ (upd H s.heap.objs.size (.tup [.int (i : Nat), x])) { s with heap := h'', toks := tk + 1 } :=
      I.turnedNew (ch := [e, it]) (fun b ob hb q => (sb.2 b (fun z => hb (by simp [z]))).trans (hk b ob (fun z => hb (by simp [z])) (fun z => hb (by simp [z])) q)) hf (Nat.le_refl _) new
    refine ⟨.ref s.heap.objs.size, _, I1, rfl, ⟨_, x, rfl, I.hok.fresh (Nat.le_refl _), rfl, fun ys hy => ?_⟩, ⟨⟨y, ?_⟩, hit'.at fun o q => (sb.2 it (Ne.symm hne)).trans q, hne, hae, hai⟩, fun b hb => ?_⟩
    · have e9 : ys = xs := (I.tuple_inj hy hq)
      rw [e9]; exact hx
    · have e1 : ((i + 1 : Nat) : Int) = (i : Int) + 1 := by omega
      rw [e1]; exact he'
    · have hb' : b < s.heap.objs.size := by
        have e' : b = e ∨ b = it := by simpa using hb
        rcases e' with z | z
        · rw [z]; exact hel
        · rw [z]; exact hil
      rw [upd_ne (Nat.ne_of_lt hb')]
      exact (hf b hb).1
  done := by
    intro X hP hw hK hc i pins s σ H E I hf st hg
    subst hP hw hK
    obtain ⟨⟨old, he⟩, hit, hne, hae, hai⟩ := st
    obtain ⟨xs, hq, hx⟩ := hg
    obtain ⟨its, rv, p, hz⟩ := I.tuple hq
    obtain ⟨f0, f1, f2, f3, f4, f5⟩ := hf it (by simp)
    have hl := rv.length
    exact enumT_end (I.ok.hd hc) he hit p (by simp; omega) fun h' eb => ⟨rfl, I.turned (t' := s.toks) (fun b o hb q => eb b o hb q) f0 f1 f3 f4 f5⟩
  self := fun A i s Q E st h => let ⟨⟨_, he⟩, _⟩ := st; wpAny_pyIter_enum he h
def iEnumT (K : PySem.W.Frag) (ta : TA) : TI := fun σ H R => ta σ H fun vs H1 => ∃ a xs, vs = [.ref a] ∧ SqT K H1 a xs ∧ R (Iet K a) H1
theorem pi_enumT {X : Cx} {e : Expr} {ta : TA} {p pos tpos : Pos} {elts : List Expr} {kk : Nat} (hg : Gl X "enumerate") (hm : X.mg "enumerate" = none) (ha : PA X [e] ta) (hs : starEach [e] X.env = [(false, eval e X.env)] := by rfl) :
    PI X (.Tuple elts kk tpos) (.Call (.Name "enumerate" p) [e] [] pos) (iEnumT X.K ta) := by
  refine ⟨fun pins s σ H R I h => ?_⟩
  refine Call_ (ld_blt I hg hm (by decide +kernel : bootBuiltins "enumerate" = some (.type "enumerate")) (PyProof.Rows.callWith_type1 (thn (ha.run pos pins s σ H _ I h) fun us s1 ⟨vs, H1, I1, r1, q1⟩ => ?_) hs rfl))
  obtain ⟨a, xs, ex, hq, q⟩ := q1
  subst ex
  cases r1 with
  | cons r rr =>
    cases rr
    cases r
    obtain ⟨its, rv, p', hz⟩ := I1.tuple hq
    have al : a < s1.heap.objs.size := by obtain ⟨_, q, _⟩ := p'; exact Heap.lt_size q
    refine call_enumT p' fun h' he hit hsz hk => wpAny_pyIter_enum he ?_
    have I2 : Inv X pins σ H1 { s1 with heap := h' } := I1.kept (t' := s1.toks) hk
    refine ⟨s1.heap.objs.size + 1, [s1.heap.objs.size + 1, s1.heap.objs.size], _, _, H1, rfl, I2, turn_enumT a (s1.heap.objs.size + 1) s1.heap.objs.size, ⟨⟨.none, he⟩, hit, Nat.succ_ne_self _, Nat.ne_of_lt (Nat.lt_succ_of_lt al), Nat.ne_of_lt al⟩, fun b hb => ?_, q⟩
    have e' : b = s1.heap.objs.size + 1 ∨ b = s1.heap.objs.size := by simpa using hb
    have hle : s1.heap.objs.size ≤ b := by
      rcases e' with z | z
      · rw [z]; exact Nat.le_add_right _ _
      · rw [z]; exact Nat.le_refl _
    exact I1.fpOk hle (I1.hok.fresh hle)
/-! ## enumerate over data -/
def enumD (xs : List D) : List D := (List.range xs.length).zip xs |>.map fun p => .tup [.int (p.1 : Nat), p.2]
theorem enumD_len (xs : List D) : (enumD xs).length = xs.length := by simp [enumD]
theorem enumD_get {xs : List D} {i : Nat} {d : D} (h : xs[i]? = some d) : (enumD xs)[i]? = some (.tup [.int (i : Nat), d]) := by
  have hl := (List.getElem?_eq_some_iff.mp h).1
  unfold enumD
  rw [List.getElem?_map, (List.getElem?_zip_eq_some (z := (i, d))).mpr ⟨by simp [hl], h⟩]
  rfl
def enumK : List D → M (List D)
  | [.lst xs] => M.pure (enumD xs)
  | [.tup xs] => M.pure (enumD xs)
  | _ => M.bad
section
variable {X : Cx} {E : XK} {pos p tpos : Pos} {e : Expr} {elts : List Expr} {kk : Nat} {fl : DS → M (List D)}
theorem dit_enumL {K : PySem.W.Frag} {A : List GAdr} {S : Hp} {a : Addr} {xs : List V} {ds : List D} (r : RepL K A S xs ds) (h : SqL K S a xs) : DIt K A S (Ite K a) (enumD ds) := by
  refine ⟨fun i H hi e => ?_, fun i H hi e => ⟨xs, SqL.mono e h, by rw [r.length, ← enumD_len]; exact hi⟩, fun i H x H' hi e y => ?_⟩
  · rw [enumD_len, ← r.length] at hi
    exact ⟨xs, xs[i], SqL.mono e h, List.getElem?_eq_getElem hi⟩
  · obtain ⟨T, z, rfl, h1, h2, h3⟩ := y
    have hz := h3 xs (SqL.mono e h)
    obtain ⟨d, hd, rd⟩ := r.get hz
    exact ⟨_, enumD_get hd, .inr ⟨T, _, _, rfl, rfl, h1, h2, .cons (.int _) (.cons rd .nil)⟩⟩
theorem dit_enumT {K : PySem.W.Frag} {A : List GAdr} {S : Hp} {a : Addr} {xs : List V} {ds : List D} (r : RepL K A S xs ds) (h : SqT K S a xs) : DIt K A S (Iet K a) (enumD ds) := by
  refine ⟨fun i H hi e => ?_, fun i H hi e => ⟨xs, SqT.mono e h, by rw [r.length, ← enumD_len]; exact hi⟩, fun i H x H' hi e y => ?_⟩
  · rw [enumD_len, ← r.length] at hi
    exact ⟨xs, xs[i], SqT.mono e h, List.getElem?_eq_getElem hi⟩
  · obtain ⟨T, z, rfl, h1, h2, h3⟩ := y
    have hz := h3 xs (SqT.mono e h)
    obtain ⟨d, hd, rd⟩ := r.get hz
    exact ⟨_, enumD_get hd, .inr ⟨T, _, _, rfl, rfl, h1, h2, .cons (.int _) (.cons rd .nil)⟩⟩
theorem di_enum (hm : X.mg "enumerate" = none) (ha : DL X E [e] fl) (hg : Gl X "enumerate" := by rfl) (hs : starEach [e] X.env = [(false, eval e X.env)] := by rfl) :
    DI X E (.Tuple elts kk tpos) (.Call (.Name "enumerate" p) [e] [] pos) (iArgs enumK fl) :=
  PI.impD (PI.or (pi_enum hg hm ha hs) (pi_enumT hg hm ha hs)) fun σ H R ⟨A, S, g, σd, o, r, q⟩ => by
    have q' : KI (Cx.sur X E) A S H (M.bind (fl σd) enumK g) R := q
    cases e1 : fl σd g with
    | bad => rw [bind_bad e1] at q'; exact q'.elim
    | err x g' =>
      rw [bind_err e1] at q'
      refine .inl ⟨A, S, g, σd, o, r, ?_⟩
      rw [e1]
      exact q'
    | ok ds g1 =>
      rw [bind_ok e1] at q'
      unfold enumK at q'
      split at q'
      · rename_i xs
        refine .inl ⟨A, S, g, σd, o, r, ?_⟩
        rw [e1]
        intro A' S' H' vs P o' rv
        obtain ⟨v, rfl, rv1⟩ := rep1 rv
        cases rv1 with
        | @lst a ws _ h rr => exact ⟨a, ws, rfl, .inl (.inl (o'.ext _ _ h)), KI.now (q'.shift P) o' (dit_enumL rr (.inl (.inl h)))⟩
      · rename_i xs
        refine .inr ⟨A, S, g, σd, o, r, ?_⟩
        rw [e1]
        intro A' S' H' vs P o' rv
        obtain ⟨v, rfl, rv1⟩ := rep1 rv
        cases rv1 with
        | @tup a ws _ h rr => exact ⟨a, ws, rfl, tq o'.ext h, KI.now (q'.shift P) o' (dit_enumT rr (.inl (.inl h)))⟩
      · exact q'.elim
end
end NS
namespace NS
open PySem PySem.Spec PyProof.Rows L2
/-! ## a comprehension with two clauses -/
def compM2 (fg : D → DS → M DS) (ft : DS → M Bool) (fi1 : DS → M (List D)) (vs1 : List Nat) (fg1 : D → DS → M DS) (ft1 : DS → M Bool) (fe : DS → M D) (σ : DS) : List D → M (List D)
  | [] => M.pure []
  | d :: ds => M.bind (fg d σ) fun σ1 => M.bind (M.noerr (ft σ1)) fun b => if b = true then
      M.bind (M.noerr (fi1 σ1)) fun es => M.bind (compM fg1 ft1 fe (wipeD σ1 vs1) es) fun r1 => M.bind (compM2 fg ft fi1 vs1 fg1 ft1 fe σ ds) fun r => M.pure (r1 ++ r)
    else compM2 fg ft fi1 vs1 fg1 ft1 fe σ ds
def eComp2 (fi : DS → M (List D)) (vs : List Nat) (fg : D → DS → M DS) (ft : DS → M Bool) (fi1 : DS → M (List D)) (vs1 : List Nat) (fg1 : D → DS → M DS) (ft1 : DS → M Bool) (fe : DS → M D) : DS → M D := fun σ =>
  M.bind (fi σ) fun ds => if fit ds.length = true then M.bind (M.noerr (compM2 fg ft fi1 vs1 fg1 ft1 fe (wipeD σ vs) ds)) fun r => if fit r.length = true then M.pure (.lst r) else M.bad else M.bad
def CQ2 (U : Sur) (m : Bool) (A1 : List GAdr) (S1 H1 : Hp) (Q : VK) (es : List D) (r : Res (List D)) : Prop :=
  match r with
  | .ok rs g => fit (es ++ rs).length = true ∧ KE U m A1 S1 H1 (.ok (.lst (es ++ rs)) g) Q
  | _ => False
theorem CQ2.cons {U : Sur} {m : Bool} {A1 : List GAdr} {S1 H1 : Hp} {Q : VK} {es : List D} {y : D} {C R : M (List D)} {g : G}
    (h : CQ2 U m A1 S1 H1 Q es (M.bind C (fun r => M.bind R fun r' => M.pure ((y :: r) ++ r')) g)) : CQ2 U m A1 S1 H1 Q (es ++ [y]) (M.bind C (fun r => M.bind R fun r' => M.pure (r ++ r')) g) := by
  cases e : C g with
  | err z g' => rw [bind_err e] at h; exact h.elim
  | bad => rw [bind_bad e] at h; exact h.elim
  | ok r g' =>
    rw [bind_ok e] at h ⊢
    cases e2 : R g' with
    | err z g2 => rw [bind_err e2] at h; exact h.elim
    | bad => rw [bind_bad e2] at h; exact h.elim
    | ok r' g2 =>
      rw [bind_ok e2] at h ⊢
      have h' : fit (es ++ ((y :: r) ++ r')).length = true ∧ KE U m A1 S1 H1 (.ok (.lst (es ++ ((y :: r) ++ r'))) g2) Q := h
      show fit (es ++ [y] ++ (r ++ r')).length = true ∧ KE U m A1 S1 H1 (.ok (.lst (es ++ [y] ++ (r ++ r'))) g2) Q
      rw [List.append_assoc]
      exact h'
theorem CQ2.fit {U : Sur} {m : Bool} {A1 : List GAdr} {S1 H1 : Hp} {Q : VK} {es : List D} {r : Res (List D)} (h : CQ2 U m A1 S1 H1 Q es r) : es.length < 1000000 := by
  cases r with
  | ok rs g =>
    have := of_decide_eq_true h.1
    rw [List.length_append] at this
    omega
  | err _ _ => exact h.elim
  | bad => exact h.elim
theorem KI.noerr_I {U : Sur} {A : List GAdr} {S H : Hp} {x : M (List D)} {k : List D → M (List D)} {g : G} {P : Res (List D) → Prop} {E' : XK} {R : It → Hp → Prop} (hb : ¬ P .bad)
    (h : P (M.bind (M.noerr x) k g)) (i : ∀ ds g1, P (k ds g1) → KI ⟨U.mg, U.K, E'⟩ A S H (.ok ds g1) R) : KI ⟨U.mg, U.K, E'⟩ A S H (x g) R := by
  unfold M.bind M.noerr at h
  cases e : x g with
  | ok d g1 => rw [e] at h; exact i d g1 h
  | err e1 g1 => rw [e] at h; exact (hb h).elim
  | bad => rw [e] at h; exact (hb h).elim
theorem wipeD_notin {σd : DS} {i : Nat} {x : DV} : ∀ {vs : List Nat}, (wipeD σd vs)[i]? = some (some x) → i ∉ vs
  | [], _ => by simp
  | v :: vs, h => by
    rcases set_get (l := wipeD σd vs) h with ⟨rfl, z, _⟩ | ⟨ne, h⟩
    · cases z
    · intro hm
      rcases List.mem_cons.mp hm with e | e
      · exact ne e.symm
      · exact wipeD_notin h e
theorem comp_read2 {m : Bool} {vs0 : List Nat} {fi : DS → M (List D)} {vs : List Nat} {fg : D → DS → M DS} {ft : DS → M Bool} {fi1 : DS → M (List D)} {vs1 : List Nat} {fg1 : D → DS → M DS} {ft1 : DS → M Bool} {fe : DS → M D} (tk : TgOk vs0 fg) (hx1 : ∀ d σ g e g', fg1 d σ g ≠ .err e g')
    (hv : ∀ i ∈ vs1, i ∈ vs) {U : Sur} {E' : XK} {σ : L2.St} {H : Hp} {Q : VK}
    (h : tE U m (eComp2 fi vs fg ft fi1 vs1 fg1 ft1 fe) σ H Q) : tLc2 (tI U fi) (tG ⟨U.mg, U.K, E'⟩ vs fg) (tT ⟨U.mg, U.K, E'⟩ ft) (tI ⟨U.mg, U.K, E'⟩ fi1) (tG ⟨U.mg, U.K, E'⟩ vs1 fg1) (tT ⟨U.mg, U.K, E'⟩ ft1) (tE ⟨U.mg, U.K, E'⟩ false fe) vs vs1 σ H Q := by
  obtain ⟨A, S, g, σd, o, r, q⟩ := h
  refine ⟨A, S, g, σd, o, r, ?_⟩
  have q0 : KI U A S H (fi σd g) fun J H1 => ∃ A1 S1 g1 ds, Post A S H A1 S1 H1 ∧ Ok U.K A1 S1 H1 g1 ∧ DIt U.K A1 S1 J ds ∧ KE U m A1 S1 H1 ((if fit ds.length = true then M.bind (M.noerr (compM2 fg ft fi1 vs1 fg1 ft1 fe (wipeD σd vs) ds)) fun r => if fit r.length = true then M.pure (.lst r) else M.bad else M.bad) g1) Q := by
    unfold eComp2 M.bind at q
    cases e : fi σd g with
    | ok d g1 => rw [e] at q; exact fun A' S' H' v p o r => ⟨A', S', g1, d, p, o, r, KE.shift p q⟩
    | err e1 g1 => rw [e] at q; exact q
    | bad => rw [e] at q; exact q
  refine q0.imp fun J H1 ⟨A1, S1, g1, ds, p1, o1, it, q1⟩ => ?_
  intro p hp
  by_cases hf : fit ds.length = true
  · rw [if_pos hf] at q1
    have sp : S1 p = none := Same.free o1.ext hp
    have pg : p ∉ gfp A1 := fun z => by obtain ⟨u, hu⟩ := o1.there p z; rw [hp] at hu; cases hu
    have P0 : Post A1 S1 H1 A1 S1 (upd H1 p (.lst [])) := Post.layO hp
    refine ⟨fun i mm H2 => mm = ds.length - i ∧ i ≤ ds.length ∧ ∃ A2 S2 g2 vs2 es2, Post A1 S1 H1 A2 S2 H2 ∧ Ok U.K A2 S2 H2 g2 ∧ SRep U.K A2 S2 H2 (L2.wipe σ vs) (wipeD σd vs) ∧ Loose A2 S2 H2 p vs2 ∧ RepL U.K A2 S2 vs2 es2 ∧
        CQ2 U m A1 S1 H1 Q es2 (compM2 fg ft fi1 vs1 fg1 ft1 fe (wipeD σd vs) (ds.drop i) g2), ⟨_, rfl, Nat.zero_le _, A1, S1, g1, [], [], P0, o1.layO hp, ((r.post p1).wipe vs).post P0, ⟨sp, pg, upd_same⟩, .nil, ?_⟩, ?_⟩
    · rw [List.drop_zero]
      unfold CQ2
      cases e : compM2 fg ft fi1 vs1 fg1 ft1 fe (wipeD σd vs) ds g1 with
      | ok rs g3 =>
        rw [bind_ok (noerr_ok e)] at q1
        by_cases hr : fit rs.length = true
        · rw [if_pos hr] at q1; exact ⟨hr, q1⟩
        · rw [if_neg hr] at q1; exact q1.elim
      | err x g3 => rw [bind_bad (noerr_err e)] at q1; exact q1.elim
      | bad => rw [bind_bad (noerr_bad e)] at q1; exact q1.elim
    · rintro i mm H2 ⟨rfl, hi, A2, S2, g2, vs2, es2, P2, o2, r2, lo, rl, cq⟩
      by_cases hlt : i < ds.length
      · refine .inr ⟨it.go i H2 hlt (P2.s.trans o2.ext), fun H3 => i + 1 ≤ ds.length ∧ ∃ A3 S3 g3 vs3 es3, Post A1 S1 H1 A3 S3 H3 ∧ Ok U.K A3 S3 H3 g3 ∧ SRep U.K A3 S3 H3 (L2.wipe σ vs) (wipeD σd vs) ∧ Loose A3 S3 H3 p vs3 ∧ RepL U.K A3 S3 vs3 es3 ∧
          CQ2 U m A1 S1 H1 Q es3 (compM2 fg ft fi1 vs1 fg1 ft1 fe (wipeD σd vs) (ds.drop (i + 1)) g3), fun H3 h3 => ⟨ds.length - (i + 1), by omega, rfl, h3⟩, fun x H3 y => ?_⟩
        obtain ⟨d, ed, yy⟩ := it.yld i H2 x H3 hlt (P2.s.trans o2.ext) y
        have edrop : ds.drop i = d :: ds.drop (i + 1) := by
          obtain ⟨hl2, e2⟩ := List.getElem?_eq_some_iff.mp ed
          rw [List.drop_eq_getElem_cons hl2, e2]
        rw [edrop] at cq
        obtain ⟨S3, PX, oX, rX⟩ : ∃ S3, Post A2 S2 H2 A2 S3 H3 ∧ Ok U.K A2 S3 H3 g2 ∧ Rep U.K A2 S3 x d := by
          rcases yy with ⟨rfl, rx⟩ | ⟨T, ws, es, rfl, rfl, hT, rfl, rr⟩
          · exact ⟨S2, Post.refl _ _ _, o2, rx.mono P2.a P2.s⟩
          · have PT := Post.lay (A := A2) (o := .tup ws) hT o2.ext
            exact ⟨_, PT, o2.lay hT, .tup upd_same (rr.mono P2.a (P2.s.trans PT.s))⟩
        refine ⟨A2, S3, g2, wipeD σd vs, d, oX, r2.post PX, rX, ?_⟩
        have cq1 : CQ2 U m A1 S1 H1 Q es2 (M.bind (fg d (wipeD σd vs)) (fun σ1 => M.bind (M.noerr (ft σ1)) fun b => if b = true then
            M.bind (M.noerr (fi1 σ1)) fun es => M.bind (compM fg1 ft1 fe (wipeD σ1 vs1) es) fun r1 => M.bind (compM2 fg ft fi1 vs1 fg1 ft1 fe (wipeD σd vs) (ds.drop (i + 1))) fun r => M.pure (r1 ++ r)
          else compM2 fg ft fi1 vs1 fg1 ft1 fe (wipeD σd vs) (ds.drop (i + 1))) g2) := cq
        cases e1 : fg d (wipeD σd vs) g2 with
        | err z g' => exact (tk.ne _ _ _ _ _ e1).elim
        | bad => rw [bind_bad e1] at cq1; exact cq1.elim
        | ok σ1 g3 =>
          rw [bind_ok e1] at cq1
          intro A4 S4 H4 σ4 P4 o4 r4 w4
          refine ⟨by rw [w4, wipe_wipe], A4, S4, g3, σ1, o4, r4, ?_⟩
          cases e2 : ft σ1 g3 with
          | err z g' => rw [bind_bad (noerr_err e2)] at cq1; exact cq1.elim
          | bad => rw [bind_bad (noerr_bad e2)] at cq1; exact cq1.elim
          | ok b g4 =>
            rw [bind_ok (noerr_ok e2)] at cq1
            intro A5 S5 H5 P5 o5
            have PA : Post A2 S2 H2 A5 S5 H5 := PX.trans (P4.trans P5)
            cases b with
            | false =>
              rw [if_neg (by decide)] at cq1 ⊢
              exact ⟨hlt, A5, S5, g4, vs2, es2, P2.trans PA, o5, r2.post PA, lo.post PA, rl.mono PA.a PA.s, cq1⟩
            | true =>
              rw [if_pos rfl] at cq1 ⊢
              refine ⟨A5, S5, g4, σ1, o5, r4.post P5, ?_⟩
              refine KI.noerr_I (U := U) (P := CQ2 U m A1 S1 H1 Q es2) (fun z => z) cq1 fun ds1 g5 cq2 => ?_
              intro A6 S6 H6 J1 P6 o6 it1
              have PB : Post A2 S2 H2 A6 S6 H6 := PA.trans P6
              have rr4 : SRep U.K A6 S6 H6 σ4 σ1 := (r4.post P5).post P6
              refine ⟨fun j kk H7 => kk = ds1.length - j ∧ j ≤ ds1.length ∧ ∃ A7 S7 g7 vs7 es7, (A6 <+: A7 ∧ Same S6 S7) ∧ Post A1 S1 H1 A7 S7 H7 ∧ Ok U.K A7 S7 H7 g7 ∧ SRep U.K A7 S7 H7 (L2.wipe σ4 vs1) (wipeD σ1 vs1) ∧ SRep U.K A7 S7 H7 (L2.wipe σ vs) (wipeD σd vs) ∧ Loose A7 S7 H7 p vs7 ∧ RepL U.K A7 S7 vs7 es7 ∧
                  CQ2 U m A1 S1 H1 Q es7 (M.bind (compM fg1 ft1 fe (wipeD σ1 vs1) (ds1.drop j)) (fun r1 => M.bind (compM2 fg ft fi1 vs1 fg1 ft1 fe (wipeD σd vs) (ds.drop (i + 1))) fun r => M.pure (r1 ++ r)) g7),
                ⟨_, rfl, Nat.zero_le _, A6, S6, g5, vs2, es2, ⟨List.prefix_refl _, Same.refl _⟩, P2.trans PB, o6, rr4.wipe vs1, r2.post PB, lo.post PB, rl.mono PB.a PB.s, by rw [List.drop_zero]; exact cq2⟩, ?_⟩
              rintro j kk H7 ⟨rfl, hj, A7, S7, g7, vs7, es7, P67, P7, o7, s7, r7, lo7, rl7, cq7⟩
              by_cases hjt : j < ds1.length
              · refine .inr ⟨it1.go j H7 hjt (P67.2.trans o7.ext), fun H8 => j + 1 ≤ ds1.length ∧ ∃ A8 S8 g8 vs8 es8, (A6 <+: A8 ∧ Same S6 S8) ∧ Post A1 S1 H1 A8 S8 H8 ∧ Ok U.K A8 S8 H8 g8 ∧ SRep U.K A8 S8 H8 (L2.wipe σ4 vs1) (wipeD σ1 vs1) ∧ SRep U.K A8 S8 H8 (L2.wipe σ vs) (wipeD σd vs) ∧ Loose A8 S8 H8 p vs8 ∧ RepL U.K A8 S8 vs8 es8 ∧
                  CQ2 U m A1 S1 H1 Q es8 (M.bind (compM fg1 ft1 fe (wipeD σ1 vs1) (ds1.drop (j + 1))) (fun r1 => M.bind (compM2 fg ft fi1 vs1 fg1 ft1 fe (wipeD σd vs) (ds.drop (i + 1))) fun r => M.pure (r1 ++ r)) g8), fun H8 h8 => ⟨ds1.length - (j + 1), by omega, rfl, h8⟩, fun x1 H8 y1 => ?_⟩
                obtain ⟨d1, ed1, yy1⟩ := it1.yld j H7 x1 H8 hjt (P67.2.trans o7.ext) y1
                have edrop1 : ds1.drop j = d1 :: ds1.drop (j + 1) := by
                  obtain ⟨hl2, e2⟩ := List.getElem?_eq_some_iff.mp ed1
                  rw [List.drop_eq_getElem_cons hl2, e2]
                rw [edrop1] at cq7
                obtain ⟨S8, PY, oY, rY⟩ : ∃ S8, Post A7 S7 H7 A7 S8 H8 ∧ Ok U.K A7 S8 H8 g7 ∧ Rep U.K A7 S8 x1 d1 := by
                  rcases yy1 with ⟨rfl, rx⟩ | ⟨T, ws, es, rfl, rfl, hT, rfl, rr⟩
                  · exact ⟨S7, Post.refl _ _ _, o7, rx.mono P67.1 P67.2⟩
                  · have PT := Post.lay (A := A7) (o := .tup ws) hT o7.ext
                    exact ⟨_, PT, o7.lay hT, .tup upd_same (rr.mono P67.1 (P67.2.trans PT.s))⟩
                refine ⟨A7, S8, g7, wipeD σ1 vs1, d1, oY, s7.post PY, rY, ?_⟩
                have cq8 : CQ2 U m A1 S1 H1 Q es7 (M.bind (M.bind (fg1 d1 (wipeD σ1 vs1)) fun σ3 => M.bind (M.noerr (ft1 σ3)) fun b => if b = true then M.bind (M.noerr (fe σ3)) fun y => M.bind (compM fg1 ft1 fe (wipeD σ1 vs1) (ds1.drop (j + 1))) fun r => M.pure (y :: r) else compM fg1 ft1 fe (wipeD σ1 vs1) (ds1.drop (j + 1))) (fun r1 => M.bind (compM2 fg ft fi1 vs1 fg1 ft1 fe (wipeD σd vs) (ds.drop (i + 1))) fun r => M.pure (r1 ++ r)) g7) := cq7
                have asc : ∀ {α β γ : Type} (x : M α) (f : α → M β) (h : β → M γ) (g : G), M.bind (M.bind x f) h g = M.bind x (fun a => M.bind (f a) h) g := fun x f h g => by
                  unfold M.bind; cases x g <;> rfl
                rw [asc] at cq8
                cases e3 : fg1 d1 (wipeD σ1 vs1) g7 with
                | err z g' => exact (hx1 _ _ _ _ _ e3).elim
                | bad => rw [bind_bad e3] at cq8; exact cq8.elim
                | ok σ3 g8 =>
                  rw [bind_ok e3] at cq8
                  intro A9 S9 H9 σ9 P9 o9 r9 w9
                  refine ⟨by rw [w9, wipe_wipe], A9, S9, g8, σ3, o9, r9, ?_⟩
                  rw [asc] at cq8
                  cases e4 : ft1 σ3 g8 with
                  | err z g' => rw [bind_bad (noerr_err e4)] at cq8; exact cq8.elim
                  | bad => rw [bind_bad (noerr_bad e4)] at cq8; exact cq8.elim
                  | ok b1 g9 =>
                    rw [bind_ok (noerr_ok e4)] at cq8
                    intro A10 S10 H10 P10 o10
                    have PC : Post A7 S7 H7 A10 S10 H10 := PY.trans (P9.trans P10)
                    cases b1 with
                    | false =>
                      rw [if_neg (by decide)] at cq8 ⊢
                      exact ⟨hjt, A10, S10, g9, vs7, es7, ⟨P67.1.trans PC.a, P67.2.trans PC.s⟩, P7.trans PC, o10, s7.post PC, r7.post PC, lo7.post PC, rl7.mono PC.a PC.s, cq8⟩
                    | true =>
                      rw [if_pos rfl] at cq8 ⊢
                      refine ⟨A10, S10, g9, σ3, o10, r9.post P10, ?_⟩
                      rw [asc] at cq8
                      cases e5 : fe σ3 g9 with
                      | err z g' => rw [bind_bad (noerr_err e5)] at cq8; exact cq8.elim
                      | bad => rw [bind_bad (noerr_bad e5)] at cq8; exact cq8.elim
                      | ok yd g10 =>
                        rw [bind_ok (noerr_ok e5), asc] at cq8
                        intro A11 S11 H11 v P11 o11 r11
                        have PD : Post A7 S7 H7 A11 S11 H11 := PC.trans P11
                        obtain ⟨l1, l2, l3⟩ := lo7.post PD
                        have cq9 := CQ2.cons (es := es7) (y := yd) (C := compM fg1 ft1 fe (wipeD σ1 vs1) (ds1.drop (j + 1))) (R := compM2 fg ft fi1 vs1 fg1 ft1 fe (wipeD σd vs) (ds.drop (i + 1))) cq8
                        have hlen : vs7.length < 1000000 := by
                          have := cq9.fit
                          rw [List.length_append] at this
                          rw [rl7.length]; simp at this; omega
                        refine ⟨vs7, l3, Nat.lt_trans hlen (by rw [sizeLine_eq]; decide), hjt, A11, S11, g10, vs7 ++ [v], es7 ++ [yd], ?_, (P7.trans PD).writeNew hp, o11.writeO l1 l2, ?_, ?_, ⟨l1, l2, upd_same⟩, (rl7.mono PD.a PD.s).append (.cons r11 .nil), cq9⟩
                        · exact ⟨P67.1.trans PD.a, P67.2.trans PD.s⟩
                        · refine (s7.post PD).loose l1 fun jj dd q0 es' => ?_
                          obtain ⟨q0, _⟩ := (tk.ow _ _ _ _ _ e1).2 jj dd (wipeD_some q0)
                          have nv := wipeD_notin q0
                          have es2 := (L2.wipe_some es').1
                          rw [wipe_get w4 nv] at es2
                          exact nown (P2.trans PB) r hp p1 es2 q0
                        · exact (r7.post PD).loose l1 fun jj dd q0 es' => nown (P2.trans PB) r hp p1 es' q0
              · have ej : j = ds1.length := by omega
                subst ej
                refine .inl ⟨it1.stop _ H7 (Nat.le_refl _) (P67.2.trans o7.ext), hlt, A7, S7, g7, vs7, es7, P7, o7, r7, lo7, rl7, ?_⟩
                rw [List.drop_length] at cq7
                have cq8 : CQ2 U m A1 S1 H1 Q es7 (M.bind (compM2 fg ft fi1 vs1 fg1 ft1 fe (wipeD σd vs) (ds.drop (i + 1))) (fun r => M.pure ([] ++ r)) g7) := cq7
                cases e9 : compM2 fg ft fi1 vs1 fg1 ft1 fe (wipeD σd vs) (ds.drop (i + 1)) g7 with
                | ok rs g8 => rw [bind_ok e9] at cq8; exact cq8
                | err z g8 => rw [bind_err e9] at cq8; exact cq8.elim
                | bad => rw [bind_bad e9] at cq8; exact cq8.elim
      · have ei : i = ds.length := by omega
        subst ei
        refine .inl ⟨it.stop _ H2 (Nat.le_refl _) (P2.s.trans o2.ext), ?_⟩
        rw [List.drop_length] at cq
        have cq1 : fit (es2 ++ []).length = true ∧ KE U m A1 S1 H1 (.ok (.lst (es2 ++ [])) g2) Q := cq
        rw [List.append_nil] at cq1
        obtain ⟨l1, l2, l3⟩ := lo
        exact cq1.2.atLoose P2 o2 hp l1 l2 l3 rl
  · rw [if_neg hf] at q1; exact q1.elim
section
variable {X : Cx} {E : XK} {m : Bool} {e0 : En} {pos : Pos} {elt tg iter tg1 iter1 : Expr} {ifs ifs1 : List Expr} {scope : Scope} {own : List (Str × Nat)} {vs0 vs1 : List Nat} {fi fi1 : DS → M (List D)} {fg fg1 : D → DS → M DS} {ft ft1 : DS → M Bool} {fe : DS → M D}
theorem de_comp2 (hN : X.N.Nodup) (hi : DI X E tg iter fi) (ok : BlkOk X.N X.env.scope scope own) (tk : TgOk vs0 fg) (hx1 : ∀ d σ g e g', fg1 d σ g ≠ .err e g') (hv : ∀ i ∈ vs1, i ∈ own.map (·.2))
    (hg : ∀ s H C cl fp, DG (Blk X scope s H C cl fp) E0 (own.map (·.2)) tg fg) (ht : ∀ s H C cl fp, DTs (Blk X scope s H C cl fp) E0 ifs ft)
    (hi1 : ∀ s H C cl fp, DI (Blk X scope s H C cl fp) E0 tg1 iter1 fi1) (hg1 : ∀ s H C cl fp, DG (Blk X scope s H C cl fp) E0 vs1 tg1 fg1) (ht1 : ∀ s H C cl fp, DTs (Blk X scope s H C cl fp) E0 ifs1 ft1)
    (he : ∀ s H C cl fp, DE (Blk X scope s H C cl fp) E0 false elt fe) (hc : X.calm = true := by rfl) (hs : ∀ x, foldedSetIterable iter X.env x = pure x := by intro _; rfl) (hs1 : ∀ env x, foldedSetIterable iter1 env x = pure x := by intro _ _; rfl) :
    DE X E m (.ListComp elt [⟨tg, iter, ifs, 0⟩, ⟨tg1, iter1, ifs1, 0⟩] scope pos) (eComp2 fi (own.map (·.2)) fg ft fi1 vs1 fg1 ft1 fe) :=
  PE.impD (pe_lc2 (own := own) (vs1 := vs1) (g := tG ⟨X.mg, X.K, E0⟩ (own.map fun (p : Str × Nat) => p.2) fg) (tt := tT ⟨X.mg, X.K, E0⟩ ft) (wi1 := tI ⟨X.mg, X.K, E0⟩ fi1) (g1 := tG ⟨X.mg, X.K, E0⟩ vs1 fg1) (tt1 := tT ⟨X.mg, X.K, E0⟩ ft1) (te := tE ⟨X.mg, X.K, E0⟩ false fe) hc hN hi ok hv hg ht hi1 hg1 ht1 he hs hs1) fun σ H Q h => comp_read2 tk hx1 hv h
theorem ds_setComp2 {m1 : Bool} {i : Nat} {y : Str} {py spos : Pos} (hN : X.N.Nodup) (hi : DI X E tg iter fi) (ok : BlkOk X.N X.env.scope scope own) (tk : TgOk vs0 fg) (hx1 : ∀ d σ g e g', fg1 d σ g ≠ .err e g') (hv : ∀ i ∈ vs1, i ∈ own.map (·.2))
    (hg : ∀ s H C cl fp, DG (Blk X scope s H C cl fp) E0 (own.map (·.2)) tg fg) (ht : ∀ s H C cl fp, DTs (Blk X scope s H C cl fp) E0 ifs ft)
    (hi1 : ∀ s H C cl fp, DI (Blk X scope s H C cl fp) E0 tg1 iter1 fi1) (hg1 : ∀ s H C cl fp, DG (Blk X scope s H C cl fp) E0 vs1 tg1 fg1) (ht1 : ∀ s H C cl fp, DTs (Blk X scope s H C cl fp) E0 ifs1 ft1)
    (he : ∀ s H C cl fp, DE (Blk X scope s H C cl fp) E0 false elt fe)
    (hy : X.N[i]? = some y := by rfl) (hyl : X.env.scope.names.lookup y = some .local := by rfl)
    (hsw : swapsWith (.ListComp elt [⟨tg, iter, ifs, 0⟩, ⟨tg1, iter1, ifs1, 0⟩] scope pos) (some (.Name y py)) spos.line X.env = pure true := by exact sw_true rfl rfl rfl (by decide +kernel)) (hc : X.calm = true := by rfl) (hs : ∀ x, foldedSetIterable iter X.env x = pure x := by intro _; rfl) (hs1 : ∀ env x, foldedSetIterable iter1 env x = pure x := by intro _ _; rfl) :
    DS1 X E m e0 (.Assign [.Name y py] (.ListComp elt [⟨tg, iter, ifs, 0⟩, ⟨tg1, iter1, ifs1, 0⟩] scope pos) spos) (sSet m1 i (eComp2 fi (own.map (·.2)) fg ft fi1 vs1 fg1 ft1 fe)) :=
  PS.impD (ps_setLc2 (own := own) (vs1 := vs1) (g := tG ⟨X.mg, X.K, E0⟩ (own.map fun (p : Str × Nat) => p.2) fg) (tt := tT ⟨X.mg, X.K, E0⟩ ft) (wi1 := tI ⟨X.mg, X.K, E0⟩ fi1) (g1 := tG ⟨X.mg, X.K, E0⟩ vs1 fg1) (tt1 := tT ⟨X.mg, X.K, E0⟩ ft1) (te := tE ⟨X.mg, X.K, E0⟩ false fe) hc hN hy hyl hsw hi ok hv hg ht hi1 hg1 ht1 he hs hs1) fun Z σ H h => by
    obtain ⟨A, S, g, σd, s, q⟩ := h
    exact comp_read2 tk hx1 hv ⟨A, S, g, σd, s.ok, s.rep, (KS.bindE (m1 := m1) s.post q).imp fun v H1 ⟨A1, S1, g1, d, p1, o1, r1, q1⟩ => q1 A1 S1 H1 _ (List.prefix_refl _) (Same.refl _) (s.setM p1 o1 r1 i)⟩
end
end NS
namespace PySem.W
open PySem PySem.Calls PyProof.Rows
section
variable {prog : Program} {w : World} {A : Around} {E : Value → Shared → Prop} {s : Shared}
theorem ns_collectT {l : Addr} {vs : List Value} {Q : List Value → Shared → Prop} (hl : s.heap.IsTuple l vs.toArray)
    (h : Q vs { s with heap := (s.heap.push (seqObj "list" #[] 0)).update s.heap.objs.size (Obj.mapSeq (· ++ vs.toArray)) }) (hsz : vs.length ≤ sizeLine) :
    wpAny (model prog w) A (collect (.ref l)) Q E s := by
  obtain ⟨o, ho, hc, n, hd⟩ := id hl
  unfold collect
  refine wpAny_bind (wpAny_runValue (codeAny_builtin entry_proto_collect' ?_))
  show wpAny _ _ (do again (.builtin "list.__iadd__" ⟨[← newList [], .ref l], []⟩)) _ _ s
  refine wpAny_bind (wpAny_newList (wpAny_pure ⟨Code.quiet_builtin _ (by decide +kernel), codeAny_builtin entry_list_iadd' ?_⟩))
  show wpAny _ _ (Builtin.List.listExtendWith (.ref s.heap.objs.size) (.ref l) (.ref s.heap.objs.size)) _ _ { s with heap := s.heap.push (seqObj "list" #[] 0) }
  unfold Builtin.List.listExtendWith
  have ho' : (s.heap.push (seqObj "list" #[] 0)).get? l = some o := Heap.get?_push_of_some _ ho
  refine wpAny_bind (wpAny_typeOf (T := "tuple") ⟨o, ho', hc⟩ ?_)
  have ht : (Value.type "tuple" == Value.type "tuple") = true := by rfl
  rw [if_pos (by rw [ht]; simp)]
  refine wpAny_bind (listItems_at ho' hd ?_)
  refine wpAny_bind (listItems_at (xs := #[]) (n := 0) (Heap.get?_push_size _ rfl) rfl ?_)
  rw [if_neg (by simp)]
  refine wpAny_bind (listUpdate_at (xs := #[]) (n := 0) (Heap.get?_push_size _ rfl) rfl ?_ (Nat.zero_le _) (by show (#[] ++ vs.toArray).size ≤ sizeLine + 1; simp only [Array.size_append, List.size_toArray, List.length_nil]; omega))
  refine wpAny_pure ?_
  show wpAny (model prog w) A (do
      let o ← load s.heap.objs.size
      match o.data with
      | .seq xs _ => pure xs.toList
      | _ => unsupported "internal:collect") Q E { s with heap := (s.heap.push (seqObj "list" #[] 0)).update s.heap.objs.size (Obj.mapSeq (· ++ vs.toArray)) }
  refine wpAny_bind (wpAny_load (get?_update_seq (Heap.get?_push_size _ rfl) _) ?_)
  show wpAny _ _ (pure ((#[] : Array Value) ++ vs.toArray).toList) Q E _
  rw [show ((#[] : Array Value) ++ vs.toArray).toList = vs by simp]
  exact wpAny_pure h
/-- one empty tuple is sorted -/
theorem SortsAt.unit {v : Value} {as : List Addr} (r : Reads s.heap v (.tuple []) as) : SortsAt prog w A s (dataKind s.heap [.tuple []]) [v] := by
  have hal : AllAlike [.tuple []] := by
    intro d hd e he
    rw [List.mem_singleton.mp hd, List.mem_singleton.mp he]; rfl
  refine ⟨fun x hx => ?_, tuples' false, fun E x y a b Q ha hb hq => ?_, fun h2 => absurd h2 (by simp)⟩
  · rw [List.mem_singleton.mp hx]; exact ⟨_, dataKind_some hal (List.mem_singleton.mpr rfl) r⟩
  · obtain ⟨d, as, hd, ra, rfl⟩ := dataKind_inv ha
    obtain ⟨d', as', hd', rb, rfl⟩ := dataKind_inv hb
    obtain rfl := List.mem_singleton.mp hd
    obtain rfl := List.mem_singleton.mp hd'
    cases ra with
    | @tuple l o xs n _ _ h1 h2 h3 h4 =>
      cases rb with
      | @tuple l' o' xs' n' _ _ k1 k2 k3 k4 =>
        refine kat_lt h1 h3 k1 k3 ?_
        have e1 : xs.toList = [] := by cases q : xs.toList with | nil => rfl | cons f fr => rw [q] at h4; cases h4
        have e2 : xs'.toList = [] := by cases q : xs'.toList with | nil => rfl | cons f fr => rw [q] at k4; cases k4
        have e3 : xs = #[] := by rw [← Array.toArray_toList (xs := xs), e1]
        have e4 : xs' = #[] := by rw [← Array.toArray_toList (xs := xs'), e2]
        subst e3 e4
        exact hq
/-- sorted of what collect gathers -/
theorem ns_sorted {β : Type} {enc : β → PyData} {R : Value → β → Prop} {bs : List β} {x : Value} {vs : List Value} {Q : Value → Shared → Prop} (ha1 : argsOk "sorted" ⟨[x], []⟩)
    (hcol : ∀ (A : Around) (E : Value → Shared → Prop) (Q : List Value → Shared → Prop), Q vs { s with heap := (s.heap.push (seqObj "list" #[] 0)).update s.heap.objs.size (Obj.mapSeq (· ++ vs.toArray)) } → wpAny (model prog w) A (collect x) Q E s)
    (e : EachIs R vs bs) (er : EachIs (fun v b => ∃ as, Reads s.heap v (enc b) as) vs bs) (hal : AllAlike (bs.map enc)) (hL : bs.length ≤ sizeLine)
    (hS : ∀ s' : Shared, EachIs (fun v b => ∃ as, Reads s'.heap v (enc b) as) vs bs → SortsAt prog w A.in1.in1 s' (dataKind s'.heap (bs.map enc)) vs) (h : ∀ out, out.length = bs.length → EachIs R out (bs.mergeSort (dataLe false enc)) → Q (.ref (s.heap.objs.size + 1)) { s with heap := sortedAll s.heap vs (List.toArray out) }) :
    wpAny (model prog w) A (call (.builtin "sorted") [x]) Q E s := by
  have hLv : vs.length ≤ sizeLine := by rw [e.length]; exact hL
  have er' : EachIs (fun v b => ∃ as, Reads (sortingHeap (copyHeap s.heap vs) (s.heap.objs.size + 1) vs) v (enc b) as) vs bs := er.mono fun _ _ ⟨as, r⟩ => ⟨as, PyProof.Rows.Reads.keeps (fun _ _ => sorting_copy_old) r⟩
  have S := hS { s with heap := sortingHeap (copyHeap s.heap vs) (s.heap.objs.size + 1) vs } er'
  refine call_function_entry_kw kind_sorted plain_sorted entry_sorted ha1 ?_
  unfold Builtin.«sorted»
  refine wpAny_bind (m := checkCount "sorted" 1 1 _) (wpAny_pure ?_)
  refine wpAny_bind (hcol _ _ _ ?_)
  refine wpAny_bind (wpAny_newList ?_ hLv)
  have hsz : ((s.heap.push (seqObj "list" #[] 0)).update s.heap.objs.size (Obj.mapSeq (· ++ vs.toArray))).objs.size = s.heap.objs.size + 1 := by
    rw [Heap.size_update, size_push']
  show wpAny _ _ _ _ _ { s with heap := copyHeap s.heap vs }
  rw [hsz]
  refine wpAny_bind (wpAny_holding (wpAny_call_entry_kw slot_list_sort ⟨_, copyHeap_at s.heap vs, rfl⟩ entry_list_sort ?body (args_list_sort _)))
  case body =>
    show wpAny (model prog w) A.in1.in1 (Builtin.«list.sort» ⟨[.ref (s.heap.objs.size + 1)], []⟩) _ _ _
    refine wpAny_mono (list_sort_vals (P := fun f s' => f = .done (.ret .none) ∧ Q (.ref (s.heap.objs.size + 1)) s') (s := { s with heap := copyHeap s.heap vs }) (copyHeap_at s.heap vs) S hLv ⟨rfl, h _ (by rw [sortVals_length false rfl]; exact e.length) (sortVals_data false e er' hal)⟩) (fun f s' hf => ?_) fun _ _ e => e
    obtain ⟨rfl, hq⟩ := hf
    exact ⟨_, rfl, wpAny_pure ⟨_, rfl, hq⟩⟩
end
end PySem.W
namespace NS
open PySem PySem.Spec PyProof.Rows L2
def isTN : PyData → Bool
  | .tuple (_ :: _) => true
  | _ => false
def notTN : PyData → Bool
  | .tuple _ => false | .none => false
  | _ => true
/-- data that sorted can order: alike; all tuples with an item, or none a tuple or None -/
def srtOk (ds : List D) : Bool := D.pysOk ds && (D.pys ds).all (fun d => (D.pys ds).all (fun e => PySem.W.alike d e)) && ((D.pys ds).all isTN || (D.pys ds).all notTN) && decide (PyData.depthAll (D.pys ds) ≤ 60) && fit ds.length
def leD (x y : D) : Bool := PySem.W.dataLe false D.py x y
/-- insertion, structural, so that it computes -/
def insD (le : D → D → Bool) (x : D) : List D → List D
  | [] => [x]
  | y :: ys => if le x y = true then x :: y :: ys else y :: insD le x ys
def isrt (le : D → D → Bool) : List D → List D
  | [] => []
  | x :: xs => insD le x (isrt le xs)
theorem insD_at {le : D → D → Bool} {x : D} : ∀ {l1 l2 : List D}, (∀ b ∈ l1, le x b = false) → (∀ b ∈ l2, le x b = true) → insD le x (l1 ++ l2) = l1 ++ x :: l2
  | [], [], _, _ => rfl
  | [], y :: ys, _, h => by simp [insD, h y List.mem_cons_self]
  | z :: zs, l2, h1, h2 => by
    have h := h1 z List.mem_cons_self
    simp only [List.cons_append, insD, h, Bool.false_eq_true, if_false]
    rw [insD_at (fun b hb => h1 b (List.mem_cons_of_mem _ hb)) h2]
theorem isrt_merge {le : D → D → Bool} (tr : ∀ a b c : D, le a b → le b c → le a c) (to : ∀ a b : D, le a b || le b a) : ∀ l : List D, l.mergeSort le = isrt le l
  | [] => by simp [isrt]
  | x :: xs => by
    obtain ⟨l1, l2, e1, e2, e3⟩ := List.mergeSort_cons tr to x xs
    have p : (l1 ++ x :: l2).Pairwise fun a b => le a b = true := by rw [← e1]; exact List.pairwise_mergeSort tr to _
    have p2 := (List.pairwise_append.mp p).2.1
    rw [e1, isrt, ← isrt_merge tr to xs, e2, insD_at (fun b hb => by simpa using e3 b hb) (fun b hb => (List.pairwise_cons.mp p2).1 b hb)]
theorem leD_tot : PySem.W.TotalLe leD := PySem.W.sortLe_total (PyProof.Rows.listOrd PyProof.Rows.itemOrd) false fun d : D => PySem.W.keyToks (D.py d)
theorem leD_trans (a b c : D) (h : leD a b = true) (h2 : leD b c = true) : leD a c = true := leD_tot.trans a b c h h2
theorem leD_total (a b : D) : (leD a b || leD b a) = true := by rcases leD_tot.total a b with h | h <;> simp [h]
theorem mergeD (l : List D) : l.mergeSort leD = isrt leD l := isrt_merge leD_trans leD_total l
def oneE : List D → Bool
  | [.tup []] => true
  | _ => false
theorem oneE_of {ds : List D} (h : oneE ds = true) : ds = [.tup []] := by
  unfold oneE at h
  split at h
  · rfl
  · cases h
def kSorted : List D → M D
  | [.lst ds] => if srtOk ds = true then M.pure (.lst (isrt leD ds)) else if oneE ds = true then M.pure (.lst ds) else M.bad
  | [.tup ds] => if srtOk ds = true then M.pure (.lst (isrt leD ds)) else M.bad
  | _ => M.bad
theorem pys_map : ∀ ds : List D, D.pys ds = ds.map D.py
  | [] => rfl
  | d :: ds => by simp [D.pys, pys_map ds]
theorem depth_mem : ∀ {ds : List D} {d : D}, d ∈ ds → (D.py d).depth ≤ PyData.depthAll (D.pys ds)
  | x :: xs, d, h => by
    simp only [D.pys, PyData.depthAll]
    rcases List.mem_cons.mp h with e | e
    · subst e; omega
    · have := depth_mem e; omega
theorem srtOk_of {ds : List D} (h : srtOk ds = true) : D.pysOk ds = true ∧ PySem.W.AllAlike (ds.map D.py) ∧ PySem.W.Sortable (ds.map D.py) ∧ (∀ d ∈ ds, (D.py d).depth ≤ 60) ∧ ds.length ≤ sizeLine := by
  unfold srtOk at h
  simp only [Bool.and_eq_true, decide_eq_true_eq, List.all_eq_true, Bool.or_eq_true] at h
  obtain ⟨⟨⟨⟨h1, h2⟩, h3⟩, h4⟩, h5⟩ := h
  rw [pys_map] at h2 h3
  refine ⟨h1, fun d hd e he => h2 d hd e he, ?_, fun d hd => Nat.le_trans (depth_mem hd) h4, Nat.le_of_lt (fit_le h5)⟩
  rcases h3 with h3 | h3
  · refine .inl fun d hd => ?_
    have := h3 d hd
    unfold isTN at this
    split at this
    · exact ⟨_, _, rfl⟩
    · cases this
  · refine .inr fun d hd => ?_
    have := h3 d hd
    exact ⟨fun e => (by subst e; cases this), fun xs e => (by subst e; cases this)⟩
theorem each_of {K : PySem.W.Frag} {A : List GAdr} {S : Hp} : ∀ {vs : List V} {ds : List D} {us : List Value}, RepL K A S vs ds → Vals vs us → PySem.W.EachIs (fun u d => ∃ v, RelV v u ∧ Rep K A S v d) us ds
  | _, _, _, .nil, .nil => .nil
  | _, _, _, .cons h r, .cons q qs => .cons ⟨_, q, h⟩ (each_of r qs)
theorem of_each {K : PySem.W.Frag} {A : List GAdr} {S : Hp} : ∀ {ds : List D} {us : List Value}, PySem.W.EachIs (fun u d => ∃ v, RelV v u ∧ Rep K A S v d) us ds → ∃ vs, Vals vs us ∧ RepL K A S vs ds
  | _, _, .nil => ⟨[], .nil, .nil⟩
  | _, _, .cons ⟨v, q, h⟩ t => by
    obtain ⟨vs, q2, r2⟩ := of_each t
    exact ⟨v :: vs, .cons q q2, .cons h r2⟩
section
variable {X : Cx} {E : XK} {m : Bool}
theorem each_reads {pins : List (Addr × Obj)} {s : Shared} {σ : L2.St} {H : Hp} {A : List GAdr} {S : Hp} (I : Inv X pins σ H s) (e : Same S H) : ∀ {vs : List V} {ds : List D} {us : List Value}, RepL X.K A S vs ds → Vals vs us → D.pysOk ds = true → PySem.W.EachIs (fun u d => ∃ as, Reads s.heap u (D.py d) as) us ds
  | _, _, _, .nil, .nil, _ => .nil
  | _, _, _, .cons h r, .cons q qs, p => .cons (Dp.reads I _ _ _ (h.dp e (Bool.and_eq_true_iff.mp p).1) q) (each_reads I e r qs (Bool.and_eq_true_iff.mp p).2)
theorem cl_sorted (hu : X.A.units + 65 < cLine) : CallD X E (.builtin "sorted") m kSorted := fun pins s σ H xs us Q I rs ⟨A, S, g, ds, o, r, q⟩ => by
  have gen : ∀ (x : Value) (vs : List V) (ds : List D) (its : List Value), argsOk "sorted" ⟨[x], []⟩ → Vals vs its → RepL X.K A S vs ds →
      (∀ (A : Around) (E : Value → Shared → Prop) (Q : List Value → Shared → Prop), Q its { s with heap := (s.heap.push (seqObj "list" #[] 0)).update s.heap.objs.size (Obj.mapSeq (· ++ its.toArray)) } → wpAny (model X.prog X.w) A (collect x) Q E s) →
      (srtOk ds = true ∨ oneE ds = true) → KE (Cx.sur X E) m A S H (.ok (.lst (isrt leD ds)) g) Q → wpAny (model X.prog X.w) X.A (call (.builtin "sorted") [x]) (EP X pins σ Q) X.xe s := fun x vs ds its ha rv rr hcol hs q => by
    have hh : D.pysOk ds = true ∧ PySem.W.AllAlike (ds.map D.py) ∧ ds.length ≤ sizeLine ∧ ∀ s' : Shared, PySem.W.EachIs (fun v b => ∃ as, Reads s'.heap v (D.py b) as) its ds → PySem.W.SortsAt X.prog X.w X.A.in1.in1 s' (PySem.W.dataKind s'.heap (ds.map D.py)) its := by
      rcases hs with hs | hs
      · obtain ⟨h1, h2, h3, h4, h5⟩ := srtOk_of hs
        exact ⟨h1, h2, h5, fun s' e => PySem.W.SortsAt.data (PySem.W.each_map (R := fun v d => ∃ as, Reads s'.heap v d as) D.py e) h2 h3 (PySem.W.bound_map fun b hb => by have := h4 b hb; show X.A.units + 2 + (D.py b).depth < cLine; omega)⟩
      · have e := oneE_of hs
        subst e
        refine ⟨rfl, fun d hd e he => ?_, by rw [sizeLine_eq]; decide, fun s' e => ?_⟩
        · rw [List.mem_singleton.mp hd, List.mem_singleton.mp he]; rfl
        · cases e with
          | cons r t => cases t; obtain ⟨as, r⟩ := r; exact PySem.W.SortsAt.unit r
    obtain ⟨h1, h2, h5, hS⟩ := hh
    refine PySem.W.ns_sorted (enc := D.py) (R := fun u d => ∃ v, RelV v u ∧ Rep X.K A S v d) (bs := ds) ha hcol (each_of rr rv) (each_reads I o.ext rr rv h1) h2 h5 hS fun out hlen he => ?_
    have he : PySem.W.EachIs (fun u d => ∃ v, RelV v u ∧ Rep X.K A S v d) out (ds.mergeSort leD) := he
    rw [mergeD] at he
    obtain ⟨ws, hw, rw'⟩ := of_each he
    obtain ⟨ep, he'⟩ := PyProof.Rows.sortedAll_at s.heap its out.toArray
    have hl : ws.length ≤ sizeLine := by rw [hw.length, hlen]; exact h5
    exact ⟨.ref _, upd H (s.heap.objs.size + 1) (.lst ws), I.laid (t' := s.toks) (fun _ _ => PyProof.Rows.sortedAll_old) (Nat.le_succ _) ⟨hl, out, ep, hw, he'⟩, rfl, KE.newL q o rw' (I.hok.fresh (Nat.le_succ _))⟩
  unfold kSorted at q
  split at q
  · rename_i ds
    by_cases hs : srtOk ds = true
    · rw [if_pos hs] at q
      obtain ⟨v, rfl, h⟩ := rep1 r
      cases h with
      | @lst a ws _ h rr =>
        rw [Vals.ref1 rs]
        obtain ⟨its, rv, hl, hz⟩ := I.list (.inl (.inl (o.ext _ _ h)))
        exact gen _ ws ds its (PyProof.Rows.args_sorted1 _) rv rr (fun A E Q h => PyProof.Rows.collect_list hl.isList h (by rw [← rv.length]; exact hz)) (.inl hs) q
    · rw [if_neg hs] at q
      by_cases h1 : oneE ds = true
      · rw [if_pos h1] at q
        have e := oneE_of h1
        obtain ⟨v, rfl, h⟩ := rep1 r
        cases h with
        | @lst a ws _ h rr =>
          rw [Vals.ref1 rs]
          obtain ⟨its, rv, hl, hz⟩ := I.list (.inl (.inl (o.ext _ _ h)))
          exact gen _ ws ds its (PyProof.Rows.args_sorted1 _) rv rr (fun A E Q h => PyProof.Rows.collect_list hl.isList h (by rw [← rv.length]; exact hz)) (.inr h1) (by subst e; exact q)
      · rw [if_neg h1] at q; exact q.elim
  · rename_i ds
    by_cases hs : srtOk ds = true
    · rw [if_pos hs] at q
      obtain ⟨v, rfl, h⟩ := rep1 r
      cases h with
      | @tup a ws _ h rr =>
        rw [Vals.ref1 rs]
        obtain ⟨its, rv, hl, hz⟩ := I.tuple (tq o.ext h)
        exact gen _ ws ds its (PyProof.Rows.args_sorted1 _) rv rr (fun A E Q h => PySem.W.ns_collectT hl h (by rw [← rv.length]; exact hz)) (.inl hs) q
    · rw [if_neg hs] at q; exact q.elim
  · exact q.elim
end
end NS
namespace NS
open PySem PySem.Spec PyProof.Rows L2
theorem vals_back {vs : List V} {us : List Value} (r : Vals vs us) {i : Nat} {u : Value} (h : us[i]? = some u) : ∃ v, vs[i]? = some v ∧ RelV v u := by
  have hl := (List.getElem?_eq_some_iff.mp h).1
  have hv : i < vs.length := by rw [r.length]; exact hl
  have e : vs[i]? = some vs[i] := List.getElem?_eq_getElem hv
  obtain ⟨w, hw, q⟩ := r.get e
  rw [h] at hw
  cases hw
  exact ⟨_, e, q⟩
/-! ## the least of some pairs -/
def D.prs : List D → Option (List (Int × Int))
  | [] => some []
  | .tup [.int i, .int j] :: r => (D.prs r).map ((i, j) :: ·)
  | _ => none
def minPr : Int × Int → List (Int × Int) → Int × Int
  | p, [] => p
  | p, q :: r => minPr (if q.1 < p.1 ∨ (q.1 = p.1 ∧ q.2 < p.2) then q else p) r
def kMinP : List D → M D
  | [.lst ds] => if fit ds.length = true then (match D.prs ds with | some (p :: r) => M.pure (.tup [.int (minPr p r).1, .int (minPr p r).2]) | _ => M.bad) else M.bad
  | _ => M.bad
def encP (p : Int × Int) : D := .tup [.int p.1, .int p.2]
def pyP (p : Int × Int) : PyData := .tuple [.int p.1, .int p.2]
theorem prs_eq : ∀ {ds : List D} {ps : List (Int × Int)}, D.prs ds = some ps → ds = ps.map encP
  | [], _, h => by cases h; rfl
  | d :: ds, ps, h => by
    unfold D.prs at h
    split at h
    · rename_i h0; cases h0
    · rename_i h0
      cases h0
      cases e : D.prs ds with
      | none => rw [e] at h; cases h
      | some qs =>
        rw [e] at h; cases h
        simp [prs_eq e, encP]
    · cases h
@[simp] theorem prs_map (ps : List (Int × Int)) : D.prs (ps.map encP) = some ps := by
  induction ps with
  | nil => rfl
  | cons p ps ih => simp [encP, D.prs] at ih ⊢; exact ih
theorem dataLt_pr (p q : Int × Int) : PySem.W.dataLt (pyP p) (pyP q) = decide (p.1 < q.1 ∨ (p.1 = q.1 ∧ p.2 < q.2)) := by
  unfold pyP
  rw [PySem.W.dataLt_pair (by simp [PySem.W.alike]) (by simp [PySem.W.alike]), PySem.W.dataLt_int, PySem.W.dataLt_int]
  simp only [PyData.eqv]
  by_cases h1 : p.1 = q.1
  · by_cases h2 : p.2 = q.2
    · simp [h1, h2]
    · simp [h1, h2]
  · simp [h1]
theorem minD_prs : ∀ (ps : List (Int × Int)) (p : Int × Int), PySem.W.minD (pyP p) (ps.map pyP) = pyP (minPr p ps)
  | [], p => rfl
  | q :: ps, p => by
    have ih := minD_prs ps (if q.1 < p.1 ∨ (q.1 = p.1 ∧ q.2 < p.2) then q else p)
    unfold PySem.W.minD at ih ⊢
    rw [List.map_cons, List.foldl_cons, dataLt_pr]
    show List.foldl _ (if decide (q.1 < p.1 ∨ (q.1 = p.1 ∧ q.2 < p.2)) = true then pyP q else pyP p) _ = pyP (minPr (if q.1 < p.1 ∨ (q.1 = p.1 ∧ q.2 < p.2) then q else p) ps)
    rw [← ih]
    congr 1
    by_cases h : q.1 < p.1 ∨ (q.1 = p.1 ∧ q.2 < p.2) <;> simp [h]
theorem pys_prs (ps : List (Int × Int)) : D.pys (ps.map encP) = ps.map pyP := by
  rw [pys_map, List.map_map]; rfl
theorem pysOk_prs : ∀ ps : List (Int × Int), D.pysOk (ps.map encP) = true
  | [] => rfl
  | p :: ps => by simp [D.pysOk, encP, D.pyOk, pysOk_prs ps]
theorem depth_prs : ∀ ps : List (Int × Int), PyData.depthAll (ps.map pyP) ≤ 1
  | [] => by simp [PyData.depthAll]
  | p :: ps => by
    have := depth_prs ps
    simp only [List.map_cons, PyData.depthAll, pyP, PyData.depth]
    omega
section
variable {X : Cx} {E : XK}
theorem cl_minP (hu : X.A.units + 65 < cLine) (hc : X.calm = true := by rfl) : CallD X E (.builtin "min") false kMinP := fun pins s σ H xs us Q I rs ⟨A, S, g, ds, o, r, q⟩ => by
  unfold kMinP at q
  split at q
  · rename_i ds
    by_cases hf : fit ds.length = true
    · rw [if_pos hf] at q
      cases e : D.prs ds with
      | none => rw [e] at q; exact q.elim
      | some ps =>
        rw [e] at q
        cases ps with
        | nil => exact q.elim
        | cons p ps =>
          have ed := prs_eq e
          subst ed
          obtain ⟨v, rfl, h⟩ := rep1 r
          cases h with
          | @lst a ws _ h rr =>
            rw [Vals.ref1 rs]
            obtain ⟨its, rv, hl, hz⟩ := I.list (.inl (.inl (o.ext _ _ h)))
            have er := each_reads I o.ext rr rv (pysOk_prs _)
            obtain ⟨as, hr⟩ := PySem.W.each_readsAll D.py er
            have em : ((p :: ps).map encP).map D.py = pyP p :: ps.map pyP := by rw [← pys_map, pys_prs]; rfl
            rw [em] at hr
            refine PySem.W.min_list_data (I.ok.hd hc) hl.isList (by simpa using hr) ⟨?_, ?_⟩ (by
              have : PyData.depthAll (pyP p :: ps.map pyP) ≤ 1 := depth_prs (p :: ps)
              omega) fun i v h' tk bs hi hrd hk => ?_
            · intro x hx y hy
              have hx' : x ∈ (p :: ps).map pyP := hx
              have hy' : y ∈ (p :: ps).map pyP := hy
              obtain ⟨x', _, rfl⟩ := List.mem_map.mp hx'
              obtain ⟨y', _, rfl⟩ := List.mem_map.mp hy'
              simp [pyP, PySem.W.alike, PySem.W.alikeAll]
            · intro x hx
              have hx' : x ∈ (p :: ps).map pyP := hx
              obtain ⟨x', _, rfl⟩ := List.mem_map.mp hx'
              simp [pyP]
            · have hi' : its[i]? = some v := by simpa using hi
              obtain ⟨w, hw, rw'⟩ := vals_back rv hi'
              obtain ⟨d, hd, rd⟩ := rr.get hw
              rw [List.getElem?_map] at hd
              cases ep : (p :: ps)[i]? with
              | none => rw [ep] at hd; cases hd
              | some pp =>
                rw [ep] at hd
                have hd : encP pp = d := Option.some.inj hd
                subst hd
                have I2 : Inv X pins σ H { s with heap := h', toks := tk } := I.kept (t' := tk) hk
                have rd2 := Dp.reads I2 _ _ _ (rd.dp o.ext rfl) rw'
                obtain ⟨as2, hrd2⟩ := rd2
                rw [minD_prs] at hrd
                have eu := SeqAt.Reads.unique _ _ _ _ _ (by simp [encP, D.py, D.pys, PyData.canLay0, PyData.canLayAll0]) hrd2 hrd
                have ee : pyP pp = pyP (minPr p ps) := eu
                have e3 : pp = minPr p ps := by
                  unfold pyP at ee
                  simp at ee
                  exact Prod.ext ee.1 ee.2
                subst e3
                exact ⟨w, H, I2, rw', KE.val q o rd⟩
    · rw [if_neg hf] at q; exact q.elim
  · exact q.elim
/-! ## range, downwards -/
def rngUp (i : Int) (n : Nat) (c : Int) : List D := (List.range n).map fun k => .int (i + (k : Nat) * c)
def rng3 : List D → M (List D)
  | [.int i, .int j, .int c] => if c = -1 ∧ inR i = true ∧ inR j = true then M.pure (rngUp i (i - j).toNat (-1)) else M.bad
  | _ => M.bad
theorem dit_rngC {K : PySem.W.Frag} {A : List GAdr} {S : Hp} {lo c : Int} {n : Nat} : DIt K A S (Itc lo c n) (rngUp lo n c) := by
  have hl : (rngUp lo n c).length = n := by simp [rngUp]
  refine ⟨fun i H h _ => by rw [hl] at h; exact h, fun i H h _ => by rw [hl] at h; exact h, fun i H x H' h _ y => ?_⟩
  obtain ⟨e1, e2⟩ := y
  subst e2
  refine ⟨.int (lo + (i : Nat) * c), ?_, .inl ⟨e1, .int _⟩⟩
  rw [hl] at h
  simp [rngUp, h]
variable {pos p : Pos} {a b c tg e : Expr} {fl : DS → M (List D)} {fe : DS → M D}
theorem rep3' {K : PySem.W.Frag} {A : List GAdr} {S : Hp} {xs : List V} {i j k : Int} (r : RepL K A S xs [.int i, .int j, .int k]) : xs = [.int i, .int j, .int k] := rep3 r
theorem di_range3 (hm : X.mg "range" = none) (ha : DL X E [a, b, c] fl) (hg : Gl X "range" := by rfl)
    (hs : starEach [a, b, c] X.env = (false, eval a X.env) :: starEach [b, c] X.env := by rfl) (hpl : (backTo pos (starEach [b, c] X.env)).any (·.1) = false := by rfl) : DI X E tg (.Call (.Name "range" p) [a, b, c] [] pos) (iArgs rng3 fl) :=
  PI.impD (pi_range3 hg hm ha hs hpl) fun σ H R ⟨A, S, g, σd, o, r, q⟩ => ⟨A, S, g, σd, o, r, (KI.bindL q).imp fun vs H1 ⟨A1, S1, g1, ds, p1, o1, r1, q1⟩ => by
    unfold rng3 at q1
    split at q1
    · rename_i i j k
      have e := rep3 r1
      subst e
      by_cases hc : k = -1 ∧ inR i = true ∧ inR j = true
      · rw [if_pos hc] at q1
        obtain ⟨rfl, h1, h2⟩ := hc
        have h1 := inR_iff.mp h1
        have h2 := inR_iff.mp h2
        exact ⟨i, j, -1, (i - j).toNat, rfl, RgC.neg h1.1 h1.2 h2.1 h2.2, KI.now q1 o1 dit_rngC⟩
      · rw [if_neg hc] at q1; exact q1.elim
    · exact q1.elim⟩
/-! ## [::-1] -/
def kRev : D → M D
  | .lst xs => M.pure (.lst xs.reverse)
  | _ => M.bad
def eRev (fe : DS → M D) : DS → M D := fun σ => M.bind (fe σ) kRev
theorem de_rev {m : Bool} {k : Nat} {p1 p2 p3 : Pos} (he : DE X E false e fe) : DE X E m (.Subscript e (.Slice none none (some (.UnaryOp .USub (.Constant (.int 1) k p1) p2)) p3) pos) (eRev fe) :=
  PE.impD (pe_revL he) fun σ H Q ⟨A, S, g, σd, o, r, q⟩ => ⟨A, S, g, σd, o, r, (KE.bindE q).imp fun v H1 ⟨A1, S1, g1, d, p1, o1, r1, q1⟩ => by
    unfold kRev at q1
    split at q1
    · cases r1 with
      | @lst a ws _ h rr => exact ⟨a, ws, rfl, .inl (.inl (o1.ext _ _ h)), fun l hl => KE.newL q1 o1 rr.reverse hl⟩
    · exact q1.elim⟩
end
end NS
namespace NS
open PySem PySem.Spec PyProof.Rows L2
/-! ## methods of lists and texts -/
def rMD (U : Sur) (m : Bool) (k : List D → M D) (d : D) : V → List V → Hp → VK → Prop := fun x xs H Q => ∃ A S g ds, Ok U.K A S H g ∧ Rep U.K A S x d ∧ RepL U.K A S xs ds ∧ KE U m A S H (k ds g) Q
def isL : D → Bool
  | .lst _ => true
  | _ => false
def eMeth (p : D → Bool) (k : D → List D → M D) (fo : DS → M D) (fl : DS → M (List D)) : DS → M D := fun σ => M.bind (fo σ) fun x => if p x = true then M.bind (fl σ) fun xs => k x xs else M.bad
theorem MtR.imp {X : Cx} {id : String} {r r' : V → List V → Hp → VK → Prop} (h : MtR X id r) (i : ∀ x xs H Q, r' x xs H Q → r x xs H Q) : MtR X id r' := fun pins s σ H x xs v us Q I q qs k => h pins s σ H x xs v us Q I q qs (i _ _ _ _ k)
section
variable {X : Cx} {E : XK} {m : Bool} {pos p apos cpos : Pos} {o e : Expr} {es : List Expr} {fo fe : DS → M D} {fl : DS → M (List D)} {name : Str} {id : String} {k : D → List D → M D} {e0 : En}
theorem Rep.tyL {K : PySem.W.Frag} {A : List GAdr} {S H : Hp} {v : V} {d : D} (e : Same S H) (r : Rep K A S v d) (h : isL d = true) : tyV K "list" v H := by
  cases r with
  | lst h1 _ => exact .inl ⟨rfl, _, .inl (.inl (e _ _ h1))⟩
  | _ => cases h
/-- xs.name(..) of a list that is shared -/
theorem de_methL (slot : Slot "list" name id) (hty : typeOf (.builtin id) = pure (.type "method_descriptor")) (hm : ∀ d, isL d = true → MtR X id (rMD (Cx.sur X E) m (k d) d)) (ho : DE X E false o fo) (ha : DL X E (e :: es) fl)
    (hbase : attributeBase o name X.env (eval o X.env) = eval o X.env := by rfl)
    (hfew : ((backTo cpos (starEach (e :: es) X.env)).all (fun x => !x.1) && (backToKw cpos (keywordEach [] X.env)).all (fun x => x.1.isSome)
      && decide ((e :: es).length + ([] : List Keyword).length + (if ([] : List Keyword).isEmpty then 0 else 1) < 30)) = true := by rfl)
    (hline : (apos.endLine == cpos.line) = true := by rfl) (hs : starEach (e :: es) X.env = (false, eval e X.env) :: starEach es X.env := by rfl) (hplain : (backTo cpos (starEach es X.env)).any (·.1) = false := by rfl) :
    DE X E m (.Call (.Attribute o name apos) (e :: es) [] cpos) (eMeth isL k fo fl) := by
  have hM : MtR X id (fun x xs H Q => ∃ d, isL d = true ∧ rMD (Cx.sur X E) m (k d) d x xs H Q) := fun pins s σ H x xs v us Q I q qs ⟨d, hd, h⟩ => hm d hd pins s σ H x xs v us Q I q qs h
  refine PE.impD (pe_bm F.plainAttrs_list slot hty hM ho ha hbase hfew hline hs hplain) fun σ H Q ⟨A, S, g, σd, o, r, q⟩ => ⟨A, S, g, σd, o, r, (KE.bindE q).imp fun v H1 ⟨A1, S1, g1, d, p1, o1, r1, q1⟩ => ?_⟩
  by_cases hd : isL d = true
  · rw [if_pos hd] at q1
    refine ⟨r1.tyL o1.ext hd, A1, S1, g1, σd, o1, r.post p1, (KE.bindL q1).imp fun vs H2 ⟨A2, S2, g2, ds, p2, o2, r2, q2⟩ => ?_⟩
    exact ⟨d, hd, A2, S2, g2, ds, o2, Rep.mono p2.a p2.s r1, r2, q2⟩
  · rw [if_neg hd] at q1; exact q1.elim
/-! ### count, index -/
def plOk (xs : List D) (x : D) : Bool := D.pysOk xs && D.pyOk x && SeqAt.shaped (.list (D.pys xs)) && SeqAt.shaped (D.py x)
def kCount : D → List D → M D
  | .lst xs, [x] => if plOk xs x = true then M.pure (.int (((D.pys xs).countP fun y => PyData.eqv y (D.py x) : Nat) : Int)) else M.bad
  | _, _ => M.bad
def kIndex : D → List D → M D
  | .lst xs, [x] => if plOk xs x = true then M.opt (((D.pys xs).findIdx? fun y => PyData.eqv y (D.py x)).map fun j => .int (j : Nat)) else M.bad
  | _, _ => M.bad
theorem shaped_l {xs : List D} (h : SeqAt.shaped (.list (D.pys xs)) = true) : PyData.canLayAll0 (D.pys xs) = true ∧ PyData.depthAll (D.pys xs) ≤ 63 := by
  have h1 := SeqAt.canLay_of_shaped h
  have h2 := SeqAt.depth_of_shaped h
  refine ⟨h1, ?_⟩
  simp only [PyData.depth] at h2
  omega
theorem plOk_of {xs : List D} {x : D} (h : plOk xs x = true) : D.pysOk xs = true ∧ D.pyOk x = true ∧ SeqAt.shaped (.list (D.pys xs)) = true ∧ SeqAt.shaped (D.py x) = true := by
  unfold plOk at h
  simp only [Bool.and_eq_true] at h
  exact ⟨h.1.1.1, h.1.1.2, h.1.2, h.2⟩
theorem mt_countD (hu : X.A.units + 65 < cLine) : ∀ d, isL d = true → MtR X "list.count" (rMD (Cx.sur X E) false (kCount d) d) := fun d hd pins s σ H x xs v us Q I q qs ⟨A, S, g, ds, o, r, rs, k⟩ => by
  unfold kCount at k
  split at k
  · rename_i ys y _
    by_cases hp : plOk ys y = true
    · rw [if_pos hp] at k
      obtain ⟨h1, h2, h3, h4⟩ := plOk_of hp
      obtain ⟨w, rfl, rw'⟩ := rep1 rs
      cases r with
      | @lst a ws _ ha rr =>
        cases q
        obtain ⟨u, rfl, ru⟩ := qs.one
        obtain ⟨its, rv, hl, hz⟩ := I.list (.inl (.inl (o.ext _ _ ha)))
        obtain ⟨bs, r2⟩ := Dp.reads I _ _ _ (rw'.dp o.ext h2) ru
        obtain ⟨as, r1⟩ := Dp.readsAll I _ _ _ (rr.dp o.ext h1) rv
        obtain ⟨c1, c2⟩ := shaped_l h3
        exact PySem.SeqAt.count_list_data hl.isList (by simpa using r1) r2 (PyData.plainAll_of_canLay0 _ c1) (PyData.plain_of_canLay0 _ (SeqAt.canLay_of_shaped h4)) (by omega) ⟨.int _, H, I.tok _, ⟨_, rfl⟩, KE.val k o (.int _)⟩
    · rw [if_neg hp] at k; exact k.elim
  · exact k.elim
theorem mt_indexDD (hu : X.A.units + 65 < cLine) : ∀ d, isL d = true → MtR X "list.index" (rMD (Cx.sur X E) false (kIndex d) d) := fun d hd => MtR.imp (mt_indexD hu) fun x xs H Q ⟨A, S, g, ds, o, r, rs, k⟩ => by
  unfold kIndex at k
  split at k
  · rename_i ys y _
    by_cases hp : plOk ys y = true
    · rw [if_pos hp] at k
      obtain ⟨h1, h2, h3, h4⟩ := plOk_of hp
      obtain ⟨w, rfl, rw'⟩ := rep1 rs
      obtain ⟨c, e1, k⟩ := opt_ok (o := ((D.pys ys).findIdx? fun z => PyData.eqv z (D.py y)).map fun j => D.int (j : Nat)) k
      cases ef : (D.pys ys).findIdx? fun z => PyData.eqv z (D.py y) with
      | none => rw [ef] at e1; cases e1
      | some j =>
        rw [ef] at e1; cases e1
        obtain ⟨hj, hp1, hp2⟩ := List.findIdx?_eq_some_iff_getElem.mp ef
        have hr := r.dp o.ext (show D.pyOk (.lst ys) = true from h1)
        cases r with
        | @lst a ws _ ha rr =>
          exact ⟨a, w, D.py y, D.pys ys, j, (D.pys ys)[j], rfl, rfl, hr, rw'.dp o.ext h2, h3, h4, List.getElem?_eq_getElem hj, hp1, fun mm z' hm hz => by
            obtain ⟨hl, e3⟩ := List.getElem?_eq_some_iff.mp hz
            have := hp2 mm hm
            rw [e3] at this
            simpa using this, KE.val k o (.int _)⟩
    · rw [if_neg hp] at k; exact k.elim
  · exact k.elim
/-! ## methods of own lists, as statements: k gives the new list -/
def sOwnL (i : Nat) (k : List D → List D → Option (List D)) (fl : DS → M (List D)) : DS → M Fl := fun σ => match ownL σ[i]? with
  | some ds => M.bind (fl σ) fun xs => match k ds xs with
    | some ds' => M.pure (.nx (σ.set i (some (.ow (.lst ds')))))
    | none => M.bad
  | none => M.bad
theorem own_readL {U : Sur} {i : Nat} {k : List D → List D → Option (List D)} {fl : DS → M (List D)} {Z : Ends} {A : List GAdr} {S H : Hp} {g : G} {σd : DS} {σ : L2.St} (s : Stt U.K e0 A S g σd σ H) (q : KS U m e0 A S (sOwnL i k fl σd g) Z) :
    ∃ p vs ds, σ[i]? = some (some (.ref p)) ∧ H p = some (.lst vs) ∧ KL U A S H (fl σd g) fun ws H1 => ∃ A1 S1 g1 xs ds', Post A S H A1 S1 H1 ∧ Ok U.K A1 S1 H1 g1 ∧ RepL U.K A1 S1 ws xs ∧ H1 p = some (.lst vs) ∧ RepL U.K A1 S1 vs ds ∧ k ds xs = some ds' ∧
      S1 p = none ∧ ∀ vs', RepL U.K A1 S1 vs' ds' → Z.nx σ (upd H1 p (.lst vs')) := by
  cases eo : ownL σd[i]? with
  | none =>
    have q' : KS U m e0 A S ((match ownL σd[i]? with | some ds => M.bind (fl σd) (fun d => match k ds d with | some ds' => M.pure (.nx (σd.set i (some (.ow (.lst ds'))))) | none => M.bad) | none => M.bad : M Fl) g) Z := q
    rw [eo] at q'; exact q'.elim
  | some ds =>
    have q' : KS U m e0 A S ((match ownL σd[i]? with | some ds => M.bind (fl σd) (fun d => match k ds d with | some ds' => M.pure (.nx (σd.set i (some (.ow (.lst ds'))))) | none => M.bad) | none => M.bad : M Fl) g) Z := q
    rw [eo] at q'
    have e := ownL_eq eo
    obtain ⟨p, e1, h1, h2, vs, h3, h4⟩ := s.rep.ow e
    refine ⟨p, vs, ds, e1, h3, (KS.bindL s.post q').imp fun v H1 ⟨A1, S1, g1, d, p1, o1, r1, q1⟩ => ?_⟩
    have s1 := s.post' p1 o1
    have k1 : H1 p = some (.lst vs) := p1.keep p _ h3 h2
    have r2 : RepL U.K A1 S1 vs ds := h4.mono p1.a p1.s
    obtain ⟨p', e1', h1', _⟩ := s1.rep.ow e
    rw [e1] at e1'; cases e1'
    cases ek : k ds d with
    | none => rw [ek] at q1; exact q1.elim
    | some ds' =>
      rw [ek] at q1
      exact ⟨A1, S1, g1, d, ds', p1, o1, r1, k1, r2, ek, h1', fun vs' r' => q1 A1 S1 _ σ (List.prefix_refl _) (Same.refl _) (s1.write e e1 ⟨vs', upd_same, r'⟩)⟩
/-- the kit's rule for a method of an own list, by its effect -/
theorem ds_ownL (i : Nat) {x : Str} {px : Pos} {kk : List D → List D → Option (List D)} {r : V → List V → Hp → VK → Prop} (slot : Slot "list" name id) (hty : typeOf (.builtin id) = pure (.type "method_descriptor")) (hm : MtR X id r)
    (hr : ∀ (A : List GAdr) (S H : Hp) (g : G) (p : Addr) (vs ws : List V) (ds xs ds' : List D) (Q : VK), Ok X.K A S H g → H p = some (.lst vs) → RepL X.K A S vs ds → RepL X.K A S ws xs → kk ds xs = some ds' → (∀ y vs', RepL X.K A S vs' ds' → Q y (upd H p (.lst vs'))) → r (.ref p) ws H Q)
    (ha : DL X E (e :: es) fl) (hN : X.N[i]? = some x := by rfl) (hv : Vis X.env.scope x := by first | exact Or.inl rfl | exact Or.inr (Or.inl rfl) | exact Or.inr (Or.inr rfl)) (hd : (x == ("__debug__" : Str)) = false := by decide)
    (hcd : (x == ("__classdict__" : Str)) = false := by decide) (hbase : attributeBase (.Name x px) name X.env (eval (.Name x px) X.env) = eval (.Name x px) X.env := by rfl)
    (hfew : ((backTo cpos (starEach (e :: es) X.env)).all (fun x => !x.1) && (backToKw cpos (keywordEach [] X.env)).all (fun x => x.1.isSome)
      && decide ((e :: es).length + ([] : List Keyword).length + (if ([] : List Keyword).isEmpty then 0 else 1) < 30)) = true := by rfl)
    (hline : (apos.endLine == cpos.line) = true := by rfl) (hs : starEach (e :: es) X.env = (false, eval e X.env) :: starEach es X.env := by rfl) (hplain : (backTo cpos (starEach es X.env)).any (·.1) = false := by rfl)
    (hsw : swapsWith (.Call (.Attribute (.Name x px) name apos) (e :: es) [] cpos) none pos.line X.env = pure false := by rfl) :
    DS1 X E m e0 (.Expr (.Call (.Attribute (.Name x px) name apos) (e :: es) [] cpos) pos) (sOwnL i kk fl) :=
  PS.impD (ps_expr (pe_bm PySem.F.plainAttrs_list slot hty hm (pe_var hN hv hd hcd) ha hbase hfew hline hs hplain) hsw) fun Z σ H ⟨A, S, g, σd, s, q⟩ => by
    obtain ⟨p, vs, ds, e1, h1, q'⟩ := own_readL s q
    refine ⟨.ref p, e1, tyV_lst h1, A, S, g, σd, s.ok, s.rep, q'.imp fun ws H1 ⟨A1, S1, g1, xs, ds', p1, o1, r1, k1, r2, ek, sp, z⟩ => ?_⟩
    exact hr A1 S1 H1 g1 p vs ws ds xs ds' _ o1 k1 r2 r1 ek fun y vs' r' => z vs' r'
/-- remove an int from ints -/
def kRemI (ds xs : List D) : Option (List D) := match D.ints ds, xs with
  | some ns, [.int k] => (ns.findIdx? fun n => n == k).map fun j => ds.eraseIdx j
  | _, _ => none
theorem eff_remove (A : List GAdr) (S H : Hp) (g : G) (p : Addr) (vs ws : List V) (ds xs ds' : List D) (Q : VK) (o : Ok X.K A S H g) (hp : H p = some (.lst vs)) (r : RepL X.K A S vs ds) (r2 : RepL X.K A S ws xs) (hk : kRemI ds xs = some ds')
    (q : ∀ y vs', RepL X.K A S vs' ds' → Q y (upd H p (.lst vs'))) : rRemI (.ref p) ws H Q := by
  unfold kRemI at hk
  split at hk
  · rename_i ns k en
    obtain ⟨w, rfl, rw'⟩ := rep1 r2
    cases rw'
    have ev := ints_rep r en
    subst ev
    cases ef : ns.findIdx? fun n => n == k with
    | none => rw [ef] at hk; cases hk
    | some j =>
      rw [ef] at hk; cases hk
      obtain ⟨hj, hp1, hp2⟩ := List.findIdx?_eq_some_iff_getElem.mp ef
      have hk2 : ns[j] = k := by simpa using hp1
      refine ⟨p, ns, k, j, rfl, rfl, hp, by rw [List.getElem?_eq_getElem hj, hk2], fun mm hm e => ?_, ?_⟩
      · obtain ⟨hl, e3⟩ := List.getElem?_eq_some_iff.mp e
        have := hp2 mm hm
        rw [e3] at this
        simp at this
      · have := r.eraseIdx j
        rw [L2.erase_mapI] at this
        exact q _ _ this
  · cases hk
def kIns (ds xs : List D) : Option (List D) := match xs with
  | [.int i, d] => if 0 ≤ i ∧ i < 1000000 ∧ ds.length < 1000000 then some (ds.take i.toNat ++ [d] ++ ds.drop i.toNat) else none
  | _ => none
theorem eff_insert (A : List GAdr) (S H : Hp) (g : G) (p : Addr) (vs ws : List V) (ds xs ds' : List D) (Q : VK) (o : Ok X.K A S H g) (hp : H p = some (.lst vs)) (r : RepL X.K A S vs ds) (r2 : RepL X.K A S ws xs) (hk : kIns ds xs = some ds')
    (q : ∀ y vs', RepL X.K A S vs' ds' → Q y (upd H p (.lst vs'))) : ∃ (l : Addr) (xs : List V) (i : Int) (y : V), V.ref p = .ref l ∧ ws = [.int i, y] ∧ H l = some (.lst xs) ∧ xs.length < sizeLine ∧ 0 ≤ i ∧ i < 2 ^ 63 ∧
    Q .non (upd H l (.lst (xs.take i.toNat ++ [y] ++ xs.drop i.toNat))) := by
  unfold kIns at hk
  split at hk
  · rename_i i d
    by_cases h : 0 ≤ i ∧ i < 1000000 ∧ ds.length < 1000000
    · rw [if_pos h] at hk; cases hk
      cases r2 with
      | cons h1 r2 =>
        cases r2 with
        | cons h2 r2 =>
          cases r2
          cases h1
          refine ⟨p, vs, i, _, rfl, rfl, hp, by rw [r.length, sizeLine_eq]; omega, h.1, by omega, ?_⟩
          exact q _ _ (((r.take _).append (.cons h2 .nil)).append (r.drop _))
    · rw [if_neg h] at hk; cases hk
  · cases hk
def kPopS (ds xs : List D) : Option (List D) := match xs with
  | [.int i] => if 0 ≤ i ∧ i < ds.length ∧ ds.length < 1000000 then some (ds.eraseIdx i.toNat) else none
  | _ => none
theorem seqIx_nat {i n : Nat} (h : i < n) : seqIndex? (i : Int) n = some i := by
  unfold seqIndex?
  have h1 : ¬ ((i : Int) < 0) := by omega
  simp [h1, h]
theorem eff_pop (A : List GAdr) (S H : Hp) (g : G) (p : Addr) (vs ws : List V) (ds xs ds' : List D) (Q : VK) (o : Ok X.K A S H g) (hp : H p = some (.lst vs)) (r : RepL X.K A S vs ds) (r2 : RepL X.K A S ws xs) (hk : kPopS ds xs = some ds')
    (q : ∀ y vs', RepL X.K A S vs' ds' → Q y (upd H p (.lst vs'))) : rPopAt (.ref p) ws H Q := by
  unfold kPopS at hk
  split at hk
  · rename_i i
    by_cases h : 0 ≤ i ∧ i < ds.length ∧ ds.length < 1000000
    · rw [if_pos h] at hk; cases hk
      obtain ⟨w, rfl, rw'⟩ := rep1 r2
      cases rw'
      obtain ⟨j, rfl⟩ := Int.eq_ofNat_of_zero_le h.1
      have hj : j < vs.length := by rw [r.length]; omega
      exact ⟨p, vs, (j : Int), j, vs[j], rfl, rfl, hp, by omega, by omega, seqIx_nat hj, List.getElem?_eq_getElem hj, q _ _ (r.eraseIdx j)⟩
    · rw [if_neg h] at hk; cases hk
  · cases hk
/-! ## extend by a new list -/
theorem own_readM {U : Sur} {i : Nat} {m1 : Bool} {k : List D → D → Option (List D)} {fe : DS → M D} {Z : Ends} {A : List GAdr} {S H : Hp} {g : G} {σd : DS} {σ : L2.St} (s : Stt U.K e0 A S g σd σ H) (q : KS U m e0 A S (sOwn i k fe σd g) Z) :
    ∃ p vs ds, σ[i]? = some (some (.ref p)) ∧ H p = some (.lst vs) ∧ KE U m1 A S H (fe σd g) fun v H1 => ∃ A1 S1 g1 d ds', Post A S H A1 S1 H1 ∧ Ok U.K A1 S1 H1 g1 ∧ RepM U.K H A1 S1 H1 v d m1 ∧ H1 p = some (.lst vs) ∧ RepL U.K A1 S1 vs ds ∧ k ds d = some ds' ∧
      S1 p = none ∧ ∀ vs', RepL U.K A1 S1 vs' ds' → Z.nx σ (upd H1 p (.lst vs')) := by
  cases eo : ownL σd[i]? with
  | none =>
    have q' : KS U m e0 A S ((match ownL σd[i]? with | some ds => M.bind (fe σd) (fun d => match k ds d with | some ds' => M.pure (.nx (σd.set i (some (.ow (.lst ds'))))) | none => M.bad) | none => M.bad : M Fl) g) Z := q
    rw [eo] at q'; exact q'.elim
  | some ds =>
    have q' : KS U m e0 A S ((match ownL σd[i]? with | some ds => M.bind (fe σd) (fun d => match k ds d with | some ds' => M.pure (.nx (σd.set i (some (.ow (.lst ds'))))) | none => M.bad) | none => M.bad : M Fl) g) Z := q
    rw [eo] at q'
    have e := ownL_eq eo
    obtain ⟨p, e1, h1, h2, vs, h3, h4⟩ := s.rep.ow e
    refine ⟨p, vs, ds, e1, h3, (KS.bindE (m1 := m1) s.post q').imp fun v H1 ⟨A1, S1, g1, d, p1, o1, r1, q1⟩ => ?_⟩
    have s1 := s.post' p1 o1
    have k1 : H1 p = some (.lst vs) := p1.keep p _ h3 h2
    have r2 : RepL U.K A1 S1 vs ds := h4.mono p1.a p1.s
    obtain ⟨p', e1', h1', _⟩ := s1.rep.ow e
    rw [e1] at e1'; cases e1'
    cases ek : k ds d with
    | none => rw [ek] at q1; exact q1.elim
    | some ds' =>
      rw [ek] at q1
      exact ⟨A1, S1, g1, d, ds', p1, o1, r1, k1, r2, ek, h1', fun vs' r' => q1 A1 S1 _ σ (List.prefix_refl _) (Same.refl _) (s1.write e e1 ⟨vs', upd_same, r'⟩)⟩
theorem ds_extendO (i : Nat) {x : Str} {px : Pos} (he : DE X E true e fe) (hN : X.N[i]? = some x := by rfl) (hv : Vis X.env.scope x := by first | exact Or.inl rfl | exact Or.inr (Or.inl rfl) | exact Or.inr (Or.inr rfl)) (hd : (x == ("__debug__" : Str)) = false := by decide)
    (hcd : (x == ("__classdict__" : Str)) = false := by decide) (hbase : attributeBase (.Name x px) "extend" X.env (eval (.Name x px) X.env) = eval (.Name x px) X.env := by rfl)
    (hfew : ((backTo cpos (starEach [e] X.env)).all (fun x => !x.1) && (backToKw cpos (keywordEach [] X.env)).all (fun x => x.1.isSome)
      && decide (([e] : List Expr).length + ([] : List Keyword).length + (if ([] : List Keyword).isEmpty then 0 else 1) < 30)) = true := by rfl)
    (hline : (apos.endLine == cpos.line) = true := by rfl) (hs : starEach [e] X.env = (false, eval e X.env) :: starEach [] X.env := by rfl) (hplain : (backTo cpos (starEach [] X.env)).any (·.1) = false := by rfl)
    (hsw : swapsWith (.Call (.Attribute (.Name x px) "extend" apos) [e] [] cpos) none pos.line X.env = pure false := by rfl) :
    DS1 X E m e0 (.Expr (.Call (.Attribute (.Name x px) "extend" apos) [e] [] cpos) pos) (sOwn i kExt fe) :=
  PS.impD (ps_expr (pe_bm PySem.F.plainAttrs_list PySem.F.slot_list_extend PySem.F.type_list_extend mt_extend (pe_var hN hv hd hcd) (pa_cons he pa_nil hs) hbase hfew hline hs hplain) hsw) fun Z σ H ⟨A, S, g, σd, s, q⟩ => by
    obtain ⟨p, vs, ds, e1, h1, q'⟩ := own_readM (m1 := true) s q
    refine ⟨.ref p, e1, tyV_lst h1, A, S, g, σd, s.ok, s.rep, q'.imp fun v H1 ⟨A1, S1, g1, d, ds', p1, o1, r1, k1, r2, ek, sp, z⟩ => ?_⟩
    obtain ⟨b, rfl, b1, b2, b3, b4⟩ := r1
    cases d with
    | lst es =>
      obtain ⟨ws, hb, rr⟩ := b4
      have ek' : (if fit (ds.length + es.length) = true then some (ds ++ es) else none) = some ds' := ek
      by_cases hf : fit (ds.length + es.length) = true
      · rw [if_pos hf] at ek'; cases ek'
        exact ⟨p, b, vs, ws, rfl, rfl, k1, hb, by rw [r2.length, rr.length]; exact Nat.le_of_lt (fit_le hf), z _ (r2.append rr)⟩
      · rw [if_neg hf] at ek'; cases ek'
    | _ => simp [kExt] at ek
/-! ## xs.append(ys.pop(i)), both own -/
def popAt (ds : List D) (d : D) : Option (D × List D) := match d with
  | .int i => if 0 ≤ i ∧ i < ds.length ∧ ds.length < 1000000 then (ds[i.toNat]?).map fun x => (x, ds.eraseIdx i.toNat) else none
  | _ => none
def sAppPop (i j : Nat) (fe : DS → M D) : DS → M Fl := fun σ => match ownL σ[i]?, ownL σ[j]? with
  | some xs, some ys => M.bind (fe σ) fun d => match popAt ys d with
    | some (x, ys') => if fit xs.length = true then M.pure (.nx ((σ.set j (some (.ow (.lst ys')))).set i (some (.ow (.lst (xs ++ [x])))))) else M.bad
    | none => M.bad
  | _, _ => M.bad
theorem ds_appPop (i j : Nat) {x y : Str} {px py apos2 cpos2 : Pos} (he : DE X E false e fe) (hij : i ≠ j := by decide) (hN : X.N[i]? = some x := by rfl) (hv : Vis X.env.scope x := by first | exact Or.inl rfl | exact Or.inr (Or.inl rfl) | exact Or.inr (Or.inr rfl)) (hd : (x == ("__debug__" : Str)) = false := by decide)
    (hcd : (x == ("__classdict__" : Str)) = false := by decide) (hN2 : X.N[j]? = some y := by rfl) (hv2 : Vis X.env.scope y := by first | exact Or.inl rfl | exact Or.inr (Or.inl rfl) | exact Or.inr (Or.inr rfl)) (hd2 : (y == ("__debug__" : Str)) = false := by decide)
    (hcd2 : (y == ("__classdict__" : Str)) = false := by decide)
    (hbase : attributeBase (.Name x px) "append" X.env (eval (.Name x px) X.env) = eval (.Name x px) X.env := by rfl)
    (hbase2 : attributeBase (.Name y py) "pop" X.env (eval (.Name y py) X.env) = eval (.Name y py) X.env := by rfl)
    (hfew2 : ((backTo cpos2 (starEach [e] X.env)).all (fun x => !x.1) && (backToKw cpos2 (keywordEach [] X.env)).all (fun x => x.1.isSome)
      && decide (([e] : List Expr).length + ([] : List Keyword).length + (if ([] : List Keyword).isEmpty then 0 else 1) < 30)) = true := by rfl)
    (hline2 : (apos2.endLine == cpos2.line) = true := by rfl) (hs2 : starEach [e] X.env = (false, eval e X.env) :: starEach [] X.env := by rfl) (hplain2 : (backTo cpos2 (starEach [] X.env)).any (·.1) = false := by rfl)
    (hfew : ((backTo cpos (starEach [.Call (.Attribute (.Name y py) "pop" apos2) [e] [] cpos2] X.env)).all (fun x => !x.1) && (backToKw cpos (keywordEach [] X.env)).all (fun x => x.1.isSome)
      && decide (([.Call (.Attribute (.Name y py) "pop" apos2) [e] [] cpos2] : List Expr).length + ([] : List Keyword).length + (if ([] : List Keyword).isEmpty then 0 else 1) < 30)) = true := by rfl)
    (hline : (apos.endLine == cpos.line) = true := by rfl) (hs : starEach [.Call (.Attribute (.Name y py) "pop" apos2) [e] [] cpos2] X.env = (false, eval (.Call (.Attribute (.Name y py) "pop" apos2) [e] [] cpos2) X.env) :: starEach [] X.env := by rfl) (hplain : (backTo cpos (starEach [] X.env)).any (·.1) = false := by rfl)
    (hsw : swapsWith (.Call (.Attribute (.Name x px) "append" apos) [.Call (.Attribute (.Name y py) "pop" apos2) [e] [] cpos2] [] cpos) none pos.line X.env = pure false := by rfl) :
    DS1 X E m e0 (.Expr (.Call (.Attribute (.Name x px) "append" apos) [.Call (.Attribute (.Name y py) "pop" apos2) [e] [] cpos2] [] cpos) pos) (sAppPop i j fe) :=
  PS.impD (ps_expr (pe_bm PySem.F.plainAttrs_list PySem.F.slot_list_append PySem.F.type_list_append mt_append (pe_var hN hv hd hcd)
    (pa_cons (pe_bm PySem.F.plainAttrs_list PySem.F.slot_list_pop PySem.F.type_list_pop mt_popAt (pe_var hN2 hv2 hd2 hcd2) (pa_cons he pa_nil hs2) hbase2 hfew2 hline2 hs2 hplain2) pa_nil hs) hbase hfew hline hs hplain) hsw) fun Z σ H ⟨A, S, g, σd, s, q⟩ => by
    cases eo : ownL σd[i]? with
    | none =>
      unfold sAppPop at q; rw [eo] at q; exact q.elim
    | some xs =>
      cases eo2 : ownL σd[j]? with
      | none => unfold sAppPop at q; rw [eo, eo2] at q; exact q.elim
      | some ys =>
        unfold sAppPop at q
        rw [eo, eo2] at q
        have e1 := ownL_eq eo
        have e2 := ownL_eq eo2
        obtain ⟨p1, s1, a1, a2, vs1, a3, a4⟩ := s.rep.ow e1
        obtain ⟨p2, s2, b1, b2, vs2, b3, b4⟩ := s.rep.ow e2
        refine ⟨.ref p1, s1, tyV_lst a3, .ref p2, s2, tyV_lst b3, A, S, g, σd, s.ok, s.rep, (KS.bindE (m1 := false) s.post q).imp fun v H1 ⟨A1, S1, g1, d, P1, o1, r1, q1⟩ => ?_⟩
        have st1 := s.post' P1 o1
        have k1 : H1 p1 = some (.lst vs1) := P1.keep p1 _ a3 a2
        have k2 : H1 p2 = some (.lst vs2) := P1.keep p2 _ b3 b2
        have rx : RepL X.K A1 S1 vs1 xs := a4.mono P1.a P1.s
        have ry : RepL X.K A1 S1 vs2 ys := b4.mono P1.a P1.s
        cases ep : popAt ys d with
        | none => rw [ep] at q1; exact q1.elim
        | some r =>
          obtain ⟨z, ys'⟩ := r
          rw [ep] at q1
          by_cases hf : fit xs.length = true
          · have q1 : KS (Cx.sur X E) m e0 A1 S1 ((if fit xs.length = true then M.pure (.nx ((σd.set j (some (.ow (.lst ys')))).set i (some (.ow (.lst (xs ++ [z])))))) else M.bad : M Fl) g1) Z := q1
            rw [if_pos hf] at q1
            unfold popAt at ep
            split at ep
            · rename_i k
              by_cases h : 0 ≤ k ∧ k < ys.length ∧ ys.length < 1000000
              · rw [if_pos h] at ep
                cases r1
                cases ez : ys[k.toNat]? with
                | none => rw [ez] at ep; cases ep
                | some z' =>
                  rw [ez] at ep
                  have ep := Option.some.inj ep
                  have ez1 : z' = z := congrArg Prod.fst ep
                  have ez2 : ys.eraseIdx k.toNat = ys' := congrArg Prod.snd ep
                  subst ez1 ez2
                  obtain ⟨w, hw, rw'⟩ := ry.getD ez
                  obtain ⟨n, rfl⟩ := Int.eq_ofNat_of_zero_le h.1
                  have hn : n < vs2.length := by rw [ry.length]; omega
                  have hne : p1 ≠ p2 := fun e => by
                    subst e
                    exact s.rep.sep i j _ _ p1 hij e1 e2 s1 s2
                  have st2 := st1.write (i := j) (d' := .lst (ys.eraseIdx n)) e2 s2 ⟨vs2.eraseIdx n, upd_same, ry.eraseIdx n⟩
                  have e1' : (σd.set j (some (.ow (.lst (ys.eraseIdx n)))))[i]? = some (some (.ow (.lst xs))) := by rw [List.getElem?_set_ne (Ne.symm hij)]; exact e1
                  have st3 := st2.write (i := i) (d' := .lst (xs ++ [z'])) e1' s1 ⟨vs1 ++ [w], upd_same, rx.append (.cons rw' .nil)⟩
                  refine ⟨p2, vs2, (n : Int), n, w, rfl, rfl, k2, by omega, by omega, seqIx_nat hn, by simpa using hw, ?_⟩
                  refine ⟨p1, vs1, w, rfl, rfl, by rw [upd_ne hne]; exact k1, by rw [rx.length]; exact fit_le hf, ?_⟩
                  exact q1 A1 S1 _ σ (List.prefix_refl _) (Same.refl _) st3
              · rw [if_neg h] at ep; cases ep
            · cases ep
          · have q1 : KS (Cx.sur X E) m e0 A1 S1 ((if fit xs.length = true then M.pure (.nx ((σd.set j (some (.ow (.lst ys')))).set i (some (.ow (.lst (xs ++ [z])))))) else M.bad : M Fl) g1) Z := q1
            rw [if_neg hf] at q1; exact q1.elim
end
end NS
namespace NS
open PySem PySem.Spec PyProof.Rows L2
/-! ## dicts: keys ints and texts, or tuples of these -/
def keyOf : D → Option Key
  | .int i => some (.inl i)
  | .str x => some (.inr x)
  | _ => none
def keysOf : List D → Option (List Key)
  | [] => some []
  | d :: ds => match keyOf d, keysOf ds with
    | some k, some ks => some (k :: ks)
    | _, _ => none
section
variable {κ : Type} [DecidableEq κ]
def valD (kvs : List (κ × D)) (k : κ) : Option D := (kvs.find? fun kv => decide (kv.1 = k)).map (·.2)
def putD (kvs : List (κ × D)) (k : κ) (v : D) : List (κ × D) :=
  if (kvs.any fun kv => decide (kv.1 = k)) = true then kvs.map (fun kv => if kv.1 = k then (kv.1, v) else kv) else kvs ++ [(k, v)]
end
section
variable {K : PySem.W.Frag} {A : List GAdr} {S H : Hp}
theorem keyOf_rep {v : V} {d : D} {k : Key} (r : Rep K A S v d) (h : keyOf d = some k) : v = kV k := by
  cases r with
  | int i => cases h; rfl
  | str x => cases h; rfl
  | _ => cases h
theorem keysOf_rep : ∀ {vs : List V} {ds : List D} {ks : List Key}, RepL K A S vs ds → keysOf ds = some ks → vs = ks.map kV
  | _, _, _, .nil, h => by cases h; rfl
  | _, _, _, .cons h1 r, h => by
    unfold keysOf at h
    split at h
    · rename_i k ks e1 e2
      cases h
      rw [keyOf_rep h1 e1, keysOf_rep r e2]; rfl
    · cases h
theorem RepT.val {k : List Key} : ∀ {vs : List (List Key × V)} {ds : List (List Key × D)} {d : D}, RepT K A S vs ds → valD ds k = some d → ∃ v, valV vs k = some v ∧ Rep K A S v d
  | _, _, _, .nil, h => by cases h
  | (j, v) :: vs, (_, c) :: ds, d, .cons h1 r, h => by
    by_cases e : j = k
    · subst e
      simp [valD] at h
      subst h
      exact ⟨v, by simp [valV], h1⟩
    · have h' : valD ds k = some d := by simpa [valD, e] using h
      obtain ⟨w, hw, rw'⟩ := RepT.val r h'
      exact ⟨w, by simpa [valV, e] using hw, rw'⟩
theorem RepK.val {k : Key} : ∀ {vs : List (Key × V)} {ds : List (Key × D)} {d : D}, RepK K A S vs ds → valD ds k = some d → ∃ v, valV vs k = some v ∧ Rep K A S v d
  | _, _, _, .nil, h => by cases h
  | (j, v) :: vs, (_, c) :: ds, d, .cons h1 r, h => by
    by_cases e : j = k
    · subst e
      simp [valD] at h
      subst h
      exact ⟨v, by simp [valV], h1⟩
    · have h' : valD ds k = some d := by simpa [valD, e] using h
      obtain ⟨w, hw, rw'⟩ := RepK.val r h'
      exact ⟨w, by simpa [valV, e] using hw, rw'⟩
theorem RepT.no {k : List Key} : ∀ {vs : List (List Key × V)} {ds : List (List Key × D)}, RepT K A S vs ds → valD ds k = none → valV vs k = none
  | _, _, .nil, _ => rfl
  | (j, v) :: vs, (_, c) :: ds, .cons h1 r, h => by
    by_cases e : j = k
    · subst e; simp [valD] at h
    · have h' : valD ds k = none := by simpa [valD, e] using h
      have := RepT.no r h'
      simpa [valV, e] using this
theorem RepK.no {k : Key} : ∀ {vs : List (Key × V)} {ds : List (Key × D)}, RepK K A S vs ds → valD ds k = none → valV vs k = none
  | _, _, .nil, _ => rfl
  | (j, v) :: vs, (_, c) :: ds, .cons h1 r, h => by
    by_cases e : j = k
    · subst e; simp [valD] at h
    · have h' : valD ds k = none := by simpa [valD, e] using h
      have := RepK.no r h'
      simpa [valV, e] using this
theorem RepT.len : ∀ {vs : List (List Key × V)} {ds : List (List Key × D)}, RepT K A S vs ds → vs.length = ds.length
  | _, _, .nil => rfl
  | _, _, .cons _ r => congrArg (· + 1) r.len
theorem RepK.len : ∀ {vs : List (Key × V)} {ds : List (Key × D)}, RepK K A S vs ds → vs.length = ds.length
  | _, _, .nil => rfl
  | _, _, .cons _ r => congrArg (· + 1) r.len
theorem RepT.any (k : List Key) : ∀ {vs : List (List Key × V)} {ds : List (List Key × D)}, RepT K A S vs ds → (vs.any fun kv => decide (kv.1 = k)) = ds.any fun kv => decide (kv.1 = k)
  | _, _, .nil => rfl
  | _, _, .cons _ r => by simp only [List.any_cons, r.any k]
theorem RepK.any (k : Key) : ∀ {vs : List (Key × V)} {ds : List (Key × D)}, RepK K A S vs ds → (vs.any fun kv => decide (kv.1 = k)) = ds.any fun kv => decide (kv.1 = k)
  | _, _, .nil => rfl
  | _, _, .cons _ r => by simp only [List.any_cons, r.any k]
theorem RepT.app : ∀ {vs ws : List (List Key × V)} {ds es : List (List Key × D)}, RepT K A S vs ds → RepT K A S ws es → RepT K A S (vs ++ ws) (ds ++ es)
  | _, _, _, _, .nil, r => r
  | _, _, _, _, .cons h r, r2 => .cons h (r.app r2)
theorem RepK.app : ∀ {vs ws : List (Key × V)} {ds es : List (Key × D)}, RepK K A S vs ds → RepK K A S ws es → RepK K A S (vs ++ ws) (ds ++ es)
  | _, _, _, _, .nil, r => r
  | _, _, _, _, .cons h r, r2 => .cons h (r.app r2)
theorem RepT.put {k : List Key} {v : V} {d : D} (hv : Rep K A S v d) {vs : List (List Key × V)} {ds : List (List Key × D)} (r : RepT K A S vs ds) : RepT K A S (putK vs k v) (putD ds k d) := by
  have gen : ∀ {vs : List (List Key × V)} {ds : List (List Key × D)}, RepT K A S vs ds → RepT K A S (vs.map fun kv => if kv.1 = k then (kv.1, v) else kv) (ds.map fun kv => if kv.1 = k then (kv.1, d) else kv) := by
    intro vs ds r
    induction vs generalizing ds with
    | nil => cases r; exact .nil
    | cons p vs ih =>
      cases r with
      | @cons j w c _ ds h r =>
        simp only [List.map_cons]
        by_cases e : j = k
        · simp only [e, if_true]; exact .cons hv (ih r)
        · simp only [e, if_false]; exact .cons h (ih r)
  unfold putK putD
  rw [r.any k]
  split
  · exact gen r
  · exact r.app (.cons hv .nil)
theorem RepK.put {k : Key} {v : V} {d : D} (hv : Rep K A S v d) {vs : List (Key × V)} {ds : List (Key × D)} (r : RepK K A S vs ds) : RepK K A S (putK vs k v) (putD ds k d) := by
  have gen : ∀ {vs : List (Key × V)} {ds : List (Key × D)}, RepK K A S vs ds → RepK K A S (vs.map fun kv => if kv.1 = k then (kv.1, v) else kv) (ds.map fun kv => if kv.1 = k then (kv.1, d) else kv) := by
    intro vs ds r
    induction vs generalizing ds with
    | nil => cases r; exact .nil
    | cons p vs ih =>
      cases r with
      | @cons j w c _ ds h r =>
        simp only [List.map_cons]
        by_cases e : j = k
        · simp only [e, if_true]; exact .cons hv (ih r)
        · simp only [e, if_false]; exact .cons h (ih r)
  unfold putK putD
  rw [r.any k]
  split
  · exact gen r
  · exact r.app (.cons hv .nil)
end
theorem PE.or {X : Cx} {e : Expr} {t t' : TE} (h : PE X e t) (h' : PE X e t') : PE X e (fun σ H Q => t σ H Q ∨ t' σ H Q) := ⟨fun pins s σ H Q I q => q.elim (h.run pins s σ H Q I) (h'.run pins s σ H Q I)⟩
/-! ### d[k] -/
def isDc : D → Bool
  | .dT _ => true | .dK _ => true
  | _ => false
def dGet : D → D → Option D
  | .dT kvs, .tup ks => (keysOf ks).bind fun k => valD kvs k
  | .dK kvs, y => (keyOf y).bind fun k => valD kvs k
  | _, _ => none
def kIxD (x y : D) : M D := if isDc x = true then M.opt (dGet x y) else kIx x y
section
variable {X : Cx} {E : XK} {m : Bool} {pos : Pos} {a b e : Expr} {fa fb fe : DS → M D} {e0 : En}
theorem dGet_rd {K : PySem.W.Frag} {A : List GAdr} {S H : Hp} (o : Same S H) {x y : V} {dx dy d : D} (r1 : Rep K A S x dx) (r2 : Rep K A S y dy) (h : dGet dx dy = some d) : ∃ p v, x = .ref p ∧ DGet H p y (some v) ∧ Rep K A S v d := by
  cases r1 with
  | @dT p vs ds h1 r1 =>
    cases r2 with
    | @tup q ws ks h2 r2 =>
      have h' : ((keysOf ks).bind fun k => valD ds k) = some d := h
      cases ek : keysOf ks with
      | none => rw [ek] at h'; cases h'
      | some k =>
        rw [ek] at h'
        obtain ⟨v, hv, rv⟩ := r1.val h'
        have ew := keysOf_rep r2 ek
        subst ew
        exact ⟨p, v, rfl, .inr ⟨vs, k, q, .inl (o _ _ h1), rfl, o _ _ h2, hv.symm⟩, rv⟩
    | _ => cases h
  | @dK p vs ds h1 r1 =>
    have h' : ((keyOf dy).bind fun k => valD ds k) = some d := by cases dy <;> exact h
    cases ek : keyOf dy with
    | none => rw [ek] at h'; cases h'
    | some k =>
      rw [ek] at h'
      obtain ⟨v, hv, rv⟩ := r1.val h'
      exact ⟨p, v, rfl, .inl ⟨vs, k, .inl (o _ _ h1), keyOf_rep r2 ek, hv.symm⟩, rv⟩
  | _ => cases r2 <;> cases h
theorem de_ixD (hu : X.A.units + 65 < cLine) (ha : DE X E false a fa) (hb : DE X E false b fb) (hs : PlainIx b := by exact fun _ _ => rfl) (hs2 : NoSl b := by exact fun _ _ => rfl) : DE X E false (.Subscript a b pos) (eBin kIxD fa fb) :=
  PE.impD (PE.or (pe_ix ix_seq ha hb hs) (pe_dget (by omega) ha hb hs2)) fun σ H Q ⟨A, S, g, σd, o, r, q⟩ => by
    have q' : KE (Cx.sur X E) false A S H (M.bind (fa σd) (fun x => M.bind (fb σd) fun y => kIxD x y) g) Q := q
    cases e1 : fa σd g with
    | bad => rw [bind_bad e1] at q'; exact q'.elim
    | err z g' =>
      rw [bind_err e1] at q'
      exact .inl ⟨A, S, g, σd, o, r, by rw [e1]; exact q'⟩
    | ok d g1 =>
      rw [bind_ok e1] at q'
      by_cases hd : isDc d = true
      · refine .inr ⟨A, S, g, σd, o, r, ?_⟩
        rw [e1]
        intro A1 S1 H1 v p1 o1 r1
        refine ⟨A1, S1, g1, σd, o1, r.post p1, (KE.bindE (KE.shift p1 q')).imp fun u H2 ⟨A2, S2, g2, d2, p2, o2, r2, q2⟩ => ?_⟩
        unfold kIxD at q2
        rw [if_pos hd] at q2
        obtain ⟨c, e2, q2⟩ := opt_ok q2
        obtain ⟨p, w, hx, hg, rw'⟩ := dGet_rd o2.ext (Rep.mono p2.a p2.s r1) r2 e2
        exact ⟨p, w, hx, hg, KE.val q2 o2 rw'⟩
      · refine .inl ⟨A, S, g, σd, o, r, ?_⟩
        rw [e1]
        intro A1 S1 H1 v p1 o1 r1
        refine ⟨A1, S1, g1, σd, o1, r.post p1, (KE.bindE (KE.shift p1 q')).imp fun u H2 ⟨A2, S2, g2, d2, p2, o2, r2, q2⟩ => ?_⟩
        unfold kIxD at q2
        rw [if_neg hd] at q2
        exact ix_rd rfl _ _ _ _ ⟨A2, S2, g2, d, d2, o2, Rep.mono p2.a p2.s r1, r2, q2⟩
/-! ### a new dict -/
theorem KE.newO {U : Sur} {A : List GAdr} {S H : Hp} {d : D} {ob : HO} {g : G} {Q : VK} (h : KE U m A S H (.ok d g) Q) (o : Ok U.K A S H g) {p : Addr} (hp : H p = none) (ht : Top U.K A S (upd H p ob) p d)
    (hr : Rep U.K A (upd S p ob) (.ref p) d) : Q (.ref p) (upd H p ob) := by
  have sp : S p = none := Same.free o.ext hp
  have pg : p ∉ gfp A := fun z => by obtain ⟨u, hu⟩ := o.there p z; rw [hp] at hu; cases hu
  cases m with
  | false => exact h A (upd S p ob) _ _ (Post.lay hp o.ext) (o.lay hp) hr
  | true => exact h A S _ _ (Post.layO hp) (o.layO hp) ⟨p, rfl, hp, sp, pg, ht⟩
theorem de_dnewT : DE X E m (.Dict [] [] pos) (eC (.dT [])) := PE.impD pe_dnewT fun σ H Q ⟨A, S, g, σd, o, r, q⟩ p hp => KE.newO q o hp ⟨[], upd_same, .nil⟩ (.dT upd_same .nil)
theorem de_dnewK : DE X E m (.Dict [] [] pos) (eC (.dK [])) := PE.impD pe_dnewK fun σ H Q ⟨A, S, g, σd, o, r, q⟩ p hp => KE.newO q o hp ⟨[], upd_same, .nil⟩ (.dK upd_same .nil)
/-! ### d[k] = v of an own dict -/
def dPut : D → D → D → Option D
  | .dT kvs, .tup ks, v => if fit kvs.length = true then (keysOf ks).map fun k => .dT (putD kvs k v) else none
  | .dK kvs, y, v => if fit kvs.length = true then (keyOf y).map fun k => .dK (putD kvs k v) else none
  | _, _, _ => none
def ownD : Option (Option DV) → Option D
  | some (some (.ow d)) => some d
  | _ => none
theorem ownD_eq {o : Option (Option DV)} {d : D} (h : ownD o = some d) : o = some (some (.ow d)) := by
  unfold ownD at h
  split at h
  · cases h; rfl
  · cases h
def sDPut' (j : Nat) (fe fi : DS → M D) : DS → M Fl := fun σ => M.bind (fe σ) fun d => match ownD σ[j]? with
  | some x => M.bind (fi σ) fun i => match dPut x i d with
    | some x' => M.pure (.nx (σ.set j (some (.ow x'))))
    | none => M.bad
  | none => M.bad
theorem dPut_rd {K : PySem.W.Frag} {A : List GAdr} {S H : Hp} (o : Same S H) {p : Addr} {y w : V} {dx dy d d' : D} (t : Top K A S H p dx) (r2 : Rep K A S y dy) (r3 : Rep K A S w d) (h : dPut dx dy d = some d') : ∃ ob, DPut H p y w (upd H p ob) ∧ Top K A S (upd H p ob) p d' := by
  cases dx with
  | dT kvs =>
    obtain ⟨vs, h1, r1⟩ := t
    cases r2 with
    | @tup q ws ks h2 r2 =>
      have h' : (if fit kvs.length = true then (keysOf ks).map fun k => D.dT (putD kvs k d) else none) = some d' := h
      by_cases hf : fit kvs.length = true
      · rw [if_pos hf] at h'
        cases ek : keysOf ks with
        | none => rw [ek] at h'; cases h'
        | some k =>
          rw [ek] at h'; cases h'
          have ew := keysOf_rep r2 ek
          subst ew
          exact ⟨_, .inr ⟨vs, k, q, h1, rfl, o _ _ h2, by rw [r1.len]; exact fit_le hf, rfl⟩, _, upd_same, r1.put r3⟩
      · rw [if_neg hf] at h'; cases h'
    | _ => cases h
  | dK kvs =>
    obtain ⟨vs, h1, r1⟩ := t
    have h' : (if fit kvs.length = true then (keyOf dy).map fun k => D.dK (putD kvs k d) else none) = some d' := by cases dy <;> exact h
    by_cases hf : fit kvs.length = true
    · rw [if_pos hf] at h'
      cases ek : keyOf dy with
      | none => rw [ek] at h'; cases h'
      | some k =>
        rw [ek] at h'; cases h'
        exact ⟨_, .inl ⟨vs, k, h1, keyOf_rep r2 ek, by rw [r1.len]; exact fit_le hf, rfl⟩, _, upd_same, r1.put r3⟩
    · rw [if_neg hf] at h'; cases h'
  | lst _ => cases r2 <;> cases h
  | _ => exact t.elim
theorem ds_dput (j : Nat) {x : Str} {px pos' : Pos} {ei : Expr} {fi : DS → M D} (hu : X.A.units + 65 < cLine) (he : DE X E false e fe) (hi : DE X E false ei fi) (hN : X.N[j]? = some x := by rfl) (hv : Vis X.env.scope x := by first | exact Or.inl rfl | exact Or.inr (Or.inl rfl) | exact Or.inr (Or.inr rfl)) (hd : (x == ("__debug__" : Str)) = false := by decide)
    (hcd : (x == ("__classdict__" : Str)) = false := by decide) (hs : swapsWith e (some (.Subscript (.Name x px) ei pos')) pos.line X.env = pure false := by rfl) : DS1 X E m e0 (.Assign [.Subscript (.Name x px) ei pos'] e pos) (sDPut' j fe fi) :=
  PS.impD (ps_dput (by omega) (pe_var hN hv hd hcd) hi he hs) fun Z σ H ⟨A, S, g, σd, s, q⟩ => ⟨A, S, g, σd, s.ok, s.rep, (KS.bindE (m1 := false) s.post q).imp fun v H1 ⟨A1, S1, g1, d, p1, o1, r1, q1⟩ => by
    have s1 := s.post' p1 o1
    cases eo : ownD σd[j]? with
    | none => rw [eo] at q1; exact q1.elim
    | some dx =>
      rw [eo] at q1
      have e1 := ownD_eq eo
      obtain ⟨p, e2, h1, h2, tp⟩ := s1.rep.ow e1
      refine ⟨.ref p, e2, A1, S1, g1, σd, o1, s1.rep, (KS.bindE (m1 := false) s1.post q1).imp fun w H2 ⟨A2, S2, g2, d2, p2, o2, r2, q2⟩ => ?_⟩
      have s2 := s1.post' p2 o2
      obtain ⟨p', e3, h1', h2', tp'⟩ := s2.rep.ow e1
      rw [e2] at e3; cases e3
      cases ed : dPut dx d2 d with
      | none => rw [ed] at q2; exact q2.elim
      | some dx' =>
        rw [ed] at q2
        obtain ⟨ob, hput, ht⟩ := dPut_rd o2.ext tp' r2 (Rep.mono p2.a p2.s r1) ed
        exact ⟨p, _, rfl, hput, q2 A2 S2 _ σ (List.prefix_refl _) (Same.refl _) (s2.write e1 e2 ht)⟩⟩
end
end NS
namespace NS
open PySem PySem.Spec PyProof.Rows L2
/-! ## x[i] += e of an own list of ints -/
def rGetL : V → V → Hp → VK → Prop := fun o i H Q => ∃ p xs k x, o = .ref p ∧ i = .int k ∧ H p = some (.lst xs) ∧ L2.atI xs k = some x ∧ Q x H
theorem get_list {X : Cx} : PGet X rGetL := by
  intro pins s σ H o i ov iv Q I ro ri h
  obtain ⟨p, xs, k, z, rfl, rfl, hp, he, q⟩ := h
  cases ro
  obtain ⟨t, rfl⟩ := ri
  obtain ⟨its, r, pl, hz⟩ := I.list (.inl (.inl hp))
  obtain ⟨j, h1, h2, h3, h4, h5⟩ := atI_get he
  obtain ⟨w, ew, rw'⟩ := r.get h2
  have hl := r.length
  have hn := line63
  by_cases h0 : 0 ≤ k
  · have hj : k.toNat = j := by
      rw [seqIndex_of h0 h5] at h1
      exact Option.some.inj h1
    refine wpAny_getItem_list pl.isList h0 (by omega) (by rw [hj]; simpa using ew) ?_
    exact ⟨z, H, I, rw', q⟩
  · have hj : (k + (its.toArray.size : Int)).toNat = j := by
      rw [seqIndex_neg (by omega) h4] at h1
      rw [List.size_toArray, ← hl]
      exact Option.some.inj h1
    exact wpAny_getItem_list_neg pl.isList (by omega) (by rw [List.size_toArray] <;> omega) (by omega) (by rw [hj]; simpa using ew) ⟨z, H, I, rw', q⟩
def sAugIx (j : Nat) (fi fe : DS → M D) : DS → M Fl := fun σ => match ownL σ[j]? with
  | some ds => M.bind (fi σ) fun i => match i with
    | .int k => (match ixN ds.length k with
      | some n => (match ds[n]? with
        | some (.int x) => M.bind (fe σ) fun y => (match y with
          | .int v => M.pure (.nx (σ.set j (some (.ow (.lst (ds.set n (.int (x + v))))))))
          | _ => M.bad)
        | _ => M.bad)
      | none => M.bad)
    | _ => M.bad
  | none => M.bad
section
variable {X : Cx} {E : XK} {m : Bool} {pos : Pos} {ei e : Expr} {fi fe : DS → M D} {e0 : En}
theorem ds_augIx (j : Nat) {x : Str} {px tpos : Pos} (hi : DE X E false ei fi) (he : DE X E false e fe) (hN : X.N[j]? = some x := by rfl) (hv : Vis X.env.scope x := by first | exact Or.inl rfl | exact Or.inr (Or.inl rfl) | exact Or.inr (Or.inr rfl)) (hd : (x == ("__debug__" : Str)) = false := by decide)
    (hcd : (x == ("__classdict__" : Str)) = false := by decide)
    (ha : ∀ ov iv new, augStore ei ov iv new = (do holding [new, ov, iv] (setItem ov iv new); release [new, ov, iv] []; pure .next) := by intros; rfl) : DS1 X E m e0 (.AugAssign (.Subscript (.Name x px) ei tpos) .Add e pos) (sAugIx j fi fe) :=
  PS.impD (ps_augS (pe_var hN hv hd hcd) hi get_list he ip_add set_list ha) fun Z σ H ⟨A, S, g, σd, s, q⟩ => by
    cases eo : ownL σd[j]? with
    | none => unfold sAugIx at q; rw [eo] at q; exact q.elim
    | some ds =>
      unfold sAugIx at q
      rw [eo] at q
      have e1 := ownL_eq eo
      obtain ⟨p, e2, h1, h2, vs, h3, h4⟩ := s.rep.ow e1
      refine ⟨.ref p, e2, A, S, g, σd, s.ok, s.rep, (KS.bindE (m1 := false) s.post q).imp fun w H1 ⟨A1, S1, g1, d, p1, o1, r1, q1⟩ => ?_⟩
      have s1 := s.post' p1 o1
      have k1 : H1 p = some (.lst vs) := p1.keep p _ h3 h2
      have rr1 : RepL X.K A1 S1 vs ds := h4.mono p1.a p1.s
      cases d with
      | int k =>
        cases r1
        cases en : ixN ds.length k with
        | none =>
          have q2 : KS (Cx.sur X E) m e0 A1 S1 ((match ixN ds.length k with
            | some n => (match ds[n]? with
              | some (.int x) => M.bind (fe σd) fun y => (match y with
                | .int v => M.pure (.nx (σd.set j (some (.ow (.lst (ds.set n (.int (x + v))))))))
                | _ => M.bad)
              | _ => M.bad)
            | none => M.bad : M Fl) g1) Z := q1
          rw [en] at q2; exact q2.elim
        | some n =>
          have q2 : KS (Cx.sur X E) m e0 A1 S1 ((match ixN ds.length k with
            | some n => (match ds[n]? with
              | some (.int x) => M.bind (fe σd) fun y => (match y with
                | .int v => M.pure (.nx (σd.set j (some (.ow (.lst (ds.set n (.int (x + v))))))))
                | _ => M.bad)
              | _ => M.bad)
            | none => M.bad : M Fl) g1) Z := q1
          rw [en] at q2
          cases ed : ds[n]? with
          | none => simp only [ed] at q2; exact q2.elim
          | some dn =>
            simp only [ed] at q2
            cases dn with
            | int x =>
              obtain ⟨v0, hv0, rv0⟩ := rr1.getD ed
              cases rv0
              refine ⟨p, vs, k, .int x, rfl, rfl, k1, by unfold L2.atI; rw [rr1.length, en]; exact hv0, A1, S1, g1, σd, o1, s1.rep, (KS.bindE (m1 := false) s1.post q2).imp fun u H2 ⟨A2, S2, g2, d2, p2, o2, r2, q3⟩ => ?_⟩
              have s2 := s1.post' p2 o2
              have k2 : H2 p = some (.lst vs) := by
                obtain ⟨p', e3, h1', h2', _⟩ := s1.rep.ow e1
                rw [e2] at e3; cases e3
                exact p2.keep p _ k1 h2'
              have rr2 : RepL X.K A2 S2 vs ds := rr1.mono p2.a p2.s
              cases d2 with
              | int v =>
                cases r2
                refine ⟨x, v, rfl, rfl, p, vs, k, n, rfl, rfl, k2, by rw [rr2.length]; exact en, ?_⟩
                exact q3 A2 S2 _ σ (List.prefix_refl _) (Same.refl _) (s2.write e1 e2 ⟨_, upd_same, rr2.set (.int (x + v)) n⟩)
              | _ => exact q3.elim
            | _ => exact q2.elim
      | _ => exact q1.elim
end
end NS
namespace NS
open PySem PySem.Spec PyProof.Rows L2
/-! ## zip of a list and a tuple, in any way -/
/-- t: a tuple -/
def SqX (t : Bool) (K : PySem.W.Frag) (H : Hp) (a : Addr) (xs : List V) : Prop := if t = true then SqT K H a xs else SqL K H a xs
def ItX (t : Bool) (h : Heap) (it a : Addr) (i : Nat) : Prop := if t = true then h.IsTupleIter it a i else h.IsListIter it a i
def HsX (t : Bool) (h : Heap) (a : Addr) (its : Array Value) : Prop := if t = true then h.IsTuple a its else h.IsList a its
theorem drawsX {prog : Program} {w : World} {A : Around} (hh : A.handled = none) (t : Bool) (it l : Addr) (hne : l ≠ it) (items : Array Value) :
    Draws prog w A it [it, l] items.size (fun i v => items[i]? = some v) (fun i h => ItX t h it l i ∧ HsX t h l items) := by
  cases t with
  | true => exact Draws.tuple hh it l hne items
  | false => exact Draws.list hh it l hne items
def oX (t : Bool) (a : Addr) : Obj := if t = true then { cls := .type "tuple_iterator", data := .fields #[.ref a, .int 0 0] } else { cls := .type "list_iterator", data := .fields #[.ref a, .int 0 0] }
theorem beginsX (t : Bool) (l : Addr) (items : Array Value) : Begins (.ref l) (oX t l) fun h => HsX t h l items := by
  cases t with
  | true => exact begins_tuple l items
  | false => exact begins_list l items
theorem itX_new {t : Bool} {h : Heap} {it a : Addr} (e : h.get? it = some (oX t a)) : ItX t h it a 0 := by
  cases t with
  | true => exact ⟨_, e, rfl, rfl⟩
  | false => exact ⟨_, e, rfl, rfl⟩
theorem ItX.at {t : Bool} {h h' : Heap} {it a : Addr} {i : Nat} (x : ItX t h it a i) (k : ∀ o, h.get? it = some o → h'.get? it = some o) : ItX t h' it a i := by
  cases t with
  | true => exact Heap.IsTupleIter.at (h := h) x k
  | false => exact Heap.IsListIter.at (h := h) x k
theorem ItX.obj {t : Bool} {h : Heap} {it a : Addr} {i : Nat} (x : ItX t h it a i) : ∃ o, h.get? it = some o ∧ ∀ v, o.data ≠ .cell v := by
  cases t with
  | true => obtain ⟨o, ho, hc, hd⟩ := (show h.IsTupleIter it a i from x); exact ⟨o, ho, fun v q => by rw [hd] at q; cases q⟩
  | false => obtain ⟨o, ho, hc, hd⟩ := (show h.IsListIter it a i from x); exact ⟨o, ho, fun v q => by rw [hd] at q; cases q⟩
theorem SqX.inv {X : Cx} {pins : List (Addr × Obj)} {σ : L2.St} {H : Hp} {s : Shared} {t : Bool} {a : Addr} {xs : List V} (I : Inv X pins σ H s) (h : SqX t X.K H a xs) : ∃ its : List Value, Vals xs its ∧ HsX t s.heap a its.toArray ∧ a < s.heap.objs.size := by
  cases t with
  | true =>
    obtain ⟨its, r, p, z⟩ := I.tuple h
    obtain ⟨o, ho, _⟩ := id p
    exact ⟨its, r, p, Heap.lt_size ho⟩
  | false =>
    obtain ⟨its, r, p, z⟩ := I.list h
    exact ⟨its, r, p.isList, p.lt⟩
def ItzM (t1 t2 : Bool) (K : PySem.W.Frag) (a b : Addr) (xs ys : List V) : It :=
  ⟨fun i H => SqX t1 K H a xs ∧ SqX t2 K H b ys ∧ i < xs.length ∧ i < ys.length,
    fun i H v H' => ∃ T x y, v = .ref T ∧ H T = none ∧ H' = upd H T (.tup [x, y]) ∧ xs[i]? = some x ∧ ys[i]? = some y,
    fun i H => SqX t1 K H a xs ∧ SqX t2 K H b ys ∧ (xs.length ≤ i ∨ ys.length ≤ i)⟩
theorem sepOf {z TI TO i1 i2 a b : Addr} (D : ZipApart z TI TO i1 i2 a b) (h : ZipApart z TI TO i1 i2 b a) : ZipSep2 z TI TO i1 i2 [i1, a] [i2, b] where
  TIz := D.TIz
  TOz := D.TOz
  TITO := D.TITO
  TIi1 := D.TIi1
  mem1 := by simp
  zf1 := by simp; exact ⟨Ne.symm D.i1z, Ne.symm D.l1z⟩
  Tf1 := by simp; exact ⟨D.TOi1, Ne.symm D.l1TO⟩
  TIi2 := D.TIi2
  mem2 := by simp
  zf2 := by simp; exact ⟨Ne.symm D.i2z, Ne.symm h.l1z⟩
  Tf2 := by simp; exact ⟨D.TOi2, Ne.symm h.l1TO⟩
  sep1_2 := by simp; exact ⟨D.i12, Ne.symm h.l1i1⟩
  sep2_1 := by simp; exact ⟨Ne.symm D.i12, Ne.symm D.l1i2⟩
theorem turn_zipM {P : Program} {w : World} {K : PySem.W.Frag} {elts : List Expr} {kk : Nat} {tpos : Pos} (t1 t2 : Bool) {a b z TI TO i1 i2 : Addr} {xs ys : List V} (D : ZipApart z TI TO i1 i2 a b) (D2 : ZipApart z TI TO i1 i2 b a) :
    Turn P w K (.Tuple elts kk tpos) (ItzM t1 t2 K a b xs ys) [z, TI, TO, i1, i2] z (fun i h => IsZip h z TI TO .none ∧ IsTupOf2 h TI (.ref i1) (.ref i2) ∧ (∃ x y, IsTupOf2 h TO x y) ∧ ItX t1 h i1 a i ∧ ItX t2 h i2 b i ∧ i ≤ xs.length ∧ i ≤ ys.length) where
  mem := by simp
  obj := fun i h st c hc => by
    obtain ⟨hz, hTI, ⟨x, y, hTO⟩, h1, h2, _⟩ := st
    have e' : c = z ∨ c = TI ∨ c = TO ∨ c = i1 ∨ c = i2 := by simpa using hc
    rcases e' with q | q | q | q | q
    · rw [q]; exact ⟨_, hz, fun v q => nomatch q⟩
    · rw [q]; exact ⟨_, hTI, fun v q => nomatch q⟩
    · rw [q]; exact ⟨_, hTO, fun v q => nomatch q⟩
    · rw [q]; exact h1.obj
    · rw [q]; exact h2.obj
  keep := fun i h h' st k => by
    obtain ⟨hz, hTI, ⟨x, y, hTO⟩, h1, h2, l⟩ := st
    exact ⟨k z (by simp) _ hz, k TI (by simp) _ hTI, ⟨x, y, k TO (by simp) _ hTO⟩, h1.at fun o q => k i1 (by simp) o q, h2.at fun o q => k i2 (by simp) o q, l⟩
  item := by
    intro X hP hw hK hc i pins s σ H E I hf st hg
    subst hP hw hK
    obtain ⟨hz, hTI, ⟨x0, y0, hTO⟩, h1, h2, l1, l2⟩ := st
    obtain ⟨hqx, hqy, g1, g2⟩ := hg
    obtain ⟨its, rv, p, _⟩ := hqx.inv I
    obtain ⟨its2, rv2, p2, _⟩ := hqy.inv I
    have hzl : z < s.heap.objs.size := Heap.lt_size hz
    have hi1l : i1 < s.heap.objs.size := by obtain ⟨_, e, _⟩ := h1.obj; exact Heap.lt_size e
    have hi2l : i2 < s.heap.objs.size := by obtain ⟨_, e, _⟩ := h2.obj; exact Heap.lt_size e
    have n1 : i < its.toArray.size := by rw [List.size_toArray, ← rv.length]; exact g1
    have n2 : i < its2.toArray.size := by rw [List.size_toArray, ← rv2.length]; exact g2
    refine wpAny_pyNext_zipD2_item (sepOf D D2) (drawsX (A := X.A.in1) (I.ok.hd hc) t1 i1 a D.l1i1 its.toArray) (drawsX (A := X.A.in1) (I.ok.hd hc) t2 i2 b D2.l1i2 its2.toArray) hz hTI hTO ⟨h1, p⟩ ⟨h2, p2⟩ n1 n2
      fun u u2 h' tk e1 e2 z' TO' st1' st2' hT hsz hk => ?_
    obtain ⟨h1', _⟩ := st1'
    obtain ⟨h2', _⟩ := st2'
    obtain ⟨x, hx, ru⟩ := vals_back rv (by simpa using e1)
    obtain ⟨y, hy, ru2⟩ := vals_back rv2 (by simpa using e2)
    refine ⟨_, rfl, wpAny_letOwnedTupleGo_zip (s := { s with heap := h', toks := tk }) z' fun h'' z'' sb => ?_⟩
    have hT2 : h''.get? s.heap.objs.size = some { cls := .type "tuple", data := .seq #[u, u2] } := (sb.2 _ (Nat.ne_of_gt hzl)).trans hT
    have new : ObjOk X.prog X.w (upd H s.heap.objs.size (.tup [x, y])) h'' s.heap.objs.size (.tup [x, y]) :=
      ⟨by show 2 ≤ sizeLine; decide, [u, u2], .cons ru (.cons ru2 .nil), ⟨_, hT2, rfl, _, rfl⟩⟩
    have I1 : Inv X pins σ (upd H s.heap.objs.size (.tup [x, y])) { s with heap := h'', toks := tk } :=
      I.turnedNew (t' := tk) (ch := [z, TI, TO, i1, i2]) (fun c o hb q => (sb.2 c (fun q' => hb (by simp [q']))).trans (hk c o (fun q' => hb (by simp [q'])) (fun q' => hb (by simp [q'])) (fun q' => hb (by simp [q'])) (fun q' => hb (by simp [q'])) q)) hf (Nat.le_refl _) new
    refine ⟨.ref s.heap.objs.size, _, I1, rfl, ⟨_, x, y, rfl, I.hok.fresh (Nat.le_refl _), rfl, hx, hy⟩, ⟨z'', ?_, ⟨u, u2, ?_⟩, ?_, ?_, g1, g2⟩, fun c hcm => ?_⟩
    · exact (sb.2 _ D.TIz).trans (hk _ _ D.TIz D.TITO D.TIi1 D.TIi2 hTI)
    · exact (sb.2 _ D.TOz).trans TO'
    · exact h1'.at fun o q => (sb.2 _ D.i1z).trans q
    · exact h2'.at fun o q => (sb.2 _ D.i2z).trans q
    · have hlt : c < s.heap.objs.size := by
        have e' : c = z ∨ c = TI ∨ c = TO ∨ c = i1 ∨ c = i2 := by simpa using hcm
        rcases e' with q | q | q | q | q
        · rw [q]; exact hzl
        · rw [q]; exact Heap.lt_size hTI
        · rw [q]; exact Heap.lt_size hTO
        · rw [q]; exact hi1l
        · rw [q]; exact hi2l
      rw [upd_ne (Nat.ne_of_lt hlt)]
      exact (hf c hcm).1
  done := by
    intro X hP hw hK hc i pins s σ H E I hf st hg
    subst hP hw hK
    obtain ⟨hz, hTI, ⟨x0, y0, hTO⟩, h1, h2, l1, l2⟩ := st
    obtain ⟨hqx, hqy, hend⟩ := hg
    obtain ⟨its, rv, p, _⟩ := hqx.inv I
    obtain ⟨its2, rv2, p2, _⟩ := hqy.inv I
    have e1 := rv.length
    have e2 := rv2.length
    exact wpAny_pyNext_zipD2_end (sepOf D D2) (drawsX (A := X.A.in1) (I.ok.hd hc) t1 i1 a D.l1i1 its.toArray) (drawsX (A := X.A.in1) (I.ok.hd hc) t2 i2 b D2.l1i2 its2.toArray) hz hTI hTO ⟨h1, p⟩ ⟨h2, p2⟩
      (by rw [List.size_toArray]; omega) (by rw [List.size_toArray]; omega) (by rw [List.size_toArray, List.size_toArray]; omega) fun h' tk hk => ⟨rfl, I.turnedL (t' := tk) (ch := [z, TI, TO, i1, i2]) (fun c o hb q =>
        hk c o (fun q' => hb (by simp [q'])) (fun q' => hb (by simp [q'])) (fun q' => hb (by simp [q'])) (fun q' => hb (by simp [q'])) q) hf⟩
  self := fun A i s Q E st h => wpAny_pyIter_zip st.1 h
def iZipM (K : PySem.W.Frag) (ta : TA) : TI := fun σ H R => ta σ H fun vs H1 => ∃ t1 t2 a b xs ys, vs = [.ref a, .ref b] ∧ SqX t1 K H1 a xs ∧ SqX t2 K H1 b ys ∧ R (ItzM t1 t2 K a b xs ys) H1
theorem pi_zipM {X : Cx} {e e2 : Expr} {ta : TA} {p pos tpos : Pos} {elts : List Expr} {kk : Nat} (hg : Gl X "zip") (hm : X.mg "zip" = none) (ha : PA X [e, e2] ta)
    (hs : starEach [e, e2] X.env = (false, eval e X.env) :: starEach [e2] X.env := by rfl) (hpl : (backTo pos (starEach [e2] X.env)).any (·.1) = false := by rfl) :
    PI X (.Tuple elts kk tpos) (.Call (.Name "zip" p) [e, e2] [] pos) (iZipM X.K ta) := by
  refine ⟨fun pins s σ H R I h => ?_⟩
  refine Call_ (ld_blt I hg hm PyProof.Rows.boot_zip (PyProof.Rows.callWith_type1 (thn (ha.run pos pins s σ H _ I h) fun us s1 ⟨vs, H1, I1, r1, q1⟩ => ?_) hs hpl))
  obtain ⟨t1, t2, a, b, xs, ys, ex, hqx, hqy, q⟩ := q1
  subst ex
  cases r1 with
  | cons r rr =>
    cases rr with
    | cons r' rr =>
      cases rr
      cases r
      cases r'
      have fresh5 : ∀ c, c ∈ [s1.heap.objs.size + 4, s1.heap.objs.size + 2, s1.heap.objs.size + 3, s1.heap.objs.size, s1.heap.objs.size + 1] → FpOk X pins H1 c := fun c hcm => by
        have e' : c = s1.heap.objs.size + 4 ∨ c = s1.heap.objs.size + 2 ∨ c = s1.heap.objs.size + 3 ∨ c = s1.heap.objs.size ∨ c = s1.heap.objs.size + 1 := by simpa using hcm
        have hle : s1.heap.objs.size ≤ c := by
          rcases e' with z | z | z | z | z
          · rw [z]; exact Nat.le_add_right _ _
          · rw [z]; exact Nat.le_add_right _ _
          · rw [z]; exact Nat.le_add_right _ _
          · rw [z]; exact Nat.le_refl _
          · rw [z]; exact Nat.le_add_right _ _
        exact I1.fpOk hle (I1.hok.fresh hle)
      obtain ⟨its, rv, p1, lt1⟩ := hqx.inv I1
      obtain ⟨its2, rv2, p2, lt2⟩ := hqy.inv I1
      refine zip_begins2 (beginsX t1 a its.toArray) (beginsX t2 b its2.toArray) p1 p2 fun h' hz hTI hTO h1 h2 hsz hk => wpAny_pyIter_zip hz ?_
      have I2 : Inv X pins σ H1 { s1 with heap := h' } := I1.kept (t' := s1.toks) hk
      exact ⟨s1.heap.objs.size + 4, [s1.heap.objs.size + 4, s1.heap.objs.size + 2, s1.heap.objs.size + 3, s1.heap.objs.size, s1.heap.objs.size + 1], _, _, H1, rfl, I2,
        turn_zipM t1 t2 (PySem.W.ktu_apart s1.heap.objs.size a b lt1 lt2) (PySem.W.ktu_apart s1.heap.objs.size b a lt2 lt1), ⟨hz, hTI, ⟨_, _, hTO⟩, itX_new h1, itX_new h2, Nat.zero_le _, Nat.zero_le _⟩, fresh5, q⟩
/-- .. over data -/
def seqD : D → Option (List D)
  | .lst xs => some xs
  | .tup xs => some xs
  | _ => none
def zipK2 : List D → M (List D)
  | [x, y] => (match seqD x, seqD y with | some xs, some ys => M.pure (zipD xs ys) | _, _ => M.bad)
  | _ => M.bad
section
variable {X : Cx} {E : XK} {pos p tpos : Pos} {a b : Expr} {elts : List Expr} {kk : Nat} {fl : DS → M (List D)}
theorem seqD_rep {K : PySem.W.Frag} {A : List GAdr} {S H : Hp} (e : Same S H) {v : V} {d : D} {ds : List D} (r : Rep K A S v d) (h : seqD d = some ds) : ∃ t a xs, v = .ref a ∧ SqX t K S a xs ∧ SqX t K H a xs ∧ RepL K A S xs ds := by
  cases r with
  | @lst a xs _ h1 rr => cases h; exact ⟨false, a, xs, rfl, .inl (.inl h1), .inl (.inl (e _ _ h1)), rr⟩
  | @tup a xs _ h1 rr => cases h; exact ⟨true, a, xs, rfl, .inl (.inl h1), .inl (.inl (e _ _ h1)), rr⟩
  | _ => cases h
theorem SqX.mono {K : PySem.W.Frag} {S H : Hp} {t : Bool} {a : Addr} {xs : List V} (e : Same S H) (h : SqX t K S a xs) : SqX t K H a xs := by
  cases t with
  | true => exact SqT.mono e h
  | false => exact SqL.mono e h
theorem di_zip2 (hm : X.mg "zip" = none) (ha : DL X E [a, b] fl) (hg : Gl X "zip" := by rfl) (hs : starEach [a, b] X.env = (false, eval a X.env) :: starEach [b] X.env := by rfl) (hpl : (backTo pos (starEach [b] X.env)).any (·.1) = false := by rfl) :
    DI X E (.Tuple elts kk tpos) (.Call (.Name "zip" p) [a, b] [] pos) (iArgs zipK2 fl) :=
  PI.impD (pi_zipM hg hm ha hs hpl) fun σ H R ⟨A, S, g, σd, o, r, q⟩ => ⟨A, S, g, σd, o, r, (KI.bindL q).imp fun vs H1 ⟨A1, S1, g1, ds, p1, o1, r1, q1⟩ => by
    unfold zipK2 at q1
    split at q1
    · rename_i x y
      cases e1 : seqD x with
      | none => rw [e1] at q1; exact q1.elim
      | some xs =>
        cases e2 : seqD y with
        | none => rw [e1, e2] at q1; exact q1.elim
        | some ys =>
          rw [e1, e2] at q1
          obtain ⟨v, w, rfl, rx, ry⟩ := rep2' r1
          obtain ⟨t1, a1, us, rfl, s1, h1, rr1⟩ := seqD_rep o1.ext rx e1
          obtain ⟨t2, a2, ws, rfl, s2, h2, rr2⟩ := seqD_rep o1.ext ry e2
          refine ⟨t1, t2, a1, a2, us, ws, rfl, h1, h2, KI.now q1 o1 ⟨fun i H hi e => ?_, fun i H hi e => ?_, fun i H v H' hi e y => ?_⟩⟩
          · rw [zipD_len, ← rr1.length, ← rr2.length] at hi
            exact ⟨s1.mono e, s2.mono e, by omega, by omega⟩
          · rw [zipD_len, ← rr1.length, ← rr2.length] at hi
            exact ⟨s1.mono e, s2.mono e, by omega⟩
          · obtain ⟨T, x, y', rfl, hT, rfl, f1, f2⟩ := y
            obtain ⟨d, e3, rx⟩ := rr1.get f1
            obtain ⟨c, e4, ry⟩ := rr2.get f2
            exact ⟨_, zipD_get e3 e4, .inr ⟨T, _, _, rfl, rfl, hT, rfl, .cons rx (.cons ry .nil)⟩⟩
    · exact q1.elim⟩
end
end NS
namespace NS
open PySem PySem.Spec PyProof.Rows L2
/-- own slots read inside a comprehension whose list is a new own one -/
theorem borO_read (i : Nat) {fe : DS → M D} {U : Sur} {σ : L2.St} {H : Hp} {Q : VK} (h : tE U true (eBorO i fe) σ H Q) : tE U true fe σ H Q := by
  obtain ⟨A, S, g, σd, o, r, q⟩ := h
  unfold eBorO at q
  rcases frz1_ok o r i with h | ⟨p, d0, u, e1, e2, h1, h2, hu, tp, ef, o2, r2⟩
  · rw [h] at q
    refine ⟨A, S, g, σd, o, r, ?_⟩
    cases e1 : fe σd g with
    | ok d g' =>
      rw [e1] at q
      cases d with
      | lst ds =>
        have q : KE U true A S H (if (D.purs ds && Gpur g') = true then .ok (.lst ds) g' else .bad) Q := q
        by_cases c : (D.purs ds && Gpur g') = true
        · rw [if_pos c] at q; exact q
        · rw [if_neg c] at q; exact q.elim
      | _ => exact q.elim
    | err x g' => rw [e1] at q; exact q.elim
    | bad => rw [e1] at q; exact q.elim
  · refine ⟨A, upd S p u, g, frz1 i σd, o2, r2, ?_⟩
    cases e1 : fe (frz1 i σd) g with
    | err x g' => rw [e1] at q; exact q.elim
    | bad => rw [e1] at q; exact q.elim
    | ok d g' =>
      rw [e1] at q
      cases d with
      | lst ds =>
        have q : KE U true A S H (if (D.purs ds && Gpur g') = true then .ok (.lst ds) g' else .bad) Q := q
        by_cases c : (D.purs ds && Gpur g') = true
        · rw [if_pos c] at q
          have c' := Bool.and_eq_true_iff.mp c
          intro A' S' H' v P o' rv
          have nt : NoTup S' p := tp.notup fun w hw => P.s p w (by rw [upd_same]; rw [hu] at hw; exact hw)
          refine q A' (delH S' p) H' v (Post.thaw (S1 := S) h1 P) (o'.del nt c'.2) ?_
          obtain ⟨z, rfl, z1, z2, z3, vs, z4, z5⟩ := rv
          refine ⟨z, rfl, z1, ?_, z3, vs, z4, z5.del nt c'.1⟩
          by_cases h : z = p
          · subst h; exact delH_same
          · rw [delH_ne h]; exact z2
        · rw [if_neg c] at q; exact q.elim
      | _ => exact q.elim

section
variable {X : Cx} {E : XK} {m : Bool} {pos : Pos} {e0 : En}
def borOs : List Nat → (DS → M D) → DS → M D
  | [], f => f
  | i :: is, f => eBorO i (borOs is f)
theorem borOs_read : ∀ (is : List Nat) {fe : DS → M D} {U : Sur} {σ : L2.St} {H : Hp} {Q : VK}, tE U true (borOs is fe) σ H Q → tE U true fe σ H Q
  | [], _, _, _, _, _, h => h
  | i :: is, _, _, _, _, _, h => borOs_read is (borO_read i h)
theorem ds_setCompB (is : List Nat) {i : Nat} {y : Str} {py spos : Pos} {elt tg iter : Expr} {ifs : List Expr} {scope : Scope} {own : List (Str × Nat)} {fi : DS → M (List D)} {fg : D → DS → M DS} {ft : DS → M Bool} {fe : DS → M D} (hN : X.N.Nodup) (hi : DI X E tg iter fi) (ok : BlkOk X.N X.env.scope scope own)
    (hx : ∀ d σ g e g', fg d σ g ≠ .err e g')
    (hg : ∀ s H C cl fp, DG (Blk X scope s H C cl fp) E0 (own.map (·.2)) tg fg) (ht : ∀ s H C cl fp, DTs (Blk X scope s H C cl fp) E0 ifs ft)
    (he : ∀ s H C cl fp, DE (Blk X scope s H C cl fp) E0 false elt fe)
    (hy : X.N[i]? = some y := by rfl) (hyl : X.env.scope.names.lookup y = some .local := by rfl)
    (hsw : swapsWith (.ListComp elt [⟨tg, iter, ifs, 0⟩] scope pos) (some (.Name y py)) spos.line X.env = pure true := by exact sw_true rfl rfl rfl (by decide +kernel)) (hc : X.calm = true := by rfl) (hs : ∀ x, foldedSetIterable iter X.env x = pure x := by intro _; rfl) :
    DS1 X E m e0 (.Assign [.Name y py] (.ListComp elt [⟨tg, iter, ifs, 0⟩] scope pos) spos) (sSet true i (borOs is (eComp fi (own.map (·.2)) fg ft fe))) :=
  PS.impD (ps_setLc (own := own) (g := tG ⟨X.mg, X.K, E0⟩ (own.map fun (p : Str × Nat) => p.2) fg) (tt := tT ⟨X.mg, X.K, E0⟩ ft) (te := tE ⟨X.mg, X.K, E0⟩ false fe) hc hN hy hyl hsw hi ok hg ht he hs) fun Z σ H h => by
    obtain ⟨A, S, g, σd, s, q⟩ := h
    exact comp_read hx (borOs_read is ⟨A, S, g, σd, s.ok, s.rep, (KS.bindE (m1 := true) s.post q).imp fun v H1 ⟨A1, S1, g1, d, p1, o1, r1, q1⟩ => q1 A1 S1 H1 _ (List.prefix_refl _) (Same.refl _) (s.setM p1 o1 r1 i)⟩)
end
end NS
namespace NS
open PySem PySem.Spec PyProof.Rows L2
/-! ## sorted(set(..)) of a tuple of ints -/
def insU (x : Int) : List Int → List Int
  | [] => [x]
  | y :: ys => if x < y then x :: y :: ys else if x = y then y :: ys else y :: insU x ys
def setI : List Int → List Int
  | [] => []
  | x :: xs => insU x (setI xs)
theorem mem_insU {x k : Int} : ∀ {l : List Int}, k ∈ insU x l ↔ k = x ∨ k ∈ l
  | [] => by simp [insU]
  | y :: ys => by
    unfold insU
    split
    · simp
    · split
      · rename_i h; subst h; simp
      · rw [List.mem_cons, mem_insU, List.mem_cons]
        constructor
        · rintro (h | h | h)
          · exact .inr (.inl h)
          · exact .inl h
          · exact .inr (.inr h)
        · rintro (h | h | h)
          · exact .inr (.inl h)
          · exact .inl h
          · exact .inr (.inr h)
theorem mem_setI {k : Int} : ∀ {l : List Int}, k ∈ setI l ↔ k ∈ l
  | [] => by simp [setI]
  | x :: xs => by rw [setI, mem_insU, mem_setI, List.mem_cons]
theorem insU_sorted {x : Int} : ∀ {l : List Int}, l.Pairwise (· < ·) → (insU x l).Pairwise (· < ·)
  | [], _ => by simp [insU]
  | y :: ys, h => by
    have h2 := List.pairwise_cons.mp h
    unfold insU
    split
    · rename_i hxy
      refine List.pairwise_cons.mpr ⟨fun a ha => ?_, h⟩
      rcases List.mem_cons.mp ha with rfl | ha
      · exact hxy
      · have := h2.1 a ha; omega
    · split
      · exact h
      · refine List.pairwise_cons.mpr ⟨fun a ha => ?_, insU_sorted h2.2⟩
        rcases mem_insU.mp ha with rfl | ha
        · omega
        · exact h2.1 a ha
theorem setI_sorted : ∀ l : List Int, (setI l).Pairwise (· < ·)
  | [] => .nil
  | x :: xs => insU_sorted (setI_sorted xs)
theorem setI_only {l out : List Int} (hs : out.Pairwise (· < ·)) (hm : ∀ k, k ∈ out ↔ k ∈ l) : out = setI l := by
  have nd : ∀ {l : List Int}, l.Pairwise (· < ·) → l.Nodup := fun h => List.nodup_iff_pairwise_ne.mpr (h.imp fun h e => by omega)
  have sub : ∀ {a b : List Int}, a.Nodup → (∀ x ∈ a, x ∈ b) → a.length ≤ b.length := by
    intro a
    induction a with
    | nil => intro b _ _; simp
    | cons x a ih =>
      intro b hn h
      have h2 := List.nodup_cons.mp hn
      have hx := h x List.mem_cons_self
      have := ih (b := b.erase x) h2.2 fun y hy => (List.mem_erase_of_ne (fun e => by subst e; exact h2.1 hy)).mpr (h y (List.mem_cons_of_mem _ hy))
      rw [List.length_erase_of_mem hx] at this
      have : 0 < b.length := List.length_pos_of_mem hx
      simp; omega
  have perm : ∀ {a b : List Int}, a.Nodup → b.Nodup → (∀ x ∈ a, x ∈ b) → b.length ≤ a.length → a.Perm b := by
    intro a
    induction a with
    | nil => intro b _ _ _ h; cases b with | nil => exact .refl _ | cons => simp at h
    | cons x a ih =>
      intro b hn hb h e
      have h2 := List.nodup_cons.mp hn
      have hx := h x List.mem_cons_self
      refine (List.Perm.cons x (ih h2.2 (hb.erase x) (fun y hy => (List.mem_erase_of_ne (fun e => by subst e; exact h2.1 hy)).mpr (h y (List.mem_cons_of_mem _ hy))) ?_)).trans (List.perm_cons_erase hx).symm
      rw [List.length_erase_of_mem hx]; simp at e; omega
  have h1 := nd hs
  have h2 := nd (setI_sorted l)
  refine List.Perm.eq_of_pairwise (le := (· < ·)) (fun a b _ _ h1 h2 => by omega) hs (setI_sorted l) (perm h1 h2 (fun x hx => mem_setI.mpr ((hm x).mp hx)) (sub h2 fun x hx => (hm x).mpr (mem_setI.mp hx)))
section
variable {X : Cx} {E : XK} {m : Bool} {e : Expr} {ta : TA} {pos1 pos2 p1 p2 : Pos}
def tSortSet (K : PySem.W.Frag) (ta : TA) : TE := fun σ H Q => ta σ H fun xs H1 => ∃ (p : Addr) (ns : List Int), xs = [.ref p] ∧ SqT K H1 p (ns.map V.int) ∧ ns.length < 60 ∧ ∀ q, H1 q = none → Q (.ref q) (upd H1 q (.lst ((setI ns).map V.int)))
theorem pe_sortedSet (hc : X.calm = true) (hgs : Gl X "sorted") (hms : X.mg "sorted" = none) (hg : Gl X "set") (hm : X.mg "set" = none) (ha : PA X [e] ta) (hs : starEach [e] X.env = [(false, eval e X.env)] := by rfl)
    (hs2 : starEach [.Call (.Name "set" p2) [e] [] pos2] X.env = [(false, eval (.Call (.Name "set" p2) [e] [] pos2) X.env)] := by rfl) : PE X (.Call (.Name "sorted" p1) [.Call (.Name "set" p2) [e] [] pos2] [] pos1) (tSortSet X.K ta) := by
  refine ⟨fun pins s σ H Q I h => ?_⟩
  refine wpAny_Call_Name_kw (ld_blt I hgs hms PyProof.Rows.boot_sorted ?_)
  refine PyProof.Rows.callWith_builtin1 ?_ hs2 rfl
  rw [hs2]
  show wpAny _ _ (spliced ((false, eval (.Call (.Name "set" p2) [e] [] pos2) X.env) :: [])) _ _ s
  refine Calls.spliced_cons ?_
  refine wpAny_Call_Name_kw (ld_blt I hg hm PyProof.Rows.boot_set (PyProof.Rows.callWith_type1 (thn (ha.run pos2 pins s σ H _ I h) fun us s1 ⟨vs, H1, I1, r1, q1⟩ => ?_) hs rfl))
  obtain ⟨p0, ns, e1, hq, hl, q⟩ := q1
  subst e1
  cases r1 with
  | cons r rr =>
    cases rr
    cases r
    obtain ⟨its, rv, pt, hz⟩ := I1.tuple hq
    have hi : IntsAre its.toArray.toList ns := ints_of_vals rv
    have hd := I1.ok.hd hc
    refine call_set_tupI ns hd (show s1.heap.IsTuple p0 its.toArray from pt) hi (by unfold scanBound; omega) fun h' tk c R1 hcn k => ?_
    refine Calls.spliced_nil ?_
    refine sorted_set (s := { s1 with heap := h', toks := tk }) R1 hd (by omega) fun s2 p out c2 ns2 k2 g2 o2 hp ho hI hs3 hmem hlen => ?_
    have kall : ∀ b u, s1.heap.get? b = some u → s2.heap.get? b = some u := fun b u e => k2 b u (k b u e)
    obtain ⟨o0, es0, ep0, t0, ho0, _⟩ := R1
    have hlt : s1.heap.objs.size < h'.objs.size := Heap.lt_size ho0
    have hp' : s1.heap.objs.size ≤ p := Nat.le_trans (Nat.le_of_lt hlt) hp
    have hfr := I1.hok.fresh hp'
    have es : ns2 = setI ns := setI_only hs3 fun k => by rw [hmem k, decide_eq_true_eq]
    subst es
    have vi : ∀ {us : List Value} {l : List Int}, IntsAre us l → Vals (l.map V.int) us := by
      intro us l h
      induction h with
      | nil => exact .nil
      | cons n t _ ih => exact .cons ⟨t, rfl⟩ ih
    have hv : Vals ((setI ns).map V.int) out.toList := vi hI
    exact ⟨.ref p, upd H1 p (.lst ((setI ns).map V.int)), I1.call' (ch := []) o2 (Un.laid kall hp' hfr) (I1.hok.laid kall hp' ⟨by rw [List.length_map, hlen, sizeLine_eq]; omega, out.toList, c2, hv, ho⟩) (by rw [g2]; exact I1.bare) (fun _ z => nomatch z), rfl, q p hfr⟩
def kSortSet : List D → M D
  | [.tup ds] => (match D.ints ds with
    | some ns => if ns.length < 60 then M.pure (.lst ((setI ns).map .int)) else M.bad
    | none => M.bad)
  | _ => M.bad
theorem kSortSet_of {U : Sur} {A : List GAdr} {S H : Hp} {ds : List D} {g : G} {Q : VK} (q : KE U m A S H (kSortSet ds g) Q) : ∃ es ns, ds = [.tup es] ∧ D.ints es = some ns ∧ ns.length < 60 ∧ KE U m A S H (.ok (.lst ((setI ns).map .int)) g) Q := by
  match ds, q with
  | [], q => exact q.elim
  | d :: _ :: _, q => cases d <;> exact q.elim
  | [d], q =>
    cases d with
    | tup es =>
      have q : KE U m A S H ((match D.ints es with
        | some ns => if ns.length < 60 then M.pure (.lst ((setI ns).map .int)) else M.bad
        | none => M.bad : M D) g) Q := q
      cases hn : D.ints es with
      | none => rw [hn] at q; exact q.elim
      | some ns =>
        rw [hn] at q
        have q : KE U m A S H ((if ns.length < 60 then M.pure (.lst ((setI ns).map .int)) else M.bad : M D) g) Q := q
        by_cases hl : ns.length < 60
        · rw [if_pos hl] at q; exact ⟨es, ns, rfl, hn, hl, q⟩
        · rw [if_neg hl] at q; exact q.elim
    | _ => exact q.elim
theorem intsRL {K : PySem.W.Frag} {A : List GAdr} {S : Hp} : ∀ ns : List Int, RepL K A S (ns.map V.int) (ns.map D.int)
  | [] => .nil
  | n :: ns => .cons (.int n) (intsRL ns)
variable {fl : DS → M (List D)}
theorem de_sortedSet (hms : X.mg "sorted" = none) (hm : X.mg "set" = none) (ha : DL X E [e] fl) (hc : X.calm = true := by rfl) (hgs : Gl X "sorted" := by rfl) (hg : Gl X "set" := by rfl) (hs : starEach [e] X.env = [(false, eval e X.env)] := by rfl)
    (hs2 : starEach [.Call (.Name "set" p2) [e] [] pos2] X.env = [(false, eval (.Call (.Name "set" p2) [e] [] pos2) X.env)] := by rfl) : DE X E m (.Call (.Name "sorted" p1) [.Call (.Name "set" p2) [e] [] pos2] [] pos1) (eArgs kSortSet fl) :=
  PE.impD (pe_sortedSet hc hgs hms hg hm ha hs hs2) fun σ H Q h => by
    obtain ⟨A, S, g, σd, o, r, q⟩ := args_read h
    refine ⟨A, S, g, σd, o, r, q.imp fun vs H1 ⟨A1, S1, g1, ds, o1, r1, q1⟩ => ?_⟩
    obtain ⟨es, ns, rfl, hn, hl, q2⟩ := kSortSet_of q1
    obtain ⟨v, rfl, h⟩ := rep1 r1
    cases h with
    | @tup a ws _ h rr =>
      refine ⟨a, ns, rfl, ?_, hl, fun p hp => KE.newL q2 o1 (intsRL (setI ns)) hp⟩
      rw [← ints_rep rr hn]; exact tq o1.ext h
end
end NS
namespace NS
open PySem PySem.Spec PyProof.Rows L2
/-! ## repr of data -/
mutual
theorem py_nodict : ∀ d : D, (D.py d).hasDict = false
  | .non | .bl _ | .int _ | .str _ | .dT _ | .dK _ | .hdl _ => by simp [D.py, PyData.hasDict]
  | .tup xs => by simp [D.py, PyData.hasDict, pys_nodict xs]
  | .lst xs => by simp [D.py, PyData.hasDict, pys_nodict xs]
  | .slst xs => by simp [D.py, PyData.hasDict, pys_nodict xs]
theorem pys_nodict : ∀ ds : List D, PyData.hasDictAll (D.pys ds) = false
  | [] => by simp [D.pys, PyData.hasDictAll]
  | d :: ds => by simp [D.pys, PyData.hasDictAll, py_nodict d, pys_nodict ds]
end
def reprOk (d : D) : Bool := D.pyOk d && (D.py d).showable && decide ((D.py d).shown.length ≤ sizeLine) && decide ((D.py d).depth ≤ 60)
def kRepr : List D → M D
  | [d] => if reprOk d = true then M.pure (.str (D.py d).shown) else M.bad
  | _ => M.bad
section
variable {X : Cx} {E : XK} {m : Bool}
theorem cl_repr (hu : X.A.units + 65 < cLine) (hg : X.A.guards = some []) : CallD X E (.builtin "repr") false kRepr := fun pins s σ H xs us Q I rs ⟨A, S, g, ds, o, r, q⟩ => by
  match ds, q with
  | [], q => exact q.elim
  | _ :: _ :: _, q => exact q.elim
  | [d], q =>
    have q : KE (Cx.sur X E) false A S H ((if reprOk d = true then M.pure (.str (D.py d).shown) else M.bad : M D) g) Q := q
    by_cases hk : reprOk d = true
    · rw [if_pos hk] at q
      have q : KE (Cx.sur X E) false A S H (.ok (.str (D.py d).shown) g) Q := q
      unfold reprOk at hk
      simp only [Bool.and_eq_true, decide_eq_true_eq] at hk
      obtain ⟨⟨⟨h1, h2⟩, h3⟩, h4⟩ := hk
      have fin : ∀ (h' : Heap) (u tk : Nat), (∀ b ob, s.heap.get? b = some ob → h'.get? b = some ob) → EP X pins σ Q (.str (D.py d).shown u) { s with heap := h', toks := tk } :=
        fun h' u tk k => ⟨.str _, H, I.kept k, ⟨u, rfl⟩, KE.val q o (.str _)⟩
      have heap : ∀ {v : V} {a : Addr}, v = .ref a → xs = [v] → Rep X.K A S v d → wpAny (model X.prog X.w) X.A (call (.builtin "repr") us) (EP X pins σ Q) X.xe s := by
        rintro v a rfl rfl rr
        have eu : us = [.ref a] := Vals.ref1 rs
        rw [eu]
        obtain ⟨as, rd⟩ := Dp.reads I _ _ _ (rr.dp o.ext h1) (show RelV (.ref a) (.ref a) from rfl)
        exact repr_of_reads' rd h2 (PyData.noDict_hsm (py_nodict d)) hg (by omega) (fun _ _ e => e) (fun h' u tk k => fin h' u tk k) h3
      obtain ⟨v, rfl, h⟩ := rep1 r
      cases h with
      | tup h rr => exact heap rfl rfl (.tup h rr)
      | lst h rr => exact heap rfl rfl (.lst h rr)
      | slst h rr => exact heap rfl rfl (.slst h rr)
      | non => obtain ⟨u, rfl, rfl⟩ := vals1 rs; exact PySem.P.repr_of_none (fin s.heap _ _ fun _ _ e => e)
      | bl b => obtain ⟨u, rfl, rfl⟩ := vals1 rs; exact PySem.P.repr_of_bool (fin s.heap _ _ fun _ _ e => e)
      | int i => obtain ⟨u, rfl, t, rfl⟩ := vals1 rs; exact PySem.P.repr_of_int (by simpa [D.py, PyData.showable] using h2) (fin s.heap _ _ fun _ _ e => e)
      | str x => obtain ⟨u, rfl, t, rfl⟩ := vals1 rs; exact PySem.P.repr_of_str (fin s.heap _ _ fun _ _ e => e) h3
      | _ => cases h1
    · rw [if_neg hk] at q; exact q.elim
end
end NS
namespace NS
open PySem PySem.Spec PyProof.Rows L2
/-! ## dict(a list of pairs) -/
def pairD : D → Option (Key × D)
  | .tup [k, v] => (keyOf k).map fun j => (j, v)
  | _ => none
def pairsD : List D → Option (List (Key × D))
  | [] => some []
  | d :: ds => match pairD d, pairsD ds with
    | some p, some ps => some (p :: ps)
    | _, _ => none
def mergeP (kvs more : List (Key × D)) : List (Key × D) := more.foldl (fun acc kv => putD acc kv.1 kv.2) kvs
def kDictP : List D → M D
  | [.lst ds] => M.opt ((pairsD ds).map fun kvs => .dK (mergeP [] kvs))
  | _ => M.bad
section
variable {K : PySem.W.Frag} {A : List GAdr} {S H : Hp}
theorem RepK.merge : ∀ {more : List (Key × V)} {md : List (Key × D)} {kvs : List (Key × V)} {kd : List (Key × D)}, RepK K A S more md → RepK K A S kvs kd → RepK K A S (mergeK kvs more) (mergeP kd md)
  | _, _, _, _, .nil, r => r
  | (k, _) :: _, (_, _) :: _, _, _, .cons h t, r => by have z := RepK.merge t (RepK.put (k := k) h r); exact z
theorem pairs_rep (o : Same S H) : ∀ {vs : List V} {ds : List D} {kd : List (Key × D)}, RepL K A S vs ds → pairsD ds = some kd → ∃ (ps : List Addr) (kvs : List (Key × V)), vs = ps.map V.ref ∧ Paired (fun p kv => SqT K H p [kV kv.1, kv.2]) ps kvs ∧ RepK K A S kvs kd
  | _, _, _, .nil, h => by cases h; exact ⟨[], [], rfl, .nil, .nil⟩
  | v :: vs, d :: ds, kd, .cons h1 r, h => by
    unfold pairsD at h
    split at h
    · rename_i p ps e1 e2
      cases h
      obtain ⟨as, kvs, rfl, hp, hr⟩ := pairs_rep o r e2
      unfold pairD at e1
      split at e1
      · rename_i k w
        cases ek : keyOf k with
        | none => rw [ek] at e1; cases e1
        | some j =>
          rw [ek] at e1; cases e1
          cases h1 with
          | @tup a ws _ h rr =>
            cases rr with
            | cons r1 rr =>
              cases rr with
              | cons r2 rr =>
                cases rr
                have := keyOf_rep r1 ek
                subst this
                exact ⟨a :: as, (j, _) :: kvs, rfl, .cons (tq o h) hp, .cons r2 hr⟩
      · cases e1
    · cases h
end
section
variable {X : Cx} {E : XK} {m : Bool}
theorem cl_dictP (hc : X.calm = true := by rfl) : CallD X E (.type "dict") m kDictP := CallR.imp (call_dictP hc) fun xs H Q ⟨A, S, g, ds, o, r, q⟩ => by
  unfold kDictP at q
  split at q
  · rename_i es
    obtain ⟨kd, e2, q⟩ := opt_ok q
    cases ep : pairsD es with
    | none => rw [ep] at e2; cases e2
    | some md =>
      rw [ep] at e2; cases e2
      obtain ⟨v, rfl, h⟩ := rep1 r
      cases h with
      | @lst a ws _ h rr =>
        obtain ⟨ps, kvs, rfl, hp, hr⟩ := pairs_rep o.ext rr ep
        have hm : RepK X.K A S (mergeK [] kvs) (mergeP [] md) := RepK.merge hr .nil
        refine ⟨a, ps, kvs, rfl, .inl (.inl (o.ext _ _ h)), hp, fun p hp => KE.newO q o hp ⟨_, upd_same, hm⟩ (.dK upd_same (hm.mono (List.prefix_refl _) fun b x e => ?_))⟩
        rw [upd_ne (ne_of_none e (Same.free o.ext hp))]; exact e
  · exact q.elim
end
end NS
namespace NS
open PySem PySem.Spec PyProof.Rows L2
def b_is_integer : DS → M Fl :=
  (sRet (eAndV (eIsi ["int"] (eVar 0)) (eNotV (eIsi ["bool"] (eVar 0)))))
def d_is_integer : List D → M D := runD 1 false b_is_integer
def b_is_entry : DS → M Fl :=
  (sSeq (sIf (eTst (eIsi ["str"] (eVar 1)))
    (sRet (eBin kEq (eVar 1) (eC (.str "?"))))
    sNil)
    (sRet (eOrV (eBin kIs (eVar 1) (eC .non)) (eAndV (eArgs (callN 1 d_is_integer) (lCons (eVar 1) lNil)) (eChain kLe kLt (eC (.int 0)) (eVar 1) (eVar 0))))))
def d_is_entry : List D → M D := runD 2 false b_is_entry
def b_is_table : DS → M Fl :=
  (sRet (eAndV (eIsi ["tuple"] (eVar 0)) (eAndV (eBin kGt (eArgs kLen (lCons (eVar 0) lNil)) (eC (.int 0))) (eArgs (kOfBls fun bs => M.pure (.bl (bs.all id))) (lCons (eComp (iSeq (eVar 0)) [1] (gN 1) tYesD (eArgs (callN 2 d_is_entry) (lCons (eArgs kLen (lCons (eVar 0) lNil)) (lCons (eVar 1) lNil)))) lNil)))))
def d_is_table : List D → M D := runD 2 false b_is_table
def b_Lsource : DS → M Fl :=
  (sSeq (sSet false 2 (eC (.int 0)))
    (sSeq (sIf (eTst (eBin kLt (eVar 1) (eArgs kLen (lCons (eVar 0) lNil))))
    (sSet false 2 (eBin kIx (eVar 0) (eVar 1)))
    sNil)
    (sRetH (eArgs mkL (lCons (eBin kMul (eArgs kAbs (lCons (eVar 2) lNil)) (eArgs kInt (lCons (eBin kGe (eArgs kAbs (lCons (eVar 2) lNil)) (eBin kPow (eC (.int 10)) (eC (.int 18)))) lNil))) (lCons (eBin kMod (eBin kMul (eBin kAdd (eBin kAdd (eBin kMod (eVar 2) (eC (.int 2147483563))) (eBin kMul (eC (.int 90007)) (eVar 1))) (eC (.int 67))) (eC (.int 39971))) (eC (.int 2147483543))) (lCons (eC (.int 0)) lNil)))))))
def d_Lsource : List D → M D := runD 3 false b_Lsource
def b_Ldraw (self : List D → M D) : DS → M Fl :=
  (sSeq (sIf (eTst (eBin kGt (eBin kIx (eVar 0) (eC (.int 0))) (eC (.int 0))))
    (sSeq (sSet false 2 (eBin kMod (eBin kIx (eVar 0) (eC (.int 0))) (eVar 1)))
    (sSeq (sSetIxH 0 (eBin kFdiv (eBin kIx (eVar 0) (eC (.int 0))) (eVar 1)) (eC (.int 0)))
    (sRet (eVar 2))))
    sNil)
    (sSeq (sIf (eTst (eBin kGt (eVar 1) (eBin kPow (eC (.int 10)) (eC (.int 7)))))
    (sRet (eBin kMod (eBin kAdd (eArgs (callN 2 self) (lCons (eVar 0) (lCons (eBin kPow (eC (.int 10)) (eC (.int 7))) lNil))) (eBin kMul (eBin kPow (eC (.int 10)) (eC (.int 7))) (eArgs (callN 2 self) (lCons (eVar 0) (lCons (eBin kAdd (eBin kFdiv (eVar 1) (eBin kPow (eC (.int 10)) (eC (.int 7)))) (eC (.int 1))) lNil))))) (eVar 1)))
    sNil)
    (sSeq (sSetIxH 0 (eBin kAdd (eBin kIx (eVar 0) (eC (.int 2))) (eC (.int 1))) (eC (.int 2)))
    (sSeq (sSet false 3 (eBin kMod (eBin kPow (eBin kAdd (eBin kIx (eVar 0) (eC (.int 1))) (eBin kMul (eC (.int 62003)) (eBin kIx (eVar 0) (eC (.int 2))))) (eC (.int 3))) (eC (.int 2147483579))))
    (sRet (eBin kMod (eBin kFdiv (eBin kMod (eBin kAdd (eBin kMul (eVar 3) (eBin kAdd (eBin kMod (eVar 3) (eC (.int 40009))) (eC (.int 13)))) (eBin kMul (eBin kIx (eVar 0) (eC (.int 2))) (eC (.int 7561)))) (eC (.int 2147483647))) (eC (.int 32))) (eVar 1)))))))
def d_Ldraw : Nat → List D → M D
  | 0 => fun _ => M.bad
  | n + 1 => runD 4 false (b_Ldraw (d_Ldraw n))
def b_Lchoice : DS → M Fl :=
  (sRet (eBin kIx (eVar 1) (eArgs (callN 2 (d_Ldraw 3)) (lCons (eVar 0) (lCons (eArgs kLen (lCons (eVar 1) lNil)) lNil)))))
def d_Lchoice : List D → M D := runD 2 false b_Lchoice
def b_Lequal (self : List D → M D) : DS → M Fl :=
  (sSeq (sIf (eTst (eIsi ["list", "tuple"] (eVar 1)))
    (sSeq (sIf (eOr (eTst (eBin kNe (eIsi ["list"] (eVar 0)) (eIsi ["list"] (eVar 1)))) (eTst (eBin kNe (eIsi ["tuple"] (eVar 0)) (eIsi ["tuple"] (eVar 1)))))
    (sRet (eC (.bl false)))
    sNil)
    (sRet (eAndV (eBin kEq (eArgs kLen (lCons (eVar 0) lNil)) (eArgs kLen (lCons (eVar 1) lNil))) (eArgs (kOfBls fun bs => M.pure (.bl (bs.all id))) (lCons (eComp (iArgs zipK2 (lCons (eVar 0) (lCons (eVar 1) lNil))) [2, 3] (gNs [2, 3]) tYesD (eArgs (callN 2 self) (lCons (eVar 2) (lCons (eVar 3) lNil)))) lNil)))))
    sNil)
    (sSeq (sIf (eOr (eTst (eBin kIs (eVar 1) (eC .non))) (eTst (eIsi ["str"] (eVar 1))))
    (sRet (eAndV (eBin kEq (eVar 0) (eVar 1)) (eBin kEq (eIsi ["str"] (eVar 0)) (eIsi ["str"] (eVar 1)))))
    sNil)
    (sRet (eAndV (eIsi ["int"] (eVar 0)) (eAndV (eBin kEq (eIsi ["bool"] (eVar 0)) (eIsi ["bool"] (eVar 1))) (eBin kEq (eVar 0) (eVar 1)))))))
def d_Lequal : Nat → List D → M D
  | 0 => fun _ => M.bad
  | n + 1 => runD 4 false (b_Lequal (d_Lequal n))
def b_Linteger : DS → M Fl :=
  (sRet (eAndV (eIsi ["int"] (eVar 0)) (eNotV (eIsi ["bool"] (eVar 0)))))
def d_Linteger : List D → M D := runD 1 false b_Linteger
def b_Lfill : DS → M Fl :=
  (sSeq (sPar [2, 3] [true, true] (lCons (eBin kRep (eArgs mkL (lCons (eC .non) lNil)) (eVar 0)) (lCons (eArgs mkL lNil) lNil)))
    (sSeq (sFor (iSeq (eVar 1)) (gN 4)
    (sSeq (sSet false 5 (eBor 2 (eBin kIx (eArgs kMinP (lCons (eComp (iArgs rng1 (lCons (eVar 0) lNil)) [6] (gN 6) (eTst (eBin kIs (eBin kIx (eVar 2) (eVar 6)) (eC .non))) (eArgs mkT (lCons (eArgs kAbs (lCons (eBin kSub (eVar 6) (eVar 4)) lNil)) (lCons (eVar 6) lNil)))) lNil)) (eC (.int 1)))))
    (sSeq (sSetIx 2 (eVar 4) (eVar 5))
    (sOwn 3 kApp (eVar 5)))))
    (sFrz 3 (sFrz 2 (sRet (eArgs mkT (lCons (eArgs kTuple (lCons (eVar 2) lNil)) (lCons (eArgs kTuple (lCons (eVar 3) lNil)) lNil))))))))
def d_Lfill : List D → M D := runD 7 false b_Lfill
def b_Lhopes : DS → M Fl :=
  (sSeq (sPar [2, 3] [false, false] (lCons (eArgs (callN 2 (d_Ldraw 3)) (lCons (eVar 0) (lCons (eVar 1) lNil))) (lCons (eArgs (callN 2 (d_Ldraw 3)) (lCons (eVar 0) (lCons (eC (.int 3)) lNil))) lNil)))
    (sSeq (sSet true 4 (eArgs mkL lNil))
    (sSeq (sFor (iArgs rng1 (lCons (eArgs (callN 2 (d_Ldraw 3)) (lCons (eVar 0) (lCons (eBin kAdd (eVar 1) (eC (.int 1))) lNil))) lNil)) (gN 5)
    (sSeq (sSet false 6 (eIf (eTst (eBin kGt (eVar 3) (eC (.int 0)))) (eArgs (callN 2 (d_Ldraw 3)) (lCons (eVar 0) (lCons (eVar 1) lNil))) (eBin kSub (eBin kAdd (eVar 2) (eArgs (callN 2 (d_Ldraw 3)) (lCons (eVar 0) (lCons (eC (.int 3)) lNil)))) (eC (.int 1)))))
    (sOwn 4 kApp (eArgs kMax2 (lCons (eC (.int 0)) (lCons (eArgs kMin2 (lCons (eBin kSub (eVar 1) (eC (.int 1))) (lCons (eVar 6) lNil))) lNil))))))
    (sRetO 4))))
def d_Lhopes : List D → M D := runD 7 true b_Lhopes
def b_Lveiled : DS → M Fl :=
  (sSeq (sSet false 2 (eArgs (callN 2 d_Lchoice) (lCons (eVar 0) (lCons (eArgs mkL (lCons (eC (.int 0)) (lCons (eC (.int 2)) (lCons (eC (.int 5)) (lCons (eC (.int 8)) lNil))))) lNil))))
    (sRet (eArgs kTuple (lCons (eComp (iSeq (eVar 1)) [3] (gN 3) tYesD (eIf (eAnd (eTst (eBin kIsNot (eVar 3) (eC .non))) (eTst (eBin kLt (eArgs (callN 2 (d_Ldraw 3)) (lCons (eVar 0) (lCons (eC (.int 9)) lNil))) (eVar 2)))) (eC (.str "?")) (eVar 3))) lNil))))
def d_Lveiled : List D → M D := runD 4 false b_Lveiled
def b_Lcase : DS → M Fl :=
  (sSeq (sSet false 2 (eBin kAdd (eC (.int 1)) (eArgs (callN 2 (d_Ldraw 3)) (lCons (eVar 0) (lCons (eVar 1) lNil)))))
    (sSeq (sAsg (eArgs (callN 2 d_Lfill) (lCons (eVar 2) (lCons (eArgs (callN 2 d_Lhopes) (lCons (eVar 0) (lCons (eVar 2) lNil))) lNil))) (gNs [3, 4]))
    (sRet (eArgs mkT (lCons (eArgs (callN 2 d_Lveiled) (lCons (eVar 0) (lCons (eVar 3) lNil))) (lCons (eVar 4) lNil))))))
def d_Lcase : List D → M D := runD 5 false b_Lcase
def b_Lspoiled : DS → M Fl :=
  (sSeq (sSet true 2 (eArgs kList (lCons (eVar 1) lNil)))
    (sSeq (sFor (iArgs rng1 (lCons (eBin kAdd (eC (.int 1)) (eArgs (callN 2 (d_Ldraw 3)) (lCons (eVar 0) (lCons (eC (.int 3)) lNil)))) lNil)) (gN 3)
    (sSetIx 2 (eArgs (callN 2 d_Lchoice) (lCons (eVar 0) (lCons (eBin kAdd (eBin kMul (eLRg (r1D (eArgs kLen (lCons (eVar 1) lNil)))) (eC (.int 2))) (eArgs mkL (lCons (eC .non) (lCons (eC (.str "?")) lNil)))) lNil))) (eArgs (callN 2 (d_Ldraw 3)) (lCons (eVar 0) (lCons (eArgs kLen (lCons (eVar 1) lNil)) lNil)))))
    (sFrz 2 (sRet (eArgs kTuple (lCons (eVar 2) lNil))))))
def d_Lspoiled : List D → M D := runD 4 false b_Lspoiled
def b_Lany : DS → M Fl :=
  (sSeq (sAsg (eArgs (callN 2 d_Lcase) (lCons (eVar 0) (lCons (eVar 1) lNil))) (gNs [2, 3]))
    (sRet (eIf (eTst (eBin kEq (eArgs (callN 2 (d_Ldraw 3)) (lCons (eVar 0) (lCons (eC (.int 2)) lNil))) (eC (.int 0)))) (eArgs (callN 2 d_Lspoiled) (lCons (eVar 0) (lCons (eVar 2) lNil))) (eVar 2))))
def d_Lany : List D → M D := runD 4 false b_Lany
def b_Lvalid : DS → M Fl :=
  (sSeq (sIf (eOr (eNot (eTst (eIsi ["tuple"] (eVar 0)))) (eTst (eBin kEq (eVar 0) (eArgs mkT lNil))))
    (sRet (eC (.bl false)))
    sNil)
    (sSeq (sFor (iSeq (eVar 0)) (gN 1)
    (sSeq (sSet false 2 (eOrV (eBin kIs (eVar 1) (eC .non)) (eAndV (eIsi ["str"] (eVar 1)) (eBin kEq (eVar 1) (eC (.str "?"))))))
    (sIf (eAnd (eNot (eTst (eVar 2))) (eNot (eAnd (eTst (eArgs (callN 1 d_Linteger) (lCons (eVar 1) lNil))) (eTst (eChain kLe kLt (eC (.int 0)) (eVar 1) (eArgs kLen (lCons (eVar 0) lNil)))))))
    (sRet (eC (.bl false)))
    sNil)))
    (sRet (eC (.bl true)))))
def d_Lvalid : List D → M D := runD 3 false b_Lvalid
def b_needs : DS → M Fl :=
  (sSeq (sIf (eTst (eBin kGe (eVar 1) (eVar 2)))
    (sRet (eTRg (r2D (eArgs kMax2 (lCons (eC (.int 0)) (lCons (eBin kSub (eBin kMul (eC (.int 2)) (eVar 2)) (eVar 1)) lNil))) (eVar 1))))
    sNil)
    (sRet (eTRg (r2D (eBin kAdd (eVar 1) (eC (.int 1))) (eArgs kMin2 (lCons (eVar 0) (lCons (eBin kSub (eBin kMul (eC (.int 2)) (eVar 2)) (eVar 1)) lNil)))))))
def d_needs : List D → M D := runD 3 false b_needs
def b_Lneeds : DS → M Fl :=
  (sRet (eComp (iArgs rng1 (lCons (eVar 0) lNil)) [3] (gN 3) (eTst (eBin kLt (eArgs mkT (lCons (eArgs kAbs (lCons (eBin kSub (eVar 3) (eVar 2)) lNil)) (lCons (eVar 3) lNil))) (eArgs mkT (lCons (eArgs kAbs (lCons (eBin kSub (eVar 1) (eVar 2)) lNil)) (lCons (eVar 1) lNil))))) (eVar 3)))
def d_Lneeds : List D → M D := runD 4 true b_Lneeds
def b_nearest_of : DS → M Fl :=
  (sRet (eBin kIx (eArgs kMinP (lCons (eComp (iSeq (eVar 0)) [2] (gN 2) tYesD (eArgs mkT (lCons (eArgs kAbs (lCons (eBin kSub (eVar 2) (eVar 1)) lNil)) (lCons (eVar 2) lNil)))) lNil)) (eC (.int 1))))
def d_nearest_of : List D → M D := runD 3 false b_nearest_of
def b_nearest : DS → M Fl :=
  (sSeq (sSet false 2 (eComp (iArgs enumK (lCons (eVar 0) lNil)) [3, 4] (gNs [3, 4]) (eTst (eBin kIs (eVar 4) (eC .non))) (eVar 3)))
    (sSeq (sIf (eTst (eBin kEq (eVar 2) (eArgs mkL lNil)))
    sNever
    sNil)
    (sRet (eArgs (callN 2 d_nearest_of) (lCons (eVar 2) (lCons (eVar 1) lNil))))))
def d_nearest : List D → M D := runD 5 false b_nearest
def b_cells_of : DS → M Fl :=
  (sSeq (sIf (eTst (eBin kGt (eArgs kLen (lCons (eVar 1) lNil)) (eVar 0)))
    sNever
    sNil)
    (sSeq (sPar [2, 3] [true, true] (lCons (eLRg (r1D (eVar 0))) (lCons (eArgs mkL lNil) lNil)))
    (sSeq (sFor (iSeq (eVar 1)) (gN 4)
    (sSeq (sSet false 5 (eBor 2 (eArgs (callN 2 d_nearest_of) (lCons (eVar 2) (lCons (eVar 4) lNil)))))
    (sSeq (sOwnL 2 kRemI (lCons (eVar 5) lNil))
    (sOwn 3 kApp (eVar 5)))))
    (sFrz 3 (sRet (eArgs kTuple (lCons (eVar 3) lNil)))))))
def d_cells_of : List D → M D := runD 6 false b_cells_of
def b_filled : DS → M Fl :=
  (sSeq (sSet true 2 (eBin kRep (eArgs mkL (lCons (eC .non) lNil)) (eVar 0)))
    (sSeq (sFor (iArgs zipK2 (lCons (eArgs (callN 2 d_cells_of) (lCons (eVar 0) (lCons (eVar 1) lNil))) (lCons (eVar 1) lNil))) (gNs [3, 4])
    (sSetIx 2 (eVar 4) (eVar 3)))
    (sFrz 2 (sRet (eArgs kTuple (lCons (eVar 2) lNil))))))
def d_filled : List D → M D := runD 5 false b_filled
def b_taken : DS → M Fl :=
  (sRet (eComp (iArgs enumK (lCons (eVar 0) lNil)) [1, 2] (gNs [1, 2]) (eTst (eBin kIsNot (eVar 2) (eC .non))) (eVar 1)))
def d_taken : List D → M D := runD 3 true b_taken
def b_need_of : DS → M Fl :=
  (sSeq (sSet false 2 (eBin kIx (eVar 0) (eVar 1)))
    (sRet (eIf (eTst (eBin kEq (eVar 2) (eC (.str "?")))) (eArgs mkT lNil) (eArgs (callN 3 d_needs) (lCons (eArgs kLen (lCons (eVar 0) lNil)) (lCons (eVar 1) (lCons (eVar 2) lNil)))))))
def d_need_of : List D → M D := runD 3 false b_need_of
def b_choose : DS → M Fl :=
  (sSeq (sSet false 2 (eC (.int 1)))
    (sSeq (sFor (iArgs rng1 (lCons (eVar 1) lNil)) (gN 3)
    (sSet false 2 (eBin kFdiv (eBin kMul (eVar 2) (eBin kSub (eVar 0) (eVar 3))) (eBin kAdd (eVar 3) (eC (.int 1))))))
    (sRet (eVar 2))))
def d_choose : List D → M D := runD 4 false b_choose
def b_gaps : DS → M Fl :=
  (sSeq (sSet false 1 (eComp (iSeq (eArgs (callN 1 d_taken) (lCons (eVar 0) lNil))) [3] (gN 3) tYesD (eArgs mkT (lCons (eVar 3) (lCons (eComp (iSeq (eArgs (callN 2 d_need_of) (lCons (eVar 0) (lCons (eVar 3) lNil)))) [2] (gN 2) (eTst (eBin kIs (eBin kIx (eVar 0) (eVar 2)) (eC .non))) (eVar 2)) lNil)))))
    (sRet (eComp2 (iSeq (eVar 1)) [3, 4, 2] (gNs [3, 4]) tYesD (iSeq (eVar 4)) [2] (gN 2) tYesD (eArgs mkT (lCons (eVar 3) (lCons (eVar 2) lNil))))))
def d_gaps : List D → M D := runD 5 true b_gaps
def b_bounds : DS → M Fl :=
  (sSeq (sSet true 2 (eArgs mkL lNil))
    (sSeq (sFor (iArgs enumK (lCons (eVar 1) lNil)) (gNs [3, 4])
    (sSeq (sSet false 5 (eBin kAdd (eArgs mkL (lCons (eVar 3) lNil)) (eComp (iArgs enumK (lCons (eVar 1) lNil)) [6, 7] (gNs [6, 7]) (eTst (eBin kIn (eVar 7) (eArgs (callN 2 d_need_of) (lCons (eVar 0) (lCons (eVar 4) lNil))))) (eVar 6))))
    (sOwn 2 kApp (eArgs mkT (lCons (eArgs (kOfInts fun ns => M.opt ((minI ns).map .int)) (lCons (eVar 5) lNil)) (lCons (eBin kAdd (eArgs (kOfInts fun ns => M.opt ((maxI ns).map .int)) (lCons (eVar 5) lNil)) (eC (.int 1))) lNil))))))
    (sRetO 2)))
def d_bounds : List D → M D := runD 8 true b_bounds
def b_is_inside : DS → M Fl :=
  (sRet (eAndV (eBin kLe (eVar 1) (eBin kIx (eVar 0) (eC (.int 0)))) (eBin kLe (eBin kIx (eVar 0) (eC (.int 1))) (eVar 2))))
def d_is_inside : List D → M D := runD 3 false b_is_inside
def b_part_table : DS → M Fl :=
  (sSeq (sSet false 1 (eArgs kLen (lCons (eVar 0) lNil)))
    (sSeq (sSet true 2 (eC (.dT [])))
    (sSeq (sFor (iArgs rng1 (lCons (eBin kAdd (eVar 1) (eC (.int 1))) lNil)) (gN 3)
    (sDPut' 2 (eC (.int 1)) (eArgs mkT (lCons (eVar 3) (lCons (eVar 3) lNil)))))
    (sSeq (sFor (iArgs rng2 (lCons (eC (.int 1)) (lCons (eBin kAdd (eVar 1) (eC (.int 1))) lNil))) (gN 4)
    (sFor (iArgs rng1 (lCons (eBin kAdd (eBin kSub (eVar 1) (eVar 4)) (eC (.int 1))) lNil)) (gN 3)
    (sSeq (sSet false 5 (eBin kAdd (eVar 3) (eVar 4)))
    (sSeq (sSet false 6 (eC (.int 0)))
    (sSeq (sFor (iSeq (eComp (iArgs rng2 (lCons (eVar 3) (lCons (eVar 5) lNil))) [7] (gN 7) (eTst (eArgs (callN 3 d_is_inside) (lCons (eBin kIx (eVar 0) (eVar 7)) (lCons (eVar 3) (lCons (eVar 5) lNil))))) (eVar 7))) (gN 7)
    (sAug kAddI 6 (eBor 2 (eBin kMul (eBin kMul (eArgs (callN 2 d_choose) (lCons (eBin kSub (eVar 4) (eC (.int 1))) (lCons (eBin kSub (eVar 7) (eVar 3)) lNil))) (eBin kIxD (eVar 2) (eArgs mkT (lCons (eVar 3) (lCons (eVar 7) lNil))))) (eBin kIxD (eVar 2) (eArgs mkT (lCons (eBin kAdd (eVar 7) (eC (.int 1))) (lCons (eVar 5) lNil))))))))
    (sDPut' 2 (eVar 6) (eArgs mkT (lCons (eVar 3) (lCons (eVar 5) lNil)))))))))
    (sRetO 2)))))
def d_part_table : List D → M D := runD 8 true b_part_table
def b_count_of : DS → M Fl :=
  (sRet (eBin kIxD (eArgs (callN 1 d_part_table) (lCons (eArgs (callN 2 d_bounds) (lCons (eVar 0) (lCons (eVar 1) lNil))) lNil)) (eArgs mkT (lCons (eC (.int 0)) (lCons (eArgs kLen (lCons (eVar 1) lNil)) lNil)))))
def d_count_of : List D → M D := runD 2 false b_count_of
def b_ready : DS → M Fl :=
  (sSeq (sSet false 2 (eComp (iSeq (eArgs (callN 1 d_taken) (lCons (eVar 0) lNil))) [3] (gN 3) (eTst (eBin kNotIn (eVar 3) (eVar 1))) (eVar 3)))
    (sRet (eComp (iSeq (eVar 2)) [3] (gN 3) (eTst (eArgs (kOfBls fun bs => M.pure (.bl (bs.all id))) (lCons (eComp (iSeq (eArgs (callN 2 d_need_of) (lCons (eVar 0) (lCons (eVar 3) lNil)))) [4] (gN 4) tYesD (eBin kIn (eVar 4) (eVar 1))) lNil))) (eVar 3))))
def d_ready : List D → M D := runD 5 true b_ready
def b_nexts : DS → M Fl :=
  (sSeq (sSet false 2 (eComp (iSeq (eArgs (callN 1 d_taken) (lCons (eVar 0) lNil))) [3] (gN 3) (eTst (eBin kNotIn (eVar 3) (eVar 1))) (eVar 3)))
    (sRet (eComp (iSeq (eArgs (callN 2 d_ready) (lCons (eVar 0) (lCons (eVar 1) lNil)))) [3] (gN 3) tYesD (eArgs mkT (lCons (eVar 3) (lCons (eArgs (callN 2 d_count_of) (lCons (eVar 0) (lCons (eComp (iSeq (eVar 2)) [4] (gN 4) (eTst (eBin kNe (eVar 4) (eVar 3))) (eVar 4)) lNil))) lNil))))))
def d_nexts : List D → M D := runD 5 true b_nexts
def b_count_orders : DS → M Fl :=
  (sRet (eIf (eTst (eBin kEq (eArgs (callN 1 d_gaps) (lCons (eVar 0) lNil)) (eArgs mkL lNil))) (eArgs (callN 2 d_count_of) (lCons (eVar 0) (lCons (eArgs (callN 1 d_taken) (lCons (eVar 0) lNil)) lNil))) (eC (.int 0))))
def d_count_orders : List D → M D := runD 1 false b_count_orders
def b_chosen : DS → M Fl :=
  (sSeq (sFor (iSeq (eVar 0)) (gNs [2, 3])
    (sSeq (sIf (eTst (eBin kLt (eVar 1) (eVar 3)))
    (sRet (eArgs mkT (lCons (eVar 2) (lCons (eVar 1) lNil))))
    sNil)
    (sAug kSub 1 (eVar 3))))
    (sRet (eArgs mkT (lCons (eNeg (eC (.int 1))) (lCons (eC (.int 0)) lNil)))))
def d_chosen : List D → M D := runD 4 false b_chosen
def b_order_at : DS → M Fl :=
  (sSeq (sIf (eNot (eTst (eChain kLe kLt (eC (.int 0)) (eVar 1) (eArgs (callN 1 d_count_orders) (lCons (eVar 0) lNil)))))
    sNever
    sNil)
    (sSeq (sPar [2, 3] [true, false] (lCons (eArgs mkL lNil) (lCons (eVar 1) lNil)))
    (sSeq (whileM (tBor 2 (eTst (eBin kLt (eArgs kLen (lCons (eVar 2) lNil)) (eArgs kLen (lCons (eArgs (callN 1 d_taken) (lCons (eVar 0) lNil)) lNil)))))
    (sSeq (sAsg (eBor 2 (eArgs (callN 2 d_chosen) (lCons (eArgs (callN 2 d_nexts) (lCons (eVar 0) (lCons (eVar 2) lNil))) (lCons (eVar 3) lNil)))) (gNs [4, 3]))
    (sOwn 2 kApp (eVar 4))) 100)
    (sFrz 2 (sRet (eArgs kTuple (lCons (eVar 2) lNil)))))))
def d_order_at : List D → M D := runD 5 false b_order_at
def b_is_order : DS → M Fl :=
  (sSeq (sIf (eOr (eNot (eTst (eIsi ["tuple"] (eVar 1)))) (eNot (eTst (eArgs (kOfBls fun bs => M.pure (.bl (bs.all id))) (lCons (eComp (iSeq (eVar 1)) [2] (gN 2) tYesD (eArgs (callN 1 d_is_integer) (lCons (eVar 2) lNil))) lNil)))))
    (sRet (eC (.bl false)))
    sNil)
    (sRet (eBin kEq (eArgs kSorted (lCons (eVar 1) lNil)) (eArgs (callN 1 d_taken) (lCons (eVar 0) lNil)))))
def d_is_order : List D → M D := runD 3 false b_is_order
def b_shows_order : DS → M Fl :=
  (sSeq (sIf (eNot (eTst (eArgs (callN 2 d_is_order) (lCons (eVar 0) (lCons (eVar 1) lNil)))))
    (sRet (eC (.bl false)))
    sNil)
    (sRet (eArgs (kOfBls fun bs => M.pure (.bl (bs.all id))) (lCons (eComp2 (iArgs enumK (lCons (eVar 1) lNil)) [2, 3, 4] (gNs [2, 3]) tYesD (iSeq (eArgs (callN 2 d_need_of) (lCons (eVar 0) (lCons (eVar 3) lNil)))) [4] (gN 4) tYesD (eBin kIn (eVar 4) (eSl kSl (eVar 1) oNone (oSome (eVar 2))))) lNil))))
def d_shows_order : List D → M D := runD 5 false b_shows_order
def b_first_order : DS → M Fl :=
  (sSeq (sSet true 2 (eArgs mkL lNil))
    (sSeq (whileM (tBor 2 (eTst (eBin kLt (eBin kAdd (eArgs kLen (lCons (eVar 1) lNil)) (eArgs kLen (lCons (eVar 2) lNil))) (eArgs kLen (lCons (eArgs (callN 1 d_taken) (lCons (eVar 0) lNil)) lNil)))))
    (sOwn 2 kApp (eBor 2 (eBin kIx (eArgs (callN 2 d_ready) (lCons (eVar 0) (lCons (eBin kAdd (eArgs kList (lCons (eVar 1) lNil)) (eVar 2)) lNil))) (eC (.int 0))))) 100)
    (sRetO 2)))
def d_first_order : List D → M D := runD 3 true b_first_order
def b_need_both : DS → M Fl :=
  (sRet (eAndV (eBin kIn (eVar 2) (eArgs (callN 2 d_need_of) (lCons (eVar 0) (lCons (eVar 1) lNil)))) (eBin kIn (eVar 1) (eArgs (callN 2 d_need_of) (lCons (eVar 0) (lCons (eVar 2) lNil))))))
def d_need_both : List D → M D := runD 3 false b_need_both
def b_verdict : DS → M Fl :=
  (sSeq (sSet false 1 (eArgs (callN 1 d_gaps) (lCons (eVar 0) lNil)))
    (sSeq (sIf (eTst (eBin kNe (eVar 1) (eArgs mkL lNil)))
    (sRet (eBin kAdd (eArgs mkT (lCons (eC (.str "gap")) lNil)) (eBin kIx (eVar 1) (eC (.int 0)))))
    sNil)
    (sSeq (sSet false 2 (eArgs (callN 1 d_taken) (lCons (eVar 0) lNil)))
    (sSeq (sFor (iArgs enumK (lCons (eVar 2) lNil)) (gNs [3, 4])
    (sFor (iSeq (eSl kSl (eVar 2) (oSome (eBin kAdd (eVar 3) (eC (.int 1)))) oNone)) (gN 5)
    (sIf (eTst (eArgs (callN 3 d_need_both) (lCons (eVar 0) (lCons (eVar 4) (lCons (eVar 5) lNil)))))
    (sRet (eArgs mkT (lCons (eC (.str "both")) (lCons (eVar 4) (lCons (eVar 5) lNil)))))
    sNil)))
    (sRet (eArgs mkT (lCons (eC (.str "order")) (lCons (eArgs kTuple (lCons (eArgs (callN 2 d_first_order) (lCons (eVar 0) (lCons (eArgs mkL lNil) lNil))) lNil)) lNil))))))))
def d_verdict : List D → M D := runD 6 false b_verdict
def b_Lfull_spots : DS → M Fl :=
  (sRet (eComp (iArgs enumK (lCons (eVar 0) lNil)) [1, 2] (gNs [1, 2]) (eTst (eBin kIsNot (eVar 2) (eC .non))) (eVar 1)))
def d_Lfull_spots : List D → M D := runD 3 true b_Lfull_spots
def b_Lwanted : DS → M Fl :=
  (sRet (eIf (eTst (eBin kEq (eBin kIx (eVar 0) (eVar 1)) (eC (.str "?")))) (eArgs mkL lNil) (eArgs (callN 3 d_Lneeds) (lCons (eArgs kLen (lCons (eVar 0) lNil)) (lCons (eVar 1) (lCons (eBin kIx (eVar 0) (eVar 1)) lNil))))))
def d_Lwanted : List D → M D := runD 2 true b_Lwanted
def b_Lfitting : DS → M Fl :=
  (sSeq (sPar [1, 2] [false, false] (lCons (eArgs mkL (lCons (eArgs mkT lNil) lNil)) (lCons (eArgs (callN 1 d_Lfull_spots) (lCons (eVar 0) lNil)) lNil)))
    (sSeq (sSet false 3 (eArgs kDictP (lCons (eComp (iSeq (eVar 2)) [4] (gN 4) tYesD (eArgs mkT (lCons (eVar 4) (lCons (eArgs (callN 2 d_Lwanted) (lCons (eVar 0) (lCons (eVar 4) lNil))) lNil)))) lNil)))
    (sSeq (sFor (iSeq (eVar 2)) (gN 5)
    (sSeq (sSet true 6 (eArgs mkL lNil))
    (sSeq (sFor (iSeq (eVar 1)) (gN 7)
    (sSeq (sSet false 8 (eComp (iSeq (eVar 2)) [4] (gN 4) (eAnd (eTst (eBin kNotIn (eVar 4) (eVar 7))) (eTst (eArgs (kOfBls fun bs => M.pure (.bl (bs.all id))) (lCons (eComp (iSeq (eBin kIxD (eVar 3) (eVar 4))) [9] (gN 9) tYesD (eBin kIn (eVar 9) (eVar 7))) lNil)))) (eVar 4)))
    (sOwn 6 kExt (eComp (iSeq (eVar 8)) [4] (gN 4) tYesD (eBin kAdd (eVar 7) (eArgs mkT (lCons (eVar 4) lNil)))))))
    (sFrz 6 (sSet false 1 (eVar 6))))))
    (sRet (eVar 1)))))
def d_Lfitting : List D → M D := runD 10 false b_Lfitting
def b_Lreason : DS → M Fl :=
  (sSeq (sSet false 1 (eArgs (callN 1 d_Lfull_spots) (lCons (eVar 0) lNil)))
    (sSeq (sFor (iSeq (eVar 1)) (gN 2)
    (sFor (iSeq (eArgs (callN 2 d_Lwanted) (lCons (eVar 0) (lCons (eVar 2) lNil)))) (gN 3)
    (sIf (eTst (eBin kIs (eBin kIx (eVar 0) (eVar 3)) (eC .non)))
    (sRet (eArgs mkT (lCons (eC (.str "gap")) (lCons (eVar 2) (lCons (eVar 3) lNil)))))
    sNil)))
    (sSeq (sFor (iSeq (eVar 1)) (gN 2)
    (sFor (iSeq (eVar 1)) (gN 4)
    (sIf (eAnd (eTst (eBin kLt (eVar 2) (eVar 4))) (eAnd (eTst (eBin kIn (eVar 4) (eArgs (callN 2 d_Lwanted) (lCons (eVar 0) (lCons (eVar 2) lNil))))) (eTst (eBin kIn (eVar 2) (eArgs (callN 2 d_Lwanted) (lCons (eVar 0) (lCons (eVar 4) lNil)))))))
    (sRet (eArgs mkT (lCons (eC (.str "both")) (lCons (eVar 2) (lCons (eVar 4) lNil)))))
    sNil)))
    (sRet (eC .non)))))
def d_Lreason : List D → M D := runD 5 false b_Lreason
def b_Lshuffled : DS → M Fl :=
  (sSeq (sPar [2, 3] [true, true] (lCons (eArgs kList (lCons (eVar 1) lNil)) (lCons (eArgs mkL lNil) lNil)))
    (sSeq (whileM (tBor 2 (eTst (eBin kNe (eVar 2) (eArgs mkL lNil))))
    (sAppPop 3 2 (eBor 2 (eArgs (callN 2 (d_Ldraw 3)) (lCons (eVar 0) (lCons (eArgs kLen (lCons (eVar 2) lNil)) lNil))))) 100)
    (sRetO 3)))
def d_Lshuffled : List D → M D := runD 4 true b_Lshuffled
def b_Lagrees : DS → M Fl :=
  (sRet (eArgs (kOfBls fun bs => M.pure (.bl (bs.all id))) (lCons (eComp (iArgs enumK (lCons (eVar 1) lNil)) [3, 4] (gNs [3, 4]) tYesD (eArgs (kOfBls fun bs => M.pure (.bl (bs.all id))) (lCons (eComp (iSeq (eArgs (callN 2 d_Lwanted) (lCons (eVar 0) (lCons (eVar 4) lNil)))) [2] (gN 2) tYesD (eBin kIn (eVar 2) (eSl kSl (eVar 1) oNone (oSome (eVar 3))))) lNil))) lNil)))
def d_Lagrees : List D → M D := runD 5 false b_Lagrees
def b_is_pair : DS → M Fl :=
  (sRet (eAndV (eIsi ["tuple"] (eVar 0)) (eAndV (eBin kEq (eArgs kLen (lCons (eVar 0) lNil)) (eC (.int 2))) (eArgs (kOfBls fun bs => M.pure (.bl (bs.all id))) (lCons (eComp (iSeq (eVar 0)) [1] (gN 1) tYesD (eArgs (callN 1 d_is_integer) (lCons (eVar 1) lNil))) lNil)))))
def d_is_pair : List D → M D := runD 2 false b_is_pair
def b_shows_gap : DS → M Fl :=
  (sRet (eAndV (eArgs (callN 1 d_is_pair) (lCons (eVar 1) lNil)) (eBin kIn (eVar 1) (eArgs (callN 1 d_gaps) (lCons (eVar 0) lNil)))))
def d_shows_gap : List D → M D := runD 2 false b_shows_gap
def b_shows_both : DS → M Fl :=
  (sRet (eAndV (eArgs (callN 1 d_is_pair) (lCons (eVar 1) lNil)) (eAndV (eArgs (kOfBls fun bs => M.pure (.bl (bs.all id))) (lCons (eComp (iSeq (eVar 1)) [2] (gN 2) tYesD (eBin kIn (eVar 2) (eArgs (callN 1 d_taken) (lCons (eVar 0) lNil)))) lNil)) (eArgs (callN 3 d_need_both) (lCons (eVar 0) (lCons (eBin kIx (eVar 1) (eC (.int 0))) (lCons (eBin kIx (eVar 1) (eC (.int 1))) lNil)))))))
def d_shows_both : List D → M D := runD 3 false b_shows_both
def b_Lpossible : DS → M Fl :=
  (sSeq (sSet false 1 (eArgs (callN 1 d_Lfull_spots) (lCons (eVar 0) lNil)))
    (sSeq (sFor (iSeq (eVar 1)) (gN 2)
    (sFor (iSeq (eArgs (callN 2 d_Lwanted) (lCons (eVar 0) (lCons (eVar 2) lNil)))) (gN 3)
    (sIf (eOr (eTst (eBin kIs (eBin kIx (eVar 0) (eVar 3)) (eC .non))) (eTst (eBin kIn (eVar 2) (eArgs (callN 2 d_Lwanted) (lCons (eVar 0) (lCons (eVar 3) lNil))))))
    (sRet (eC (.bl false)))
    sNil)))
    (sRet (eC (.bl true)))))
def d_Lpossible : List D → M D := runD 4 false b_Lpossible
def b_is_possible : DS → M Fl :=
  (sRet (eAndV (eBin kEq (eArgs (callN 1 d_gaps) (lCons (eVar 0) lNil)) (eArgs mkL lNil)) (eBin kGt (eArgs (callN 2 d_count_of) (lCons (eVar 0) (lCons (eArgs (callN 1 d_taken) (lCons (eVar 0) lNil)) lNil))) (eC (.int 0)))))
def d_is_possible : List D → M D := runD 1 false b_is_possible
def b_number_of : DS → M Fl :=
  (sSeq (sPar [2, 3, 4] [true, false, false] (lCons (eArgs mkL lNil) (lCons (eC (.int 0)) (lCons (eArgs (callN 1 d_is_possible) (lCons (eVar 0) lNil)) lNil))))
    (sSeq (sFor (iArgs enumK (lCons (eVar 1) lNil)) (gNs [5, 6])
    (sSeq (sSet false 7 (eBorO 2 (eIf (eTst (eVar 4)) (eArgs (callN 2 d_nexts) (lCons (eVar 0) (lCons (eVar 2) lNil))) (eArgs mkL lNil))))
    (sSeq (sIf (eTst (eBin kNotIn (eVar 6) (eComp (iSeq (eVar 7)) [8, 9] (gNs [8, 9]) tYesD (eVar 8))))
    sNever
    sNil)
    (sSeq (sAug kAddI 3 (eArgs (kOfInts fun ns => M.pure (.int ns.sum)) (lCons (eComp (iSeq (eVar 7)) [8, 9] (gNs [8, 9]) (eTst (eBin kLt (eVar 8) (eVar 6))) (eVar 9)) lNil)))
    (sOwn 2 kApp (eVar 6))))))
    (sRet (eVar 3))))
def d_number_of : List D → M D := runD 10 false b_number_of
def b_listed (self : List D → M D) : DS → M Fl :=
  (sSeq (sIf (eTst (eBin kEq (eArgs kLen (lCons (eVar 1) lNil)) (eArgs kLen (lCons (eArgs (callN 1 d_taken) (lCons (eVar 0) lNil)) lNil))))
    (sRet (eArgs mkL (lCons (eArgs kTuple (lCons (eVar 1) lNil)) lNil)))
    sNil)
    (sSeq (sSet true 2 (eArgs mkL lNil))
    (sSeq (sFor (iSeq (eArgs (callN 2 d_ready) (lCons (eVar 0) (lCons (eVar 1) lNil)))) (gN 3)
    (sOwn 2 kExt (eArgs (callN 2 self) (lCons (eVar 0) (lCons (eBin kAdd (eVar 1) (eArgs mkL (lCons (eVar 3) lNil))) lNil)))))
    (sRetO 2))))
def d_listed : Nat → List D → M D
  | 0 => fun _ => M.bad
  | n + 1 => runD 4 true (b_listed (d_listed n))
def b_all_orders : DS → M Fl :=
  (sSeq (sSet false 1 (eArgs (callN 1 d_count_orders) (lCons (eVar 0) lNil)))
    (sSeq (sIf (eTst (eBin kGt (eVar 1) (eC (.int 300))))
    sNever
    sNil)
    (sRet (eIf (eTst (eBin kGt (eVar 1) (eC (.int 0)))) (eArgs (callN 2 (d_listed 14)) (lCons (eVar 0) (lCons (eArgs mkL lNil) lNil))) (eArgs mkL lNil)))))
def d_all_orders : List D → M D := runD 2 true b_all_orders
def b_count_after : DS → M Fl :=
  (sSeq (sFor (iArgs enumK (lCons (eVar 1) lNil)) (gNs [2, 3])
    (sIf (eTst (eBin kNotIn (eVar 3) (eArgs (callN 2 d_ready) (lCons (eVar 0) (lCons (eSl kSl (eVar 1) oNone (oSome (eVar 2))) lNil)))))
    (sRet (eC (.int 0)))
    sNil))
    (sSeq (sIf (eTst (eBin kNe (eArgs (callN 1 d_gaps) (lCons (eVar 0) lNil)) (eArgs mkL lNil)))
    (sRet (eC (.int 0)))
    sNil)
    (sRet (eArgs (callN 2 d_count_of) (lCons (eVar 0) (lCons (eComp (iSeq (eArgs (callN 1 d_taken) (lCons (eVar 0) lNil))) [3] (gN 3) (eTst (eBin kNotIn (eVar 3) (eVar 1))) (eVar 3)) lNil))))))
def d_count_after : List D → M D := runD 4 false b_count_after
def b_next_cells : DS → M Fl :=
  (sSeq (sIf (eTst (eBin kEq (eArgs (callN 2 d_count_after) (lCons (eVar 0) (lCons (eVar 1) lNil))) (eC (.int 0))))
    (sRet (eArgs mkL lNil))
    sNil)
    (sRet (eArgs (callN 2 d_ready) (lCons (eVar 0) (lCons (eVar 1) lNil)))))
def d_next_cells : List D → M D := runD 2 true b_next_cells
def b_with_wish : DS → M Fl :=
  (sSeq (sIf (eTst (eBin kNotIn (eVar 1) (eArgs (callN 1 d_taken) (lCons (eVar 0) lNil))))
    sNever
    sNil)
    (sRet (eArgs kTuple (lCons (eComp (iArgs enumK (lCons (eVar 0) lNil)) [3, 4] (gNs [3, 4]) tYesD (eIf (eTst (eBin kEq (eVar 3) (eVar 1))) (eVar 2) (eVar 4))) lNil))))
def d_with_wish : List D → M D := runD 5 false b_with_wish
def b_ways : DS → M Fl :=
  (sSeq (sSet false 4 (eBin kIx (eVar 0) (eVar 1)))
    (sSeq (sSet false 5 (eIf (eTst (eBin kEq (eVar 4) (eC (.str "?")))) (eLRg (r1D (eArgs kLen (lCons (eVar 0) lNil)))) (eArgs mkL (lCons (eVar 4) lNil))))
    (sSeq (sSet false 6 (eComp (iSeq (eVar 5)) [7] (gN 7) tYesD (eArgs (callN 3 d_needs) (lCons (eArgs kLen (lCons (eVar 0) lNil)) (lCons (eVar 1) (lCons (eVar 7) lNil))))))
    (sRet (eArgs kLen (lCons (eComp (iSeq (eVar 6)) [8] (gN 8) (eTst (eArgs (kOfBls fun bs => M.pure (.bl (bs.all id))) (lCons (eComp (iSeq (eVar 8)) [9] (gN 9) tYesD (eChain kLe kLt (eVar 2) (eVar 9) (eVar 3))) lNil))) (eVar 8)) lNil))))))
def d_ways : List D → M D := runD 10 false b_ways
def b_part_histories : DS → M Fl :=
  (sSeq (sSet false 4 (eC (.int 0)))
    (sSeq (sFor (iArgs rng2 (lCons (eVar 2) (lCons (eVar 3) lNil))) (gN 5)
    (sSeq (sSet false 6 (eArgs (callN 4 d_ways) (lCons (eVar 0) (lCons (eVar 5) (lCons (eVar 2) (lCons (eVar 3) lNil))))))
    (sAug kAddI 4 (eBin kMul (eBin kMul (eBin kMul (eVar 6) (eArgs (callN 2 d_choose) (lCons (eBin kSub (eBin kSub (eVar 3) (eVar 2)) (eC (.int 1))) (lCons (eBin kSub (eVar 5) (eVar 2)) lNil)))) (eBin kIxD (eVar 1) (eArgs mkT (lCons (eVar 2) (lCons (eVar 5) lNil))))) (eBin kIxD (eVar 1) (eArgs mkT (lCons (eBin kAdd (eVar 5) (eC (.int 1))) (lCons (eVar 3) lNil))))))))
    (sRet (eVar 4))))
def d_part_histories : List D → M D := runD 7 false b_part_histories
def b_run_count : DS → M Fl :=
  (sSeq (sSet true 3 (eC (.dT [])))
    (sSeq (sFor (iArgs rng2 (lCons (eVar 1) (lCons (eBin kAdd (eVar 2) (eC (.int 1))) lNil))) (gN 4)
    (sDPut' 3 (eC (.int 1)) (eArgs mkT (lCons (eVar 4) (lCons (eVar 4) lNil)))))
    (sSeq (sFor (iArgs rng2 (lCons (eC (.int 1)) (lCons (eBin kAdd (eBin kSub (eVar 2) (eVar 1)) (eC (.int 1))) lNil))) (gN 5)
    (sFor (iArgs rng2 (lCons (eVar 1) (lCons (eBin kAdd (eBin kSub (eVar 2) (eVar 5)) (eC (.int 1))) lNil))) (gN 6)
    (sDPut' 3 (eBor 3 (eArgs (callN 4 d_part_histories) (lCons (eVar 0) (lCons (eVar 3) (lCons (eVar 6) (lCons (eBin kAdd (eVar 6) (eVar 5)) lNil)))))) (eArgs mkT (lCons (eVar 6) (lCons (eBin kAdd (eVar 6) (eVar 5)) lNil))))))
    (sFrz 3 (sRet (eBin kIxD (eVar 3) (eArgs mkT (lCons (eVar 1) (lCons (eVar 2) lNil)))))))))
def d_run_count : List D → M D := runD 7 false b_run_count
def b_Lchoose : DS → M Fl :=
  (sSeq (sSet false 2 (eC (.int 1)))
    (sSeq (sFor (iArgs rng1 (lCons (eVar 1) lNil)) (gN 3)
    (sSet false 2 (eBin kFdiv (eBin kMul (eVar 2) (eBin kSub (eVar 0) (eVar 3))) (eBin kAdd (eVar 3) (eC (.int 1))))))
    (sRet (eVar 2))))
def d_Lchoose : List D → M D := runD 4 false b_Lchoose
def b_looked : DS → M Fl :=
  (sSeq (sIf (eNot (eTst (eArgs (callN 1 d_is_possible) (lCons (eVar 0) lNil))))
    sNever
    sNil)
    (sSeq (sSet false 2 (eArgs (callN 1 d_taken) (lCons (eVar 0) lNil)))
    (sSeq (sFor (iSeq (eVar 1)) (gN 3)
    (sIf (eTst (eBin kNotIn (eVar 3) (eVar 2)))
    sNever
    sNil))
    (sRet (eVar 2)))))
def d_looked : List D → M D := runD 4 false b_looked
def b_before_mixed : DS → M Fl :=
  (sRet (eBin kMul (eArgs (callN 2 d_choose) (lCons (eBin kAdd (eVar 1) (eVar 3)) (lCons (eVar 3) lNil))) (eArgs (callN 2 d_choose) (lCons (eBin kSub (eBin kAdd (eBin kSub (eBin kSub (eVar 0) (eC (.int 1))) (eVar 1)) (eVar 2)) (eVar 3)) (lCons (eBin kSub (eVar 2) (eVar 3)) lNil)))))
def d_before_mixed : List D → M D := runD 4 false b_before_mixed
def b_sides : DS → M Fl :=
  (sSeq (sPar [3, 4] [false, false] (lCons (eArgs mkT (lCons (eBin kIx (eVar 0) (eC (.int 0))) (lCons (eVar 1) lNil))) (lCons (eArgs mkT (lCons (eBin kAdd (eVar 1) (eC (.int 1))) (lCons (eBin kIx (eVar 0) (eC (.int 1))) lNil))) lNil)))
    (sRet (eIf (eTst (eBin kLt (eVar 2) (eVar 1))) (eArgs mkT (lCons (eVar 3) (lCons (eVar 4) lNil))) (eArgs mkT (lCons (eVar 4) (lCons (eVar 3) lNil))))))
def d_sides : List D → M D := runD 5 false b_sides
def b_parts_with : DS → M Fl :=
  (sSeq (sSet false 3 (eComp2 (iArgs rng1 (lCons (eBin kAdd (eVar 1) (eC (.int 1))) lNil)) [4, 5] (gN 4) tYesD (iArgs rng2 (lCons (eBin kAdd (eVar 2) (eC (.int 1))) (lCons (eBin kAdd (eVar 0) (eC (.int 1))) lNil))) [5] (gN 5) tYesD (eArgs mkT (lCons (eVar 4) (lCons (eVar 5) lNil)))))
    (sRet (eComp (iSeq (eArgs kSorted (lCons (eComp (iSeq (eVar 3)) [4, 5] (gNs [4, 5]) tYesD (eArgs mkT (lCons (eBin kSub (eVar 5) (eVar 4)) (lCons (eArgs mkT (lCons (eVar 4) (lCons (eVar 5) lNil))) lNil)))) lNil))) [6, 7] (gNs [6, 7]) tYesD (eVar 7))))
def d_parts_with : List D → M D := runD 8 true b_parts_with
def b_lasts_of : DS → M Fl :=
  (sRet (eComp (iArgs rng2 (lCons (eBin kIx (eVar 1) (eC (.int 0))) (lCons (eBin kIx (eVar 1) (eC (.int 1))) lNil))) [2] (gN 2) (eTst (eArgs (callN 3 d_is_inside) (lCons (eBin kIx (eVar 0) (eVar 2)) (lCons (eBin kIx (eVar 1) (eC (.int 0))) (lCons (eBin kIx (eVar 1) (eC (.int 1))) lNil))))) (eVar 2)))
def d_lasts_of : List D → M D := runD 3 true b_lasts_of
def b_spread : DS → M Fl :=
  (sSeq (sSet true 3 (eBin kRep (eArgs mkL (lCons (eC (.int 0)) lNil)) (eBin kAdd (eArgs kLen (lCons (eVar 0) lNil)) (eVar 1))))
    (sSeq (sFor (iArgs enumK (lCons (eVar 0) lNil)) (gNs [4, 5])
    (sFor (iArgs rng1 (lCons (eBin kAdd (eVar 1) (eC (.int 1))) lNil)) (gN 6)
    (sAugIx 3 (eBin kAdd (eVar 4) (eVar 6)) (eBin kMul (eBin kMul (eVar 5) (eVar 2)) (eArgs (callN 4 d_before_mixed) (lCons (eArgs kLen (lCons (eVar 0) lNil)) (lCons (eVar 4) (lCons (eVar 1) (lCons (eVar 6) lNil)))))))))
    (sRetO 3)))
def d_spread : List D → M D := runD 7 true b_spread
def b_times_table : DS → M Fl :=
  (sSeq (sSet true 3 (eC (.dT [])))
    (sSeq (sFor (iSeq (eArgs (callN 3 d_parts_with) (lCons (eArgs kLen (lCons (eVar 0) lNil)) (lCons (eVar 2) (lCons (eVar 2) lNil))))) (gN 4)
    (sSeq (sSet true 5 (eBin kRep (eArgs mkL (lCons (eC (.int 0)) lNil)) (eBin kSub (eBin kIx (eVar 4) (eC (.int 1))) (eBin kIx (eVar 4) (eC (.int 0))))))
    (sSeq (sFor (iSeq (eArgs (callN 2 d_lasts_of) (lCons (eVar 0) (lCons (eVar 4) lNil)))) (gN 6)
    (sIf (eTst (eBin kEq (eVar 6) (eVar 2)))
    (sAugIx 5 (eNeg (eC (.int 1))) (eBor 5 (eBin kMul (eBin kMul (eArgs (callN 2 d_choose) (lCons (eBin kSub (eArgs kLen (lCons (eVar 5) lNil)) (eC (.int 1))) (lCons (eBin kSub (eVar 6) (eBin kIx (eVar 4) (eC (.int 0)))) lNil))) (eBin kIxD (eVar 1) (eArgs mkT (lCons (eBin kIx (eVar 4) (eC (.int 0))) (lCons (eVar 6) lNil))))) (eBin kIxD (eVar 1) (eArgs mkT (lCons (eBin kAdd (eVar 6) (eC (.int 1))) (lCons (eBin kIx (eVar 4) (eC (.int 1))) lNil)))))))
    (sSeq (sAsg (eArgs (callN 3 d_sides) (lCons (eVar 4) (lCons (eVar 6) (lCons (eVar 2) lNil)))) (gNs [7, 8]))
    (sSet true 5 (borOs [5, 3] (eComp (iArgs zipK2 (lCons (eVar 5) (lCons (eBin kAdd (eArgs (callN 3 d_spread) (lCons (eBin kIxD (eVar 3) (eVar 7)) (lCons (eBin kSub (eBin kIx (eVar 8) (eC (.int 1))) (eBin kIx (eVar 8) (eC (.int 0)))) (lCons (eBin kIxD (eVar 1) (eVar 8)) lNil)))) (eArgs mkL (lCons (eC (.int 0)) lNil))) lNil))) [9, 10] (gNs [9, 10]) tYesD (eBin kAdd (eVar 9) (eVar 10))))))))
    (sFrz 5 (sDPut' 3 (eVar 5) (eVar 4))))))
    (sRetO 3)))
def d_times_table : List D → M D := runD 11 true b_times_table
def b_before_apart : DS → M Fl :=
  (sSeq (sSet false 2 (eC (.int 0)))
    (sSeq (sFor (iArgs enumK (lCons (eVar 0) lNil)) (gNs [3, 4])
    (sFor (iArgs rng1 (lCons (eBin kAdd (eArgs kLen (lCons (eVar 1) lNil)) (eC (.int 1))) lNil)) (gN 5)
    (sAug kAddI 2 (eBin kMul (eBin kMul (eVar 4) (eArgs (kOfInts fun ns => M.pure (.int ns.sum)) (lCons (eSl kSl (eVar 1) (oSome (eVar 5)) oNone) lNil))) (eArgs (callN 4 d_before_mixed) (lCons (eArgs kLen (lCons (eVar 0) lNil)) (lCons (eVar 3) (lCons (eArgs kLen (lCons (eVar 1) lNil)) (lCons (eVar 5) lNil)))))))))
    (sRet (eVar 2))))
def d_before_apart : List D → M D := runD 6 false b_before_apart
def b_before_table : DS → M Fl :=
  (sSeq (sPar [4, 5] [false, false] (lCons (eArgs (callN 3 d_times_table) (lCons (eVar 0) (lCons (eVar 1) (lCons (eVar 2) lNil)))) (lCons (eArgs (callN 3 d_times_table) (lCons (eVar 0) (lCons (eVar 1) (lCons (eVar 3) lNil)))) lNil)))
    (sSeq (sSet true 6 (eC (.dT [])))
    (sSeq (sFor (iSeq (eArgs (callN 3 d_parts_with) (lCons (eArgs kLen (lCons (eVar 0) lNil)) (lCons (eArgs kMin2 (lCons (eVar 2) (lCons (eVar 3) lNil))) (lCons (eArgs kMax2 (lCons (eVar 2) (lCons (eVar 3) lNil))) lNil))))) (gN 7)
    (sSeq (sSet false 8 (eC (.int 0)))
    (sSeq (sFor (iSeq (eArgs (callN 2 d_lasts_of) (lCons (eVar 0) (lCons (eVar 7) lNil)))) (gN 9)
    (sSeq (sAsg (eArgs (callN 3 d_sides) (lCons (eVar 7) (lCons (eVar 9) (lCons (eVar 2) lNil)))) (gNs [10, 11]))
    (sSeq (sSet false 12 (eArgs (callN 2 d_choose) (lCons (eBin kSub (eBin kSub (eBin kIx (eVar 7) (eC (.int 1))) (eBin kIx (eVar 7) (eC (.int 0)))) (eC (.int 1))) (lCons (eBin kSub (eVar 9) (eBin kIx (eVar 7) (eC (.int 0)))) lNil))))
    (sIf (eTst (eBin kEq (eVar 9) (eVar 3)))
    (sAug kAddI 8 (eBin kMul (eBin kMul (eVar 12) (eBin kIxD (eVar 1) (eVar 10))) (eBin kIxD (eVar 1) (eVar 11))))
    (sIf (eAnd (eTst (eBin kNe (eVar 9) (eVar 2))) (eTst (eChain kLe kLt (eBin kIx (eVar 11) (eC (.int 0))) (eVar 3) (eBin kIx (eVar 11) (eC (.int 1))))))
    (sAug kAddI 8 (eArgs (callN 2 d_before_apart) (lCons (eBin kIxD (eVar 4) (eVar 10)) (lCons (eBin kIxD (eVar 5) (eVar 11)) lNil))))
    (sIf (eTst (eBin kNe (eVar 9) (eVar 2)))
    (sAug kAddI 8 (eBor 6 (eBin kMul (eBin kMul (eVar 12) (eBin kIxD (eVar 6) (eVar 10))) (eBin kIxD (eVar 1) (eVar 11)))))
    sNil))))))
    (sDPut' 6 (eVar 8) (eVar 7)))))
    (sRetO 6))))
def d_before_table : List D → M D := runD 13 true b_before_table
def b_time_counts : DS → M Fl :=
  (sSeq (sSet false 2 (eArgs (callN 2 d_looked) (lCons (eVar 0) (lCons (eArgs mkL (lCons (eVar 1) lNil)) lNil))))
    (sSeq (sSet false 3 (eArgs (callN 2 d_bounds) (lCons (eVar 0) (lCons (eVar 2) lNil))))
    (sRet (eBin kIxD (eArgs (callN 3 d_times_table) (lCons (eVar 3) (lCons (eArgs (callN 1 d_part_table) (lCons (eVar 3) lNil)) (lCons (eMeth isL kIndex (eVar 2) (lCons (eVar 1) lNil)) lNil)))) (eArgs mkT (lCons (eC (.int 0)) (lCons (eArgs kLen (lCons (eVar 2) lNil)) lNil)))))))
def d_time_counts : List D → M D := runD 4 false b_time_counts
def b_count_before : DS → M Fl :=
  (sSeq (sSet false 3 (eArgs (callN 2 d_looked) (lCons (eVar 0) (lCons (eArgs mkL (lCons (eVar 1) (lCons (eVar 2) lNil))) lNil))))
    (sSeq (sIf (eTst (eBin kEq (eVar 1) (eVar 2)))
    (sRet (eC (.int 0)))
    sNil)
    (sSeq (sSet false 4 (eArgs (callN 2 d_bounds) (lCons (eVar 0) (lCons (eVar 3) lNil))))
    (sRet (eBin kIxD (eArgs (callN 4 d_before_table) (lCons (eVar 4) (lCons (eArgs (callN 1 d_part_table) (lCons (eVar 4) lNil)) (lCons (eMeth isL kIndex (eVar 3) (lCons (eVar 1) lNil)) (lCons (eMeth isL kIndex (eVar 3) (lCons (eVar 2) lNil)) lNil))))) (eArgs mkT (lCons (eC (.int 0)) (lCons (eArgs kLen (lCons (eVar 3) lNil)) lNil))))))))
def d_count_before : List D → M D := runD 5 false b_count_before
def b_certain_before : DS → M Fl :=
  (sSeq (sExpr (eArgs (callN 2 d_looked) (lCons (eVar 0) (lCons (eArgs mkL (lCons (eVar 1) lNil)) lNil))))
    (sSeq (sPar [2, 3] [true, false] (lCons (eArgs kList (lCons (eArgs (callN 2 d_need_of) (lCons (eVar 0) (lCons (eVar 1) lNil))) lNil)) (lCons (eC (.int 0)) lNil)))
    (sSeq (whileM (tBor 2 (eTst (eBin kLt (eVar 3) (eArgs kLen (lCons (eVar 2) lNil)))))
    (sSeq (sOwn 2 kExt (eBorO 2 (eComp (iSeq (eArgs (callN 2 d_need_of) (lCons (eVar 0) (lCons (eBin kIx (eVar 2) (eVar 3)) lNil)))) [4] (gN 4) (eTst (eBin kNotIn (eVar 4) (eVar 2))) (eVar 4))))
    (sAug kAddI 3 (eC (.int 1)))) 100)
    (sFrz 2 (sRet (eArgs kTuple (lCons (eArgs kSorted (lCons (eVar 2) lNil)) lNil)))))))
def d_certain_before : List D → M D := runD 5 false b_certain_before
def b_batches : DS → M Fl :=
  (sSeq (sIf (eNot (eTst (eArgs (callN 1 d_is_possible) (lCons (eVar 0) lNil))))
    sNever
    sNil)
    (sSeq (sPar [1, 2] [true, true] (lCons (eArgs mkL lNil) (lCons (eArgs mkL lNil) lNil)))
    (sSeq (whileM (tBor 1 (eTst (eBin kLt (eArgs kLen (lCons (eVar 1) lNil)) (eArgs kLen (lCons (eArgs (callN 1 d_taken) (lCons (eVar 0) lNil)) lNil)))))
    (sSeq (sOwn 2 kApp (eBorO 1 (eArgs (callN 2 d_ready) (lCons (eVar 0) (lCons (eVar 1) lNil)))))
    (sFrz 1 (sSet true 1 (eBorO 2 (eBin kCat (eVar 1) (eBin kIx (eVar 2) (eNeg (eC (.int 1))))))))) 100)
    (sRetO 2))))
def d_batches : List D → M D := runD 3 true b_batches
def b_Learlier : DS → M Fl :=
  (sSeq (sSet false 2 (eArgs kList (lCons (eArgs (callN 2 d_Lwanted) (lCons (eVar 0) (lCons (eVar 1) lNil))) lNil)))
    (sSeq (sFor (iSeq (eVar 0)) (gN 3)
    (sFor (iSeq (eArgs kList (lCons (eVar 2) lNil))) (gN 4)
    (sSet false 2 (eBin kAdd (eVar 2) (eComp (iSeq (eArgs (callN 2 d_Lwanted) (lCons (eVar 0) (lCons (eVar 4) lNil)))) [5] (gN 5) (eTst (eBin kNotIn (eVar 5) (eVar 2))) (eVar 5))))))
    (sRet (eArgs kSorted (lCons (eVar 2) lNil)))))
def d_Learlier : List D → M D := runD 6 true b_Learlier
def b_Lrows : DS → M Fl :=
  (sSeq (sSet false 2 (eArgs mkL (lCons (eArgs mkT lNil) lNil)))
    (sSeq (sFor (iArgs rng1 (lCons (eVar 1) lNil)) (gN 3)
    (sSeq (sSet true 4 (eArgs mkL lNil))
    (sSeq (sFor (iSeq (eVar 2)) (gN 5)
    (sOwn 4 kExt (eComp (iArgs rng1 (lCons (eVar 0) lNil)) [6] (gN 6) tYesD (eBin kAdd (eVar 5) (eArgs mkT (lCons (eVar 6) lNil))))))
    (sFrz 4 (sSet false 2 (eVar 4))))))
    (sRet (eVar 2))))
def d_Lrows : List D → M D := runD 7 false b_Lrows
def b_Lfits : DS → M Fl :=
  (sSeq (sFor (iArgs zipK2 (lCons (eVar 0) (lCons (eVar 1) lNil))) (gNs [2, 3])
    (sIf (eOr (eTst (eBin kNe (eBin kIs (eVar 2) (eC .non)) (eBin kIs (eVar 3) (eC .non)))) (eAnd (eTst (eBin kNe (eVar 2) (eC (.str "?")))) (eTst (eBin kNe (eVar 2) (eVar 3)))))
    (sRet (eC (.bl false)))
    sNil))
    (sRet (eC (.bl true))))
def d_Lfits : List D → M D := runD 4 false b_Lfits
def b_Lsets : DS → M Fl :=
  (sSeq (sSet false 2 (eArgs mkL (lCons (eArgs mkT lNil) lNil)))
    (sSeq (sFor (iArgs rng1 (lCons (eVar 0) lNil)) (gN 3)
    (sSeq (sSet false 4 (eArgs mkL lNil))
    (sSeq (sFor (iSeq (eVar 2)) (gN 5)
    (sSet false 4 (eBin kAdd (eVar 4) (eArgs mkL (lCons (eBin kAdd (eVar 5) (eArgs mkT (lCons (eC .non) lNil))) (lCons (eBin kAdd (eVar 5) (eArgs mkT (lCons (eC (.str "?")) lNil))) lNil))))))
    (sSet false 2 (eVar 4)))))
    (sRet (eComp (iSeq (eVar 2)) [6] (gN 6) (eTst (eBin kEq (eMeth isL kCount (eVar 6) (lCons (eC (.str "?")) lNil)) (eVar 1))) (eVar 6)))))
def d_Lsets : List D → M D := runD 7 true b_Lsets
def b_is_closed : DS → M Fl :=
  (sRet (eArgs (kOfBls fun bs => M.pure (.bl (bs.all id))) (lCons (eComp2 (iSeq (eVar 1)) [2, 3] (gN 2) tYesD (iSeq (eArgs (callN 2 d_need_of) (lCons (eVar 0) (lCons (eVar 2) lNil)))) [3] (gN 3) tYesD (eBin kIn (eVar 3) (eVar 1))) lNil)))
def d_is_closed : List D → M D := runD 4 false b_is_closed
def b_is_view : DS → M Fl :=
  (sSeq (sIf (eOr (eNot (eTst (eIsi ["tuple"] (eVar 1)))) (eNot (eTst (eArgs (kOfBls fun bs => M.pure (.bl (bs.all id))) (lCons (eComp (iSeq (eVar 1)) [2] (gN 2) tYesD (eArgs (callN 1 d_is_integer) (lCons (eVar 2) lNil))) lNil)))))
    (sRet (eC (.bl false)))
    sNil)
    (sSeq (sIf (eOr (eNot (eTst (eArgs (callN 1 d_is_possible) (lCons (eVar 0) lNil)))) (eNot (eTst (eArgs (kOfBls fun bs => M.pure (.bl (bs.all id))) (lCons (eComp (iSeq (eVar 1)) [2] (gN 2) tYesD (eBin kIn (eVar 2) (eArgs (callN 1 d_taken) (lCons (eVar 0) lNil)))) lNil)))))
    (sRet (eC (.bl false)))
    sNil)
    (sRet (eAndV (eArgs (kOfBls fun bs => M.pure (.bl (bs.all id))) (lCons (eComp (iArgs zipK2 (lCons (eVar 1) (lCons (eSl kSl (eVar 1) (oSome (eC (.int 1))) oNone) lNil))) [3, 4] (gNs [3, 4]) tYesD (eBin kLt (eVar 3) (eVar 4))) lNil)) (eArgs (callN 2 d_is_closed) (lCons (eVar 0) (lCons (eVar 1) lNil)))))))
def d_is_view : List D → M D := runD 5 false b_is_view
def b_all_views : DS → M Fl :=
  (sSeq (sIf (eNot (eTst (eArgs (callN 1 d_is_possible) (lCons (eVar 0) lNil))))
    (sRet (eArgs mkL lNil))
    sNil)
    (sSeq (sSet false 1 (eArgs mkL (lCons (eArgs mkT lNil) lNil)))
    (sSeq (sFor (iSeq (eArgs (callN 1 d_taken) (lCons (eVar 0) lNil))) (gN 2)
    (sSet false 1 (eBin kAdd (eVar 1) (eComp (iSeq (eVar 1)) [3] (gN 3) tYesD (eBin kAdd (eVar 3) (eArgs mkT (lCons (eVar 2) lNil)))))))
    (sRet (eComp (iSeq (eVar 1)) [3] (gN 3) (eTst (eArgs (callN 2 d_is_closed) (lCons (eVar 0) (lCons (eVar 3) lNil)))) (eVar 3))))))
def d_all_views : List D → M D := runD 4 true b_all_views
def b_views : DS → M Fl :=
  (sSeq (sSet false 2 (eComp (iSeq (eArgs (callN 1 d_all_views) (lCons (eVar 0) lNil))) [3] (gN 3) (eTst (eBin kEq (eArgs kLen (lCons (eVar 3) lNil)) (eVar 1))) (eVar 3)))
    (sSeq (sIf (eTst (eBin kGt (eArgs kLen (lCons (eVar 2) lNil)) (eC (.int 300))))
    sNever
    sNil)
    (sRet (eArgs kSorted (lCons (eVar 2) lNil)))))
def d_views : List D → M D := runD 4 true b_views
def b_count_views : DS → M Fl :=
  (sSeq (sSet false 1 (eComp (iSeq (eArgs (callN 1 d_all_views) (lCons (eVar 0) lNil))) [2] (gN 2) tYesD (eArgs kLen (lCons (eVar 2) lNil))))
    (sRet (eComp (iArgs rng1 (lCons (eBin kAdd (eArgs kLen (lCons (eArgs (callN 1 d_taken) (lCons (eVar 0) lNil)) lNil)) (eC (.int 1))) lNil)) [3] (gN 3) tYesD (eMeth isL kCount (eVar 1) (lCons (eVar 3) lNil)))))
def d_count_views : List D → M D := runD 4 true b_count_views
def b_count_through : DS → M Fl :=
  (sSeq (sIf (eNot (eTst (eArgs (callN 1 d_is_possible) (lCons (eVar 0) lNil))))
    (sRet (eC (.int 0)))
    sNil)
    (sSeq (sPar [2, 3] [false, false] (lCons (eArgs mkL lNil) (lCons (eC (.int 1)) lNil)))
    (sSeq (sFor (iSeq (eBin kAdd (eArgs kList (lCons (eVar 1) lNil)) (eArgs mkL (lCons (eArgs (callN 1 d_taken) (lCons (eVar 0) lNil)) lNil)))) (gN 4)
    (sSeq (sIf (eOr (eNot (eTst (eArgs (kOfBls fun bs => M.pure (.bl (bs.all id))) (lCons (eComp (iSeq (eVar 2)) [5] (gN 5) tYesD (eBin kIn (eVar 5) (eVar 4))) lNil)))) (eNot (eTst (eArgs (callN 2 d_is_closed) (lCons (eVar 0) (lCons (eVar 4) lNil))))))
    (sRet (eC (.int 0)))
    sNil)
    (sSeq (sAug kMulI 3 (eArgs (callN 2 d_count_of) (lCons (eVar 0) (lCons (eComp (iSeq (eVar 4)) [5] (gN 5) (eTst (eBin kNotIn (eVar 5) (eVar 2))) (eVar 5)) lNil))))
    (sSet false 2 (eVar 4)))))
    (sRet (eVar 3)))))
def d_count_through : List D → M D := runD 6 false b_count_through
def b_stage_order : DS → M Fl :=
  (sSeq (sSet true 3 (eArgs kList (lCons (eVar 1) lNil)))
    (sSeq (whileM (tBor 3 (eTst (eBin kLt (eArgs kLen (lCons (eVar 3) lNil)) (eArgs kLen (lCons (eVar 2) lNil)))))
    (sOwn 3 kApp (eBor 3 (eBin kIx (eComp (iSeq (eArgs (callN 2 d_ready) (lCons (eVar 0) (lCons (eVar 3) lNil)))) [4] (gN 4) (eTst (eBin kIn (eVar 4) (eVar 2))) (eVar 4)) (eC (.int 0))))) 100)
    (sRetO 3)))
def d_stage_order : List D → M D := runD 5 true b_stage_order
def b_first_through : DS → M Fl :=
  (sSeq (sIf (eNot (eTst (eArgs (callN 1 d_is_possible) (lCons (eVar 0) lNil))))
    sNever
    sNil)
    (sSeq (sFor (iArgs rng1 (lCons (eArgs kLen (lCons (eVar 1) lNil)) lNil)) (gN 2)
    (sIf (eTst (eBin kEq (eArgs (callN 2 d_count_through) (lCons (eVar 0) (lCons (eSl kSl (eVar 1) oNone (oSome (eBin kAdd (eVar 2) (eC (.int 1))))) lNil))) (eC (.int 0))))
    sNever
    sNil))
    (sSeq (sSet false 3 (eArgs mkL lNil))
    (sSeq (sFor (iSeq (eBin kAdd (eArgs kList (lCons (eVar 1) lNil)) (eArgs mkL (lCons (eArgs (callN 1 d_taken) (lCons (eVar 0) lNil)) lNil)))) (gN 4)
    (sSet false 3 (eArgs (callN 3 d_stage_order) (lCons (eVar 0) (lCons (eVar 3) (lCons (eVar 4) lNil))))))
    (sRet (eArgs kTuple (lCons (eVar 3) lNil)))))))
def d_first_through : List D → M D := runD 5 false b_first_through
def b_Llists (self : List D → M D) : DS → M Fl :=
  (sRet (eIf (eTst (eIsi ["list", "tuple"] (eVar 0))) (eComp (iSeq (eVar 0)) [1] (gN 1) tYesD (eArgs (callN 1 self) (lCons (eVar 1) lNil))) (eVar 0)))
def d_Llists : Nat → List D → M D
  | 0 => fun _ => M.bad
  | n + 1 => runD 2 false (b_Llists (d_Llists n))
def b_Lpasses : DS → M Fl :=
  (sSeq (sSet false 2 (eC (.int 0)))
    (sSeq (sFor (iSeq (eVar 1)) (gN 3)
    (sSeq (sSet false 4 (eComp (iArgs rng2 (lCons (eVar 2) (lCons (eBin kAdd (eArgs kLen (lCons (eVar 0) lNil)) (eC (.int 1))) lNil))) [5] (gN 5) (eTst (eBin kEq (eArgs kTuple (lCons (eArgs kSorted (lCons (eSl kSl (eVar 0) oNone (oSome (eVar 5))) lNil)) lNil)) (eVar 3))) (eVar 5)))
    (sSeq (sIf (eTst (eBin kEq (eVar 4) (eArgs mkL lNil)))
    (sRet (eC (.bl false)))
    sNil)
    (sSet false 2 (eBin kIx (eVar 4) (eC (.int 0)))))))
    (sRet (eC (.bl true)))))
def d_Lpasses : List D → M D := runD 6 false b_Lpasses
def b_needed_by : DS → M Fl :=
  (sRet (eArgs kTuple (lCons (eComp (iSeq (eArgs (callN 1 d_taken) (lCons (eVar 0) lNil))) [2] (gN 2) (eTst (eBin kIn (eVar 1) (eArgs (callN 2 d_need_of) (lCons (eVar 0) (lCons (eVar 2) lNil))))) (eVar 2)) lNil)))
def d_needed_by : List D → M D := runD 3 false b_needed_by
def b_can_leave : DS → M Fl :=
  (sRet (eComp (iSeq (eArgs (callN 1 d_taken) (lCons (eVar 0) lNil))) [1] (gN 1) (eTst (eBin kEq (eArgs (callN 2 d_needed_by) (lCons (eVar 0) (lCons (eVar 1) lNil))) (eArgs mkT lNil))) (eVar 1)))
def d_can_leave : List D → M D := runD 2 true b_can_leave
def b_left : DS → M Fl :=
  (sSeq (sIf (eTst (eBin kNotIn (eVar 1) (eArgs (callN 1 d_taken) (lCons (eVar 0) lNil))))
    sNever
    sNil)
    (sSeq (sIf (eTst (eBin kNe (eArgs (callN 2 d_needed_by) (lCons (eVar 0) (lCons (eVar 1) lNil))) (eArgs mkT lNil)))
    sNever
    sNil)
    (sRet (eArgs kTuple (lCons (eComp (iArgs enumK (lCons (eVar 0) lNil)) [2, 3] (gNs [2, 3]) tYesD (eIf (eTst (eBin kEq (eVar 2) (eVar 1))) (eC .non) (eVar 3))) lNil)))))
def d_left : List D → M D := runD 4 false b_left
def b_is_outcome : DS → M Fl :=
  (sSeq (sIf (eOr (eNot (eTst (eArgs (callN 1 d_is_table) (lCons (eVar 2) lNil)))) (eOr (eTst (eBin kNe (eArgs kLen (lCons (eVar 2) lNil)) (eVar 0))) (eTst (eBin kIn (eC (.str "?")) (eVar 2)))))
    (sRet (eC (.bl false)))
    sNil)
    (sRet (eAndV (eBin kEq (eArgs kSorted (lCons (eComp (iSeq (eVar 2)) [3] (gN 3) (eTst (eBin kIsNot (eVar 3) (eC .non))) (eVar 3)) lNil)) (eArgs kSorted (lCons (eVar 1) lNil))) (eArgs (callN 1 d_is_possible) (lCons (eVar 2) lNil)))))
def d_is_outcome : List D → M D := runD 4 false b_is_outcome
def b_outcome_key : DS → M Fl :=
  (sRet (eComp (iSeq (eVar 0)) [1] (gN 1) tYesD (eIf (eTst (eBin kIs (eVar 1) (eC .non))) (eNeg (eC (.int 1))) (eVar 1))))
def d_outcome_key : List D → M D := runD 2 true b_outcome_key
def b_Lorders (self : List D → M D) : DS → M Fl :=
  (sSeq (sIf (eTst (eBin kEq (eArgs kLen (lCons (eVar 0) lNil)) (eC (.int 0))))
    (sRet (eArgs mkL (lCons (eArgs mkT lNil) lNil)))
    sNil)
    (sSeq (sSet true 1 (eArgs mkL lNil))
    (sSeq (sFor (iArgs rng1 (lCons (eArgs kLen (lCons (eVar 0) lNil)) lNil)) (gN 2)
    (sOwn 1 kExt (eComp (iSeq (eArgs (callN 1 self) (lCons (eBin kAdd (eSl kSl (eVar 0) oNone (oSome (eVar 2))) (eSl kSl (eVar 0) (oSome (eBin kAdd (eVar 2) (eC (.int 1)))) oNone)) lNil))) [3] (gN 3) tYesD (eBin kAdd (eArgs mkT (lCons (eBin kIx (eVar 0) (eVar 2)) lNil)) (eVar 3)))))
    (sFrz 1 (sRet (eVar 1))))))
def d_Lorders : Nat → List D → M D
  | 0 => fun _ => M.bad
  | n + 1 => runD 4 false (b_Lorders (d_Lorders n))
def b_Lkey : DS → M Fl :=
  (sRet (eComp (iSeq (eVar 0)) [1] (gN 1) tYesD (eIf (eTst (eBin kIs (eVar 1) (eC .non))) (eNeg (eC (.int 1))) (eVar 1))))
def d_Lkey : List D → M D := runD 2 true b_Lkey
def b__wall : DS → M Fl :=
  (whileM (eTst (eC (.bl true)))
    sNil 100)
def d__wall : List D → M D := runD 1 false b__wall
def b_with_object : DS → M Fl :=
  (sSeq (sAsg (eVar 0) (gNs [2, 3]))
    (sSeq (sSet false 4 (eArgs (callN 2 d_nearest) (lCons (eVar 2) (lCons (eVar 1) lNil))))
    (sRet (eArgs mkT (lCons (eArgs mkT (lCons (eBin kAdd (eBin kAdd (eSl kSl (eVar 2) oNone (oSome (eVar 4))) (eArgs mkT (lCons (eVar 1) lNil))) (eSl kSl (eVar 2) (oSome (eBin kAdd (eVar 4) (eC (.int 1)))) oNone)) (lCons (eBin kAdd (eVar 3) (eArgs mkT (lCons (eVar 4) lNil))) lNil))) (lCons (eVar 4) lNil))))))
def d_with_object : List D → M D := runD 5 false b_with_object
def b_Llots : DS → M Fl :=
  (sRet (eComp (iSeq (eArgs (callN 1 d_Lfull_spots) (lCons (eVar 0) lNil))) [1] (gN 1) tYesD (eArgs (callN 2 d_Lwanted) (lCons (eVar 0) (lCons (eVar 1) lNil)))))
def d_Llots : List D → M D := runD 2 true b_Llots
def b_Lsum : DS → M Fl :=
  (sSeq (sSet false 1 (eArgs (callN 1 d_Lfull_spots) (lCons (eVar 0) lNil)))
    (sSeq (sSet true 2 (eArgs mkL lNil))
    (sSeq (sFor (iArgs enumK (lCons (eVar 1) lNil)) (gNs [3, 4])
    (sOwn 2 kApp (eBin kAdd (eComp (iArgs enumK (lCons (eVar 1) lNil)) [5, 6] (gNs [5, 6]) (eTst (eBin kIn (eVar 6) (eArgs (callN 2 d_Lwanted) (lCons (eVar 0) (lCons (eVar 4) lNil))))) (eVar 5)) (eArgs mkL (lCons (eVar 3) lNil)))))
    (sSeq (sSet true 7 (eArgs kDictP (lCons (eComp (iArgs rng1 (lCons (eBin kAdd (eArgs kLen (lCons (eVar 1) lNil)) (eC (.int 1))) lNil)) [8] (gN 8) tYesD (eArgs mkT (lCons (eArgs mkT (lCons (eVar 8) (lCons (eVar 8) lNil))) (lCons (eC (.int 1)) lNil)))) lNil)))
    (sSeq (sFor (iArgs rng2 (lCons (eC (.int 1)) (lCons (eBin kAdd (eArgs kLen (lCons (eVar 1) lNil)) (eC (.int 1))) lNil))) (gN 9)
    (sFor (iArgs rng1 (lCons (eBin kAdd (eBin kSub (eArgs kLen (lCons (eVar 1) lNil)) (eVar 9)) (eC (.int 1))) lNil)) (gN 8)
    (sSeq (sSet false 10 (eC (.int 0)))
    (sSeq (sFor (iArgs rng2 (lCons (eVar 8) (lCons (eBin kAdd (eVar 8) (eVar 9)) lNil))) (gN 3)
    (sIf (tBor 2 (eAnd (eTst (eBin kGe (eArgs (kOfInts fun ns => M.opt ((minI ns).map .int)) (lCons (eBin kIxD (eVar 2) (eVar 3)) lNil)) (eVar 8))) (eTst (eBin kLt (eArgs (kOfInts fun ns => M.opt ((maxI ns).map .int)) (lCons (eBin kIxD (eVar 2) (eVar 3)) lNil)) (eBin kAdd (eVar 8) (eVar 9))))))
    (sSet false 10 (eBor 7 (eBin kAdd (eVar 10) (eBin kMul (eBin kMul (eArgs (callN 2 d_Lchoose) (lCons (eBin kSub (eVar 9) (eC (.int 1))) (lCons (eBin kSub (eVar 3) (eVar 8)) lNil))) (eBin kIxD (eVar 7) (eArgs mkT (lCons (eVar 8) (lCons (eVar 3) lNil))))) (eBin kIxD (eVar 7) (eArgs mkT (lCons (eBin kAdd (eVar 3) (eC (.int 1))) (lCons (eBin kAdd (eVar 8) (eVar 9)) lNil))))))))
    sNil))
    (sDPut' 7 (eVar 10) (eArgs mkT (lCons (eVar 8) (lCons (eBin kAdd (eVar 8) (eVar 9)) lNil))))))))
    (sFrz 7 (sRet (eBin kIxD (eVar 7) (eArgs mkT (lCons (eC (.int 0)) (lCons (eArgs kLen (lCons (eVar 1) lNil)) lNil)))))))))))
def d_Lsum : List D → M D := runD 11 false b_Lsum
def b_Loperation : DS → M Fl :=
  (sSeq (sPar [2, 3] [false, false] (lCons (eBin kIx (eVar 1) (eC (.int 0))) (lCons (eArgs (callN 2 (d_Ldraw 3)) (lCons (eVar 0) (lCons (eC (.int 13)) lNil))) lNil)))
    (sSeq (sSet false 4 (eBin kSub (eArgs (callN 2 (d_Ldraw 3)) (lCons (eVar 0) (lCons (eBin kAdd (eArgs kLen (lCons (eVar 2) lNil)) (eC (.int 2))) lNil))) (eC (.int 1))))
    (sSeq (sIf (eTst (eBin kLt (eVar 3) (eC (.int 5))))
    (sRet (eArgs mkT (lCons (eC (.str "put")) (lCons (eArgs (callN 2 (d_Ldraw 3)) (lCons (eVar 0) (lCons (eArgs kLen (lCons (eVar 2) lNil)) lNil))) lNil))))
    sNil)
    (sSeq (sIf (eTst (eBin kLt (eVar 3) (eC (.int 7))))
    (sRet (eArgs mkT (lCons (eC (.str "put_all")) (lCons (eComp (iArgs rng1 (lCons (eArgs (callN 2 (d_Ldraw 3)) (lCons (eVar 0) (lCons (eC (.int 4)) lNil))) lNil)) [5] (gN 5) tYesD (eArgs (callN 2 (d_Ldraw 3)) (lCons (eVar 0) (lCons (eArgs kLen (lCons (eVar 2) lNil)) lNil)))) lNil))))
    sNil)
    (sSeq (sIf (eTst (eBin kLt (eVar 3) (eC (.int 9))))
    (sSeq (sSet false 6 (eComp (iSeq (eArgs (callN 1 d_Lfull_spots) (lCons (eVar 2) lNil))) [7] (gN 7) (eNot (eTst (eArgs (kOfBls fun bs => M.pure (.bl (bs.any id))) (lCons (eComp (iSeq (eArgs (callN 1 d_Llots) (lCons (eVar 2) lNil))) [8] (gN 8) tYesD (eBin kIn (eVar 7) (eVar 8))) lNil)))) (eVar 7)))
    (sRet (eArgs mkT (lCons (eC (.str "take_out")) (lCons (eIf (eAnd (eTst (eBin kNe (eVar 6) (eArgs mkL lNil))) (eTst (eBin kGt (eArgs (callN 2 (d_Ldraw 3)) (lCons (eVar 0) (lCons (eC (.int 3)) lNil))) (eC (.int 0))))) (eArgs (callN 2 d_Lchoice) (lCons (eVar 0) (lCons (eVar 6) lNil))) (eVar 4)) lNil)))))
    sNil)
    (sSeq (sIf (eTst (eBin kLt (eVar 3) (eC (.int 11))))
    (sSeq (sSet false 9 (eArgs (callN 1 d_Lfull_spots) (lCons (eVar 2) lNil)))
    (sRet (eArgs mkT (lCons (eC (.str "forget")) (lCons (eIf (eAnd (eTst (eBin kNe (eVar 9) (eArgs mkL lNil))) (eTst (eBin kGt (eArgs (callN 2 (d_Ldraw 3)) (lCons (eVar 0) (lCons (eC (.int 4)) lNil))) (eC (.int 0))))) (eArgs (callN 2 d_Lchoice) (lCons (eVar 0) (lCons (eVar 9) lNil))) (eVar 4)) lNil)))))
    sNil)
    (sRet (eArgs mkT (lCons (eC (.str "undo")) lNil)))))))))
def d_Loperation : List D → M D := runD 10 false b_Loperation
def b_Leffect : DS → M Fl :=
  (sSeq (sAsg (eVar 0) (gNs [2, 3]))
    (sSeq (sIf (eTst (eBin kIn (eBin kIx (eVar 1) (eC (.int 0))) (eArgs mkT (lCons (eC (.str "put")) (lCons (eC (.str "put_all")) lNil)))))
    (sSeq (sSet true 4 (eArgs mkL lNil))
    (sSeq (sFor (iSeq (eIf (eTst (eBin kEq (eBin kIx (eVar 1) (eC (.int 0))) (eC (.str "put")))) (eArgs mkL (lCons (eBin kIx (eVar 1) (eC (.int 1))) lNil)) (eBin kIx (eVar 1) (eC (.int 1))))) (gN 5)
    (sSeq (sSet false 6 (eComp (iArgs enumK (lCons (eVar 2) lNil)) [7, 8] (gNs [7, 8]) (eTst (eBin kIs (eVar 8) (eC .non))) (eArgs mkT (lCons (eArgs kAbs (lCons (eBin kSub (eVar 7) (eVar 5)) lNil)) (lCons (eVar 7) lNil)))))
    (sSeq (sIf (eTst (eBin kEq (eVar 6) (eArgs mkL lNil)))
    (sRet (eArgs mkT (lCons (eArgs mkT (lCons (eC (.str "Full")) (lCons (eArgs kLen (lCons (eVar 2) lNil)) lNil))) (lCons (eC .non) lNil))))
    sNil)
    (sSeq (sSet false 9 (eBin kIx (eArgs (kOfInts fun ns => M.opt ((minI ns).map .int)) (lCons (eVar 6) lNil)) (eC (.int 1))))
    (sSeq (sSet false 3 (eBin kAdd (eVar 3) (eArgs mkT (lCons (eVar 9) lNil))))
    (sSeq (sSet false 2 (eBin kAdd (eBin kAdd (eSl kSl (eVar 2) oNone (oSome (eVar 9))) (eArgs mkT (lCons (eVar 5) lNil))) (eSl kSl (eVar 2) (oSome (eBin kAdd (eVar 9) (eC (.int 1)))) oNone)))
    (sOwn 4 kApp (eVar 9))))))))
    (sFrz 4 (sRet (eArgs mkT (lCons (eIf (eTst (eBin kEq (eBin kIx (eVar 1) (eC (.int 0))) (eC (.str "put")))) (eBin kIx (eVar 4) (eC (.int 0))) (eVar 4)) (lCons (eArgs mkT (lCons (eVar 2) (lCons (eVar 3) lNil))) lNil)))))))
    sNil)
    (sSeq (sIf (eTst (eBin kNotIn (eBin kIx (eVar 1) (eC (.int 1))) (eArgs (callN 1 d_Lfull_spots) (lCons (eVar 2) lNil))))
    (sRet (eArgs mkT (lCons (eArgs mkT (lCons (eC (.str "NoObject")) (lCons (eBin kIx (eVar 1) (eC (.int 1))) lNil))) (lCons (eC .non) lNil))))
    sNil)
    (sSeq (sIf (eTst (eBin kEq (eBin kIx (eVar 1) (eC (.int 0))) (eC (.str "forget"))))
    (sSeq (sSet false 2 (eBin kAdd (eBin kAdd (eSl kSl (eVar 2) oNone (oSome (eBin kIx (eVar 1) (eC (.int 1))))) (eArgs mkT (lCons (eC (.str "?")) lNil))) (eSl kSl (eVar 2) (oSome (eBin kAdd (eBin kIx (eVar 1) (eC (.int 1))) (eC (.int 1)))) oNone)))
    (sRet (eArgs mkT (lCons (eArgs (callN 1 d_Lsum) (lCons (eVar 2) lNil)) (lCons (eArgs mkT (lCons (eVar 2) (lCons (eVar 3) lNil))) lNil)))))
    sNil)
    (sSeq (sIf (eTst (eArgs (kOfBls fun bs => M.pure (.bl (bs.any id))) (lCons (eComp (iSeq (eArgs (callN 1 d_Llots) (lCons (eVar 2) lNil))) [10] (gN 10) tYesD (eBin kIn (eBin kIx (eVar 1) (eC (.int 1))) (eVar 10))) lNil)))
    (sRet (eArgs mkT (lCons (eArgs mkT (lCons (eC (.str "Needed")) (lCons (eBin kIx (eVar 1) (eC (.int 1))) lNil))) (lCons (eC .non) lNil))))
    sNil)
    (sSeq (sSet false 3 (eArgs kTuple (lCons (eComp (iSeq (eVar 3)) [9] (gN 9) (eTst (eBin kNe (eVar 9) (eBin kIx (eVar 1) (eC (.int 1))))) (eVar 9)) lNil)))
    (sRet (eArgs mkT (lCons (eArgs kLen (lCons (eVar 3) lNil)) (lCons (eArgs mkT (lCons (eBin kAdd (eBin kAdd (eSl kSl (eVar 2) oNone (oSome (eBin kIx (eVar 1) (eC (.int 1))))) (eArgs mkT (lCons (eC .non) lNil))) (eSl kSl (eVar 2) (oSome (eBin kAdd (eBin kIx (eVar 1) (eC (.int 1))) (eC (.int 1)))) oNone)) (lCons (eVar 3) lNil))) lNil))))))))))
def d_Leffect : List D → M D := runD 11 false b_Leffect
def b_Lnext : DS → M Fl :=
  (sSeq (sIf (eTst (eBin kEq (eBin kIx (eVar 1) (eC (.int 0))) (eC (.str "undo"))))
    (sRet (eSl kSlL (eVar 0) oNone (oSome (eArgs kMax2 (lCons (eC (.int 1)) (lCons (eBin kSub (eArgs kLen (lCons (eVar 0) lNil)) (eC (.int 1))) lNil))))))
    sNil)
    (sSeq (sSet false 2 (eBin kIx (eArgs (callN 2 d_Leffect) (lCons (eBin kIx (eVar 0) (eNeg (eC (.int 1)))) (lCons (eVar 1) lNil))) (eC (.int 1))))
    (sRet (eBin kCat (eVar 0) (eBin kMul (eArgs mkL (lCons (eVar 2) lNil)) (eArgs kInt (lCons (eBin kIsNot (eVar 2) (eC .non)) lNil)))))))
def d_Lnext : List D → M D := runD 3 true b_Lnext
def b_Lbegun : DS → M Fl :=
  (sRet (eArgs mkT (lCons (eBin kMul (eArgs mkT (lCons (eC .non) lNil)) (eVar 0)) (lCons (eArgs mkT lNil) lNil))))
def d_Lbegun : List D → M D := runD 1 false b_Lbegun
def b_is_decimal : DS → M Fl :=
  (sSeq (sIf (eOr (eTst (eBin kEq (eVar 0) (eC (.str "")))) (eNot (eTst (eArgs (kOfBls fun bs => M.pure (.bl (bs.all id))) (lCons (eComp (iSeq (eVar 0)) [1] (gN 1) tYesD (eBin kIn (eVar 1) (eC (.str "0123456789")))) lNil)))))
    (sRet (eC (.bl false)))
    sNil)
    (sRet (eOrV (eBin kEq (eVar 0) (eC (.str "0"))) (eBin kNe (eBin kIx (eVar 0) (eC (.int 0))) (eC (.str "0"))))))
def d_is_decimal : List D → M D := runD 2 false b_is_decimal
def b_is_number : DS → M Fl :=
  (sRet (eAndV (eArgs (callN 1 d_is_decimal) (lCons (eVar 0) lNil)) (eBin kLe (eArgs kLen (lCons (eVar 0) lNil)) (eC (.int 3)))))
def d_is_number : List D → M D := runD 1 false b_is_number
def b_Lclasses : DS → M Fl :=
  (sSeq (sSet false 1 (eArgs mkL (lCons (eIsi ["BadLine"] (eVar 0)) (lCons (eIsi ["BadText"] (eVar 0)) (lCons (eIsi ["Full"] (eVar 0)) lNil)))))
    (sSeq (sSet false 1 (eBin kAdd (eVar 1) (eArgs mkL (lCons (eIsi ["Impossible"] (eVar 0)) lNil))))
    (sSeq (sSet false 1 (eBin kAdd (eVar 1) (eArgs mkL (lCons (eIsi ["Misfit"] (eVar 0)) (lCons (eIsi ["Needed"] (eVar 0)) (lCons (eIsi ["NoObject"] (eVar 0)) lNil))))))
    (sSeq (sSet false 1 (eBin kAdd (eVar 1) (eArgs mkL (lCons (eIsi ["NoOrder"] (eVar 0)) (lCons (eIsi ["NoState"] (eVar 0)) (lCons (eIsi ["NoWay"] (eVar 0)) lNil))))))
    (sRet (eMeth isL kCount (eBin kAdd (eVar 1) (eArgs mkL (lCons (eIsi ["TooMany"] (eVar 0)) lNil))) (lCons (eC (.bl true)) lNil)))))))
def d_Lclasses : List D → M D := runD 2 false b_Lclasses
def b_Lmoved : DS → M Fl :=
  (sRet (eArgs kTuple (lCons (eComp (iSeq (eVar 0)) [2] (gN 2) tYesD (eIf (eOr (eTst (eBin kIs (eVar 2) (eC .non))) (eTst (eBin kEq (eVar 2) (eC (.str "?"))))) (eVar 2) (eBin kAdd (eVar 2) (eVar 1)))) lNil)))
def d_Lmoved : List D → M D := runD 3 false b_Lmoved
def b_Lpair_right : DS → M Fl :=
  (sSeq (sPar [4, 5] [false, false] (lCons (eBin kIx (eArgs (callN 1 d_Lfull_spots) (lCons (eVar 0) lNil)) (eNeg (eC (.int 1)))) (lCons (eBin kIx (eArgs (callN 1 d_Lfull_spots) (lCons (eVar 1) lNil)) (eC (.int 0))) lNil)))
    (sSeq (sPar [6, 7] [false, false] (lCons (eArgs (callN 2 d_time_counts) (lCons (eVar 0) (lCons (eVar 4) lNil))) (lCons (eArgs (callN 2 d_time_counts) (lCons (eVar 1) (lCons (eVar 5) lNil))) lNil)))
    (sSeq (sPar [8, 9, 10] [false, false, false] (lCons (eC (.int 0)) (lCons (eArgs kLen (lCons (eVar 6) lNil)) (lCons (eArgs kLen (lCons (eVar 7) lNil)) lNil))))
    (sSeq (sFor (iArgs enumK (lCons (eVar 6) lNil)) (gNs [11, 12])
    (sFor (iArgs rng1 (lCons (eBin kAdd (eVar 10) (eC (.int 1))) lNil)) (gN 13)
    (sSeq (sSet false 14 (eBin kMul (eArgs (callN 2 d_Lchoose) (lCons (eBin kAdd (eVar 11) (eVar 13)) (lCons (eVar 13) lNil))) (eArgs (callN 2 d_Lchoose) (lCons (eBin kSub (eBin kAdd (eBin kSub (eBin kSub (eVar 9) (eC (.int 1))) (eVar 11)) (eVar 10)) (eVar 13)) (lCons (eBin kSub (eVar 10) (eVar 13)) lNil)))))
    (sSet false 8 (eBin kAdd (eVar 8) (eBin kMul (eBin kMul (eVar 12) (eArgs (kOfInts fun ns => M.pure (.int ns.sum)) (lCons (eSl kSl (eVar 7) (oSome (eVar 13)) oNone) lNil))) (eVar 14)))))))
    (sRet (eBin kEq (eArgs (callN 3 d_count_before) (lCons (eVar 2) (lCons (eVar 4) (lCons (eBin kAdd (eVar 5) (eVar 3)) lNil)))) (eVar 8)))))))
def d_Lpair_right : List D → M D := runD 15 false b_Lpair_right
def b_Lbeside_right : DS → M Fl :=
  (sSeq (sSet false 3 (eIf (eTst (eBin kLt (eBin kAdd (eVar 2) (eC (.int 1))) (eArgs kLen (lCons (eVar 0) lNil)))) (eBin kAdd (eVar 2) (eC (.int 1))) (eBin kSub (eVar 2) (eC (.int 1)))))
    (sSeq (sSet false 4 (eArgs (callN 3 d_with_wish) (lCons (eVar 1) (lCons (eVar 2) (lCons (eVar 3) lNil)))))
    (sSeq (sIf (eTst (eBin kIs (eBin kIx (eVar 0) (eVar 3)) (eC .non)))
    (sRet (eAndV (eBin kIs (eArgs (callN 2 d_shows_gap) (lCons (eVar 4) (lCons (eArgs mkT (lCons (eVar 2) (lCons (eVar 3) lNil))) lNil))) (eC (.bl true))) (eBin kEq (eArgs (callN 1 d_count_orders) (lCons (eVar 4) lNil)) (eC (.int 0)))))
    sNil)
    (sSeq (sSet false 5 (eArgs (callN 1 d_verdict) (lCons (eVar 4) lNil)))
    (sRet (eOrV (eBin kNe (eBin kIx (eVar 5) (eC (.int 0))) (eC (.str "order"))) (eBin kIn (eVar 3) (eArgs (callN 2 d_certain_before) (lCons (eVar 4) (lCons (eVar 2) lNil))))))))))
def d_Lbeside_right : List D → M D := runD 6 false b_Lbeside_right
end NS
namespace NS
open PySem PySem.Spec PyProof.Rows L2
/-! ## a law's end -/
theorem ints_repL {K : PySem.W.Frag} {A : List GAdr} {S : Hp} : ∀ ns : List Int, RepL K A S (ns.map V.int) (ns.map D.int)
  | [] => .nil
  | n :: ns => .cons (.int n) (ints_repL ns)
/-! ## from the top into the law: the script may be tracked or be one of the module's own objects -/
def topH (K : PySem.W.Frag) (a : Addr) (o : Obj) (xs : List V) : Hp := fun b => if b = a ∧ K.lookup a = none then some (.frz o (.lst xs)) else none
theorem topH_in {K : PySem.W.Frag} {a b : Addr} {o : Obj} {xs : List V} {u : HO} (h : topH K a o xs b = some u) : b = a ∧ K.lookup a = none ∧ u = .frz o (.lst xs) := by
  unfold topH at h
  split at h
  · rename_i c; cases h; exact ⟨c.1, c.2, rfl⟩
  · cases h
theorem law_callG {P : Program} {w : World} {K : PySem.W.Frag} {mg mb : Str → Option Value} {CX : CXT} {k : Nat} {fa a : Addr} {fd : FuncData} {x : Str} {sp : Sp} {s₁ : Shared} {vs : List Value} {ns : List Int}
    (KX : K.In s₁.heap) (hns : s₁.heap.Ns mainGlobals mg) (hb : s₁.heap.Ns builtinsNs mb) (hbb : ∀ x : Str, x ≠ "__name__" → mb x = bootBuiltins x) (hlim : s₁.heap.NoLimit) (hg : s₁.gens = #[])
    (ha : s₁.heap.get? a = some { cls := .type "list", data := .seq vs.toArray }) (hi : IntsAre vs ns) (hl : ns.length ≤ sizeLine) (hr : RoomG k callerA)
    (F : ∀ base : Heap, K.In base → base.Ns mainGlobals mg → FnOkG P w K mg base CX k fa fd [x] sp) (hbind : ∀ (s : Shared) (u : Value), BindsTo s fd ⟨[u], []⟩ [(x, u)])
    (hsp : ∀ H : Hp, SqL K H a (ns.map V.int) → sp [.ref a] H (fun v _ => v = .bl true) fun _ _ _ => False)
    (hCX : ∀ H e s', CX [] H s₁ (fun _ _ _ => False) e s' → False) :
    codeAny (model P w) callerA (.call (.ref fa) ⟨[.ref a], []⟩) (fun r s' => r = .ok (.ret (.bool true)) ∧ OldK s₁.heap s'.heap ∧ s'.os = s₁.os ∧ AllBare s'.gens) s₁ := by
  have rv := vals_ints hi
  have nl : (ns.map V.int).length ≤ sizeLine := by rw [List.length_map]; exact hl
  generalize hH : topH K a { cls := .type "list", data := .seq vs.toArray } (ns.map V.int) = H
  have tk : ∀ {b u}, H b = some u → b = a ∧ K.lookup a = none ∧ u = .frz { cls := .type "list", data := .seq vs.toArray } (.lst (ns.map V.int)) := fun {b u} h => topH_in (by rw [hH]; exact h)
  have un : ∀ {b}, (b = a → K.lookup a = none → False) → H b = none := fun {b} h => by
    cases e : H b with
    | none => rfl
    | some u => exact (h (tk e).1 (tk e).2.1).elim
  have keep : ∀ {b o}, s₁.heap.get? b = some o → (b = a → K.lookup a = none → False) → (hidT s₁.heap H).get? b = some o := fun e h => hidT_get e (un h)
  have ns_ : ∀ {b m}, s₁.heap.Ns b m → (hidT s₁.heap H).Ns b m := fun {b m} ⟨o, es, ep, e, d, r⟩ => ⟨o, es, ep, keep e (fun z _ => (by subst z; rw [ha] at e; cases e; cases d)), d, r⟩
  have kb : K.In (hidT s₁.heap H) := fun b o e => keep (KX b o e) fun z n => by subst z; rw [n] at e; cases e
  have md : Mod K mg (hidT s₁.heap H) := ⟨kb, ns_ hns, ⟨mb, ns_ hb, hbb⟩, by obtain ⟨mc, h1, h2⟩ := hlim; exact ⟨mc, ns_ h1, h2⟩⟩
  have hok : HOk P w H s₁.heap := fun b u e => by obtain ⟨rfl, _, rfl⟩ := tk e; exact ⟨ha, nl, vs, _, rv, ha⟩
  have sq : SqL K H a (ns.map V.int) := by
    cases hk : K.lookup a with
    | none => exact .inl (.inr ⟨_, by rw [← hH]; exact if_pos ⟨rfl, hk⟩⟩)
    | some o =>
      have e := KX a o hk
      rw [ha] at e; cases e
      exact .inr ⟨_, vs.toArray, _, hk, rfl, rfl, rfl, by rw [List.size_toArray, ← rv.length]; exact nl, rv⟩
  have e0 : Env0 P w K mg (hidT s₁.heap H) callerA [] s₁ H := ⟨rfl, md, fun b o e => of_hidT e, Nat.le_of_eq (hidT_size _ _), trivial, fun b z => absurd (show b ∈ ([] : List Addr) from z) (by simp), hok, .of_eq hg⟩
  refine codeAny_mono ((F _ kb (ns_ hns)).run callerA [] s₁ H ⟨[.ref a], []⟩ [.ref a] [.ref a] _ _ hr e0 (hbind s₁ (.ref a)) (.cons rfl .nil) (hsp H sq)) fun r s' h => ?_
  match r, h with
  | .error e, h => exact (hCX H e s' h).elim
  | .ok (.ret u), ⟨v, H', os, bare, u2, hok', r', q⟩ =>
    have q : v = .bl true := q
    subst q
    have r' : u = Value.bool true := r'
    subst r'
    refine ⟨rfl, OldK.of_keep fun b o e => ?_, os, bare⟩
    cases q : H b with
    | none => exact u2.keep b o e q (fun z => absurd (show b ∈ ([] : List Addr) from z) (by simp)) (by simp)
    | some u =>
      obtain ⟨rfl, _, rfl⟩ := tk q
      have e2 := (hok' _ _ (u2.frzs _ _ _ q)).1
      rw [ha] at e; cases e
      exact e2
theorem walk_E {l : PySem.W.OpenLaw} {n k : Nat} {q : Program} {loose : List Str} {XP : (Str → Option Value) → Heap → Prop} {YP : World → Heap → Prop} {d : DefRec} {K : Params → PySem.W.Frag} {x : Str} {m : Bool} {f : List D → M D}
    (hn : l.most = some n) (hn2 : n ≤ sizeLine) (hdf : d.params.defaults = []) (hr : RoomG k callerA)
    (hY : ∀ (w : World) (h : Heap), YP w h → (K w.params).In h)
    (F : ∀ (w : World) (mg : Str → Option Value) (fa : Addr) (h : Heap), (K w.params).In h → h.Ns mainGlobals mg → mg d.name = some (.ref fa) →
      ∃ fd : FuncData, (∀ (s : Shared) (u : Value), BindsTo s fd ⟨[u], []⟩ [(x, u)]) ∧
        ∀ base : Heap, (K w.params).In base → base.Ns mainGlobals mg → FnOkG l.prog w (K w.params) mg base (XC l.prog w) k fa fd [x] (spD mg (K w.params) 1 m f))
    (hd : ∀ ns : List Int, ns.length ≤ n → ∃ g', f [.slst (ns.map .int)] [] = .ok (.bl true) g') (hm : m = false := by rfl) :
    PySem.W.WalkO q loose XP YP l.row.toRowW d [] (fun f vs => PySem.call f vs) := by
  subst hm
  refine Att.attach_call hn hdf fun w s₀ s₁ mg mb fa o pm cd doc a vs ns G Y ho hd' hcd hmg hobj hints hlen hg => ?_
  have KX := hY w _ Y
  obtain ⟨fd, hb, hF⟩ := F w mg fa _ KX G.T.g hmg
  refine law_callG KX G.T.g G.T.b G.T.builtins G.T.nolimit hg hobj hints (Nat.le_trans hlen hn2) hr hF hb (fun H hS => ?_) fun H e s' h => ?_
  · refine ⟨rfl, [], H, [], [.slst (ns.map .int)], ⟨Same.refl _, rfl, fun k ga c e => ?_, List.nodup_nil, fun x hx => ?_⟩, .cons (.slst hS (ints_repL ns)) .nil, ?_⟩
    · simp at e
    · simp [gfp] at hx
    · obtain ⟨g', e⟩ := hd ns hlen
      rw [e]
      intro A' S' H' v P o r
      have r : Rep (K w.params) A' S' v (.bl true) := r
      cases r
      rfl
  · obtain ⟨_, _, _, _, _, _, _, _, _, _, _, _, h⟩ := h
    exact h
end NS
/-! ## sorted(set(..)) of a list of ints: the road is that of the tuple (HandS/SetFor), over a list -/
namespace L2
open PySem PySem.Spec PyProof.Rows
section
variable {P : Program} {w : World} {A : Around} {E : Value → Shared → Prop} {s : Shared}
set_option maxHeartbeats 3200000 in
theorem ns_set_list {l : Addr} {items : Array Value} (ns : List Int) {Q : Value → Shared → Prop} (hh : A.handled = none) (hl : s.heap.IsList l items) (hit : IntsAre items.toList ns) (hb : ns.length + 1 < scanBound)
    (h : ∀ (h' : Heap) (tk c : Nat), SetR w h' s.heap.objs.size (fun j => decide (j ∈ ns)) c → (∀ b o, s.heap.get? b = some o → h'.get? b = some o) → Q (.ref s.heap.objs.size) { s with heap := h', toks := tk }) :
    wpAny (model P w) A (call (.type "set") [.ref l]) Q E s := by
  have hn : items.size = ns.length := by have q := IntsAre.length hit; rwa [Array.length_toList] at q
  have TC := F.called_set
  obtain ⟨_, _, hmro⟩ := TC.mro
  have t1 := TC.made; have t2 := TC.sub; have t3 := TC.notType; have t4 := TC.canCreate; have t5 := F.typeCall_set_1 (.ref l)
  refine wpAny_call (codeAny_of_tree ?_)
  show wpAny _ _ (callAny (.type "set") _) _ _ _
  refine wpAny_pure ⟨Code.quiet_builtin _ (by decide +kernel), codeAny_builtin F.entry_type_call ?_⟩
  rw [Around.under_plain (weight_type_call_type "set" [.ref l] []) rfl]
  repeat (any_goals (first | assumption | wp_step))
  generalize ho : ({ cls := .type "set", dict := none, data := .set #[] 0 (.fresh 0 0 (!w.params.followText "set-order")) } : Obj) = new
  refine codeAny_mono (code_set_led1 (.ref l) (E := E) (Q₁ := fun ob s1 => ob = .ref s.heap.objs.size ∧ s1 = { s with heap := s.heap.push new }) ⟨rfl, by rw [ho]⟩) fun r s1 hr => ?_
  cases r with
  | error e => exact hr
  | ok fl => cases fl with
    | ret ob =>
      obtain ⟨rfl, rfl⟩ := hr
      have n1 : (s.heap.push new).get? s.heap.objs.size = some new := Heap.get?_push_size _ (by rw [← ho]; rfl)
      have hT : Shared.TypeIs { s with heap := s.heap.push new } (.ref s.heap.objs.size) "set" := ⟨_, n1, by rw [← ho]⟩
      have u1 := TC.init.lookup
      have u2 := TC.init.bind (.ref s.heap.objs.size)
      repeat (any_goals (first | assumption | wp_step))
      refine codeAny_mono (codeAny_call_builtin (R := wants (fun r s2 => r = .none ∧ ∃ h' tk c, s2 = { s with heap := h', toks := tk } ∧ SetR w h' s.heap.objs.size (fun j => decide (j ∈ ns)) c ∧
          (∀ b o, s.heap.get? b = some o → h'.get? b = some o)) E) TC.init.plain F.entry_set_init (check_set_init_1 hT ?_)) fun r2 s2 hr2 => ?_
      · subst ho
        obtain ⟨ol, el, cl, nl, dl⟩ := hl
        obtain ⟨ocls, odict, odata, oslots⟩ := ol
        simp only at cl dl
        subst cl dl
        have ll := Heap.lt_size el
        have el1 : (s.heap.push ({ cls := .type "set", dict := none, data := .set #[] 0 (.fresh 0 0 (!w.params.followText "set-order")) } : Obj)).get? l = some { cls := .type "list", dict := odict, data := .seq items nl, slots := oslots } := Heap.get?_push_of_some _ el
        have z1 := F.sub_list_set; have z2 := F.sub_list_frozenset
        have z3 : (Value.type "list" == Value.type "dict") = false := by decide
        have hl1 : (s.heap.push ({ cls := .type "set", dict := none, data := .set #[] 0 (.fresh 0 0 (!w.params.followText "set-order")) } : Obj)).IsList l items := ⟨_, el1, rfl, nl, rfl⟩
        unfold Builtin.«set.__init__» noKeywords Builtin.Frozenset.updateFrom
        generalize hPI : pyIter = PI
        wp_walk
        subst hPI
        refine wpAny_pyIter_list hl1 ?_
        refine wpAny_bind (wpAny_runValue ?_)
        have sz : ∀ o, (s.heap.push o).objs.size = s.heap.objs.size + 1 := fun o => Heap.size_push ..
        refine set_update_ints ((Walks.list (by simp [hh]) _ l (by rw [sz]; exact Nat.ne_of_lt (Nat.lt_succ_of_lt ll)) items).toS) s.heap.objs.size (by rw [sz]; simp only [List.mem_cons, List.not_mem_nil, or_false, not_or]; exact ⟨Nat.ne_of_lt (Nat.lt_succ_self _), Nat.ne_of_gt ll⟩) ns hn hb (fun i v hv => ?_) (items.size - 0) 0 _ (by omega) (Nat.zero_le _)
          ⟨⟨_, Heap.get?_push_size _ rfl, rfl, rfl⟩, hl1.push _⟩ ⟨0, Nat.le_refl 0, setR_new_at (Heap.get?_push_of_some _ n1)⟩ fun s3 c hm _ hS => ?_
        · have hi : i < ns.length := by rw [← hn]; exact (Array.getElem?_eq_some_iff.mp hv).1
          obtain ⟨t, e⟩ := IntsAre.int_at hit i v (by rw [Array.getElem?_toList]; exact hv)
          exact ⟨ns[i], t, List.getElem?_eq_getElem hi, by rw [e, List.getD_eq_getElem?_getD, List.getElem?_eq_getElem hi] <;> rfl⟩
        · obtain ⟨h3, g3, d3, k3, o3⟩ := s3
          have eg : g3 = s.gens := hm.gens
          have ed : d3 = s.drawn := hm.drawn
          have eo : o3 = s.os := hm.os
          subst eg ed eo
          show wpAny _ _ _ _ _ _
          refine wpAny_pure ?_
          show wpAny _ _ (ret Value.none) _ _ _
          refine wpAny_pure ⟨rfl, h3, k3, c, rfl, hS, fun b o e => ?_⟩
          have hb0 := Heap.lt_size e
          exact hm.heap b o (by simp only [sz, List.mem_cons, List.not_mem_nil, or_false, not_or]; exact ⟨Nat.ne_of_lt hb0, Nat.ne_of_lt (Nat.lt_succ_of_lt hb0)⟩) (Heap.get?_push_of_some _ (Heap.get?_push_of_some _ e))
      · cases r2 with
        | error e => exact hr2
        | ok fl2 => cases fl2 with
          | ret r =>
            obtain ⟨rfl, h', tk, c, rfl, hS, hk⟩ := hr2
            repeat (any_goals (first | assumption | wp_step))
            exact h _ _ _ hS hk
          | _ => exact hr2.elim
    | _ => exact hr.elim
end
end L2
namespace NS
open PySem PySem.Spec PyProof.Rows L2
theorem nodup_le {a b : List Int} (hn : a.Nodup) (h : ∀ x ∈ a, x ∈ b) : a.length ≤ b.length := by
  induction a generalizing b with
  | nil => simp
  | cons x a ih =>
    have h2 := List.nodup_cons.mp hn
    have hx := h x List.mem_cons_self
    have := ih (b := b.erase x) h2.2 fun y hy => (List.mem_erase_of_ne (fun e => by subst e; exact h2.1 hy)).mpr (h y (List.mem_cons_of_mem _ hy))
    rw [List.length_erase_of_mem hx] at this
    have : 0 < b.length := List.length_pos_of_mem hx
    simp; omega
theorem setR_few {w : World} {h : Heap} {a : Addr} {ns : List Int} {c : Nat} (R : SetR w h a (fun j => decide (j ∈ ns)) c) : c ≤ (setI ns).length := by
  obtain ⟨o, es, ep, t, _, _, _, _, nd, hm, _, _, hn, _⟩ := R
  have := nodup_le (b := setI ns) nd fun x hx => mem_setI.mpr (by simpa using (hm x).mpr hx)
  rw [List.length_map, Array.length_toList] at this
  omega
section
variable {X : Cx} {E : XK} {m : Bool} {e : Expr} {ta : TA} {pos1 pos2 p1 p2 : Pos}
def tSortSetL (K : PySem.W.Frag) (ta : TA) : TE := fun σ H Q => ta σ H fun xs H1 => ∃ (p : Addr) (ns : List Int), xs = [.ref p] ∧ SqL K H1 p (ns.map V.int) ∧ ns.length ≤ 4000 ∧ (setI ns).length < 60 ∧ ∀ q, H1 q = none → Q (.ref q) (upd H1 q (.lst ((setI ns).map V.int)))
theorem pe_sortedSetL (hc : X.calm = true) (hgs : Gl X "sorted") (hms : X.mg "sorted" = none) (hg : Gl X "set") (hm : X.mg "set" = none) (ha : PA X [e] ta) (hs : starEach [e] X.env = [(false, eval e X.env)] := by rfl)
    (hs2 : starEach [.Call (.Name "set" p2) [e] [] pos2] X.env = [(false, eval (.Call (.Name "set" p2) [e] [] pos2) X.env)] := by rfl) : PE X (.Call (.Name "sorted" p1) [.Call (.Name "set" p2) [e] [] pos2] [] pos1) (tSortSetL X.K ta) := by
  refine ⟨fun pins s σ H Q I h => ?_⟩
  refine wpAny_Call_Name_kw (ld_blt I hgs hms PyProof.Rows.boot_sorted ?_)
  refine PyProof.Rows.callWith_builtin1 ?_ hs2 rfl
  rw [hs2]
  show wpAny _ _ (spliced ((false, eval (.Call (.Name "set" p2) [e] [] pos2) X.env) :: [])) _ _ s
  refine Calls.spliced_cons ?_
  refine wpAny_Call_Name_kw (ld_blt I hg hm PyProof.Rows.boot_set (PyProof.Rows.callWith_type1 (thn (ha.run pos2 pins s σ H _ I h) fun us s1 ⟨vs, H1, I1, r1, q1⟩ => ?_) hs rfl))
  obtain ⟨p0, ns, e1, hq, hl, hf, q⟩ := q1
  subst e1
  cases r1 with
  | cons r rr =>
    cases rr
    cases r
    obtain ⟨its, rv, pt, hz⟩ := I1.list hq
    have hi : IntsAre its.toArray.toList ns := ints_of_vals rv
    have hd := I1.ok.hd hc
    refine ns_set_list ns hd pt.isList hi (by unfold scanBound; omega) fun h' tk c R1 k => ?_
    refine Calls.spliced_nil ?_
    have hcn := setR_few R1
    refine sorted_set (s := { s1 with heap := h', toks := tk }) R1 hd (by omega) fun s2 p out c2 ns2 k2 g2 o2 hp ho hI hs3 hmem hlen => ?_
    have kall : ∀ b u, s1.heap.get? b = some u → s2.heap.get? b = some u := fun b u e => k2 b u (k b u e)
    obtain ⟨o0, es0, ep0, t0, ho0, _⟩ := R1
    have hlt : s1.heap.objs.size < h'.objs.size := Heap.lt_size ho0
    have hp' : s1.heap.objs.size ≤ p := Nat.le_trans (Nat.le_of_lt hlt) hp
    have hfr := I1.hok.fresh hp'
    have es : ns2 = setI ns := setI_only hs3 fun k => by rw [hmem k, decide_eq_true_eq]
    subst es
    have vi : ∀ {us : List Value} {l : List Int}, IntsAre us l → Vals (l.map V.int) us := by
      intro us l h
      induction h with
      | nil => exact .nil
      | cons n t _ ih => exact .cons ⟨t, rfl⟩ ih
    have hv : Vals ((setI ns).map V.int) out.toList := vi hI
    exact ⟨.ref p, upd H1 p (.lst ((setI ns).map V.int)), I1.call' (ch := []) o2 (Un.laid kall hp' hfr) (I1.hok.laid kall hp' ⟨by rw [List.length_map, hlen, sizeLine_eq]; omega, out.toList, c2, hv, ho⟩) (by rw [g2]; exact I1.bare) (fun _ z => nomatch z), rfl, q p hfr⟩
def kSortSetL : List D → M D
  | [.lst ds] => (match D.ints ds with
    | some ns => if ns.length ≤ 4000 ∧ (setI ns).length < 60 then M.pure (.lst ((setI ns).map .int)) else M.bad
    | none => M.bad)
  | _ => M.bad
theorem kSortSetL_of {U : Sur} {A : List GAdr} {S H : Hp} {ds : List D} {g : G} {Q : VK} (q : KE U m A S H (kSortSetL ds g) Q) : ∃ es ns, ds = [.lst es] ∧ D.ints es = some ns ∧ (ns.length ≤ 4000 ∧ (setI ns).length < 60) ∧ KE U m A S H (.ok (.lst ((setI ns).map .int)) g) Q := by
  match ds, q with
  | [], q => exact q.elim
  | d :: _ :: _, q => cases d <;> exact q.elim
  | [d], q =>
    cases d with
    | lst es =>
      have q : KE U m A S H ((match D.ints es with
        | some ns => if ns.length ≤ 4000 ∧ (setI ns).length < 60 then M.pure (.lst ((setI ns).map .int)) else M.bad
        | none => M.bad : M D) g) Q := q
      cases hn : D.ints es with
      | none => rw [hn] at q; exact q.elim
      | some ns =>
        rw [hn] at q
        have q : KE U m A S H ((if ns.length ≤ 4000 ∧ (setI ns).length < 60 then M.pure (.lst ((setI ns).map .int)) else M.bad : M D) g) Q := q
        by_cases hl : ns.length ≤ 4000 ∧ (setI ns).length < 60
        · rw [if_pos hl] at q; exact ⟨es, ns, rfl, hn, hl, q⟩
        · rw [if_neg hl] at q; exact q.elim
    | _ => exact q.elim
variable {fl : DS → M (List D)}
theorem de_sortedSetL (hms : X.mg "sorted" = none) (hm : X.mg "set" = none) (ha : DL X E [e] fl) (hc : X.calm = true := by rfl) (hgs : Gl X "sorted" := by rfl) (hg : Gl X "set" := by rfl) (hs : starEach [e] X.env = [(false, eval e X.env)] := by rfl)
    (hs2 : starEach [.Call (.Name "set" p2) [e] [] pos2] X.env = [(false, eval (.Call (.Name "set" p2) [e] [] pos2) X.env)] := by rfl) : DE X E m (.Call (.Name "sorted" p1) [.Call (.Name "set" p2) [e] [] pos2] [] pos1) (eArgs kSortSetL fl) :=
  PE.impD (pe_sortedSetL hc hgs hms hg hm ha hs hs2) fun σ H Q h => by
    obtain ⟨A, S, g, σd, o, r, q⟩ := args_read h
    refine ⟨A, S, g, σd, o, r, q.imp fun vs H1 ⟨A1, S1, g1, ds, o1, r1, q1⟩ => ?_⟩
    obtain ⟨es, ns, rfl, hn, hl, q2⟩ := kSortSetL_of q1
    obtain ⟨v, rfl, h⟩ := rep1 r1
    cases h with
    | @lst a ws _ h rr =>
      refine ⟨a, ns, rfl, ?_, hl.1, hl.2, fun p hp => KE.newL q2 o1 (intsRL (setI ns)) hp⟩
      rw [← ints_rep rr hn]; exact .inl (.inl (o1.ext _ _ h))
end
end NS
set_option maxHeartbeats 4000000
namespace NS
open PySem PySem.Spec PyProof.Rows L2
/-! ### the text of the law, def by def (printed by gen.py) -/
def topS (i : Nat) : Stmt := PySem.Challenge.pw_nearslot_k11_beginnings_of_orders.main.body.getD i (.Pass ⟨0, 0, 0, 0⟩)
abbrev s_needs : Stmt := topS 2
theorem sc_needs : FnScope ["size", "cell", "wish"] ["size", "cell", "wish"] (defScope s_needs) := ⟨rfl, rfl, rfl, by decide +kernel, rfl, by decide +kernel, by decide +kernel⟩
theorem ok_needs {P : Program} {w : World} {K : PySem.W.Frag} {mg : Str → Option Value} {base : Heap} (a_needs : At K mg "needs" s_needs) (n_max : mg "max" = none) (n_min : mg "min" = none) (n_range : mg "range" = none) (n_tuple : mg "tuple" = none) : Has P w K mg base "needs" s_needs 1 ["size", "cell", "wish"] false d_needs :=
  Has.mk' (k := 0) a_needs sc_needs fun f cdv A outer s H E e0 hr hx hp =>
    (ds_cons (ds_if (dt_cmp op_geD (de_var 1) (de_var 2))
    (ds_one (ds_ret (de_tupRg n_tuple (dr_2 n_range (de_callB cl_max2 n_max (dl_cons de_int (dl_cons (de_bin op_subD (de_bin op_mulD de_int (de_var 2)) (de_var 1)) dl_nil))) (de_var 1)))))
    ds_nil)
    (ds_one (ds_ret (de_tupRg n_tuple (dr_2 n_range (de_bin op_addD (de_var 1) de_int) (de_callB cl_min2 n_min (dl_cons (de_var 0) (dl_cons (de_bin op_subD (de_bin op_mulD de_int (de_var 2)) (de_var 1)) dl_nil))))))))
abbrev s_taken : Stmt := topS 3
theorem sc_taken : FnScope ["table", "cell", "entry"] ["table"] (defScope s_taken) := ⟨rfl, rfl, rfl, by decide +kernel, rfl, by decide +kernel, by decide +kernel⟩
theorem ok_taken {P : Program} {w : World} {K : PySem.W.Frag} {mg : Str → Option Value} {base : Heap} (a_taken : At K mg "taken" s_taken) (n_enumerate : mg "enumerate" = none) : Has P w K mg base "taken" s_taken 1 ["table"] true d_taken :=
  Has.mk' (k := 0) a_taken sc_taken fun f cdv A outer s H E e0 hr hx hp =>
    (ds_one (ds_ret (de_comp (m := true) (own := [("cell", 1), ("entry", 2)]) sc_taken.nd (di_enum n_enumerate (dl_cons (de_var 0) dl_nil)) (blkOk_by (by kernel_rfl)) (gNs_noerr [1, 2]) (fun _ _ _ _ _ => (dg_tup (pgs_consN (i := 1) sc_taken.nd (pgs_consN (i := 2) sc_taken.nd pgs_nilN)))) (fun _ _ _ _ _ => (dts_one (dt_cmp op_isnotD (de_var 2) de_non))) (fun _ _ _ _ _ => (de_var 1)))))
abbrev s_need_of : Stmt := topS 4
theorem sc_need_of : FnScope ["table", "cell", "wish"] ["table", "cell"] (defScope s_need_of) := ⟨rfl, rfl, rfl, by decide +kernel, rfl, by decide +kernel, by decide +kernel⟩
theorem ok_need_of {P : Program} {w : World} {K : PySem.W.Frag} {mg : Str → Option Value} {base : Heap} (a_need_of : At K mg "need_of" s_need_of) (n_len : mg "len" = none) (c_UNKNOWN : GStr mg "UNKNOWN" "?") (h_needs : Has P w K mg base "needs" s_needs 1 ["size", "cell", "wish"] false d_needs) : Has P w K mg base "need_of" s_need_of 2 ["table", "cell"] false d_need_of :=
  Has.mk' (k := 1) a_need_of sc_need_of fun f cdv A outer s H E e0 hr hx hp =>
    (ds_cons (ds_set (m1 := false) (i := 2) sc_need_of.nd (de_ix (de_var 0) (de_var 1)))
    (ds_one (ds_ret (de_if (dt_cmp (op_eqDD (room64 hr)) (de_var 2) (de_gstr c_UNKNOWN)) (de_tup dl_nil) (de_fn h_needs (by exact hr.mono (by omega)) (by exact hx) (dl_cons (de_callB cl_len n_len (dl_cons (de_var 0) dl_nil)) (dl_cons (de_var 1) (dl_cons (de_var 2) dl_nil))) (by exact fun _ _ _ _ _ _ us hl => match us, hl with | [_, _, _], _ => rfl))))))
abbrev s_choose : Stmt := topS 6
theorem sc_choose : FnScope ["many", "few", "found", "turn"] ["many", "few"] (defScope s_choose) := ⟨rfl, rfl, rfl, by decide +kernel, rfl, by decide +kernel, by decide +kernel⟩
theorem ok_choose {P : Program} {w : World} {K : PySem.W.Frag} {mg : Str → Option Value} {base : Heap} (a_choose : At K mg "choose" s_choose) (n_range : mg "range" = none) : Has P w K mg base "choose" s_choose 1 ["many", "few"] false d_choose :=
  Has.mk' (k := 0) a_choose sc_choose fun f cdv A outer s H E e0 hr hx hp =>
    (ds_cons (ds_set (m1 := false) (i := 2) sc_choose.nd de_int)
    (ds_cons (ds_for (vs := [3]) hp (di_range1 n_range (dl_cons (de_var 1) dl_nil)) (dg_name (i := 3) sc_choose.nd) (tg_name 3)
    (ds_one (ds_set (m1 := false) (i := 2) sc_choose.nd (de_bin op_fdivD (de_bin op_mulD (de_var 2) (de_bin op_subD (de_var 0) (de_var 3))) (de_bin op_addD (de_var 3) de_int)))))
    (ds_one (ds_ret (de_var 2)))))
abbrev s_gaps : Stmt := topS 7
theorem sc_gaps : FnScope ["table", "pairs", "other", "cell", "empty"] ["table"] (defScope s_gaps) := ⟨rfl, rfl, rfl, by decide +kernel, rfl, by decide +kernel, by decide +kernel⟩
theorem ok_gaps {P : Program} {w : World} {K : PySem.W.Frag} {mg : Str → Option Value} {base : Heap} (a_gaps : At K mg "gaps" s_gaps) (h_taken : Has P w K mg base "taken" s_taken 1 ["table"] true d_taken) (h_need_of : Has P w K mg base "need_of" s_need_of 2 ["table", "cell"] false d_need_of) : Has P w K mg base "gaps" s_gaps 3 ["table"] true d_gaps :=
  Has.mk' (k := 2) a_gaps sc_gaps fun f cdv A outer s H E e0 hr hx hp =>
    (ds_cons (ds_setComp (m1 := false) (i := 1) (own := [("cell", 3)]) sc_gaps.nd (di_seq (DE.sh (de_fn h_taken (by exact hr.mono (by omega)) (by exact hx) (dl_cons (de_var 0) dl_nil) (by exact fun _ _ _ _ _ _ us hl => match us, hl with | [_], _ => rfl)))) (blkOk_by (by kernel_rfl)) (gN_noerr 3) (fun _ _ _ _ _ => (dg_name (i := 3) sc_gaps.nd)) (fun _ _ _ _ _ => dts_nil) (fun _ _ _ _ _ => (de_tup (dl_cons (de_var 3) (dl_cons (de_comp (m := false) (own := [("other", 2)]) sc_gaps.nd (di_seq (de_fn h_need_of (by exact hr.mono (by omega)) (by exact passD) (dl_cons (de_var 0) (dl_cons (de_var 3) dl_nil)) (by exact fun _ _ _ _ _ _ us hl => match us, hl with | [_, _], _ => rfl))) (blkOk_by (by kernel_rfl)) (gN_noerr 2) (fun _ _ _ _ _ => (dg_name (i := 2) sc_gaps.nd)) (fun _ _ _ _ _ => (dts_one (dt_cmp op_isD (de_ix (de_var 0) (de_var 2)) de_non))) (fun _ _ _ _ _ => (de_var 2))) dl_nil)))))
    (ds_one (ds_ret (de_comp2 (m := true) (own := [("cell", 3), ("empty", 4), ("other", 2)]) (vs1 := [2]) sc_gaps.nd (di_seq (de_var 1)) (blkOk_by (by kernel_rfl)) (tg_names [3, 4]) (gN_noerr 2) (by decide) (fun _ _ _ _ _ => (dg_tup (pgs_consN (i := 3) sc_gaps.nd (pgs_consN (i := 4) sc_gaps.nd pgs_nilN)))) (fun _ _ _ _ _ => dts_nil) (fun _ _ _ _ _ => (di_seq (de_var 4))) (fun _ _ _ _ _ => (dg_name (i := 2) sc_gaps.nd)) (fun _ _ _ _ _ => dts_nil) (fun _ _ _ _ _ => (de_tup (dl_cons (de_var 3) (dl_cons (de_var 2) dl_nil))))))))
abbrev s_bounds : Stmt := topS 8
theorem sc_bounds : FnScope ["table", "cells", "found", "at", "cell", "wanted", "index", "other"] ["table", "cells"] (defScope s_bounds) := ⟨rfl, rfl, rfl, by decide +kernel, rfl, by decide +kernel, by decide +kernel⟩
theorem ok_bounds {P : Program} {w : World} {K : PySem.W.Frag} {mg : Str → Option Value} {base : Heap} (a_bounds : At K mg "bounds" s_bounds) (n_enumerate : mg "enumerate" = none) (n_max : mg "max" = none) (n_min : mg "min" = none) (h_need_of : Has P w K mg base "need_of" s_need_of 2 ["table", "cell"] false d_need_of) : Has P w K mg base "bounds" s_bounds 3 ["table", "cells"] true d_bounds :=
  Has.mk' (k := 2) a_bounds sc_bounds fun f cdv A outer s H E e0 hr hx hp =>
    (ds_cons (ds_set (m1 := true) (i := 2) sc_bounds.nd (de_lst (m := true) dl_nil))
    (ds_cons (ds_for (vs := [3, 4]) hp (di_enum n_enumerate (dl_cons (de_var 1) dl_nil)) (dg_tup (pgs_consN (i := 3) sc_bounds.nd (pgs_consN (i := 4) sc_bounds.nd pgs_nilN))) (tg_names [3, 4])
    (ds_cons (ds_set (m1 := false) (i := 5) sc_bounds.nd (de_bin op_addD (de_lst (m := false) (dl_cons (de_var 3) dl_nil)) (de_comp (m := false) (own := [("index", 6), ("other", 7)]) sc_bounds.nd (di_enum n_enumerate (dl_cons (de_var 1) dl_nil)) (blkOk_by (by kernel_rfl)) (gNs_noerr [6, 7]) (fun _ _ _ _ _ => (dg_tup (pgs_consN (i := 6) sc_bounds.nd (pgs_consN (i := 7) sc_bounds.nd pgs_nilN)))) (fun _ _ _ _ _ => (dts_one (dt_cmp (op_inDD (room65 hr)) (de_var 7) (de_fn h_need_of (by exact hr.mono (by omega)) (by exact passD) (dl_cons (de_var 0) (dl_cons (de_var 4) dl_nil)) (by exact fun _ _ _ _ _ _ us hl => match us, hl with | [_, _], _ => rfl))))) (fun _ _ _ _ _ => (de_var 6)))))
    (ds_one (ds_append 2 (de_tup (dl_cons (de_callB cl_min n_min (dl_cons (de_var 5) dl_nil)) (dl_cons (de_bin op_addD (de_callB cl_max n_max (dl_cons (de_var 5) dl_nil)) de_int) dl_nil)))))))
    (ds_one (ds_retO 2))))
abbrev s_is_inside : Stmt := topS 9
theorem sc_is_inside : FnScope ["bound", "first", "end"] ["bound", "first", "end"] (defScope s_is_inside) := ⟨rfl, rfl, rfl, by decide +kernel, rfl, by decide +kernel, by decide +kernel⟩
theorem ok_is_inside {P : Program} {w : World} {K : PySem.W.Frag} {mg : Str → Option Value} {base : Heap} (a_is_inside : At K mg "is_inside" s_is_inside) : Has P w K mg base "is_inside" s_is_inside 1 ["bound", "first", "end"] false d_is_inside :=
  Has.mk' (k := 0) a_is_inside sc_is_inside fun f cdv A outer s H E e0 hr hx hp =>
    (ds_one (ds_ret (de_and (de_cmp op_leD (de_var 1) (de_ix (de_var 0) de_int)) (de_and1 (de_cmp op_leD (de_ix (de_var 0) de_int) (de_var 2))))))
abbrev s_part_table : Stmt := topS 10
theorem sc_part_table : FnScope ["limits", "size", "found", "first", "length", "end", "total", "last"] ["limits"] (defScope s_part_table) := ⟨rfl, rfl, rfl, by decide +kernel, rfl, by decide +kernel, by decide +kernel⟩
theorem ok_part_table {P : Program} {w : World} {K : PySem.W.Frag} {mg : Str → Option Value} {base : Heap} (a_part_table : At K mg "part_table" s_part_table) (n_len : mg "len" = none) (n_range : mg "range" = none) (h_is_inside : Has P w K mg base "is_inside" s_is_inside 1 ["bound", "first", "end"] false d_is_inside) (h_choose : Has P w K mg base "choose" s_choose 1 ["many", "few"] false d_choose) : Has P w K mg base "part_table" s_part_table 2 ["limits"] true d_part_table :=
  Has.mk' (k := 1) a_part_table sc_part_table fun f cdv A outer s H E e0 hr hx hp =>
    (ds_cons (ds_set (m1 := false) (i := 1) sc_part_table.nd (de_callB cl_len n_len (dl_cons (de_var 0) dl_nil)))
    (ds_cons (ds_set (m1 := true) (i := 2) sc_part_table.nd (de_dnewT (m := true)))
    (ds_cons (ds_for (vs := [3]) hp (di_range1 n_range (dl_cons (de_bin op_addD (de_var 1) de_int) dl_nil)) (dg_name (i := 3) sc_part_table.nd) (tg_name 3)
    (ds_one (ds_dput 2 (room65 hr) de_int (de_tup (dl_cons (de_var 3) (dl_cons (de_var 3) dl_nil))))))
    (ds_cons (ds_for (vs := [4]) hp (di_range2 n_range (dl_cons de_int (dl_cons (de_bin op_addD (de_var 1) de_int) dl_nil))) (dg_name (i := 4) sc_part_table.nd) (tg_name 4)
    (ds_one (ds_for (vs := [3]) hp (di_range1 n_range (dl_cons (de_bin op_addD (de_bin op_subD (de_var 1) (de_var 4)) de_int) dl_nil)) (dg_name (i := 3) sc_part_table.nd) (tg_name 3)
    (ds_cons (ds_set (m1 := false) (i := 5) sc_part_table.nd (de_bin op_addD (de_var 3) (de_var 4)))
    (ds_cons (ds_set (m1 := false) (i := 6) sc_part_table.nd de_int)
    (ds_cons (ds_for (vs := [7]) hp (di_seq (de_comp (m := false) (own := [("last", 7)]) sc_part_table.nd (di_range2 n_range (dl_cons (de_var 3) (dl_cons (de_var 5) dl_nil))) (blkOk_by (by kernel_rfl)) (gN_noerr 7) (fun _ _ _ _ _ => (dg_name (i := 7) sc_part_table.nd)) (fun _ _ _ _ _ => (dts_one (dt_val (de_fn h_is_inside (by exact hr.mono (by omega)) (by exact passD) (dl_cons (de_ix (de_var 0) (de_var 7)) (dl_cons (de_var 3) (dl_cons (de_var 5) dl_nil))) (by exact fun _ _ _ _ _ _ us hl => match us, hl with | [_, _, _], _ => rfl))))) (fun _ _ _ _ _ => (de_var 7)))) (dg_name (i := 7) sc_part_table.nd) (tg_name 7)
    (ds_one (ds_aug 6 sc_part_table.nd iop_addD (de_bor 2 (de_bin op_mulD (de_bin op_mulD (de_fn h_choose (by exact hr.mono (by omega)) (by exact hx) (dl_cons (de_bin op_subD (de_var 4) de_int) (dl_cons (de_bin op_subD (de_var 7) (de_var 3)) dl_nil)) (by exact fun _ _ _ _ _ _ us hl => match us, hl with | [_, _], _ => rfl)) (de_ixD (room65 hr) (de_var 2) (de_tup (dl_cons (de_var 3) (dl_cons (de_var 7) dl_nil))))) (de_ixD (room65 hr) (de_var 2) (de_tup (dl_cons (de_bin op_addD (de_var 7) de_int) (dl_cons (de_var 5) dl_nil)))))))))
    (ds_one (ds_dput 2 (room65 hr) (de_var 6) (de_tup (dl_cons (de_var 3) (dl_cons (de_var 5) dl_nil)))))))))))
    (ds_one (ds_retO 2))))))
abbrev s_count_of : Stmt := topS 11
theorem sc_count_of : FnScope ["table", "cells"] ["table", "cells"] (defScope s_count_of) := ⟨rfl, rfl, rfl, by decide +kernel, rfl, by decide +kernel, by decide +kernel⟩
theorem ok_count_of {P : Program} {w : World} {K : PySem.W.Frag} {mg : Str → Option Value} {base : Heap} (a_count_of : At K mg "count_of" s_count_of) (n_len : mg "len" = none) (h_part_table : Has P w K mg base "part_table" s_part_table 2 ["limits"] true d_part_table) (h_bounds : Has P w K mg base "bounds" s_bounds 3 ["table", "cells"] true d_bounds) : Has P w K mg base "count_of" s_count_of 4 ["table", "cells"] false d_count_of :=
  Has.mk' (k := 3) a_count_of sc_count_of fun f cdv A outer s H E e0 hr hx hp =>
    (ds_one (ds_ret (de_ixD (room65 hr) (DE.sh (de_fn h_part_table (by exact hr.mono (by omega)) (by exact hx) (dl_cons (DE.sh (de_fn h_bounds (by exact hr.mono (by omega)) (by exact hx) (dl_cons (de_var 0) (dl_cons (de_var 1) dl_nil)) (by exact fun _ _ _ _ _ _ us hl => match us, hl with | [_, _], _ => rfl))) dl_nil) (by exact fun _ _ _ _ _ _ us hl => match us, hl with | [_], _ => rfl))) (de_tup (dl_cons de_int (dl_cons (de_callB cl_len n_len (dl_cons (de_var 1) dl_nil)) dl_nil))))))
abbrev s_ready : Stmt := topS 12
theorem sc_ready : FnScope ["table", "present", "rest", "cell", "other"] ["table", "present"] (defScope s_ready) := ⟨rfl, rfl, rfl, by decide +kernel, rfl, by decide +kernel, by decide +kernel⟩
theorem ok_ready {P : Program} {w : World} {K : PySem.W.Frag} {mg : Str → Option Value} {base : Heap} (a_ready : At K mg "ready" s_ready) (n_all : mg "all" = none) (h_taken : Has P w K mg base "taken" s_taken 1 ["table"] true d_taken) (h_need_of : Has P w K mg base "need_of" s_need_of 2 ["table", "cell"] false d_need_of) : Has P w K mg base "ready" s_ready 3 ["table", "present"] true d_ready :=
  Has.mk' (k := 2) a_ready sc_ready fun f cdv A outer s H E e0 hr hx hp =>
    (ds_cons (ds_setComp (m1 := false) (i := 2) (own := [("cell", 3)]) sc_ready.nd (di_seq (DE.sh (de_fn h_taken (by exact hr.mono (by omega)) (by exact hx) (dl_cons (de_var 0) dl_nil) (by exact fun _ _ _ _ _ _ us hl => match us, hl with | [_], _ => rfl)))) (blkOk_by (by kernel_rfl)) (gN_noerr 3) (fun _ _ _ _ _ => (dg_name (i := 3) sc_ready.nd)) (fun _ _ _ _ _ => (dts_one (dt_cmp (op_notInDD (room65 hr)) (de_var 3) (de_var 1)))) (fun _ _ _ _ _ => (de_var 3)))
    (ds_one (ds_ret (de_comp (m := true) (own := [("cell", 3)]) sc_ready.nd (di_seq (de_var 2)) (blkOk_by (by kernel_rfl)) (gN_noerr 3) (fun _ _ _ _ _ => (dg_name (i := 3) sc_ready.nd)) (fun _ _ _ _ _ => (dts_one (dt_val (de_callB cl_all n_all (dl_cons (de_comp (m := false) (own := [("other", 4)]) sc_ready.nd (di_seq (de_fn h_need_of (by exact hr.mono (by omega)) (by exact passD) (dl_cons (de_var 0) (dl_cons (de_var 3) dl_nil)) (by exact fun _ _ _ _ _ _ us hl => match us, hl with | [_, _], _ => rfl))) (blkOk_by (by kernel_rfl)) (gN_noerr 4) (fun _ _ _ _ _ => (dg_name (i := 4) sc_ready.nd)) (fun _ _ _ _ _ => dts_nil) (fun _ _ _ _ _ => (de_cmp (op_inDD (room65 hr)) (de_var 4) (de_var 1)))) dl_nil))))) (fun _ _ _ _ _ => (de_var 3))))))
abbrev s_count_after : Stmt := topS 14
theorem sc_count_after : FnScope ["table", "beginning", "at", "cell"] ["table", "beginning"] (defScope s_count_after) := ⟨rfl, rfl, rfl, by decide +kernel, rfl, by decide +kernel, by decide +kernel⟩
theorem ok_count_after {P : Program} {w : World} {K : PySem.W.Frag} {mg : Str → Option Value} {base : Heap} (a_count_after : At K mg "count_after" s_count_after) (n_enumerate : mg "enumerate" = none) (h_ready : Has P w K mg base "ready" s_ready 3 ["table", "present"] true d_ready) (h_gaps : Has P w K mg base "gaps" s_gaps 3 ["table"] true d_gaps) (h_count_of : Has P w K mg base "count_of" s_count_of 4 ["table", "cells"] false d_count_of) (h_taken : Has P w K mg base "taken" s_taken 1 ["table"] true d_taken) : Has P w K mg base "count_after" s_count_after 5 ["table", "beginning"] false d_count_after :=
  Has.mk' (k := 4) a_count_after sc_count_after fun f cdv A outer s H E e0 hr hx hp =>
    (ds_cons (ds_for (vs := [2, 3]) hp (di_enum n_enumerate (dl_cons (de_var 1) dl_nil)) (dg_tup (pgs_consN (i := 2) sc_count_after.nd (pgs_consN (i := 3) sc_count_after.nd pgs_nilN))) (tg_names [2, 3])
    (ds_one (ds_if (dt_cmp (op_notInDD (room65 hr)) (de_var 3) (DE.sh (de_fn h_ready (by exact hr.mono (by omega)) (by exact hx) (dl_cons (de_var 0) (dl_cons (de_sl (de_var 1) do_none (do_some (de_var 2))) dl_nil)) (by exact fun _ _ _ _ _ _ us hl => match us, hl with | [_, _], _ => rfl))))
    (ds_one (ds_ret de_int))
    ds_nil)))
    (ds_cons (ds_if (dt_cmp (op_neDD (room64 hr)) (DE.sh (de_fn h_gaps (by exact hr.mono (by omega)) (by exact hx) (dl_cons (de_var 0) dl_nil) (by exact fun _ _ _ _ _ _ us hl => match us, hl with | [_], _ => rfl))) (de_lst (m := false) dl_nil))
    (ds_one (ds_ret de_int))
    ds_nil)
    (ds_one (ds_ret (de_fn h_count_of (by exact hr.mono (by omega)) (by exact hx) (dl_cons (de_var 0) (dl_cons (de_comp (m := false) (own := [("cell", 3)]) sc_count_after.nd (di_seq (DE.sh (de_fn h_taken (by exact hr.mono (by omega)) (by exact hx) (dl_cons (de_var 0) dl_nil) (by exact fun _ _ _ _ _ _ us hl => match us, hl with | [_], _ => rfl)))) (blkOk_by (by kernel_rfl)) (gN_noerr 3) (fun _ _ _ _ _ => (dg_name (i := 3) sc_count_after.nd)) (fun _ _ _ _ _ => (dts_one (dt_cmp (op_notInDD (room65 hr)) (de_var 3) (de_var 1)))) (fun _ _ _ _ _ => (de_var 3))) dl_nil)) (by exact fun _ _ _ _ _ _ us hl => match us, hl with | [_, _], _ => rfl))))))
abbrev s_next_cells : Stmt := topS 15
theorem sc_next_cells : FnScope ["table", "beginning"] ["table", "beginning"] (defScope s_next_cells) := ⟨rfl, rfl, rfl, by decide +kernel, rfl, by decide +kernel, by decide +kernel⟩
theorem ok_next_cells {P : Program} {w : World} {K : PySem.W.Frag} {mg : Str → Option Value} {base : Heap} (a_next_cells : At K mg "next_cells" s_next_cells) (h_count_after : Has P w K mg base "count_after" s_count_after 5 ["table", "beginning"] false d_count_after) (h_ready : Has P w K mg base "ready" s_ready 3 ["table", "present"] true d_ready) : Has P w K mg base "next_cells" s_next_cells 6 ["table", "beginning"] true d_next_cells :=
  Has.mk' (k := 5) a_next_cells sc_next_cells fun f cdv A outer s H E e0 hr hx hp =>
    (ds_cons (ds_if (dt_cmp (op_eqDD (room64 hr)) (de_fn h_count_after (by exact hr.mono (by omega)) (by exact hx) (dl_cons (de_var 0) (dl_cons (de_var 1) dl_nil)) (by exact fun _ _ _ _ _ _ us hl => match us, hl with | [_, _], _ => rfl)) de_int)
    (ds_one (ds_ret (de_lst (m := true) dl_nil)))
    ds_nil)
    (ds_one (ds_ret (de_fn h_ready (by exact hr.mono (by omega)) (by exact hx) (dl_cons (de_var 0) (dl_cons (de_var 1) dl_nil)) (by exact fun _ _ _ _ _ _ us hl => match us, hl with | [_, _], _ => rfl)))))
abbrev s_Lsource : Stmt := topS 17
theorem sc_Lsource : FnScope ["_law_script", "_law_index", "_law_core"] ["_law_script", "_law_index"] (defScope s_Lsource) := ⟨rfl, rfl, rfl, by decide +kernel, rfl, by decide +kernel, by decide +kernel⟩
theorem ok_Lsource {P : Program} {w : World} {K : PySem.W.Frag} {mg : Str → Option Value} {base : Heap} (a_Lsource : At K mg "_law_source" s_Lsource) (n_abs : mg "abs" = none) (n_int : mg "int" = none) (n_len : mg "len" = none) : Has P w K mg base "_law_source" s_Lsource 1 ["_law_script", "_law_index"] false d_Lsource :=
  Has.mk' (k := 0) a_Lsource sc_Lsource fun f cdv A outer s H E e0 hr hx hp =>
    (ds_cons (ds_set (m1 := false) (i := 2) sc_Lsource.nd de_int)
    (ds_cons (ds_if (dt_cmp (op_ltD (room0 hr)) (de_var 1) (de_callB cl_len n_len (dl_cons (de_var 0) dl_nil)))
    (ds_one (ds_set (m1 := false) (i := 2) sc_Lsource.nd (de_ix (de_var 0) (de_var 1))))
    ds_nil)
    (ds_one (ds_retH (de_lst (m := true) (dl_cons (de_bin op_mulD (de_callB cl_abs n_abs (dl_cons (de_var 2) dl_nil)) (de_callTy cl_int n_int (dl_cons (de_cmp op_geD (de_callB cl_abs n_abs (dl_cons (de_var 2) dl_nil)) (de_bin op_powD de_int de_int)) dl_nil))) (dl_cons (de_bin op_modD (de_bin op_mulD (de_bin op_addD (de_bin op_addD (de_bin op_modD (de_var 2) de_int) (de_bin op_mulD de_int (de_var 1))) de_int) de_int) de_int) (dl_cons de_int dl_nil))))))))
abbrev s_Ldraw : Stmt := topS 18
theorem sc_Ldraw : FnScope ["_law_source_here", "_law_bound", "_law_found", "_law_once"] ["_law_source_here", "_law_bound"] (defScope s_Ldraw) := ⟨rfl, rfl, rfl, by decide +kernel, rfl, by decide +kernel, by decide +kernel⟩
theorem ok_Ldraw {P : Program} {w : World} {K : PySem.W.Frag} {mg : Str → Option Value} {base : Heap} (a_Ldraw : At K mg "_law_draw" s_Ldraw) : ∀ n, Has P w K mg base "_law_draw" s_Ldraw (1 + n) ["_law_source_here", "_law_bound"] false (d_Ldraw n)
  | 0 => Has.bad a_Ldraw _ _ _
  | n + 1 => by
    have h_self := ok_Ldraw (P := P) (w := w) (base := base) a_Ldraw n
    exact Has.mk' (k := 1 + n) a_Ldraw sc_Ldraw fun f cdv A outer s H E e0 hr hx hp =>
    (ds_cons (ds_if (dt_cmp op_gtD (de_ix (de_var 0) de_int) de_int)
    (ds_cons (ds_set (m1 := false) (i := 2) sc_Ldraw.nd (de_bin op_modD (de_ix (de_var 0) de_int) (de_var 1)))
    (ds_cons (ds_setIxH 0 (de_bin op_fdivD (de_ix (de_var 0) de_int) (de_var 1)) de_int)
    (ds_one (ds_ret (de_var 2)))))
    ds_nil)
    (ds_cons (ds_if (dt_cmp op_gtD (de_var 1) (de_bin op_powD de_int de_int))
    (ds_one (ds_ret (de_bin op_modD (de_bin op_addD (de_fn h_self (by exact hr.mono (by omega)) (by exact hx) (dl_cons (de_var 0) (dl_cons (de_bin op_powD de_int de_int) dl_nil)) (by exact fun _ _ _ _ _ _ us hl => match us, hl with | [_, _], _ => rfl)) (de_bin op_mulD (de_bin op_powD de_int de_int) (de_fn h_self (by exact hr.mono (by omega)) (by exact hx) (dl_cons (de_var 0) (dl_cons (de_bin op_addD (de_bin op_fdivD (de_var 1) (de_bin op_powD de_int de_int)) de_int) dl_nil)) (by exact fun _ _ _ _ _ _ us hl => match us, hl with | [_, _], _ => rfl)))) (de_var 1))))
    ds_nil)
    (ds_cons (ds_setIxH 0 (de_bin op_addD (de_ix (de_var 0) de_int) de_int) de_int)
    (ds_cons (ds_set (m1 := false) (i := 3) sc_Ldraw.nd (de_bin op_modD (de_bin op_powD (de_bin op_addD (de_ix (de_var 0) de_int) (de_bin op_mulD de_int (de_ix (de_var 0) de_int))) de_int) de_int))
    (ds_one (ds_ret (de_bin op_modD (de_bin op_fdivD (de_bin op_modD (de_bin op_addD (de_bin op_mulD (de_var 3) (de_bin op_addD (de_bin op_modD (de_var 3) de_int) de_int)) (de_bin op_mulD (de_ix (de_var 0) de_int) de_int)) de_int) de_int) (de_var 1))))))))
abbrev s_Lchoice : Stmt := topS 19
theorem sc_Lchoice : FnScope ["_law_source_here", "_law_row_here"] ["_law_source_here", "_law_row_here"] (defScope s_Lchoice) := ⟨rfl, rfl, rfl, by decide +kernel, rfl, by decide +kernel, by decide +kernel⟩
theorem ok_Lchoice {P : Program} {w : World} {K : PySem.W.Frag} {mg : Str → Option Value} {base : Heap} (a_Lchoice : At K mg "_law_choice" s_Lchoice) (n_len : mg "len" = none) (h_Ldraw : Has P w K mg base "_law_draw" s_Ldraw 4 ["_law_source_here", "_law_bound"] false (d_Ldraw 3)) : Has P w K mg base "_law_choice" s_Lchoice 5 ["_law_source_here", "_law_row_here"] false d_Lchoice :=
  Has.mk' (k := 4) a_Lchoice sc_Lchoice fun f cdv A outer s H E e0 hr hx hp =>
    (ds_one (ds_ret (de_ix (de_var 1) (de_fn h_Ldraw (by exact hr.mono (by omega)) (by exact hx) (dl_cons (de_var 0) (dl_cons (de_callB cl_len n_len (dl_cons (de_var 1) dl_nil)) dl_nil)) (by exact fun _ _ _ _ _ _ us hl => match us, hl with | [_, _], _ => rfl)))))
abbrev s_Lequal : Stmt := topS 20
theorem sc_Lequal : FnScope ["_law_found", "_law_due", "_law_lone", "_law_mate"] ["_law_found", "_law_due"] (defScope s_Lequal) := ⟨rfl, rfl, rfl, by decide +kernel, rfl, by decide +kernel, by decide +kernel⟩
theorem ok_Lequal {P : Program} {w : World} {K : PySem.W.Frag} {mg : Str → Option Value} {base : Heap} (a_Lequal : At K mg "_law_equal" s_Lequal) (n_all : mg "all" = none) (n_bool : mg "bool" = none) (n_int : mg "int" = none) (n_isinstance : mg "isinstance" = none) (n_len : mg "len" = none) (n_list : mg "list" = none) (n_str : mg "str" = none) (n_tuple : mg "tuple" = none) (n_zip : mg "zip" = none) : ∀ n, Has P w K mg base "_law_equal" s_Lequal (1 + n) ["_law_found", "_law_due"] false (d_Lequal n)
  | 0 => Has.bad a_Lequal _ _ _
  | n + 1 => by
    have h_self := ok_Lequal (P := P) (w := w) (base := base) a_Lequal n_all n_bool n_int n_isinstance n_len n_list n_str n_tuple n_zip n
    exact Has.mk' (k := 1 + n) a_Lequal sc_Lequal fun f cdv A outer s H E e0 hr hx hp =>
    (ds_cons (ds_if (dt_val (de_isi2 (n1 := "list") (n2 := "tuple") n_isinstance n_list n_tuple (de_var 1)))
    (ds_cons (ds_if (dt_w (dw_or (dt_cmp (op_neDD (room64 hr)) (de_isi (n := "list") n_isinstance n_list (de_var 0)) (de_isi (n := "list") n_isinstance n_list (de_var 1))) (dw_or1 (dt_cmp (op_neDD (room64 hr)) (de_isi (n := "tuple") n_isinstance n_tuple (de_var 0)) (de_isi (n := "tuple") n_isinstance n_tuple (de_var 1))))))
    (ds_one (ds_ret de_bl))
    ds_nil)
    (ds_one (ds_ret (de_and (de_cmp (op_eqDD (room64 hr)) (de_callB cl_len n_len (dl_cons (de_var 0) dl_nil)) (de_callB cl_len n_len (dl_cons (de_var 1) dl_nil))) (de_and1 (de_callB cl_all n_all (dl_cons (de_comp (m := false) (own := [("_law_lone", 2), ("_law_mate", 3)]) sc_Lequal.nd (di_zip2 n_zip (dl_cons (de_var 0) (dl_cons (de_var 1) dl_nil))) (blkOk_by (by kernel_rfl)) (gNs_noerr [2, 3]) (fun _ _ _ _ _ => (dg_tup (pgs_consN (i := 2) sc_Lequal.nd (pgs_consN (i := 3) sc_Lequal.nd pgs_nilN)))) (fun _ _ _ _ _ => dts_nil) (fun _ _ _ _ _ => (de_fn h_self (by exact hr.mono (by omega)) (by exact passD) (dl_cons (de_var 2) (dl_cons (de_var 3) dl_nil)) (by exact fun _ _ _ _ _ _ us hl => match us, hl with | [_, _], _ => rfl)))) dl_nil)))))))
    ds_nil)
    (ds_cons (ds_if (dt_w (dw_or (dt_cmp op_isD (de_var 1) de_non) (dw_or1 (dt_val (de_isi (n := "str") n_isinstance n_str (de_var 1))))))
    (ds_one (ds_ret (de_and (de_cmp (op_eqDD (room64 hr)) (de_var 0) (de_var 1)) (de_and1 (de_cmp (op_eqDD (room64 hr)) (de_isi (n := "str") n_isinstance n_str (de_var 0)) (de_isi (n := "str") n_isinstance n_str (de_var 1)))))))
    ds_nil)
    (ds_one (ds_ret (de_and (de_isi (n := "int") n_isinstance n_int (de_var 0)) (de_and (de_cmp (op_eqDD (room64 hr)) (de_isi (n := "bool") n_isinstance n_bool (de_var 0)) (de_isi (n := "bool") n_isinstance n_bool (de_var 1))) (de_and1 (de_cmp (op_eqDD (room64 hr)) (de_var 0) (de_var 1)))))))))
abbrev s_Lshuffled : Stmt := topS 21
theorem sc_Lshuffled : FnScope ["_law_source_here", "_law_row_here", "_law_rest", "_law_found"] ["_law_source_here", "_law_row_here"] (defScope s_Lshuffled) := ⟨rfl, rfl, rfl, by decide +kernel, rfl, by decide +kernel, by decide +kernel⟩
theorem ok_Lshuffled {P : Program} {w : World} {K : PySem.W.Frag} {mg : Str → Option Value} {base : Heap} (a_Lshuffled : At K mg "_law_shuffled" s_Lshuffled) (n_len : mg "len" = none) (n_list : mg "list" = none) (h_Ldraw : Has P w K mg base "_law_draw" s_Ldraw 4 ["_law_source_here", "_law_bound"] false (d_Ldraw 3)) : Has P w K mg base "_law_shuffled" s_Lshuffled 5 ["_law_source_here", "_law_row_here"] true d_Lshuffled :=
  Has.mk' (k := 4) a_Lshuffled sc_Lshuffled fun f cdv A outer s H E e0 hr hx hp =>
    (ds_cons (ds_par2 sc_Lshuffled.nd (dms_cons (de_callTy (cl_list (m := true)) n_list (dl_cons (de_var 1) dl_nil)) (dms_cons (de_lst (m := true) dl_nil) dms_nil)))
    (ds_cons (ds_while 100 hp (dt_bor 2 (dt_cmp (op_neDD (room64 hr)) (de_var 2) (de_lst (m := false) dl_nil)))
    (ds_one (ds_appPop 3 2 (de_bor 2 (de_fn h_Ldraw (by exact hr.mono (by omega)) (by exact hx) (dl_cons (de_var 0) (dl_cons (de_callB cl_len n_len (dl_cons (de_var 2) dl_nil)) dl_nil)) (by exact fun _ _ _ _ _ _ us hl => match us, hl with | [_, _], _ => rfl))))))
    (ds_one (ds_retO 3))))
abbrev s_Lneeds : Stmt := topS 22
theorem sc_Lneeds : FnScope ["_law_width", "_law_spot", "_law_hope", "_law_at"] ["_law_width", "_law_spot", "_law_hope"] (defScope s_Lneeds) := ⟨rfl, rfl, rfl, by decide +kernel, rfl, by decide +kernel, by decide +kernel⟩
theorem ok_Lneeds {P : Program} {w : World} {K : PySem.W.Frag} {mg : Str → Option Value} {base : Heap} (a_Lneeds : At K mg "_law_needs" s_Lneeds) (n_abs : mg "abs" = none) (n_range : mg "range" = none) : Has P w K mg base "_law_needs" s_Lneeds 1 ["_law_width", "_law_spot", "_law_hope"] true d_Lneeds :=
  Has.mk' (k := 0) a_Lneeds sc_Lneeds fun f cdv A outer s H E e0 hr hx hp =>
    (ds_one (ds_ret (de_comp (m := true) (own := [("_law_at", 3)]) sc_Lneeds.nd (di_range1 n_range (dl_cons (de_var 0) dl_nil)) (blkOk_by (by kernel_rfl)) (gN_noerr 3) (fun _ _ _ _ _ => (dg_name (i := 3) sc_Lneeds.nd)) (fun _ _ _ _ _ => (dts_one (dt_cmp (op_ltD (room0 hr)) (de_tup (dl_cons (de_callB cl_abs n_abs (dl_cons (de_bin op_subD (de_var 3) (de_var 2)) dl_nil)) (dl_cons (de_var 3) dl_nil))) (de_tup (dl_cons (de_callB cl_abs n_abs (dl_cons (de_bin op_subD (de_var 1) (de_var 2)) dl_nil)) (dl_cons (de_var 1) dl_nil)))))) (fun _ _ _ _ _ => (de_var 3)))))
abbrev s_Lfill : Stmt := topS 23
theorem sc_Lfill : FnScope ["_law_width", "_law_hopes_here", "_law_shelf", "_law_queue", "_law_hope", "_law_spot", "_law_at"] ["_law_width", "_law_hopes_here"] (defScope s_Lfill) := ⟨rfl, rfl, rfl, by decide +kernel, rfl, by decide +kernel, by decide +kernel⟩
theorem ok_Lfill {P : Program} {w : World} {K : PySem.W.Frag} {mg : Str → Option Value} {base : Heap} (a_Lfill : At K mg "_law_fill" s_Lfill) (n_abs : mg "abs" = none) (n_min : mg "min" = none) (n_range : mg "range" = none) (n_tuple : mg "tuple" = none) : Has P w K mg base "_law_fill" s_Lfill 1 ["_law_width", "_law_hopes_here"] false d_Lfill :=
  Has.mk' (k := 0) a_Lfill sc_Lfill fun f cdv A outer s H E e0 hr hx hp =>
    (ds_cons (ds_parT (is := [2, 3]) (bs := [true, true]) (dms_cons (de_bin op_repD (de_lst (m := false) (dl_cons de_non dl_nil)) (de_var 0)) (dms_cons (de_lst (m := true) dl_nil) dms_nil)) (pgs_consN (i := 2) sc_Lfill.nd (pgs_consN (i := 3) sc_Lfill.nd pgs_nilN)))
    (ds_cons (ds_for (vs := [4]) hp (di_seq (de_var 1)) (dg_name (i := 4) sc_Lfill.nd) (tg_name 4)
    (ds_cons (ds_set (m1 := false) (i := 5) sc_Lfill.nd (de_bor 2 (de_ix (de_callB (cl_minP (room65 hr)) n_min (dl_cons (de_comp (m := false) (own := [("_law_at", 6)]) sc_Lfill.nd (di_range1 n_range (dl_cons (de_var 0) dl_nil)) (blkOk_by (by kernel_rfl)) (gN_noerr 6) (fun _ _ _ _ _ => (dg_name (i := 6) sc_Lfill.nd)) (fun _ _ _ _ _ => (dts_one (dt_cmp op_isD (de_ix (de_var 2) (de_var 6)) de_non))) (fun _ _ _ _ _ => (de_tup (dl_cons (de_callB cl_abs n_abs (dl_cons (de_bin op_subD (de_var 6) (de_var 4)) dl_nil)) (dl_cons (de_var 6) dl_nil))))) dl_nil)) de_int)))
    (ds_cons (ds_setIx 2 (de_var 4) (de_var 5))
    (ds_one (ds_append 3 (de_var 5))))))
    (ds_one (ds_frz 3 (ds_frz 2 (ds_ret (de_tup (dl_cons (de_callTy cl_tuple n_tuple (dl_cons (de_var 2) dl_nil)) (dl_cons (de_callTy cl_tuple n_tuple (dl_cons (de_var 3) dl_nil)) dl_nil)))))))))
abbrev s_Lhopes : Stmt := topS 24
theorem sc_Lhopes : FnScope ["_law_source_here", "_law_width", "_law_near", "_law_way", "_law_found", "_law_turn", "_law_hope"] ["_law_source_here", "_law_width"] (defScope s_Lhopes) := ⟨rfl, rfl, rfl, by decide +kernel, rfl, by decide +kernel, by decide +kernel⟩
theorem ok_Lhopes {P : Program} {w : World} {K : PySem.W.Frag} {mg : Str → Option Value} {base : Heap} (a_Lhopes : At K mg "_law_hopes" s_Lhopes) (n_max : mg "max" = none) (n_min : mg "min" = none) (n_range : mg "range" = none) (h_Ldraw : Has P w K mg base "_law_draw" s_Ldraw 4 ["_law_source_here", "_law_bound"] false (d_Ldraw 3)) : Has P w K mg base "_law_hopes" s_Lhopes 5 ["_law_source_here", "_law_width"] true d_Lhopes :=
  Has.mk' (k := 4) a_Lhopes sc_Lhopes fun f cdv A outer s H E e0 hr hx hp =>
    (ds_cons (ds_par2 sc_Lhopes.nd (dms_cons (de_fn h_Ldraw (by exact hr.mono (by omega)) (by exact hx) (dl_cons (de_var 0) (dl_cons (de_var 1) dl_nil)) (by exact fun _ _ _ _ _ _ us hl => match us, hl with | [_, _], _ => rfl)) (dms_cons (de_fn h_Ldraw (by exact hr.mono (by omega)) (by exact hx) (dl_cons (de_var 0) (dl_cons de_int dl_nil)) (by exact fun _ _ _ _ _ _ us hl => match us, hl with | [_, _], _ => rfl)) dms_nil)))
    (ds_cons (ds_set (m1 := true) (i := 4) sc_Lhopes.nd (de_lst (m := true) dl_nil))
    (ds_cons (ds_for (vs := [5]) hp (di_range1 n_range (dl_cons (de_fn h_Ldraw (by exact hr.mono (by omega)) (by exact hx) (dl_cons (de_var 0) (dl_cons (de_bin op_addD (de_var 1) de_int) dl_nil)) (by exact fun _ _ _ _ _ _ us hl => match us, hl with | [_, _], _ => rfl)) dl_nil)) (dg_name (i := 5) sc_Lhopes.nd) (tg_name 5)
    (ds_cons (ds_set (m1 := false) (i := 6) sc_Lhopes.nd (de_if (dt_cmp op_gtD (de_var 3) de_int) (de_fn h_Ldraw (by exact hr.mono (by omega)) (by exact hx) (dl_cons (de_var 0) (dl_cons (de_var 1) dl_nil)) (by exact fun _ _ _ _ _ _ us hl => match us, hl with | [_, _], _ => rfl)) (de_bin op_subD (de_bin op_addD (de_var 2) (de_fn h_Ldraw (by exact hr.mono (by omega)) (by exact hx) (dl_cons (de_var 0) (dl_cons de_int dl_nil)) (by exact fun _ _ _ _ _ _ us hl => match us, hl with | [_, _], _ => rfl))) de_int)))
    (ds_one (ds_append 4 (de_callB cl_max2 n_max (dl_cons de_int (dl_cons (de_callB cl_min2 n_min (dl_cons (de_bin op_subD (de_var 1) de_int) (dl_cons (de_var 6) dl_nil))) dl_nil)))))))
    (ds_one (ds_retO 4)))))
abbrev s_Lveiled : Stmt := topS 25
theorem sc_Lveiled : FnScope ["_law_source_here", "_law_shelf", "_law_odds", "_law_part"] ["_law_source_here", "_law_shelf"] (defScope s_Lveiled) := ⟨rfl, rfl, rfl, by decide +kernel, rfl, by decide +kernel, by decide +kernel⟩
theorem ok_Lveiled {P : Program} {w : World} {K : PySem.W.Frag} {mg : Str → Option Value} {base : Heap} (a_Lveiled : At K mg "_law_veiled" s_Lveiled) (n_tuple : mg "tuple" = none) (h_Lchoice : Has P w K mg base "_law_choice" s_Lchoice 5 ["_law_source_here", "_law_row_here"] false d_Lchoice) (h_Ldraw : Has P w K mg base "_law_draw" s_Ldraw 4 ["_law_source_here", "_law_bound"] false (d_Ldraw 3)) : Has P w K mg base "_law_veiled" s_Lveiled 6 ["_law_source_here", "_law_shelf"] false d_Lveiled :=
  Has.mk' (k := 5) a_Lveiled sc_Lveiled fun f cdv A outer s H E e0 hr hx hp =>
    (ds_cons (ds_set (m1 := false) (i := 2) sc_Lveiled.nd (de_fn h_Lchoice (by exact hr.mono (by omega)) (by exact hx) (dl_cons (de_var 0) (dl_cons (de_lst (m := false) (dl_cons de_int (dl_cons de_int (dl_cons de_int (dl_cons de_int dl_nil))))) dl_nil)) (by exact fun _ _ _ _ _ _ us hl => match us, hl with | [_, _], _ => rfl)))
    (ds_one (ds_ret (de_callTy cl_tuple n_tuple (dl_cons (de_comp (m := false) (own := [("_law_part", 3)]) sc_Lveiled.nd (di_seq (de_var 1)) (blkOk_by (by kernel_rfl)) (gN_noerr 3) (fun _ _ _ _ _ => (dg_name (i := 3) sc_Lveiled.nd)) (fun _ _ _ _ _ => dts_nil) (fun _ _ _ _ _ => (de_if (dt_w (dw_and (dt_cmp op_isnotD (de_var 3) de_non) (dw_and1 (dt_cmp (op_ltD (room0 hr)) (de_fn h_Ldraw (by exact hr.mono (by omega)) (by exact passD) (dl_cons (de_var 0) (dl_cons de_int dl_nil)) (by exact fun _ _ _ _ _ _ us hl => match us, hl with | [_, _], _ => rfl)) (de_var 2))))) de_str (de_var 3)))) dl_nil)))))
abbrev s_Lcase : Stmt := topS 26
theorem sc_Lcase : FnScope ["_law_source_here", "_law_most", "_law_width", "_law_shelf", "_law_queue"] ["_law_source_here", "_law_most"] (defScope s_Lcase) := ⟨rfl, rfl, rfl, by decide +kernel, rfl, by decide +kernel, by decide +kernel⟩
theorem ok_Lcase {P : Program} {w : World} {K : PySem.W.Frag} {mg : Str → Option Value} {base : Heap} (a_Lcase : At K mg "_law_case" s_Lcase) (h_Ldraw : Has P w K mg base "_law_draw" s_Ldraw 4 ["_law_source_here", "_law_bound"] false (d_Ldraw 3)) (h_Lfill : Has P w K mg base "_law_fill" s_Lfill 1 ["_law_width", "_law_hopes_here"] false d_Lfill) (h_Lhopes : Has P w K mg base "_law_hopes" s_Lhopes 5 ["_law_source_here", "_law_width"] true d_Lhopes) (h_Lveiled : Has P w K mg base "_law_veiled" s_Lveiled 6 ["_law_source_here", "_law_shelf"] false d_Lveiled) : Has P w K mg base "_law_case" s_Lcase 7 ["_law_source_here", "_law_most"] false d_Lcase :=
  Has.mk' (k := 6) a_Lcase sc_Lcase fun f cdv A outer s H E e0 hr hx hp =>
    (ds_cons (ds_set (m1 := false) (i := 2) sc_Lcase.nd (de_bin op_addD de_int (de_fn h_Ldraw (by exact hr.mono (by omega)) (by exact hx) (dl_cons (de_var 0) (dl_cons (de_var 1) dl_nil)) (by exact fun _ _ _ _ _ _ us hl => match us, hl with | [_, _], _ => rfl))))
    (ds_cons (ds_asg (vs := [3, 4]) (de_fn h_Lfill (by exact hr.mono (by omega)) (by exact hx) (dl_cons (de_var 2) (dl_cons (DE.sh (de_fn h_Lhopes (by exact hr.mono (by omega)) (by exact hx) (dl_cons (de_var 0) (dl_cons (de_var 2) dl_nil)) (by exact fun _ _ _ _ _ _ us hl => match us, hl with | [_, _], _ => rfl))) dl_nil)) (by exact fun _ _ _ _ _ _ us hl => match us, hl with | [_, _], _ => rfl)) (dg_tup (pgs_consN (i := 3) sc_Lcase.nd (pgs_consN (i := 4) sc_Lcase.nd pgs_nilN))) (tg_names [3, 4]))
    (ds_one (ds_ret (de_tup (dl_cons (de_fn h_Lveiled (by exact hr.mono (by omega)) (by exact hx) (dl_cons (de_var 0) (dl_cons (de_var 3) dl_nil)) (by exact fun _ _ _ _ _ _ us hl => match us, hl with | [_, _], _ => rfl)) (dl_cons (de_var 4) dl_nil)))))))
abbrev s_Lspoiled : Stmt := topS 27
theorem sc_Lspoiled : FnScope ["_law_source_here", "_law_shelf", "_law_found", "_law_turn"] ["_law_source_here", "_law_shelf"] (defScope s_Lspoiled) := ⟨rfl, rfl, rfl, by decide +kernel, rfl, by decide +kernel, by decide +kernel⟩
theorem ok_Lspoiled {P : Program} {w : World} {K : PySem.W.Frag} {mg : Str → Option Value} {base : Heap} (a_Lspoiled : At K mg "_law_spoiled" s_Lspoiled) (n_len : mg "len" = none) (n_list : mg "list" = none) (n_range : mg "range" = none) (n_tuple : mg "tuple" = none) (h_Ldraw : Has P w K mg base "_law_draw" s_Ldraw 4 ["_law_source_here", "_law_bound"] false (d_Ldraw 3)) (h_Lchoice : Has P w K mg base "_law_choice" s_Lchoice 5 ["_law_source_here", "_law_row_here"] false d_Lchoice) : Has P w K mg base "_law_spoiled" s_Lspoiled 6 ["_law_source_here", "_law_shelf"] false d_Lspoiled :=
  Has.mk' (k := 5) a_Lspoiled sc_Lspoiled fun f cdv A outer s H E e0 hr hx hp =>
    (ds_cons (ds_set (m1 := true) (i := 2) sc_Lspoiled.nd (de_callTy (cl_list (m := true)) n_list (dl_cons (de_var 1) dl_nil)))
    (ds_cons (ds_for (vs := [3]) hp (di_range1 n_range (dl_cons (de_bin op_addD de_int (de_fn h_Ldraw (by exact hr.mono (by omega)) (by exact hx) (dl_cons (de_var 0) (dl_cons de_int dl_nil)) (by exact fun _ _ _ _ _ _ us hl => match us, hl with | [_, _], _ => rfl))) dl_nil)) (dg_name (i := 3) sc_Lspoiled.nd) (tg_name 3)
    (ds_one (ds_setIx 2 (de_fn h_Lchoice (by exact hr.mono (by omega)) (by exact hx) (dl_cons (de_var 0) (dl_cons (de_bin op_addD (de_bin op_mulD (de_listRg (m := false) n_list (dr_1 n_range (de_callB cl_len n_len (dl_cons (de_var 1) dl_nil)))) de_int) (de_lst (m := false) (dl_cons de_non (dl_cons de_str dl_nil)))) dl_nil)) (by exact fun _ _ _ _ _ _ us hl => match us, hl with | [_, _], _ => rfl)) (de_fn h_Ldraw (by exact hr.mono (by omega)) (by exact hx) (dl_cons (de_var 0) (dl_cons (de_callB cl_len n_len (dl_cons (de_var 1) dl_nil)) dl_nil)) (by exact fun _ _ _ _ _ _ us hl => match us, hl with | [_, _], _ => rfl)))))
    (ds_one (ds_frz 2 (ds_ret (de_callTy cl_tuple n_tuple (dl_cons (de_var 2) dl_nil)))))))
abbrev s_Lany : Stmt := topS 28
theorem sc_Lany : FnScope ["_law_source_here", "_law_most", "_law_shelf", "_law_queue"] ["_law_source_here", "_law_most"] (defScope s_Lany) := ⟨rfl, rfl, rfl, by decide +kernel, rfl, by decide +kernel, by decide +kernel⟩
theorem ok_Lany {P : Program} {w : World} {K : PySem.W.Frag} {mg : Str → Option Value} {base : Heap} (a_Lany : At K mg "_law_any" s_Lany) (h_Lcase : Has P w K mg base "_law_case" s_Lcase 7 ["_law_source_here", "_law_most"] false d_Lcase) (h_Ldraw : Has P w K mg base "_law_draw" s_Ldraw 4 ["_law_source_here", "_law_bound"] false (d_Ldraw 3)) (h_Lspoiled : Has P w K mg base "_law_spoiled" s_Lspoiled 6 ["_law_source_here", "_law_shelf"] false d_Lspoiled) : Has P w K mg base "_law_any" s_Lany 8 ["_law_source_here", "_law_most"] false d_Lany :=
  Has.mk' (k := 7) a_Lany sc_Lany fun f cdv A outer s H E e0 hr hx hp =>
    (ds_cons (ds_asg (vs := [2, 3]) (de_fn h_Lcase (by exact hr.mono (by omega)) (by exact hx) (dl_cons (de_var 0) (dl_cons (de_var 1) dl_nil)) (by exact fun _ _ _ _ _ _ us hl => match us, hl with | [_, _], _ => rfl)) (dg_tup (pgs_consN (i := 2) sc_Lany.nd (pgs_consN (i := 3) sc_Lany.nd pgs_nilN))) (tg_names [2, 3]))
    (ds_one (ds_ret (de_if (dt_cmp (op_eqDD (room64 hr)) (de_fn h_Ldraw (by exact hr.mono (by omega)) (by exact hx) (dl_cons (de_var 0) (dl_cons de_int dl_nil)) (by exact fun _ _ _ _ _ _ us hl => match us, hl with | [_, _], _ => rfl)) de_int) (de_fn h_Lspoiled (by exact hr.mono (by omega)) (by exact hx) (dl_cons (de_var 0) (dl_cons (de_var 2) dl_nil)) (by exact fun _ _ _ _ _ _ us hl => match us, hl with | [_, _], _ => rfl)) (de_var 2)))))
abbrev s_Lfull_spots : Stmt := topS 29
theorem sc_Lfull_spots : FnScope ["_law_shelf", "_law_spot", "_law_part"] ["_law_shelf"] (defScope s_Lfull_spots) := ⟨rfl, rfl, rfl, by decide +kernel, rfl, by decide +kernel, by decide +kernel⟩
theorem ok_Lfull_spots {P : Program} {w : World} {K : PySem.W.Frag} {mg : Str → Option Value} {base : Heap} (a_Lfull_spots : At K mg "_law_full_spots" s_Lfull_spots) (n_enumerate : mg "enumerate" = none) : Has P w K mg base "_law_full_spots" s_Lfull_spots 1 ["_law_shelf"] true d_Lfull_spots :=
  Has.mk' (k := 0) a_Lfull_spots sc_Lfull_spots fun f cdv A outer s H E e0 hr hx hp =>
    (ds_one (ds_ret (de_comp (m := true) (own := [("_law_spot", 1), ("_law_part", 2)]) sc_Lfull_spots.nd (di_enum n_enumerate (dl_cons (de_var 0) dl_nil)) (blkOk_by (by kernel_rfl)) (gNs_noerr [1, 2]) (fun _ _ _ _ _ => (dg_tup (pgs_consN (i := 1) sc_Lfull_spots.nd (pgs_consN (i := 2) sc_Lfull_spots.nd pgs_nilN)))) (fun _ _ _ _ _ => (dts_one (dt_cmp op_isnotD (de_var 2) de_non))) (fun _ _ _ _ _ => (de_var 1)))))
abbrev s_Lwanted : Stmt := topS 30
theorem sc_Lwanted : FnScope ["_law_shelf", "_law_spot"] ["_law_shelf", "_law_spot"] (defScope s_Lwanted) := ⟨rfl, rfl, rfl, by decide +kernel, rfl, by decide +kernel, by decide +kernel⟩
theorem ok_Lwanted {P : Program} {w : World} {K : PySem.W.Frag} {mg : Str → Option Value} {base : Heap} (a_Lwanted : At K mg "_law_wanted" s_Lwanted) (n_len : mg "len" = none) (h_Lneeds : Has P w K mg base "_law_needs" s_Lneeds 1 ["_law_width", "_law_spot", "_law_hope"] true d_Lneeds) : Has P w K mg base "_law_wanted" s_Lwanted 2 ["_law_shelf", "_law_spot"] true d_Lwanted :=
  Has.mk' (k := 1) a_Lwanted sc_Lwanted fun f cdv A outer s H E e0 hr hx hp =>
    (ds_one (ds_ret (de_if (dt_cmp (op_eqDD (room64 hr)) (de_ix (de_var 0) (de_var 1)) de_str) (de_lst (m := true) dl_nil) (de_fn h_Lneeds (by exact hr.mono (by omega)) (by exact hx) (dl_cons (de_callB cl_len n_len (dl_cons (de_var 0) dl_nil)) (dl_cons (de_var 1) (dl_cons (de_ix (de_var 0) (de_var 1)) dl_nil))) (by exact fun _ _ _ _ _ _ us hl => match us, hl with | [_, _, _], _ => rfl)))))
abbrev s_Lfitting : Stmt := topS 31
theorem sc_Lfitting : FnScope ["_law_shelf", "_law_found", "_law_spots", "_law_wants", "_law_spot", "_law_turn", "_law_longer", "_law_some", "_law_ready_spots", "_law_at"] ["_law_shelf"] (defScope s_Lfitting) := ⟨rfl, rfl, rfl, by decide +kernel, rfl, by decide +kernel, by decide +kernel⟩
theorem ok_Lfitting {P : Program} {w : World} {K : PySem.W.Frag} {mg : Str → Option Value} {base : Heap} (a_Lfitting : At K mg "_law_fitting" s_Lfitting) (n_all : mg "all" = none) (n_dict : mg "dict" = none) (h_Lfull_spots : Has P w K mg base "_law_full_spots" s_Lfull_spots 1 ["_law_shelf"] true d_Lfull_spots) (h_Lwanted : Has P w K mg base "_law_wanted" s_Lwanted 2 ["_law_shelf", "_law_spot"] true d_Lwanted) : Has P w K mg base "_law_fitting" s_Lfitting 3 ["_law_shelf"] false d_Lfitting :=
  Has.mk' (k := 2) a_Lfitting sc_Lfitting fun f cdv A outer s H E e0 hr hx hp =>
    (ds_cons (ds_par2 sc_Lfitting.nd (dms_cons (de_lst (m := false) (dl_cons (de_tup dl_nil) dl_nil)) (dms_cons (DE.sh (de_fn h_Lfull_spots (by exact hr.mono (by omega)) (by exact hx) (dl_cons (de_var 0) dl_nil) (by exact fun _ _ _ _ _ _ us hl => match us, hl with | [_], _ => rfl))) dms_nil)))
    (ds_cons (ds_set (m1 := false) (i := 3) sc_Lfitting.nd (de_callTy (cl_dictP (m := false)) n_dict (dl_cons (de_comp (m := false) (own := [("_law_spot", 4)]) sc_Lfitting.nd (di_seq (de_var 2)) (blkOk_by (by kernel_rfl)) (gN_noerr 4) (fun _ _ _ _ _ => (dg_name (i := 4) sc_Lfitting.nd)) (fun _ _ _ _ _ => dts_nil) (fun _ _ _ _ _ => (de_tup (dl_cons (de_var 4) (dl_cons (DE.sh (de_fn h_Lwanted (by exact hr.mono (by omega)) (by exact passD) (dl_cons (de_var 0) (dl_cons (de_var 4) dl_nil)) (by exact fun _ _ _ _ _ _ us hl => match us, hl with | [_, _], _ => rfl))) dl_nil))))) dl_nil)))
    (ds_cons (ds_for (vs := [5]) hp (di_seq (de_var 2)) (dg_name (i := 5) sc_Lfitting.nd) (tg_name 5)
    (ds_cons (ds_set (m1 := true) (i := 6) sc_Lfitting.nd (de_lst (m := true) dl_nil))
    (ds_cons (ds_for (vs := [7]) hp (di_seq (de_var 1)) (dg_name (i := 7) sc_Lfitting.nd) (tg_name 7)
    (ds_cons (ds_setComp (m1 := false) (i := 8) (own := [("_law_spot", 4)]) sc_Lfitting.nd (di_seq (de_var 2)) (blkOk_by (by kernel_rfl)) (gN_noerr 4) (fun _ _ _ _ _ => (dg_name (i := 4) sc_Lfitting.nd)) (fun _ _ _ _ _ => (dts_one (dt_w (dw_and (dt_cmp (op_notInDD (room65 hr)) (de_var 4) (de_var 7)) (dw_and1 (dt_val (de_callB cl_all n_all (dl_cons (de_comp (m := false) (own := [("_law_at", 9)]) sc_Lfitting.nd (di_seq (de_ixD (room65 hr) (de_var 3) (de_var 4))) (blkOk_by (by kernel_rfl)) (gN_noerr 9) (fun _ _ _ _ _ => (dg_name (i := 9) sc_Lfitting.nd)) (fun _ _ _ _ _ => dts_nil) (fun _ _ _ _ _ => (de_cmp (op_inDD (room65 hr)) (de_var 9) (de_var 7)))) dl_nil)))))))) (fun _ _ _ _ _ => (de_var 4)))
    (ds_one (ds_extend 6 (de_comp (m := false) (own := [("_law_spot", 4)]) sc_Lfitting.nd (di_seq (de_var 8)) (blkOk_by (by kernel_rfl)) (gN_noerr 4) (fun _ _ _ _ _ => (dg_name (i := 4) sc_Lfitting.nd)) (fun _ _ _ _ _ => dts_nil) (fun _ _ _ _ _ => (de_bin op_addD (de_var 7) (de_tup (dl_cons (de_var 4) dl_nil)))))))))
    (ds_one (ds_frz 6 (ds_set (m1 := false) (i := 1) sc_Lfitting.nd (de_var 6)))))))
    (ds_one (ds_ret (de_var 1))))))
abbrev s_Lholds : Stmt := topS 32
theorem sc_Lholds : FnScope ["_law_source_here", "_law_shelf", "_law_every", "_law_spots", "_law_leads", "_law_turn", "_law_queue", "_law_lead", "_law_good", "_law_due", "_law_soft", "_law_told", "_law_found"] ["_law_source_here"] (defScope s_Lholds) := ⟨rfl, rfl, rfl, by decide +kernel, rfl, by decide +kernel, by decide +kernel⟩
def b_Lholds_k11 : DS → M Fl :=
  (sSeq (sSet false 1 (eArgs (callN 2 d_Lany) (lCons (eVar 0) (lCons (eC (.int 6)) lNil))))
    (sSeq (sPar [2, 3] [false, false] (lCons (eArgs (callN 1 d_Lfitting) (lCons (eVar 1) lNil)) (lCons (eArgs (callN 1 d_Lfull_spots) (lCons (eVar 1) lNil)) lNil)))
    (sSeq (sSet true 4 (eArgs mkL (lCons (eArgs mkT lNil) (lCons (eArgs kTuple (lCons (eVar 3) lNil)) (lCons (eArgs kTuple (lCons (eRev (eVar 3)) lNil)) lNil)))))
    (sSeq (sFor (iArgs rng1 (lCons (eC (.int 14)) lNil)) (gN 5)
    (sSeq (sSet false 6 (eArgs (callN 2 d_Lshuffled) (lCons (eVar 0) (lCons (eVar 3) lNil))))
    (sSeq (sIf (eAnd (eTst (eBin kNe (eVar 2) (eArgs mkL lNil))) (eTst (eBin kGt (eArgs (callN 2 (d_Ldraw 3)) (lCons (eVar 0) (lCons (eC (.int 3)) lNil))) (eC (.int 0)))))
    (sSet false 6 (eArgs (callN 2 d_Lchoice) (lCons (eVar 0) (lCons (eVar 2) lNil))))
    sNil)
    (sOwn 4 kApp (eSl kSl (eArgs kTuple (lCons (eVar 6) lNil)) oNone (oSome (eArgs (callN 2 (d_Ldraw 3)) (lCons (eVar 0) (lCons (eBin kAdd (eArgs kLen (lCons (eVar 3) lNil)) (eC (.int 1))) lNil)))))))))
    (sSeq (sFrz 4 (sFor (iSeq (eVar 4)) (gN 7)
    (sSeq (sSet false 8 (eComp (iSeq (eVar 2)) [6] (gN 6) (eTst (eBin kEq (eSl kSl (eVar 6) oNone (oSome (eArgs kLen (lCons (eVar 7) lNil)))) (eVar 7))) (eVar 6)))
    (sSeq (sSet false 9 (eArgs kSortSetL (lCons (eComp (iSeq (eVar 8)) [6] (gN 6) (eTst (eBin kGt (eArgs kLen (lCons (eVar 6) lNil)) (eArgs kLen (lCons (eVar 7) lNil)))) (eBin kIx (eVar 6) (eArgs kLen (lCons (eVar 7) lNil)))) lNil)))
    (sSeq (sSet false 10 (eArgs kList (lCons (eVar 7) lNil)))
    (sSeq (sSet false 11 (eArgs mkL (lCons (eArgs (callN 2 d_count_after) (lCons (eVar 1) (lCons (eVar 7) lNil))) (lCons (eArgs (kwN 2 [1, 0] 2 d_count_after) (lCons (eVar 10) (lCons (eArgs kList (lCons (eVar 1) lNil)) lNil))) lNil))))
    (sSeq (sIf (eNot (eTst (eArgs (callN 2 (d_Lequal 8)) (lCons (eVar 11) (lCons (eBin kMul (eArgs mkL (lCons (eArgs kLen (lCons (eVar 8) lNil)) lNil)) (eC (.int 2))) lNil)))))
    (sRet (eC (.bl false)))
    sNil)
    (sSeq (sSet true 12 (eArgs (callN 2 d_next_cells) (lCons (eVar 1) (lCons (eVar 7) lNil))))
    (sSeq (sIf (tBor 12 (eNot (eTst (eArgs (callN 2 (d_Lequal 8)) (lCons (eVar 12) (lCons (eVar 9) lNil))))))
    (sRet (eC (.bl false)))
    sNil)
    (sSeq (sOwn 12 kApp (eC (.str "more")))
    (sIf (eOr (eNot (eTst (eArgs (callN 2 (d_Lequal 8)) (lCons (eArgs (kwN 2 [1, 0] 2 d_next_cells) (lCons (eVar 10) (lCons (eArgs kList (lCons (eVar 1) lNil)) lNil))) (lCons (eVar 9) lNil))))) (eTst (eBin kNe (eVar 10) (eArgs kList (lCons (eVar 7) lNil)))))
    (sRet (eC (.bl false)))
    sNil)))))))))))
    (sRet (eC (.bl true))))))))
def d_Lholds_k11 : List D → M D := runD 13 false b_Lholds_k11
theorem ok_Lholds {P : Program} {w : World} {K : PySem.W.Frag} {mg : Str → Option Value} {base : Heap} (a_Lholds : At K mg "_law_holds" s_Lholds) (n_len : mg "len" = none) (n_list : mg "list" = none) (n_range : mg "range" = none) (n_set : mg "set" = none) (n_sorted : mg "sorted" = none) (n_tuple : mg "tuple" = none) (h_Lany : Has P w K mg base "_law_any" s_Lany 8 ["_law_source_here", "_law_most"] false d_Lany) (h_Lfull_spots : Has P w K mg base "_law_full_spots" s_Lfull_spots 1 ["_law_shelf"] true d_Lfull_spots) (h_Lfitting : Has P w K mg base "_law_fitting" s_Lfitting 3 ["_law_shelf"] false d_Lfitting) (h_Lshuffled : Has P w K mg base "_law_shuffled" s_Lshuffled 5 ["_law_source_here", "_law_row_here"] true d_Lshuffled) (h_Ldraw : Has P w K mg base "_law_draw" s_Ldraw 4 ["_law_source_here", "_law_bound"] false (d_Ldraw 3)) (h_Lchoice : Has P w K mg base "_law_choice" s_Lchoice 5 ["_law_source_here", "_law_row_here"] false d_Lchoice) (h_count_after : Has P w K mg base "count_after" s_count_after 5 ["table", "beginning"] false d_count_after) (h_Lequal : Has P w K mg base "_law_equal" s_Lequal 9 ["_law_found", "_law_due"] false (d_Lequal 8)) (h_next_cells : Has P w K mg base "next_cells" s_next_cells 6 ["table", "beginning"] true d_next_cells) : Has P w K mg base "_law_holds" s_Lholds 10 ["_law_source_here"] false d_Lholds_k11 :=
  Has.mk' (k := 9) a_Lholds sc_Lholds fun f cdv A outer s H E e0 hr hx hp =>
    (ds_cons (ds_set (m1 := false) (i := 1) sc_Lholds.nd (de_fn h_Lany (by exact hr.mono (by omega)) (by exact hx) (dl_cons (de_var 0) (dl_cons de_int dl_nil)) (by exact fun _ _ _ _ _ _ us hl => match us, hl with | [_, _], _ => rfl)))
    (ds_cons (ds_par2 sc_Lholds.nd (dms_cons (de_fn h_Lfitting (by exact hr.mono (by omega)) (by exact hx) (dl_cons (de_var 1) dl_nil) (by exact fun _ _ _ _ _ _ us hl => match us, hl with | [_], _ => rfl)) (dms_cons (DE.sh (de_fn h_Lfull_spots (by exact hr.mono (by omega)) (by exact hx) (dl_cons (de_var 1) dl_nil) (by exact fun _ _ _ _ _ _ us hl => match us, hl with | [_], _ => rfl))) dms_nil)))
    (ds_cons (ds_set (m1 := true) (i := 4) sc_Lholds.nd (de_lst (m := true) (dl_cons (de_tup dl_nil) (dl_cons (de_callTy cl_tuple n_tuple (dl_cons (de_var 3) dl_nil)) (dl_cons (de_callTy cl_tuple n_tuple (dl_cons (de_rev (m := false) (de_var 3)) dl_nil)) dl_nil)))))
    (ds_cons (ds_for (vs := [5]) hp (di_range1 n_range (dl_cons de_int dl_nil)) (dg_name (i := 5) sc_Lholds.nd) (tg_name 5)
    (ds_cons (ds_set (m1 := false) (i := 6) sc_Lholds.nd (DE.sh (de_fn h_Lshuffled (by exact hr.mono (by omega)) (by exact hx) (dl_cons (de_var 0) (dl_cons (de_var 3) dl_nil)) (by exact fun _ _ _ _ _ _ us hl => match us, hl with | [_, _], _ => rfl))))
    (ds_cons (ds_if (dt_w (dw_and (dt_cmp (op_neDD (room64 hr)) (de_var 2) (de_lst (m := false) dl_nil)) (dw_and1 (dt_cmp op_gtD (de_fn h_Ldraw (by exact hr.mono (by omega)) (by exact hx) (dl_cons (de_var 0) (dl_cons de_int dl_nil)) (by exact fun _ _ _ _ _ _ us hl => match us, hl with | [_, _], _ => rfl)) de_int))))
    (ds_one (ds_set (m1 := false) (i := 6) sc_Lholds.nd (de_fn h_Lchoice (by exact hr.mono (by omega)) (by exact hx) (dl_cons (de_var 0) (dl_cons (de_var 2) dl_nil)) (by exact fun _ _ _ _ _ _ us hl => match us, hl with | [_, _], _ => rfl))))
    ds_nil)
    (ds_one (ds_append 4 (de_sl (de_callTy cl_tuple n_tuple (dl_cons (de_var 6) dl_nil)) do_none (do_some (de_fn h_Ldraw (by exact hr.mono (by omega)) (by exact hx) (dl_cons (de_var 0) (dl_cons (de_bin op_addD (de_callB cl_len n_len (dl_cons (de_var 3) dl_nil)) de_int) dl_nil)) (by exact fun _ _ _ _ _ _ us hl => match us, hl with | [_, _], _ => rfl)))))))))
    (ds_cons (ds_frz 4 (ds_for (vs := [7]) hp (di_seq (de_var 4)) (dg_name (i := 7) sc_Lholds.nd) (tg_name 7)
    (ds_cons (ds_setComp (m1 := false) (i := 8) (own := [("_law_queue", 6)]) sc_Lholds.nd (di_seq (de_var 2)) (blkOk_by (by kernel_rfl)) (gN_noerr 6) (fun _ _ _ _ _ => (dg_name (i := 6) sc_Lholds.nd)) (fun _ _ _ _ _ => (dts_one (dt_cmp (op_eqDD (room64 hr)) (de_sl (de_var 6) do_none (do_some (de_callB cl_len n_len (dl_cons (de_var 7) dl_nil)))) (de_var 7)))) (fun _ _ _ _ _ => (de_var 6)))
    (ds_cons (ds_set (m1 := false) (i := 9) sc_Lholds.nd (de_sortedSetL n_sorted n_set (dl_cons (de_comp (m := false) (own := [("_law_queue", 6)]) sc_Lholds.nd (di_seq (de_var 8)) (blkOk_by (by kernel_rfl)) (gN_noerr 6) (fun _ _ _ _ _ => (dg_name (i := 6) sc_Lholds.nd)) (fun _ _ _ _ _ => (dts_one (dt_cmp op_gtD (de_callB cl_len n_len (dl_cons (de_var 6) dl_nil)) (de_callB cl_len n_len (dl_cons (de_var 7) dl_nil))))) (fun _ _ _ _ _ => (de_ix (de_var 6) (de_callB cl_len n_len (dl_cons (de_var 7) dl_nil))))) dl_nil)))
    (ds_cons (ds_set (m1 := false) (i := 10) sc_Lholds.nd (de_callTy (cl_list (m := false)) n_list (dl_cons (de_var 7) dl_nil)))
    (ds_cons (ds_set (m1 := false) (i := 11) sc_Lholds.nd (de_lst (m := false) (dl_cons (de_fn h_count_after (by exact hr.mono (by omega)) (by exact hx) (dl_cons (de_var 1) (dl_cons (de_var 7) dl_nil)) (by exact fun _ _ _ _ _ _ us hl => match us, hl with | [_, _], _ => rfl)) (dl_cons (de_fnK ["beginning", "table"] [1, 0] h_count_after (by exact hr.mono (by omega)) (by exact hx) (dk_cons (de_var 10) (dk_cons (de_callTy (cl_list (m := false)) n_list (dl_cons (de_var 1) dl_nil)) dk_nil)) (by exact fun _ _ _ _ _ _ us hl => match us, hl with | [_, _], _ => rfl)) dl_nil))))
    (ds_cons (ds_if (dt_not (dt_val (de_fn h_Lequal (by exact hr.mono (by omega)) (by exact hx) (dl_cons (de_var 11) (dl_cons (de_bin op_mulD (de_lst (m := false) (dl_cons (de_callB cl_len n_len (dl_cons (de_var 8) dl_nil)) dl_nil)) de_int) dl_nil)) (by exact fun _ _ _ _ _ _ us hl => match us, hl with | [_, _], _ => rfl))))
    (ds_one (ds_ret de_bl))
    ds_nil)
    (ds_cons (ds_set (m1 := true) (i := 12) sc_Lholds.nd (de_fn h_next_cells (by exact hr.mono (by omega)) (by exact hx) (dl_cons (de_var 1) (dl_cons (de_var 7) dl_nil)) (by exact fun _ _ _ _ _ _ us hl => match us, hl with | [_, _], _ => rfl)))
    (ds_cons (ds_if (dt_bor 12 (dt_not (dt_val (de_fn h_Lequal (by exact hr.mono (by omega)) (by exact hx) (dl_cons (de_var 12) (dl_cons (de_var 9) dl_nil)) (by exact fun _ _ _ _ _ _ us hl => match us, hl with | [_, _], _ => rfl)))))
    (ds_one (ds_ret de_bl))
    ds_nil)
    (ds_cons (ds_append 12 de_str)
    (ds_one (ds_if (dt_w (dw_or (dt_not (dt_val (de_fn h_Lequal (by exact hr.mono (by omega)) (by exact hx) (dl_cons (DE.sh (de_fnK ["beginning", "table"] [1, 0] h_next_cells (by exact hr.mono (by omega)) (by exact hx) (dk_cons (de_var 10) (dk_cons (de_callTy (cl_list (m := false)) n_list (dl_cons (de_var 1) dl_nil)) dk_nil)) (by exact fun _ _ _ _ _ _ us hl => match us, hl with | [_, _], _ => rfl))) (dl_cons (de_var 9) dl_nil)) (by exact fun _ _ _ _ _ _ us hl => match us, hl with | [_, _], _ => rfl)))) (dw_or1 (dt_cmp (op_neDD (room64 hr)) (de_var 10) (de_callTy (cl_list (m := false)) n_list (dl_cons (de_var 7) dl_nil))))))
    (ds_one (ds_ret de_bl))
    ds_nil))))))))))))
    (ds_one (ds_ret de_bl)))))))
abbrev s_law : Stmt := topS 33
theorem sc_law : FnScope ["_law_script", "_law_index", "_law_source_here", "_law_turn"] ["_law_script"] (defScope s_law) := ⟨rfl, rfl, rfl, by decide +kernel, rfl, by decide +kernel, by decide +kernel⟩
def b_law_k11 : DS → M Fl :=
  (sSeq (sFor (iArgs rng1 (lCons (eArgs kMax2 (lCons (eC (.int 1)) (lCons (eArgs kMin2 (lCons (eC (.int 3)) (lCons (eArgs kLen (lCons (eVar 0) lNil)) lNil))) lNil))) lNil)) (gN 1)
    (sSeq (sSet false 2 (eArgs (callN 2 d_Lsource) (lCons (eVar 0) (lCons (eVar 1) lNil))))
    (sIf (eNot (eTst (eArgs (kOfBls fun bs => M.pure (.bl (bs.all id))) (lCons (eComp (iArgs rng1 (lCons (eC (.int 2)) lNil)) [3] (gN 3) tYesD (eArgs (callN 1 d_Lholds_k11) (lCons (eVar 2) lNil))) lNil))))
    (sRet (eC (.bl false)))
    sNil)))
    (sRet (eC (.bl true))))
def d_law_k11 : List D → M D := runD 4 false b_law_k11
theorem ok_law {P : Program} {w : World} {K : PySem.W.Frag} {mg : Str → Option Value} {base : Heap} (a_law : At K mg "law" s_law) (n_all : mg "all" = none) (n_len : mg "len" = none) (n_max : mg "max" = none) (n_min : mg "min" = none) (n_range : mg "range" = none) (h_Lsource : Has P w K mg base "_law_source" s_Lsource 1 ["_law_script", "_law_index"] false d_Lsource) (h_Lholds : Has P w K mg base "_law_holds" s_Lholds 10 ["_law_source_here"] false d_Lholds_k11) : Has P w K mg base "law" s_law 11 ["_law_script"] false d_law_k11 :=
  Has.mk' (k := 10) a_law sc_law fun f cdv A outer s H E e0 hr hx hp =>
    (ds_cons (ds_for (vs := [1]) hp (di_range1 n_range (dl_cons (de_callB cl_max2 n_max (dl_cons de_int (dl_cons (de_callB cl_min2 n_min (dl_cons de_int (dl_cons (de_callB cl_len n_len (dl_cons (de_var 0) dl_nil)) dl_nil))) dl_nil))) dl_nil)) (dg_name (i := 1) sc_law.nd) (tg_name 1)
    (ds_cons (ds_set (m1 := false) (i := 2) sc_law.nd (de_fn h_Lsource (by exact hr.mono (by omega)) (by exact hx) (dl_cons (de_var 0) (dl_cons (de_var 1) dl_nil)) (by exact fun _ _ _ _ _ _ us hl => match us, hl with | [_, _], _ => rfl)))
    (ds_one (ds_if (dt_not (dt_val (de_callB cl_all n_all (dl_cons (de_comp (m := false) (own := [("_law_turn", 3)]) sc_law.nd (di_range1 n_range (dl_cons de_int dl_nil)) (blkOk_by (by kernel_rfl)) (gN_noerr 3) (fun _ _ _ _ _ => (dg_name (i := 3) sc_law.nd)) (fun _ _ _ _ _ => dts_nil) (fun _ _ _ _ _ => (de_fn h_Lholds (by exact hr.mono (by omega)) (by exact passD) (dl_cons (de_var 2) dl_nil) (by exact fun _ _ _ _ _ _ us hl => match us, hl with | [_], _ => rfl)))) dl_nil))))
    (ds_one (ds_ret de_bl))
    ds_nil))))
    (ds_one (ds_ret de_bl)))
theorem all_mk {l : PySem.W.OpenLaw} {w : World} {K : PySem.W.Frag} {h : Heap} {mg : Str → Option Value} {fa : Addr} (X : K.In h) (G : h.Ns mainGlobals mg) (hfa : mg "law" = some (.ref fa))
    {f0 : Addr} {od0 an0 : Option Addr} {sl0 : Array (Option Value)} {oc0 kV0 dc0 pm0 cd0 ct0 : Value}
    {f1 : Addr} {od1 an1 : Option Addr} {sl1 : Array (Option Value)} {oc1 kV1 dc1 pm1 cd1 ct1 : Value}
    {f2 : Addr} {od2 an2 : Option Addr} {sl2 : Array (Option Value)} {oc2 kV2 dc2 pm2 cd2 ct2 : Value}
    {f3 : Addr} {od3 an3 : Option Addr} {sl3 : Array (Option Value)} {oc3 kV3 dc3 pm3 cd3 ct3 : Value}
    {f4 : Addr} {od4 an4 : Option Addr} {sl4 : Array (Option Value)} {oc4 kV4 dc4 pm4 cd4 ct4 : Value}
    {f5 : Addr} {od5 an5 : Option Addr} {sl5 : Array (Option Value)} {oc5 kV5 dc5 pm5 cd5 ct5 : Value}
    {f6 : Addr} {od6 an6 : Option Addr} {sl6 : Array (Option Value)} {oc6 kV6 dc6 pm6 cd6 ct6 : Value}
    {f7 : Addr} {od7 an7 : Option Addr} {sl7 : Array (Option Value)} {oc7 kV7 dc7 pm7 cd7 ct7 : Value}
    {f8 : Addr} {od8 an8 : Option Addr} {sl8 : Array (Option Value)} {oc8 kV8 dc8 pm8 cd8 ct8 : Value}
    {f9 : Addr} {od9 an9 : Option Addr} {sl9 : Array (Option Value)} {oc9 kV9 dc9 pm9 cd9 ct9 : Value}
    {f10 : Addr} {od10 an10 : Option Addr} {sl10 : Array (Option Value)} {oc10 kV10 dc10 pm10 cd10 ct10 : Value}
    {f11 : Addr} {od11 an11 : Option Addr} {sl11 : Array (Option Value)} {oc11 kV11 dc11 pm11 cd11 ct11 : Value}
    {f12 : Addr} {od12 an12 : Option Addr} {sl12 : Array (Option Value)} {oc12 kV12 dc12 pm12 cd12 ct12 : Value}
    {f13 : Addr} {od13 an13 : Option Addr} {sl13 : Array (Option Value)} {oc13 kV13 dc13 pm13 cd13 ct13 : Value}
    {f14 : Addr} {od14 an14 : Option Addr} {sl14 : Array (Option Value)} {oc14 kV14 dc14 pm14 cd14 ct14 : Value}
    {f15 : Addr} {od15 an15 : Option Addr} {sl15 : Array (Option Value)} {oc15 kV15 dc15 pm15 cd15 ct15 : Value}
    {f16 : Addr} {od16 an16 : Option Addr} {sl16 : Array (Option Value)} {oc16 kV16 dc16 pm16 cd16 ct16 : Value}
    {f17 : Addr} {od17 an17 : Option Addr} {sl17 : Array (Option Value)} {oc17 kV17 dc17 pm17 cd17 ct17 : Value}
    {f18 : Addr} {od18 an18 : Option Addr} {sl18 : Array (Option Value)} {oc18 kV18 dc18 pm18 cd18 ct18 : Value}
    {f19 : Addr} {od19 an19 : Option Addr} {sl19 : Array (Option Value)} {oc19 kV19 dc19 pm19 cd19 ct19 : Value}
    {f20 : Addr} {od20 an20 : Option Addr} {sl20 : Array (Option Value)} {oc20 kV20 dc20 pm20 cd20 ct20 : Value}
    {f21 : Addr} {od21 an21 : Option Addr} {sl21 : Array (Option Value)} {oc21 kV21 dc21 pm21 cd21 ct21 : Value}
    {f22 : Addr} {od22 an22 : Option Addr} {sl22 : Array (Option Value)} {oc22 kV22 dc22 pm22 cd22 ct22 : Value}
    {f23 : Addr} {od23 an23 : Option Addr} {sl23 : Array (Option Value)} {oc23 kV23 dc23 pm23 cd23 ct23 : Value}
    {f24 : Addr} {od24 an24 : Option Addr} {sl24 : Array (Option Value)} {oc24 kV24 dc24 pm24 cd24 ct24 : Value}
    {f25 : Addr} {od25 an25 : Option Addr} {sl25 : Array (Option Value)} {oc25 kV25 dc25 pm25 cd25 ct25 : Value}
    {f26 : Addr} {od26 an26 : Option Addr} {sl26 : Array (Option Value)} {oc26 kV26 dc26 pm26 cd26 ct26 : Value}
    {f27 : Addr} {od27 an27 : Option Addr} {sl27 : Array (Option Value)} {oc27 kV27 dc27 pm27 cd27 ct27 : Value}
    {f28 : Addr} {od28 an28 : Option Addr} {sl28 : Array (Option Value)} {oc28 kV28 dc28 pm28 cd28 ct28 : Value}
    {t_UNKNOWN : Tok}
    (a0 : PySem.W.nsIn K mainGlobals "needs" = some (some (.ref f0))) (l0 : K.lookup f0 = some ⟨oc0, od0, .func (PySem.W.fnOf "needs" "needs" (defArgs s_needs) (defBody s_needs) (defScope s_needs) .none kV0 dc0 pm0 an0 cd0 ct0), sl0⟩) (c0 : PySem.W.codeIn K cd0 "needs" = true) (k0 : PySem.W.keepIn K (.ref f0) = true)
    (a1 : PySem.W.nsIn K mainGlobals "taken" = some (some (.ref f1))) (l1 : K.lookup f1 = some ⟨oc1, od1, .func (PySem.W.fnOf "taken" "taken" (defArgs s_taken) (defBody s_taken) (defScope s_taken) .none kV1 dc1 pm1 an1 cd1 ct1), sl1⟩) (c1 : PySem.W.codeIn K cd1 "taken" = true) (k1 : PySem.W.keepIn K (.ref f1) = true)
    (a2 : PySem.W.nsIn K mainGlobals "need_of" = some (some (.ref f2))) (l2 : K.lookup f2 = some ⟨oc2, od2, .func (PySem.W.fnOf "need_of" "need_of" (defArgs s_need_of) (defBody s_need_of) (defScope s_need_of) .none kV2 dc2 pm2 an2 cd2 ct2), sl2⟩) (c2 : PySem.W.codeIn K cd2 "need_of" = true) (k2 : PySem.W.keepIn K (.ref f2) = true)
    (a3 : PySem.W.nsIn K mainGlobals "choose" = some (some (.ref f3))) (l3 : K.lookup f3 = some ⟨oc3, od3, .func (PySem.W.fnOf "choose" "choose" (defArgs s_choose) (defBody s_choose) (defScope s_choose) .none kV3 dc3 pm3 an3 cd3 ct3), sl3⟩) (c3 : PySem.W.codeIn K cd3 "choose" = true) (k3 : PySem.W.keepIn K (.ref f3) = true)
    (a4 : PySem.W.nsIn K mainGlobals "gaps" = some (some (.ref f4))) (l4 : K.lookup f4 = some ⟨oc4, od4, .func (PySem.W.fnOf "gaps" "gaps" (defArgs s_gaps) (defBody s_gaps) (defScope s_gaps) .none kV4 dc4 pm4 an4 cd4 ct4), sl4⟩) (c4 : PySem.W.codeIn K cd4 "gaps" = true) (k4 : PySem.W.keepIn K (.ref f4) = true)
    (a5 : PySem.W.nsIn K mainGlobals "bounds" = some (some (.ref f5))) (l5 : K.lookup f5 = some ⟨oc5, od5, .func (PySem.W.fnOf "bounds" "bounds" (defArgs s_bounds) (defBody s_bounds) (defScope s_bounds) .none kV5 dc5 pm5 an5 cd5 ct5), sl5⟩) (c5 : PySem.W.codeIn K cd5 "bounds" = true) (k5 : PySem.W.keepIn K (.ref f5) = true)
    (a6 : PySem.W.nsIn K mainGlobals "is_inside" = some (some (.ref f6))) (l6 : K.lookup f6 = some ⟨oc6, od6, .func (PySem.W.fnOf "is_inside" "is_inside" (defArgs s_is_inside) (defBody s_is_inside) (defScope s_is_inside) .none kV6 dc6 pm6 an6 cd6 ct6), sl6⟩) (c6 : PySem.W.codeIn K cd6 "is_inside" = true) (k6 : PySem.W.keepIn K (.ref f6) = true)
    (a7 : PySem.W.nsIn K mainGlobals "part_table" = some (some (.ref f7))) (l7 : K.lookup f7 = some ⟨oc7, od7, .func (PySem.W.fnOf "part_table" "part_table" (defArgs s_part_table) (defBody s_part_table) (defScope s_part_table) .none kV7 dc7 pm7 an7 cd7 ct7), sl7⟩) (c7 : PySem.W.codeIn K cd7 "part_table" = true) (k7 : PySem.W.keepIn K (.ref f7) = true)
    (a8 : PySem.W.nsIn K mainGlobals "count_of" = some (some (.ref f8))) (l8 : K.lookup f8 = some ⟨oc8, od8, .func (PySem.W.fnOf "count_of" "count_of" (defArgs s_count_of) (defBody s_count_of) (defScope s_count_of) .none kV8 dc8 pm8 an8 cd8 ct8), sl8⟩) (c8 : PySem.W.codeIn K cd8 "count_of" = true) (k8 : PySem.W.keepIn K (.ref f8) = true)
    (a9 : PySem.W.nsIn K mainGlobals "ready" = some (some (.ref f9))) (l9 : K.lookup f9 = some ⟨oc9, od9, .func (PySem.W.fnOf "ready" "ready" (defArgs s_ready) (defBody s_ready) (defScope s_ready) .none kV9 dc9 pm9 an9 cd9 ct9), sl9⟩) (c9 : PySem.W.codeIn K cd9 "ready" = true) (k9 : PySem.W.keepIn K (.ref f9) = true)
    (a10 : PySem.W.nsIn K mainGlobals "count_after" = some (some (.ref f10))) (l10 : K.lookup f10 = some ⟨oc10, od10, .func (PySem.W.fnOf "count_after" "count_after" (defArgs s_count_after) (defBody s_count_after) (defScope s_count_after) .none kV10 dc10 pm10 an10 cd10 ct10), sl10⟩) (c10 : PySem.W.codeIn K cd10 "count_after" = true) (k10 : PySem.W.keepIn K (.ref f10) = true)
    (a11 : PySem.W.nsIn K mainGlobals "next_cells" = some (some (.ref f11))) (l11 : K.lookup f11 = some ⟨oc11, od11, .func (PySem.W.fnOf "next_cells" "next_cells" (defArgs s_next_cells) (defBody s_next_cells) (defScope s_next_cells) .none kV11 dc11 pm11 an11 cd11 ct11), sl11⟩) (c11 : PySem.W.codeIn K cd11 "next_cells" = true) (k11 : PySem.W.keepIn K (.ref f11) = true)
    (a12 : PySem.W.nsIn K mainGlobals "_law_source" = some (some (.ref f12))) (l12 : K.lookup f12 = some ⟨oc12, od12, .func (PySem.W.fnOf "_law_source" "_law_source" (defArgs s_Lsource) (defBody s_Lsource) (defScope s_Lsource) .none kV12 dc12 pm12 an12 cd12 ct12), sl12⟩) (c12 : PySem.W.codeIn K cd12 "_law_source" = true) (k12 : PySem.W.keepIn K (.ref f12) = true)
    (a13 : PySem.W.nsIn K mainGlobals "_law_draw" = some (some (.ref f13))) (l13 : K.lookup f13 = some ⟨oc13, od13, .func (PySem.W.fnOf "_law_draw" "_law_draw" (defArgs s_Ldraw) (defBody s_Ldraw) (defScope s_Ldraw) .none kV13 dc13 pm13 an13 cd13 ct13), sl13⟩) (c13 : PySem.W.codeIn K cd13 "_law_draw" = true) (k13 : PySem.W.keepIn K (.ref f13) = true)
    (a14 : PySem.W.nsIn K mainGlobals "_law_choice" = some (some (.ref f14))) (l14 : K.lookup f14 = some ⟨oc14, od14, .func (PySem.W.fnOf "_law_choice" "_law_choice" (defArgs s_Lchoice) (defBody s_Lchoice) (defScope s_Lchoice) .none kV14 dc14 pm14 an14 cd14 ct14), sl14⟩) (c14 : PySem.W.codeIn K cd14 "_law_choice" = true) (k14 : PySem.W.keepIn K (.ref f14) = true)
    (a15 : PySem.W.nsIn K mainGlobals "_law_equal" = some (some (.ref f15))) (l15 : K.lookup f15 = some ⟨oc15, od15, .func (PySem.W.fnOf "_law_equal" "_law_equal" (defArgs s_Lequal) (defBody s_Lequal) (defScope s_Lequal) .none kV15 dc15 pm15 an15 cd15 ct15), sl15⟩) (c15 : PySem.W.codeIn K cd15 "_law_equal" = true) (k15 : PySem.W.keepIn K (.ref f15) = true)
    (a16 : PySem.W.nsIn K mainGlobals "_law_shuffled" = some (some (.ref f16))) (l16 : K.lookup f16 = some ⟨oc16, od16, .func (PySem.W.fnOf "_law_shuffled" "_law_shuffled" (defArgs s_Lshuffled) (defBody s_Lshuffled) (defScope s_Lshuffled) .none kV16 dc16 pm16 an16 cd16 ct16), sl16⟩) (c16 : PySem.W.codeIn K cd16 "_law_shuffled" = true) (k16 : PySem.W.keepIn K (.ref f16) = true)
    (a17 : PySem.W.nsIn K mainGlobals "_law_needs" = some (some (.ref f17))) (l17 : K.lookup f17 = some ⟨oc17, od17, .func (PySem.W.fnOf "_law_needs" "_law_needs" (defArgs s_Lneeds) (defBody s_Lneeds) (defScope s_Lneeds) .none kV17 dc17 pm17 an17 cd17 ct17), sl17⟩) (c17 : PySem.W.codeIn K cd17 "_law_needs" = true) (k17 : PySem.W.keepIn K (.ref f17) = true)
    (a18 : PySem.W.nsIn K mainGlobals "_law_fill" = some (some (.ref f18))) (l18 : K.lookup f18 = some ⟨oc18, od18, .func (PySem.W.fnOf "_law_fill" "_law_fill" (defArgs s_Lfill) (defBody s_Lfill) (defScope s_Lfill) .none kV18 dc18 pm18 an18 cd18 ct18), sl18⟩) (c18 : PySem.W.codeIn K cd18 "_law_fill" = true) (k18 : PySem.W.keepIn K (.ref f18) = true)
    (a19 : PySem.W.nsIn K mainGlobals "_law_hopes" = some (some (.ref f19))) (l19 : K.lookup f19 = some ⟨oc19, od19, .func (PySem.W.fnOf "_law_hopes" "_law_hopes" (defArgs s_Lhopes) (defBody s_Lhopes) (defScope s_Lhopes) .none kV19 dc19 pm19 an19 cd19 ct19), sl19⟩) (c19 : PySem.W.codeIn K cd19 "_law_hopes" = true) (k19 : PySem.W.keepIn K (.ref f19) = true)
    (a20 : PySem.W.nsIn K mainGlobals "_law_veiled" = some (some (.ref f20))) (l20 : K.lookup f20 = some ⟨oc20, od20, .func (PySem.W.fnOf "_law_veiled" "_law_veiled" (defArgs s_Lveiled) (defBody s_Lveiled) (defScope s_Lveiled) .none kV20 dc20 pm20 an20 cd20 ct20), sl20⟩) (c20 : PySem.W.codeIn K cd20 "_law_veiled" = true) (k20 : PySem.W.keepIn K (.ref f20) = true)
    (a21 : PySem.W.nsIn K mainGlobals "_law_case" = some (some (.ref f21))) (l21 : K.lookup f21 = some ⟨oc21, od21, .func (PySem.W.fnOf "_law_case" "_law_case" (defArgs s_Lcase) (defBody s_Lcase) (defScope s_Lcase) .none kV21 dc21 pm21 an21 cd21 ct21), sl21⟩) (c21 : PySem.W.codeIn K cd21 "_law_case" = true) (k21 : PySem.W.keepIn K (.ref f21) = true)
    (a22 : PySem.W.nsIn K mainGlobals "_law_spoiled" = some (some (.ref f22))) (l22 : K.lookup f22 = some ⟨oc22, od22, .func (PySem.W.fnOf "_law_spoiled" "_law_spoiled" (defArgs s_Lspoiled) (defBody s_Lspoiled) (defScope s_Lspoiled) .none kV22 dc22 pm22 an22 cd22 ct22), sl22⟩) (c22 : PySem.W.codeIn K cd22 "_law_spoiled" = true) (k22 : PySem.W.keepIn K (.ref f22) = true)
    (a23 : PySem.W.nsIn K mainGlobals "_law_any" = some (some (.ref f23))) (l23 : K.lookup f23 = some ⟨oc23, od23, .func (PySem.W.fnOf "_law_any" "_law_any" (defArgs s_Lany) (defBody s_Lany) (defScope s_Lany) .none kV23 dc23 pm23 an23 cd23 ct23), sl23⟩) (c23 : PySem.W.codeIn K cd23 "_law_any" = true) (k23 : PySem.W.keepIn K (.ref f23) = true)
    (a24 : PySem.W.nsIn K mainGlobals "_law_full_spots" = some (some (.ref f24))) (l24 : K.lookup f24 = some ⟨oc24, od24, .func (PySem.W.fnOf "_law_full_spots" "_law_full_spots" (defArgs s_Lfull_spots) (defBody s_Lfull_spots) (defScope s_Lfull_spots) .none kV24 dc24 pm24 an24 cd24 ct24), sl24⟩) (c24 : PySem.W.codeIn K cd24 "_law_full_spots" = true) (k24 : PySem.W.keepIn K (.ref f24) = true)
    (a25 : PySem.W.nsIn K mainGlobals "_law_wanted" = some (some (.ref f25))) (l25 : K.lookup f25 = some ⟨oc25, od25, .func (PySem.W.fnOf "_law_wanted" "_law_wanted" (defArgs s_Lwanted) (defBody s_Lwanted) (defScope s_Lwanted) .none kV25 dc25 pm25 an25 cd25 ct25), sl25⟩) (c25 : PySem.W.codeIn K cd25 "_law_wanted" = true) (k25 : PySem.W.keepIn K (.ref f25) = true)
    (a26 : PySem.W.nsIn K mainGlobals "_law_fitting" = some (some (.ref f26))) (l26 : K.lookup f26 = some ⟨oc26, od26, .func (PySem.W.fnOf "_law_fitting" "_law_fitting" (defArgs s_Lfitting) (defBody s_Lfitting) (defScope s_Lfitting) .none kV26 dc26 pm26 an26 cd26 ct26), sl26⟩) (c26 : PySem.W.codeIn K cd26 "_law_fitting" = true) (k26 : PySem.W.keepIn K (.ref f26) = true)
    (a27 : PySem.W.nsIn K mainGlobals "_law_holds" = some (some (.ref f27))) (l27 : K.lookup f27 = some ⟨oc27, od27, .func (PySem.W.fnOf "_law_holds" "_law_holds" (defArgs s_Lholds) (defBody s_Lholds) (defScope s_Lholds) .none kV27 dc27 pm27 an27 cd27 ct27), sl27⟩) (c27 : PySem.W.codeIn K cd27 "_law_holds" = true) (k27 : PySem.W.keepIn K (.ref f27) = true)
    (a28 : PySem.W.nsIn K mainGlobals "law" = some (some (.ref f28))) (l28 : K.lookup f28 = some ⟨oc28, od28, .func (PySem.W.fnOf "law" "law" (defArgs s_law) (defBody s_law) (defScope s_law) .none kV28 dc28 pm28 an28 cd28 ct28), sl28⟩) (c28 : PySem.W.codeIn K cd28 "law" = true) (k28 : PySem.W.keepIn K (.ref f28) = true)
    (z_abs : PySem.W.nsIn K mainGlobals "abs" = some none)
    (z_all : PySem.W.nsIn K mainGlobals "all" = some none)
    (z_bool : PySem.W.nsIn K mainGlobals "bool" = some none)
    (z_dict : PySem.W.nsIn K mainGlobals "dict" = some none)
    (z_enumerate : PySem.W.nsIn K mainGlobals "enumerate" = some none)
    (z_int : PySem.W.nsIn K mainGlobals "int" = some none)
    (z_isinstance : PySem.W.nsIn K mainGlobals "isinstance" = some none)
    (z_len : PySem.W.nsIn K mainGlobals "len" = some none)
    (z_list : PySem.W.nsIn K mainGlobals "list" = some none)
    (z_max : PySem.W.nsIn K mainGlobals "max" = some none)
    (z_min : PySem.W.nsIn K mainGlobals "min" = some none)
    (z_range : PySem.W.nsIn K mainGlobals "range" = some none)
    (z_set : PySem.W.nsIn K mainGlobals "set" = some none)
    (z_sorted : PySem.W.nsIn K mainGlobals "sorted" = some none)
    (z_str : PySem.W.nsIn K mainGlobals "str" = some none)
    (z_tuple : PySem.W.nsIn K mainGlobals "tuple" = some none)
    (z_zip : PySem.W.nsIn K mainGlobals "zip" = some none)
    (y_UNKNOWN : PySem.W.nsIn K mainGlobals "UNKNOWN" = some (some (.str "?" t_UNKNOWN)))
    : ∃ fd : FuncData, (∀ (s : Shared) (v : Value), BindsTo s fd ⟨[v], []⟩ [("_law_script", v)]) ∧ ∀ base : Heap, K.In base → base.Ns mainGlobals mg → FnOkG l.prog w K mg base (XC l.prog w) 11 fa fd ["_law_script"] (spD mg K 1 false d_law_k11) := by
  have A0 := At.mk' (st := s_needs) X G a0 l0 c0 k0
  have A1 := At.mk' (st := s_taken) X G a1 l1 c1 k1
  have A2 := At.mk' (st := s_need_of) X G a2 l2 c2 k2
  have A3 := At.mk' (st := s_choose) X G a3 l3 c3 k3
  have A4 := At.mk' (st := s_gaps) X G a4 l4 c4 k4
  have A5 := At.mk' (st := s_bounds) X G a5 l5 c5 k5
  have A6 := At.mk' (st := s_is_inside) X G a6 l6 c6 k6
  have A7 := At.mk' (st := s_part_table) X G a7 l7 c7 k7
  have A8 := At.mk' (st := s_count_of) X G a8 l8 c8 k8
  have A9 := At.mk' (st := s_ready) X G a9 l9 c9 k9
  have A10 := At.mk' (st := s_count_after) X G a10 l10 c10 k10
  have A11 := At.mk' (st := s_next_cells) X G a11 l11 c11 k11
  have A12 := At.mk' (st := s_Lsource) X G a12 l12 c12 k12
  have A13 := At.mk' (st := s_Ldraw) X G a13 l13 c13 k13
  have A14 := At.mk' (st := s_Lchoice) X G a14 l14 c14 k14
  have A15 := At.mk' (st := s_Lequal) X G a15 l15 c15 k15
  have A16 := At.mk' (st := s_Lshuffled) X G a16 l16 c16 k16
  have A17 := At.mk' (st := s_Lneeds) X G a17 l17 c17 k17
  have A18 := At.mk' (st := s_Lfill) X G a18 l18 c18 k18
  have A19 := At.mk' (st := s_Lhopes) X G a19 l19 c19 k19
  have A20 := At.mk' (st := s_Lveiled) X G a20 l20 c20 k20
  have A21 := At.mk' (st := s_Lcase) X G a21 l21 c21 k21
  have A22 := At.mk' (st := s_Lspoiled) X G a22 l22 c22 k22
  have A23 := At.mk' (st := s_Lany) X G a23 l23 c23 k23
  have A24 := At.mk' (st := s_Lfull_spots) X G a24 l24 c24 k24
  have A25 := At.mk' (st := s_Lwanted) X G a25 l25 c25 k25
  have A26 := At.mk' (st := s_Lfitting) X G a26 l26 c26 k26
  have A27 := At.mk' (st := s_Lholds) X G a27 l27 c27 k27
  have A28 := At.mk' (st := s_law) X G a28 l28 c28 k28
  have n_abs := PySem.W.mg_none_of X G z_abs
  have n_all := PySem.W.mg_none_of X G z_all
  have n_bool := PySem.W.mg_none_of X G z_bool
  have n_dict := PySem.W.mg_none_of X G z_dict
  have n_enumerate := PySem.W.mg_none_of X G z_enumerate
  have n_int := PySem.W.mg_none_of X G z_int
  have n_isinstance := PySem.W.mg_none_of X G z_isinstance
  have n_len := PySem.W.mg_none_of X G z_len
  have n_list := PySem.W.mg_none_of X G z_list
  have n_max := PySem.W.mg_none_of X G z_max
  have n_min := PySem.W.mg_none_of X G z_min
  have n_range := PySem.W.mg_none_of X G z_range
  have n_set := PySem.W.mg_none_of X G z_set
  have n_sorted := PySem.W.mg_none_of X G z_sorted
  have n_str := PySem.W.mg_none_of X G z_str
  have n_tuple := PySem.W.mg_none_of X G z_tuple
  have n_zip := PySem.W.mg_none_of X G z_zip
  have c_UNKNOWN : GStr mg "UNKNOWN" "?" := ⟨t_UNKNOWN, PySem.W.mg_of X G y_UNKNOWN⟩
  have e := hfa.symm.trans (PySem.W.mg_of X G a28)
  cases e
  refine ⟨PySem.W.fnOf "law" "law" (defArgs s_law) (defBody s_law) (defScope s_law) .none kV28 dc28 pm28 an28 cd28 ct28, fun s v => .of_eq rfl, fun base _ _ => ?_⟩
  have h_needs := ok_needs (P := l.prog) (w := w) (base := base) A0 n_max n_min n_range n_tuple
  have h_taken := ok_taken (P := l.prog) (w := w) (base := base) A1 n_enumerate
  have h_need_of := ok_need_of (P := l.prog) (w := w) (base := base) A2 n_len c_UNKNOWN h_needs
  have h_choose := ok_choose (P := l.prog) (w := w) (base := base) A3 n_range
  have h_gaps := ok_gaps (P := l.prog) (w := w) (base := base) A4 h_taken h_need_of
  have h_bounds := ok_bounds (P := l.prog) (w := w) (base := base) A5 n_enumerate n_max n_min h_need_of
  have h_is_inside := ok_is_inside (P := l.prog) (w := w) (base := base) A6
  have h_part_table := ok_part_table (P := l.prog) (w := w) (base := base) A7 n_len n_range h_is_inside h_choose
  have h_count_of := ok_count_of (P := l.prog) (w := w) (base := base) A8 n_len h_part_table h_bounds
  have h_ready := ok_ready (P := l.prog) (w := w) (base := base) A9 n_all h_taken h_need_of
  have h_count_after := ok_count_after (P := l.prog) (w := w) (base := base) A10 n_enumerate h_ready h_gaps h_count_of h_taken
  have h_next_cells := ok_next_cells (P := l.prog) (w := w) (base := base) A11 h_count_after h_ready
  have h_Lsource := ok_Lsource (P := l.prog) (w := w) (base := base) A12 n_abs n_int n_len
  have h_Ldraw := ok_Ldraw (P := l.prog) (w := w) (base := base) A13 3
  have h_Lchoice := ok_Lchoice (P := l.prog) (w := w) (base := base) A14 n_len h_Ldraw
  have h_Lequal := ok_Lequal (P := l.prog) (w := w) (base := base) A15 n_all n_bool n_int n_isinstance n_len n_list n_str n_tuple n_zip 8
  have h_Lshuffled := ok_Lshuffled (P := l.prog) (w := w) (base := base) A16 n_len n_list h_Ldraw
  have h_Lneeds := ok_Lneeds (P := l.prog) (w := w) (base := base) A17 n_abs n_range
  have h_Lfill := ok_Lfill (P := l.prog) (w := w) (base := base) A18 n_abs n_min n_range n_tuple
  have h_Lhopes := ok_Lhopes (P := l.prog) (w := w) (base := base) A19 n_max n_min n_range h_Ldraw
  have h_Lveiled := ok_Lveiled (P := l.prog) (w := w) (base := base) A20 n_tuple h_Lchoice h_Ldraw
  have h_Lcase := ok_Lcase (P := l.prog) (w := w) (base := base) A21 h_Ldraw h_Lfill h_Lhopes h_Lveiled
  have h_Lspoiled := ok_Lspoiled (P := l.prog) (w := w) (base := base) A22 n_len n_list n_range n_tuple h_Ldraw h_Lchoice
  have h_Lany := ok_Lany (P := l.prog) (w := w) (base := base) A23 h_Lcase h_Ldraw h_Lspoiled
  have h_Lfull_spots := ok_Lfull_spots (P := l.prog) (w := w) (base := base) A24 n_enumerate
  have h_Lwanted := ok_Lwanted (P := l.prog) (w := w) (base := base) A25 n_len h_Lneeds
  have h_Lfitting := ok_Lfitting (P := l.prog) (w := w) (base := base) A26 n_all n_dict h_Lfull_spots h_Lwanted
  have h_Lholds := ok_Lholds (P := l.prog) (w := w) (base := base) A27 n_len n_list n_range n_set n_sorted n_tuple h_Lany h_Lfull_spots h_Lfitting h_Lshuffled h_Ldraw h_Lchoice h_count_after h_Lequal h_next_cells
  have h_law := ok_law (P := l.prog) (w := w) (base := base) A28 n_all n_len n_max n_min n_range h_Lsource h_Lholds
  obtain ⟨f, fd, F, hm, FF⟩ := h_law.ex
  have e2 : f = fa := by have := hm.symm.trans (PySem.W.mg_of X G a28); injection this with this; injection this
  subst e2
  obtain ⟨oc, od, kV, doc, pm, an, cdv, ct, osl, e3, lk, hcd⟩ := F.ex
  have e4 := lk.symm.trans l28
  have e5 : fd = PySem.W.fnOf "law" "law" (defArgs s_law) (defBody s_law) (defScope s_law) .none kV28 dc28 pm28 an28 cd28 ct28 := by
    injection e4 with e4; injection e4 with _ _ e6 _; injection e6
  rw [e5] at FF
  exact FF
end NS
namespace NS
open PySem PySem.Spec PyProof.Rows L2
/-! ## what a piece computes -/
/-- x ends well from g, as Q says -/
def T {α : Type} (x : M α) (g : G) (Q : α → G → Prop) : Prop := ∃ a g', x g = .ok a g' ∧ Q a g'
theorem T.imp {α : Type} {x : M α} {g : G} {Q R : α → G → Prop} (h : T x g Q) (i : ∀ a g', Q a g' → R a g') : T x g R := by
  obtain ⟨a, g', e, q⟩ := h; exact ⟨a, g', e, i _ _ q⟩
@[simp] theorem T_pure {α : Type} (a : α) (g : G) (Q : α → G → Prop) : T (M.pure a) g Q ↔ Q a g :=
  ⟨fun ⟨_, _, e, q⟩ => by cases e; exact q, fun q => ⟨a, g, rfl, q⟩⟩
@[simp] theorem T_bind {α β : Type} (x : M α) (f : α → M β) (g : G) (Q : β → G → Prop) : T (M.bind x f) g Q ↔ T x g (fun a g' => T (f a) g' Q) := by
  constructor
  · rintro ⟨b, g', e, q⟩
    unfold M.bind at e
    cases h : x g with
    | ok a g1 => rw [h] at e; exact ⟨a, g1, h, b, g', e, q⟩
    | err z g1 => rw [h] at e; cases e
    | bad => rw [h] at e; cases e
  · rintro ⟨a, g1, h, b, g', e, q⟩
    exact ⟨b, g', by rw [bind_ok h]; exact e, q⟩
@[simp] theorem T_noerr {α : Type} (x : M α) (g : G) (Q : α → G → Prop) : T (M.noerr x) g Q ↔ T x g Q := by
  constructor
  · rintro ⟨b, g', e, q⟩
    cases h : x g with
    | ok a g1 => rw [noerr_ok h] at e; cases e; exact ⟨_, _, h, q⟩
    | err z g1 => rw [noerr_err h] at e; cases e
    | bad => rw [noerr_bad h] at e; cases e
  · rintro ⟨a, g1, h, q⟩
    exact ⟨a, g1, noerr_ok h, q⟩
theorem T_ite {α : Type} (c : Prop) [Decidable c] (x y : M α) (g : G) (Q : α → G → Prop) : T (if c then x else y) g Q ↔ if c then T x g Q else T y g Q := by split <;> rfl
@[simp] theorem T_if {α : Type} (c : Prop) [Decidable c] (x y : M α) (g : G) (Q : α → G → Prop) : T (if c then x else y) g Q ↔ (c → T x g Q) ∧ (¬ c → T y g Q) := by split <;> simp [*]
@[simp] theorem T_bad {α : Type} (g : G) (Q : α → G → Prop) : T M.bad g Q ↔ False := ⟨fun ⟨_, _, e, _⟩ => (nomatch e), False.elim⟩
@[simp high] theorem T_guard {α : Type} (c : Prop) [Decidable c] (x : M α) (g : G) (Q : α → G → Prop) : T (if c then x else M.bad) g Q ↔ c ∧ T x g Q := by
  by_cases h : c
  · simp [h]
  · rw [if_neg h]; simp [h]
@[simp] theorem T_some {α : Type} (a : α) (g : G) (Q : α → G → Prop) : T (M.opt (some a)) g Q ↔ Q a g := T_pure a g Q
@[simp] theorem and_as (a b c : Prop) : (a ∧ b) ∧ c ↔ a ∧ b ∧ c := and_assoc
@[simp] theorem T_opt {α : Type} (o : Option α) (g : G) (Q : α → G → Prop) : T (M.opt o) g Q ↔ ∃ a, o = some a ∧ Q a g := by cases o <;> simp [M.opt]
theorem T.eq {α : Type} {x : M α} {a : α} {g : G} {Q : α → G → Prop} (h : x = M.pure a) (q : Q a g) : T x g Q := by rw [h]; exact (T_pure _ _ _).mpr q
/-! ## pure pieces -/
@[simp] theorem pure_bind' {α β : Type} (a : α) (f : α → M β) : M.bind (M.pure a) f = f a := rfl
@[simp] theorem bad_bind' {α β : Type} (f : α → M β) : M.bind M.bad f = M.bad := rfl
@[simp] theorem ite_bind' {α β : Type} (c : Prop) [Decidable c] (x y : M α) (f : α → M β) : M.bind (if c then x else y) f = if c then M.bind x f else M.bind y f := by split <;> rfl
@[simp] theorem bind_bind' {α β γ : Type} (x : M α) (f : α → M β) (h : β → M γ) : M.bind (M.bind x f) h = M.bind x (fun a => M.bind (f a) h) := by
  funext g
  unfold M.bind
  cases x g <;> rfl
@[simp] theorem noerr_pure' {α : Type} (a : α) : M.noerr (M.pure a) = M.pure a := rfl
@[simp] theorem noerr_bad' {α : Type} : M.noerr (M.bad : M α) = M.bad := rfl
@[simp] theorem noerr_ite {α : Type} (c : Prop) [Decidable c] (x y : M α) : M.noerr (if c then x else y) = if c then M.noerr x else M.noerr y := by split <;> rfl
@[simp] theorem opt_some' {α : Type} (a : α) : M.opt (some a) = M.pure a := rfl
@[simp] theorem opt_none' {α : Type} : (M.opt none : M α) = M.bad := rfl
/-! ## expressions -/
@[simp] theorem eVar0 (x : DV) (σ : DS) : eVar 0 (some x :: σ) = (match x with | .sh d => M.pure d | _ => M.bad) := by cases x <;> rfl
@[simp] theorem eVarS (i : Nat) (x : Option DV) (σ : DS) : eVar (i + 1) (x :: σ) = eVar i σ := rfl
@[simp] theorem eC_ap (d : D) (σ : DS) : eC d σ = M.pure d := rfl
@[simp] theorem eBin_ap (k : D → D → M D) (fa fb : DS → M D) (σ : DS) : eBin k fa fb σ = M.bind (fa σ) fun x => M.bind (fb σ) fun y => k x y := rfl
@[simp] theorem eArgs_ap (k : List D → M D) (fl : DS → M (List D)) (σ : DS) : eArgs k fl σ = M.bind (fl σ) k := rfl
@[simp] theorem iArgs_ap (k : List D → M (List D)) (fl : DS → M (List D)) (σ : DS) : iArgs k fl σ = M.bind (fl σ) k := rfl
@[simp] theorem iSeq_ap (f : DS → M D) (σ : DS) : iSeq f σ = M.bind (f σ) itD := rfl
@[simp] theorem lNil_ap (σ : DS) : lNil σ = M.pure [] := rfl
@[simp] theorem lCons_ap (f : DS → M D) (fl : DS → M (List D)) (σ : DS) : lCons f fl σ = M.bind (f σ) fun x => M.bind (fl σ) fun xs => M.pure (x :: xs) := rfl
@[simp] theorem eTst_ap (f : DS → M D) (σ : DS) : eTst f σ = M.bind (f σ) asB := rfl
@[simp] theorem eChain_ap (k k' : D → D → M D) (fa fb fc : DS → M D) (σ : DS) : eChain k k' fa fb fc σ = M.bind (fa σ) fun x => M.bind (fb σ) fun y => M.bind (M.bind (k x y) asB) fun t =>
  if t = true then M.bind (fc σ) fun z => k' y z else M.pure (.bl false) := rfl
@[simp] theorem eAnd_ap (f h : DS → M Bool) (σ : DS) : eAnd f h σ = M.bind (f σ) fun t => if t = true then h σ else M.pure false := rfl
@[simp] theorem eOr_ap (f h : DS → M Bool) (σ : DS) : eOr f h σ = M.bind (f σ) fun t => if t = true then M.pure true else h σ := rfl
@[simp] theorem eNot_ap (f : DS → M Bool) (σ : DS) : eNot f σ = M.bind (f σ) fun t => M.pure !t := rfl
@[simp] theorem eIf_ap (t : DS → M Bool) (fa fb : DS → M D) (σ : DS) : eIf t fa fb σ = M.bind (t σ) fun b => if b = true then fa σ else fb σ := rfl
@[simp] theorem eAndV_ap (fa fb : DS → M D) (σ : DS) : eAndV fa fb σ = M.bind (M.bind (fa σ) asB) fun t => if t = true then fb σ else M.pure (.bl false) := rfl
@[simp] theorem eOrV_ap (fa fb : DS → M D) (σ : DS) : eOrV fa fb σ = M.bind (M.bind (fa σ) asB) fun t => if t = true then M.pure (.bl true) else fb σ := rfl
@[simp] theorem eNotV_ap (fa : DS → M D) (σ : DS) : eNotV fa σ = M.bind (M.bind (fa σ) asB) fun t => M.pure (.bl !t) := rfl
@[simp] theorem eNeg_ap (fa : DS → M D) (σ : DS) : eNeg fa σ = M.bind (fa σ) kNeg := rfl
@[simp] theorem kNeg_int (i : Int) : kNeg (.int i) = M.pure (.int (-i)) := rfl
@[simp] theorem eIsi_ap (ns : List String) (fa : DS → M D) (σ : DS) : eIsi ns fa σ = M.bind (fa σ) (kIsi ns) := rfl
@[simp] theorem r1D_ap (fa : DS → M D) (σ : DS) : r1D fa σ = M.bind (M.bind (fa σ) asI) fun j => M.pure (0, j) := rfl
@[simp] theorem r2D_ap (fa fb : DS → M D) (σ : DS) : r2D fa fb σ = M.bind (fa σ) fun x => M.bind (fb σ) fun y => M.bind (asI x) fun i => M.bind (asI y) fun j => M.pure (i, j) := rfl
@[simp] theorem eLRg_ap (f : DS → M (Int × Int)) (σ : DS) : eLRg f σ = M.bind (f σ) fun p => if rgOk p.1 p.2 = true then M.pure (.lst (rngD p.1 p.2)) else M.bad := rfl
@[simp] theorem eTRg_ap (f : DS → M (Int × Int)) (σ : DS) : eTRg f σ = M.bind (f σ) fun p => if rgOk p.1 p.2 = true then M.pure (.tup (rngD p.1 p.2)) else M.bad := rfl
@[simp] theorem eSl_ap (k : Option Int → Option Int → D → M D) (fe : DS → M D) (fl fh : FO) (σ : DS) : eSl k fe fl fh σ = M.bind (fe σ) fun x => M.bind (fl σ) fun l => M.bind (fh σ) fun h => k l h x := rfl
@[simp] theorem oNone_ap (σ : DS) : oNone σ = M.pure none := rfl
@[simp] theorem oSome_ap (f : DS → M D) (σ : DS) : oSome f σ = M.bind (f σ) fun d => match d with | .int i => M.pure (some i) | _ => M.bad := rfl
@[simp] theorem eRev_ap (fa : DS → M D) (σ : DS) : eRev fa σ = M.bind (fa σ) kRev := rfl
@[simp] theorem eComp_ap (fi : DS → M (List D)) (vs : List Nat) (fg : D → DS → M DS) (ft : DS → M Bool) (fe : DS → M D) (σ : DS) : eComp fi vs fg ft fe σ = M.bind (fi σ) fun ds => if fit ds.length = true then M.bind (compM fg ft fe (wipeD σ vs) ds) fun r => M.pure (.lst r) else M.bad := rfl
@[simp] theorem eComp2_ap (fi : DS → M (List D)) (vs : List Nat) (fg : D → DS → M DS) (ft : DS → M Bool) (fi1 : DS → M (List D)) (vs1 : List Nat) (fg1 : D → DS → M DS) (ft1 : DS → M Bool) (fe : DS → M D) (σ : DS) : eComp2 fi vs fg ft fi1 vs1 fg1 ft1 fe σ =
  M.bind (fi σ) fun ds => if fit ds.length = true then M.bind (M.noerr (compM2 fg ft fi1 vs1 fg1 ft1 fe (wipeD σ vs) ds)) fun r => if fit r.length = true then M.pure (.lst r) else M.bad else M.bad := rfl
@[simp] theorem tYes_ap (σ : DS) : tYesD σ = M.pure true := rfl
@[simp] theorem callN_1 (f : List D → M D) (a : D) : callN 1 f [a] = f [a] := rfl
@[simp] theorem callN_2 (f : List D → M D) (a b : D) : callN 2 f [a, b] = f [a, b] := rfl
@[simp] theorem callN_3 (f : List D → M D) (a b c : D) : callN 3 f [a, b, c] = f [a, b, c] := rfl
@[simp] theorem callN_4 (f : List D → M D) (a b c d : D) : callN 4 f [a, b, c, d] = f [a, b, c, d] := rfl
@[simp] theorem callN_5 (f : List D → M D) (a b c d e : D) : callN 5 f [a, b, c, d, e] = f [a, b, c, d, e] := rfl
@[simp] theorem callN_0 (f : List D → M D) : callN 0 f [] = f [] := rfl
@[simp] theorem kwN_2 (f : List D → M D) (i j : Nat) (a b : D) : kwN 2 [i, j] 2 f [a, b] = callN 2 f (permL [i, j] [a, b]) := rfl
@[simp] theorem kwN_3 (f : List D → M D) (i j k : Nat) (a b c : D) : kwN 3 [i, j, k] 3 f [a, b, c] = callN 3 f (permL [i, j, k] [a, b, c]) := rfl
@[simp] theorem kwN_4 (f : List D → M D) (i j k l : Nat) (a b c d : D) : kwN 4 [i, j, k, l] 4 f [a, b, c, d] = callN 4 f (permL [i, j, k, l] [a, b, c, d]) := rfl
@[simp] theorem kwN_1 (f : List D → M D) (i : Nat) (a : D) : kwN 1 [i] 1 f [a] = callN 1 f (permL [i] [a]) := rfl
@[simp] theorem permL_nil {α : Type} (l : List α) : permL [] l = [] := rfl
@[simp] theorem permL_cons {α : Type} (i : Nat) (is : List Nat) (l : List α) : permL (i :: is) l = (match l[i]? with | some x => [x] | none => []) ++ permL is l := by
  unfold permL
  rw [List.filterMap_cons]
  cases l[i]? <;> rfl
/-! ## operators -/
@[simp] theorem asB_bl (b : Bool) : asB (.bl b) = M.pure b := rfl
@[simp] theorem asI_int (i : Int) : asI (.int i) = M.pure i := rfl
@[simp] theorem kII_int (f : Int → Int → Option D) (i j : Int) : kII f (.int i) (.int j) = M.opt (f i j) := rfl
@[simp] theorem kAdd_int (i j : Int) : kAdd (.int i) (.int j) = M.pure (.int (i + j)) := rfl
@[simp] theorem kAdd_tup (a b : List D) : kAdd (.tup a) (.tup b) = if fit (a.length + b.length) = true then M.pure (.tup (a ++ b)) else M.bad := rfl
@[simp] theorem kAdd_lst (a b : List D) : kAdd (.lst a) (.lst b) = if fit (a.length + b.length) = true then M.pure (.lst (a ++ b)) else M.bad := rfl
@[simp] theorem kCat_lst (a b : List D) : kCat (.lst a) (.lst b) = if fit (a.length + b.length) = true then M.pure (.lst (a ++ b)) else M.bad := rfl
@[simp] theorem kAddI_int (i j : Int) : kAddI (.int i) (.int j) = M.pure (.int (i + j)) := rfl
@[simp] theorem kMul_int (i j : Int) : kMul (.int i) (.int j) = M.opt (mulI i j) := rfl
@[simp] theorem kMul_lst (a : List D) (k : Int) : kMul (.lst a) (.int k) = if 0 ≤ k ∧ k ≤ 1000 ∧ a.length ≤ 1000 then M.pure (.lst (List.replicate k.toNat a).flatten) else M.bad := rfl
@[simp] theorem kMul_tup (a : List D) (k : Int) : kMul (.tup a) (.int k) = if k = 1 then M.pure (.tup a) else if 2 ≤ k ∧ k ≤ 1000 ∧ a.length ≤ 1000 ∧ a ≠ [] then M.pure (.tup (List.replicate k.toNat a).flatten) else M.bad := rfl
@[simp] theorem kRep_lst (a : List D) (k : Int) : kRep (.lst a) (.int k) = if 0 ≤ k ∧ k ≤ 1000 ∧ a.length ≤ 1000 then M.pure (.lst (List.replicate k.toNat a).flatten) else M.bad := rfl
@[simp] theorem kLt_int (i j : Int) : kLt (.int i) (.int j) = M.pure (.bl (decide (i < j))) := rfl
@[simp] theorem kLt_pair (i j k l : Int) : kLt (.tup [.int i, .int j]) (.tup [.int k, .int l]) = M.pure (.bl (decide (i < k ∨ (i = k ∧ j < l)))) := by
  show M.pure (D.bl (HT.lexLt [i, j] [k, l])) = _
  congr 2
  simp only [HT.lexLt]
  by_cases h1 : i = k
  · by_cases h2 : j = l
    · subst h1 h2; simp
    · subst h1; simp [h2]
  · by_cases h3 : i < k <;> simp [h1, h3]
@[simp] theorem kMax2_int (i j : Int) : kMax2 [.int i, .int j] = M.pure (.int (max i j)) := by show M.pure (D.int (if j > i then j else i)) = _; congr 2; split <;> omega
@[simp] theorem kMin2_int (i j : Int) : kMin2 [.int i, .int j] = M.pure (.int (min i j)) := by show M.pure (D.int (if j < i then j else i)) = _; congr 2; split <;> omega
@[simp] theorem kAbs_int (i : Int) : kAbs [.int i] = M.pure (.int (i.natAbs : Int)) := by show M.pure (D.int (if i < 0 then -i else i)) = _; congr 2; split <;> omega
@[simp] theorem kInt_int (i : Int) : kInt [.int i] = M.pure (.int i) := rfl
@[simp] theorem kInt_bl (b : Bool) : kInt [.bl b] = M.pure (.int (if b then 1 else 0)) := rfl
@[simp] theorem kLen_lst (a : List D) : kLen [.lst a] = M.pure (.int (a.length : Int)) := rfl
@[simp] theorem kLen_tup (a : List D) : kLen [.tup a] = M.pure (.int (a.length : Int)) := rfl
@[simp] theorem kLen_slst (a : List D) : kLen [.slst a] = M.pure (.int (a.length : Int)) := rfl
@[simp] theorem kList_lst (a : List D) : kList [.lst a] = M.pure (.lst a) := rfl
@[simp] theorem kList_tup (a : List D) : kList [.tup a] = M.pure (.lst a) := rfl
@[simp] theorem kTuple_lst (a : List D) : kTuple [.lst a] = M.pure (.tup a) := rfl
@[simp] theorem kTuple_tup (a : List D) : kTuple [.tup a] = M.pure (.tup a) := rfl
@[simp] theorem kIx_lst (a : List D) (i : Int) : kIx (.lst a) (.int i) = M.opt (L2.atI a i) := rfl
@[simp] theorem kIx_tup (a : List D) (i : Int) : kIx (.tup a) (.int i) = M.opt (L2.atI a i) := rfl
@[simp] theorem kIx_slst (a : List D) (i : Int) : kIx (.slst a) (.int i) = M.opt (L2.atI a i) := rfl
@[simp] theorem kSl_lst (a : List D) (l h : Option Int) : kSl l h (.lst a) = M.pure (.lst (cutD a l h)) := rfl
@[simp] theorem kSl_tup (a : List D) (l h : Option Int) : kSl l h (.tup a) = M.pure (.tup (cutD a l h)) := rfl
@[simp] theorem kSlL_lst (a : List D) (l h : Option Int) : kSlL l h (.lst a) = M.pure (.lst (cutD a l h)) := rfl
@[simp] theorem itD_lst (a : List D) : itD (.lst a) = M.pure a := rfl
@[simp] theorem itD_tup (a : List D) : itD (.tup a) = M.pure a := rfl
@[simp] theorem rng1_int (j : Int) : rng1 [.int j] = if inR j = true then M.pure (rngD 0 j) else M.bad := rfl
@[simp] theorem rng2_int (i j : Int) : rng2 [.int i, .int j] = if inR i = true ∧ inR j = true then M.pure (rngD i j) else M.bad := rfl
@[simp] theorem mkT_ap (a : List D) : mkT a = if fit a.length = true then M.pure (.tup a) else M.bad := rfl
@[simp] theorem mkL_ap (a : List D) : mkL a = if fit a.length = true then M.pure (.lst a) else M.bad := rfl
@[simp] theorem enumK_lst (a : List D) : enumK [.lst a] = M.pure (enumD a) := rfl
@[simp] theorem enumK_tup (a : List D) : enumK [.tup a] = M.pure (enumD a) := rfl
@[simp] theorem gN_ap (i : Nat) (d : D) (σ : DS) : gN i d σ = M.pure (σ.set i (some (.sh d))) := rfl
theorem gNs_ap (is : List Nat) (ds : List D) (σ : DS) : gNs is (.tup ds) σ = if ds.length = is.length then M.pure ((is.zip ds).foldl (fun s p => s.set p.1 (some (.sh p.2))) σ) else M.bad := rfl
@[simp] theorem gNs_2 (i j : Nat) (a b : D) (σ : DS) : gNs [i, j] (.tup [a, b]) σ = M.pure ((σ.set i (some (.sh a))).set j (some (.sh b))) := rfl
@[simp] theorem gNs_3 (i j k : Nat) (a b c : D) (σ : DS) : gNs [i, j, k] (.tup [a, b, c]) σ = M.pure (((σ.set i (some (.sh a))).set j (some (.sh b))).set k (some (.sh c))) := rfl
@[simp] theorem wipeD_nil (σ : DS) : wipeD σ [] = σ := rfl
@[simp] theorem wipeD_cons (σ : DS) (v : Nat) (vs : List Nat) : wipeD σ (v :: vs) = (wipeD σ vs).set v none := rfl
@[simp] theorem fit_iff (n : Nat) : fit n = true ↔ n < 1000000 := by simp [fit]
@[simp] theorem inR_iff' (i : Int) : inR i = true ↔ -(2 ^ 62) ≤ i ∧ i < 2 ^ 62 := inR_iff
@[simp] theorem rgOk_iff (i j : Int) : rgOk i j = true ↔ (-(2 ^ 62) ≤ i ∧ i < 2 ^ 62) ∧ (-(2 ^ 62) ≤ j ∧ j < 2 ^ 62) ∧ (j - i).toNat < 1000000 := by simp [rgOk, inR, and_assoc]
@[simp] theorem mulI_ap (i j : Int) : mulI i j = if (sm i || sm j) = true then some (.int (i * j)) else none := rfl
@[simp] theorem sm_iff' (i : Int) : sm i = true ↔ -(2 ^ 64) < i ∧ i < 2 ^ 64 := sm_iff
/-! ## statements -/
@[simp] theorem sSeq_ap (f h : DS → M Fl) (σ : DS) : sSeq f h σ = M.bind (f σ) fun x => match x with
  | .nx σ' => h σ'
  | y => M.pure y := rfl
@[simp] theorem sNil_ap (σ : DS) : sNil σ = M.pure (.nx σ) := rfl
@[simp] theorem sNever_ap (σ : DS) : sNever σ = M.bad := rfl
@[simp] theorem sBrk_ap (σ : DS) : sBrk σ = M.pure (.bk σ) := rfl
@[simp] theorem sCnt_ap (σ : DS) : sCnt σ = M.pure (.ct σ) := rfl
@[simp] theorem sRet_ap (fe : DS → M D) (σ : DS) : sRet fe σ = M.bind (fe σ) fun d => M.pure (.rt d) := rfl
@[simp] theorem sExpr_ap (fe : DS → M D) (σ : DS) : sExpr fe σ = M.bind (fe σ) fun _ => M.pure (.nx σ) := rfl
@[simp] theorem sIf_ap (t : DS → M Bool) (f h : DS → M Fl) (σ : DS) : sIf t f h σ = M.bind (t σ) fun b => if b = true then f σ else h σ := rfl
@[simp] theorem sSet_sh (i : Nat) (fe : DS → M D) (σ : DS) : sSet false i fe σ = M.bind (fe σ) fun d => M.pure (.nx (σ.set i (some (.sh d)))) := rfl
@[simp] theorem sSet_ow (i : Nat) (fe : DS → M D) (σ : DS) : sSet true i fe σ = M.bind (fe σ) fun d => M.pure (.nx (σ.set i (some (.ow d)))) := rfl
@[simp] theorem sAsg_ap (fe : DS → M D) (fg : D → DS → M DS) (σ : DS) : sAsg fe fg σ = M.bind (fe σ) fun d => M.bind (fg d σ) fun σ' => M.pure (.nx σ') := rfl
@[simp] theorem sFor_ap (fi : DS → M (List D)) (fg : D → DS → M DS) (b : DS → M Fl) (σ : DS) : sFor fi fg b σ = M.bind (fi σ) fun ds => forM fg b ds σ := rfl
@[simp] theorem sAug_ap (k : D → D → M D) (i : Nat) (fe : DS → M D) (σ : DS) : sAug k i fe σ = M.bind (eVar i σ) fun x => M.bind (fe σ) fun y => M.bind (k x y) fun z => M.pure (.nx (σ.set i (some (.sh z)))) := rfl
@[simp] theorem sFrz_ap (i : Nat) (f : DS → M Fl) (σ : DS) : sFrz i f σ = f (frz1 i σ) := rfl
/-- what a def's body must end in -/
def RQ (m : Bool) (Q : D → G → Prop) : Fl → G → Prop
  | .rt d, g => Q d g
  | .nx _, g => m = false ∧ Q .non g
  | _, _ => False
@[simp] theorem RQ_rt (m : Bool) (Q : D → G → Prop) (d : D) (g : G) : RQ m Q (.rt d) g ↔ Q d g := Iff.rfl
@[simp] theorem RQ_nx (m : Bool) (Q : D → G → Prop) (σ : DS) (g : G) : RQ m Q (.nx σ) g ↔ m = false ∧ Q .non g := Iff.rfl
/-- from a def's body to the def -/
theorem runD_T {n : Nat} {m : Bool} {b : DS → M Fl} {ds : List D} {g : G} {Q : D → G → Prop} (h : T (b (startD n ds)) g (RQ m Q)) : T (runD n m b ds) g Q := by
  unfold runD
  rw [T_bind]
  refine h.imp fun fl g' q => ?_
  cases fl with
  | rt d => simpa using q
  | nx σ => rw [RQ_nx] at q; simp [q.1, q.2]
  | bk σ => exact q.elim
  | ct σ => exact q.elim
/-! ## loops -/
theorem forM_T {fg : D → DS → M DS} {b : DS → M Fl} {Q : Fl → G → Prop} (I : Nat → DS → G → Prop) : ∀ {ds : List D} {n : Nat} {σ : DS} {g : G},
    (∀ i d σ g, ds[i]? = some d → I (n + i) σ g → T (fg d σ) g fun σ1 g1 => T (b σ1) g1 fun fl g2 => match fl with
      | .nx σ' => I (n + i + 1) σ' g2
      | .ct σ' => I (n + i + 1) σ' g2
      | .bk σ' => Q (.nx σ') g2
      | .rt d => Q (.rt d) g2) → I n σ g → (∀ σ g, I (n + ds.length) σ g → Q (.nx σ) g) → T (forM fg b ds σ) g Q
  | [], n, σ, g, _, h0, hq => by unfold forM; rw [T_pure]; exact hq _ _ h0
  | d :: ds, n, σ, g, h, h0, hq => by
    unfold forM
    rw [T_bind]
    refine (h 0 d σ g rfl h0).imp fun σ1 g1 h1 => ?_
    rw [T_bind]
    refine h1.imp fun fl g2 h2 => ?_
    have rest : ∀ σ' g', I (n + 1) σ' g' → T (forM fg b ds σ') g' Q := fun σ' g' h' => forM_T I (n := n + 1) (fun i d σ g e hI => by
      have := h (i + 1) d σ g (by simpa using e) (by rw [show n + (i + 1) = n + 1 + i by omega]; exact hI)
      rw [show n + 1 + i = n + (i + 1) by omega]; exact this) h' fun σ g hI => hq σ g (by rw [show n + (d :: ds).length = n + 1 + ds.length by simp; omega]; exact hI)
    cases fl with
    | nx σ' => exact rest _ _ h2
    | ct σ' => exact rest _ _ h2
    | bk σ' => simpa using h2
    | rt d => simpa using h2
/-- a comprehension that keeps one item for each -/
theorem compM_T {fg : D → DS → M DS} {ft : DS → M Bool} {fe : DS → M D} {σ : DS} (I : Nat → List D → G → Prop) : ∀ {ds : List D} {n : Nat} {rs : List D} {g : G} {Q : List D → G → Prop},
    (∀ i d g rs, ds[i]? = some d → I (n + i) rs g → T (fg d σ) g fun σ1 g1 => T (ft σ1) g1 fun t g2 => if t = true then T (fe σ1) g2 fun y g3 => I (n + i + 1) (rs ++ [y]) g3 else I (n + i + 1) rs g2) →
      I n rs g → (∀ rs' g', I (n + ds.length) (rs ++ rs') g' → Q rs' g') → T (compM fg ft fe σ ds) g Q
  | [], n, rs, g, Q, _, h0, hq => by unfold compM; rw [T_pure]; exact hq [] _ (by simpa using h0)
  | d :: ds, n, rs, g, Q, h, h0, hq => by
    unfold compM
    rw [T_bind]
    refine (h 0 d g rs rfl h0).imp fun σ1 g1 h1 => ?_
    rw [T_bind, T_noerr]
    refine h1.imp fun t g2 h2 => ?_
    have step : ∀ i d' g' rs', ds[i]? = some d' → I (n + 1 + i) rs' g' → _ := fun i d' g' rs' e hI => by
      have := h (i + 1) d' g' rs' (by simpa using e) (by rw [show n + (i + 1) = n + 1 + i by omega]; exact hI)
      rw [show n + (i + 1) = n + 1 + i by omega] at this
      exact this
    cases t with
    | true =>
      simp only [if_true] at h2 ⊢
      rw [T_bind, T_noerr]
      refine h2.imp fun y g3 h3 => ?_
      rw [T_bind]
      refine compM_T I (n := n + 1) (rs := rs ++ [y]) step h3 fun rs' g' hI => ?_
      rw [T_pure]
      refine hq _ _ ?_
      rw [show n + (d :: ds).length = n + 1 + ds.length by simp; omega]
      simpa using hI
    | false =>
      simp only [Bool.false_eq_true, if_false] at h2 ⊢
      refine compM_T I (n := n + 1) (rs := rs) step h2 fun rs' g' hI => hq _ _ ?_
      rw [show n + (d :: ds).length = n + 1 + ds.length by simp; omega]
      exact hI
/-- a comprehension of pure parts -/
theorem compM_pure {fg : D → DS → M DS} {ft : DS → M Bool} {fe : DS → M D} {σ : DS} {α : Type} {en : α → D} {p : α → Bool} {f : α → D} : ∀ {xs : List α},
    (∀ x ∈ xs, ∃ σ1, fg (en x) σ = M.pure σ1 ∧ ft σ1 = M.pure (p x) ∧ (p x = true → fe σ1 = M.pure (f x))) → compM fg ft fe σ (xs.map en) = M.pure ((xs.filter p).map f)
  | [], _ => rfl
  | x :: xs, h => by
    obtain ⟨σ1, e1, e2, e3⟩ := h x List.mem_cons_self
    have ih := compM_pure (fg := fg) (ft := ft) (fe := fe) (σ := σ) (en := en) (p := p) (f := f) (xs := xs) fun y hy => h y (List.mem_cons_of_mem _ hy)
    show M.bind (fg (en x) σ) _ = _
    rw [e1, pure_bind', e2]
    simp only [noerr_pure', pure_bind']
    cases hp : p x with
    | true => rw [e3 hp, ih]; simp [hp]
    | false => rw [ih]; simp [hp]
/-! ## borrowed slots -/
theorem frz1_0 (d : D) (σ : DS) : frz1 0 (some (.ow d) :: σ) = some (.sh d) :: σ := rfl
@[simp] theorem frz1_0o (d : D) (σ : DS) : frz1 0 (some (.ow d) :: σ) = some (.sh d) :: σ := rfl
@[simp] theorem frz1_0s (d : D) (σ : DS) : frz1 0 (some (.sh d) :: σ) = some (.sh d) :: σ := rfl
@[simp] theorem frz1_0n (σ : DS) : frz1 0 (none :: σ) = none :: σ := rfl
@[simp] theorem frz1_S (i : Nat) (x : Option DV) (σ : DS) : frz1 (i + 1) (x :: σ) = x :: frz1 i σ := by
  unfold frz1
  simp only [List.getElem?_cons_succ]
  rcases σ[i]? with _ | (_ | (d | d)) <;> rfl
@[simp] theorem eBor_T (i : Nat) (f : DS → M D) (σ : DS) (g : G) (Q : D → G → Prop) : T (eBor i f σ) g Q ↔ T (f (frz1 i σ)) g fun d g' => (D.pur d = true ∧ Gpur g' = true) ∧ Q d g' := by
  unfold eBor T
  cases e : f (frz1 i σ) g with
  | ok d g' =>
    by_cases c : (D.pur d && Gpur g') = true
    · have c' := Bool.and_eq_true_iff.mp c
      simp only [e, c, if_true]
      constructor
      · rintro ⟨_, _, h, q⟩; cases h; exact ⟨_, _, rfl, c', q⟩
      · rintro ⟨_, _, h, _, q⟩; cases h; exact ⟨_, _, rfl, q⟩
    · simp only [e, c, if_false]
      constructor
      · rintro ⟨_, _, h, q⟩; cases h
      · rintro ⟨_, _, h, q, _⟩; cases h; exact absurd (Bool.and_eq_true_iff.mpr q) c
  | err x g' =>
    simp only [e]
    constructor
    · rintro ⟨_, _, h, q⟩; cases h
    · rintro ⟨_, _, h, q⟩; cases h
  | bad =>
    simp only [e]
    constructor
    · rintro ⟨_, _, h, q⟩; cases h
    · rintro ⟨_, _, h, q⟩; cases h
@[simp] theorem tBor_T (i : Nat) (f : DS → M Bool) (σ : DS) (g : G) (Q : Bool → G → Prop) : T (tBor i f σ) g Q ↔ T (f (frz1 i σ)) g fun d g' => Gpur g' = true ∧ Q d g' := by
  unfold tBor T
  cases e : f (frz1 i σ) g with
  | ok d g' =>
    by_cases c : Gpur g' = true
    · simp only [e, c, if_true]
      constructor
      · rintro ⟨_, _, h, q⟩; cases h; exact ⟨_, _, rfl, c, q⟩
      · rintro ⟨_, _, h, _, q⟩; cases h; exact ⟨_, _, rfl, q⟩
    · simp only [e, c, if_false]
      constructor
      · rintro ⟨_, _, h, q⟩; cases h
      · rintro ⟨_, _, h, q, _⟩; cases h; exact absurd q c
  | err x g' =>
    simp only [e]
    constructor
    · rintro ⟨_, _, h, q⟩; cases h
    · rintro ⟨_, _, h, q⟩; cases h
  | bad =>
    simp only [e]
    constructor
    · rintro ⟨_, _, h, q⟩; cases h
    · rintro ⟨_, _, h, q⟩; cases h
theorem eBorO_T' (i : Nat) (f : DS → M D) (σ : DS) (g : G) (Q : D → G → Prop) : T (eBorO i f σ) g Q ↔ T (f (frz1 i σ)) g fun d g' => (match d with | .lst ds => D.purs ds = true | _ => False) ∧ Gpur g' = true ∧ Q d g' := by
  unfold eBorO T
  cases e : f (frz1 i σ) g with
  | ok d g' =>
    cases d with
    | lst ds =>
      by_cases c : (D.purs ds && Gpur g') = true
      · have c' := Bool.and_eq_true_iff.mp c
        simp only [e, c, if_true]
        constructor
        · rintro ⟨_, _, h, q⟩; cases h; exact ⟨_, _, rfl, c'.1, c'.2, q⟩
        · rintro ⟨_, _, h, _, _, q⟩; cases h; exact ⟨_, _, rfl, q⟩
      · simp only [e, c, if_false]
        constructor
        · rintro ⟨_, _, h, q⟩; cases h
        · rintro ⟨_, _, h, q1, q2, _⟩; cases h; exact absurd (Bool.and_eq_true_iff.mpr ⟨q1, q2⟩) c
    | _ =>
      simp only [e]
      constructor
      · rintro ⟨_, _, h, q⟩; cases h
      · rintro ⟨_, _, h, q1, _⟩; cases h; exact q1.elim
  | err x g' =>
    simp only [e]
    constructor
    · rintro ⟨_, _, h, q⟩; cases h
    · rintro ⟨_, _, h, q⟩; cases h
  | bad =>
    simp only [e]
    constructor
    · rintro ⟨_, _, h, q⟩; cases h
    · rintro ⟨_, _, h, q⟩; cases h
def purL : D → Prop
  | .lst ds => D.purs ds = true
  | _ => False
@[simp] theorem purL_lst (ds : List D) : purL (.lst ds) ↔ D.purs ds = true := Iff.rfl
@[simp] theorem eBorO_T (i : Nat) (f : DS → M D) (σ : DS) (g : G) (Q : D → G → Prop) : T (eBorO i f σ) g Q ↔ T (f (frz1 i σ)) g fun d g' => purL d ∧ Gpur g' = true ∧ Q d g' := eBorO_T' i f σ g Q
@[simp] theorem pur_non : D.pur .non = true := rfl
@[simp] theorem pur_bl (b : Bool) : D.pur (.bl b) = true := rfl
@[simp] theorem pur_int (b : Int) : D.pur (.int b) = true := rfl
@[simp] theorem pur_str (b : Str) : D.pur (.str b) = true := rfl
@[simp] theorem pur_hdl (b : Nat) : D.pur (.hdl b) = true := rfl
@[simp] theorem pur_tup (b : List D) : D.pur (.tup b) = D.purs b := rfl
@[simp] theorem purs_nil : D.purs [] = true := rfl
@[simp] theorem purs_cons (d : D) (b : List D) : D.purs (d :: b) = (D.pur d && D.purs b) := rfl
theorem purs_all : ∀ ds : List D, D.purs ds = ds.all D.pur
  | [] => rfl
  | d :: ds => by rw [purs_cons, List.all_cons, purs_all ds]
theorem purs_map {α : Type} (f : α → D) (h : ∀ a, D.pur (f a) = true) (l : List α) : D.purs (l.map f) = true := by rw [purs_all]; simp [h]
@[simp] theorem purs_ints (l : List Int) : D.purs (l.map .int) = true := purs_map _ (fun _ => rfl) l
@[simp] theorem purs_app (a b : List D) : D.purs (a ++ b) = (D.purs a && D.purs b) := by rw [purs_all, purs_all, purs_all, List.all_append]
/-! ## the law's draws -/
def Src (k m : Nat) (g : G) : Prop := ∃ a b c : Int, g[k]? = some (.src a b c) ∧ 0 ≤ a ∧ 0 ≤ b ∧ b < 2147483648 ∧ 0 ≤ c ∧ c + m ≤ 1000000000 ∧ Gpur g = true
theorem Src.mono {k m n : Nat} {g : G} (h : Src k m g) (hm : n ≤ m) : Src k n g := by
  obtain ⟨a, b, c, h1, h2, h3, h4, h5, h6, h7⟩ := h
  exact ⟨a, b, c, h1, h2, h3, h4, h5, by omega, h7⟩
theorem Src.pur {k m : Nat} {g : G} (h : Src k m g) : Gpur g = true := by
  obtain ⟨a, b, c, h1, h2, h3, h4, h5, h6, h7⟩ := h
  exact h7
theorem Gpur.set {g : G} (h : Gpur g = true) (k : Nat) (a b c : Int) : Gpur (g.set k (.src a b c)) = true := by
  unfold Gpur at *
  rw [List.all_eq_true] at *
  intro x hx
  rcases List.mem_or_eq_of_mem_set hx with h2 | rfl
  · exact h x h2
  · rfl
theorem Gpur.add {g : G} (h : Gpur g = true) (a b c : Int) : Gpur (g ++ [.src a b c]) = true := by
  unfold Gpur at *
  rw [List.all_append, h]; rfl
end NS
namespace NS
open PySem PySem.Spec PyProof.Rows L2
/-! ## the things handed around -/
theorem T_ok {α : Type} {x : M α} {g g' : G} {a : α} {Q : α → G → Prop} (h : x g = .ok a g') : T x g Q ↔ Q a g' :=
  ⟨fun ⟨_, _, e, q⟩ => by rw [h] at e; cases e; exact q, fun q => ⟨_, _, h, q⟩⟩
theorem T_no {α : Type} {x : M α} {g : G} {Q : α → G → Prop} (h : x g = .bad) : T x g Q ↔ False := ⟨fun ⟨_, _, e, _⟩ => by (rw [h] at e; cases e), False.elim⟩
@[simp] theorem kIx_hdl_T (h : Nat) (i : Int) (g : G) (Q : D → G → Prop) : T (kIx (.hdl h) (.int i)) g Q ↔ ∃ c d, g[h]? = some c ∧ cellIx c i = some d ∧ Q d g := by
  have e0 : kIx (.hdl h) (.int i) g = M.opt (match g[h]? with | some c => cellIx c i | none => none) g := rfl
  cases e : g[h]? with
  | none => rw [T_no (by rw [e0, e]; rfl)]; simp
  | some c =>
    cases e2 : cellIx c i with
    | none => rw [T_no (by rw [e0, e]; simp [e2, M.opt, M.bad])]; simp [e2]
    | some d => rw [T_ok (a := d) (g' := g) (by rw [e0, e]; simp [e2, M.opt, M.pure])]; simp [e2]
@[simp] theorem cellIx0 (a b c : Int) : cellIx (.src a b c) 0 = some (.int a) := rfl
@[simp] theorem cellIx1 (a b c : Int) : cellIx (.src a b c) 1 = some (.int b) := rfl
@[simp] theorem cellIx2 (a b c : Int) : cellIx (.src a b c) 2 = some (.int c) := rfl
@[simp] theorem srcSet0_T (k : Nat) (v : Int) (σ : DS) (g : G) (Q : Fl → G → Prop) : T (srcSet (.hdl k) (.int 0) (.int v) σ) g Q ↔ ∃ a b c, g[k]? = some (.src a b c) ∧ Q (.nx σ) (g.set k (.src v b c)) := by
  cases e : g[k]? with
  | none => rw [T_no (by unfold srcSet; simp only [e])]; simp
  | some c =>
    cases c with
    | sto _ _ => rw [T_no (by unfold srcSet; simp only [e])]; simp
    | src a b c =>
      rw [T_ok (a := .nx σ) (g' := g.set k (.src v b c)) (by unfold srcSet; simp only [e]; rfl)]
      exact ⟨fun q => ⟨a, b, c, rfl, q⟩, fun ⟨a', b', c', z, q⟩ => by cases z; exact q⟩
@[simp] theorem srcSet2_T (k : Nat) (v : Int) (σ : DS) (g : G) (Q : Fl → G → Prop) : T (srcSet (.hdl k) (.int 2) (.int v) σ) g Q ↔ ∃ a b c, g[k]? = some (.src a b c) ∧ Q (.nx σ) (g.set k (.src a b v)) := by
  cases e : g[k]? with
  | none => rw [T_no (by unfold srcSet; simp only [e])]; simp
  | some c =>
    cases c with
    | sto _ _ => rw [T_no (by unfold srcSet; simp only [e])]; simp
    | src a b c =>
      rw [T_ok (a := .nx σ) (g' := g.set k (.src a b v)) (by unfold srcSet; simp only [e]; rfl)]
      exact ⟨fun q => ⟨a, b, c, rfl, q⟩, fun ⟨a', b', c', z, q⟩ => by cases z; exact q⟩
@[simp] theorem sSetIxH_ap (j : Nat) (fe fi : DS → M D) (σ : DS) : sSetIxH j fe fi σ = M.bind (fe σ) fun d => M.bind (eVar j σ) fun x => M.bind (fi σ) fun i => srcSet x i d σ := rfl
/-- only the thing k differs -/
def Oth (k : Nat) (g g' : G) : Prop := g'.length = g.length ∧ ∀ j, j ≠ k → g'[j]? = g[j]?
theorem Oth.refl (k : Nat) (g : G) : Oth k g g := ⟨rfl, fun _ _ => rfl⟩
theorem Oth.trans {k : Nat} {g g1 g2 : G} (h : Oth k g g1) (h' : Oth k g1 g2) : Oth k g g2 := ⟨h'.1.trans h.1, fun j n => (h'.2 j n).trans (h.2 j n)⟩
theorem Oth.set (k : Nat) (g : G) (c : GCell) : Oth k g (g.set k c) := ⟨by simp, fun j n => List.getElem?_set_ne (Ne.symm n)⟩
/-- a draw below b -/
def DrawP (k m : Nat) (b : Int) (g : G) (d : D) (g' : G) : Prop := ∃ r : Int, d = .int r ∧ 0 ≤ r ∧ r < b ∧ Src k m g' ∧ Oth k g g'
theorem drawB {k m n : Nat} {b : Int} {g : G} (h : Src k (m + 2) g) (hb : 0 < b) (hb2 : b < 2 ^ 30)
    (ih : 10 ^ 7 < b → ∀ (b : Int) (m : Nat) (g : G), Src k (m + 1) g → 0 < b → b ≤ 10 ^ 7 → T (d_Ldraw n [.hdl k, .int b]) g (DrawP k m b g)) : T (d_Ldraw (n + 1) [.hdl k, .int b]) g (DrawP k m b g) := by
  have h0 := h
  obtain ⟨x, y, z, e, h1, h2, h3, h4, h5, h6⟩ := h
  have hk : k < g.length := (List.getElem?_eq_some_iff.mp e).1
  have e' : g[k] = .src x y z := by simpa [hk] using e
  refine runD_T ?_
  unfold b_Ldraw
  simp [startD, e', hk]
  refine ⟨fun hx => ⟨hb, by omega, x % b, rfl, Int.emod_nonneg _ (by omega), Int.emod_lt_of_pos _ hb, ⟨x / b, y, z, by simp [hk], Int.ediv_nonneg h1 (by omega), h2, h3, h4, by omega, Gpur.set h6 k _ _ _⟩, Oth.set _ _ _⟩, fun hx => ⟨fun hb3 => ?_, fun hb3 => ?_⟩⟩
  · refine (ih hb3 _ (m + 1) _ h0 (by decide) (by decide)).imp fun d g1 ⟨r, e1, r1, r2, s1, o1⟩ => ?_
    subst e1
    refine (ih hb3 _ m _ s1 (by omega) (by omega)).imp fun d g2 ⟨q, e1, q1, q2, s2, o2⟩ => ?_
    subst e1
    simp
    exact ⟨hb, _, rfl, Int.emod_nonneg _ (by omega), Int.emod_lt_of_pos _ hb, s2, o1.trans o2⟩
  · have mx : ∀ a : Int, 0 ≤ a % 2147483579 ∧ a % 2147483579 < 2147483579 := fun a => ⟨Int.emod_nonneg _ (by decide), Int.emod_lt_of_pos _ (by decide)⟩
    obtain ⟨m1, m2⟩ := mx ((y + 62003 * (z + 1)) ^ 3)
    refine ⟨by omega, .inl ⟨by omega, by omega⟩, hb, _, rfl, Int.emod_nonneg _ (by omega), Int.emod_lt_of_pos _ hb, ⟨x, y, z + 1, by simp [hk], h1, h2, h3, by omega, by omega, Gpur.set h6 k _ _ _⟩, Oth.set _ _ _⟩
theorem draw1 {k m n : Nat} {b : Int} {g : G} (h : Src k (m + 1) g) (hb : 0 < b) (hb2 : b ≤ 10 ^ 7) : T (d_Ldraw (n + 1) [.hdl k, .int b]) g (DrawP k m b g) := by
  obtain ⟨x, y, z, e, h1, h2, h3, h4, h5, h6⟩ := h
  have hk : k < g.length := (List.getElem?_eq_some_iff.mp e).1
  have e' : g[k] = .src x y z := by simpa [hk] using e
  refine runD_T ?_
  unfold b_Ldraw
  simp [startD, e', hk]
  refine ⟨fun hx => ⟨hb, by omega, x % b, rfl, Int.emod_nonneg _ (by omega), Int.emod_lt_of_pos _ hb, ⟨x / b, y, z, by simp [hk], Int.ediv_nonneg h1 (by omega), h2, h3, h4, by omega, Gpur.set h6 k _ _ _⟩, Oth.set _ _ _⟩, fun hx => ⟨fun hb3 => by omega, fun hb3 => ?_⟩⟩
  have mx : ∀ a : Int, 0 ≤ a % 2147483579 ∧ a % 2147483579 < 2147483579 := fun a => ⟨Int.emod_nonneg _ (by decide), Int.emod_lt_of_pos _ (by decide)⟩
  obtain ⟨m1, m2⟩ := mx ((y + 62003 * (z + 1)) ^ 3)
  refine ⟨by omega, .inl ⟨by omega, by omega⟩, hb, _, rfl, Int.emod_nonneg _ (by omega), Int.emod_lt_of_pos _ hb, ⟨x, y, z + 1, by simp [hk], h1, h2, h3, by omega, by omega, Gpur.set h6 k _ _ _⟩, Oth.set _ _ _⟩
/-- a draw -/
theorem draw_T {k m : Nat} {b : Int} {g : G} (h : Src k (m + 2) g) (hb : 0 < b) (hb2 : b < 2 ^ 30) : T (d_Ldraw 3 [.hdl k, .int b]) g (DrawP k m b g) :=
  drawB h hb hb2 fun _ b m g h h1 h2 => draw1 h h1 h2
/-! ## plain data -/
/-- plain data of depth n -/
def D.pl : Nat → D → Bool
  | _, .non => true
  | _, .bl _ => true
  | _, .int _ => true
  | _, .str x => PyData.strOk x
  | n + 1, .tup xs => decide (xs.length < 1000000) && xs.all (D.pl n)
  | n + 1, .lst xs => decide (xs.length < 1000000) && xs.all (D.pl n)
  | _, _ => false
theorem pls_py {n : Nat} (ih : ∀ d : D, D.pl n d = true → D.pyOk d = true ∧ (D.py d).canLay0 = true ∧ (D.py d).depth ≤ n) : ∀ {xs : List D}, xs.all (D.pl n) = true → D.pysOk xs = true ∧ PyData.canLayAll0 (D.pys xs) = true ∧ PyData.depthAll (D.pys xs) ≤ n
  | [], _ => ⟨rfl, rfl, by simp [D.pys, PyData.depthAll]⟩
  | x :: xs, h => by
    simp only [List.all_cons, Bool.and_eq_true] at h
    obtain ⟨h1, h2, h3⟩ := ih x h.1
    obtain ⟨g1, g2, g3⟩ := pls_py ih h.2
    exact ⟨by simp [D.pysOk, h1, g1], by simp [D.pys, PyData.canLayAll0, h2, g2], by simp only [D.pys, PyData.depthAll]; omega⟩
theorem pl_py : ∀ {n : Nat} {d : D}, D.pl n d = true → D.pyOk d = true ∧ (D.py d).canLay0 = true ∧ (D.py d).depth ≤ n
  | _, .non, _ => ⟨rfl, rfl, by simp [D.py, PyData.depth]⟩
  | _, .bl _, _ => ⟨rfl, rfl, by simp [D.py, PyData.depth]⟩
  | _, .int _, _ => ⟨rfl, rfl, by simp [D.py, PyData.depth]⟩
  | n, .str x, h => ⟨rfl, by cases n <;> exact h, by simp [D.py, PyData.depth]⟩
  | n + 1, .tup xs, h => by
    have h' := (Bool.and_eq_true_iff.mp h).2
    obtain ⟨g1, g2, g3⟩ := pls_py (fun d hd => pl_py hd) h'
    exact ⟨g1, g2, by simp only [D.py, PyData.depth]; omega⟩
  | n + 1, .lst xs, h => by
    have h' := (Bool.and_eq_true_iff.mp h).2
    obtain ⟨g1, g2, g3⟩ := pls_py (fun d hd => pl_py hd) h'
    exact ⟨g1, g2, by simp only [D.py, PyData.depth]; omega⟩
  | 0, .tup _, h => nomatch h
  | 0, .lst _, h => nomatch h
  | 0, .slst _, h => nomatch h
  | _ + 1, .slst _, h => nomatch h
  | 0, .dT _, h => nomatch h
  | _ + 1, .dT _, h => nomatch h
  | 0, .dK _, h => nomatch h
  | _ + 1, .dK _, h => nomatch h
  | 0, .hdl _, h => nomatch h
  | _ + 1, .hdl _, h => nomatch h
def eqD (x y : D) : Bool := PyData.eqv (D.py x) (D.py y)
theorem pl_sh {n : Nat} {d : D} (h : D.pl n d = true) (hn : n ≤ 64) : D.pyOk d = true ∧ SeqAt.shaped (D.py d) = true := by
  obtain ⟨h1, h2, h3⟩ := pl_py h
  exact ⟨h1, by simp [SeqAt.shaped, h2]; omega⟩
theorem kEq_pl {x y : D} (n m : Nat) (hx : D.pl n x = true) (hy : D.pl m y = true) (hn : n ≤ 64 := by decide) (hm : m ≤ 64 := by decide) : kEq x y = M.pure (.bl (eqD x y)) := by
  obtain ⟨a1, a2⟩ := pl_sh hx hn
  obtain ⟨b1, b2⟩ := pl_sh hy hm
  unfold kEq
  rw [if_pos ⟨a1, b1, a2, b2⟩]; rfl
theorem kNe_pl {x y : D} (n m : Nat) (hx : D.pl n x = true) (hy : D.pl m y = true) (hn : n ≤ 64 := by decide) (hm : m ≤ 64 := by decide) : kNe x y = M.pure (.bl (!eqD x y)) := by
  obtain ⟨a1, a2⟩ := pl_sh hx hn
  obtain ⟨b1, b2⟩ := pl_sh hy hm
  unfold kNe
  rw [if_pos ⟨a1, b1, a2, b2⟩]; rfl
@[simp] theorem eqD_int (i j : Int) : eqD (.int i) (.int j) = (i == j) := by simp [eqD, D.py, PyData.eqv]
@[simp] theorem eqD_bl (i j : Bool) : eqD (.bl i) (.bl j) = (i == j) := by simp [eqD, D.py, PyData.eqv]
@[simp] theorem eqD_str (i j : Str) : eqD (.str i) (.str j) = (i == j) := by simp [eqD, D.py, PyData.eqv]
@[simp] theorem eqD_non : eqD .non .non = true := rfl
@[simp] theorem eqD_non_str (x : Str) : eqD .non (.str x) = false := rfl
@[simp] theorem eqD_str_non (x : Str) : eqD (.str x) .non = false := rfl
@[simp] theorem eqD_non_int (x : Int) : eqD .non (.int x) = false := rfl
@[simp] theorem eqD_int_non (x : Int) : eqD (.int x) .non = false := rfl
@[simp] theorem eqD_str_int (x : Str) (y : Int) : eqD (.str x) (.int y) = false := rfl
@[simp] theorem eqD_int_str (x : Str) (y : Int) : eqD (.int y) (.str x) = false := rfl
theorem eqD_self {n : Nat} {d : D} (h : D.pl n d = true) : eqD d d = true := SeqAt.eqv_refl _ (pl_py h).2.1
def eqDs : List D → List D → Bool
  | [], [] => true
  | x :: xs, y :: ys => eqD x y && eqDs xs ys
  | _, _ => false
theorem eqvAll_pys : ∀ xs ys : List D, PyData.eqvAll (D.pys xs) (D.pys ys) = eqDs xs ys
  | [], [] => rfl
  | [], _ :: _ => rfl
  | _ :: _, [] => rfl
  | x :: xs, y :: ys => by simp only [D.pys, PyData.eqvAll, eqDs, eqvAll_pys xs ys]; rfl
theorem eqD_tup (xs ys : List D) : eqD (.tup xs) (.tup ys) = eqDs xs ys := by simp only [eqD, D.py, PyData.eqv]; exact eqvAll_pys xs ys
theorem eqD_lst (xs ys : List D) : eqD (.lst xs) (.lst ys) = eqDs xs ys := by simp only [eqD, D.py, PyData.eqv]; exact eqvAll_pys xs ys
@[simp] theorem eqD_lst_tup (xs ys : List D) : eqD (.lst xs) (.tup ys) = false := rfl
@[simp] theorem eqD_tup_lst (xs ys : List D) : eqD (.tup xs) (.lst ys) = false := rfl
theorem eqDs_map {α : Type} [DecidableEq α] (f : α → D) (hf : ∀ x y, eqD (f x) (f y) = decide (x = y)) : ∀ xs ys : List α, eqDs (xs.map f) (ys.map f) = decide (xs = ys)
  | [], [] => rfl
  | [], _ :: _ => rfl
  | _ :: _, [] => rfl
  | x :: xs, y :: ys => by
    simp only [List.map_cons, eqDs, hf, eqDs_map f hf xs ys, List.cons.injEq]
    by_cases h1 : x = y <;> by_cases h2 : xs = ys <;> simp [h1, h2]
theorem pls_map {α : Type} (f : α → D) (n : Nat) (hf : ∀ x, D.pl n (f x) = true) (xs : List α) : (xs.map f).all (D.pl n) = true := by simp [hf]
@[simp] theorem pl_int (n : Nat) (i : Int) : D.pl n (.int i) = true := by cases n <;> rfl
@[simp] theorem pl_bl (n : Nat) (i : Bool) : D.pl n (.bl i) = true := by cases n <;> rfl
@[simp] theorem pl_non (n : Nat) : D.pl n .non = true := by cases n <;> rfl
@[simp] theorem pl_str (n : Nat) (x : Str) : D.pl n (.str x) = PyData.strOk x := by cases n <;> rfl
@[simp] theorem pl_tup (n : Nat) (xs : List D) : D.pl (n + 1) (.tup xs) = (decide (xs.length < 1000000) && xs.all (D.pl n)) := rfl
@[simp] theorem pl_lst (n : Nat) (xs : List D) : D.pl (n + 1) (.lst xs) = (decide (xs.length < 1000000) && xs.all (D.pl n)) := rfl
@[simp] theorem kEq_int (i j : Int) : kEq (.int i) (.int j) = M.pure (.bl (i == j)) := (kEq_pl 0 0 (by simp) (by simp)).trans (by simp)
@[simp] theorem kNe_int (i j : Int) : kNe (.int i) (.int j) = M.pure (.bl (!(i == j))) := (kNe_pl 0 0 (by simp) (by simp)).trans (by simp)
@[simp] theorem kEq_bl (i j : Bool) : kEq (.bl i) (.bl j) = M.pure (.bl (i == j)) := (kEq_pl 0 0 (by simp) (by simp)).trans (by simp)
@[simp] theorem kNe_bl (i j : Bool) : kNe (.bl i) (.bl j) = M.pure (.bl (!(i == j))) := (kNe_pl 0 0 (by simp) (by simp)).trans (by simp)
@[simp] theorem kEq_non : kEq .non .non = M.pure (.bl true) := (kEq_pl 0 0 (by simp) (by simp)).trans (by simp)
@[simp] theorem kNe_non : kNe .non .non = M.pure (.bl false) := (kNe_pl 0 0 (by simp) (by simp)).trans (by simp)
@[simp] theorem kEq_non_int (i : Int) : kEq .non (.int i) = M.pure (.bl false) := (kEq_pl 0 0 (by simp) (by simp)).trans (by simp)
@[simp] theorem kEq_int_non (i : Int) : kEq (.int i) .non = M.pure (.bl false) := (kEq_pl 0 0 (by simp) (by simp)).trans (by simp)
/-! ## bools, isinstance, is -/
@[simp] theorem ints_map : ∀ ns : List Int, D.ints (ns.map .int) = some ns
  | [] => rfl
  | n :: ns => by simp [D.ints, ints_map ns]
@[simp] theorem bls_map : ∀ ns : List Bool, D.bls (ns.map .bl) = some ns
  | [] => rfl
  | n :: ns => by simp [D.bls, bls_map ns]
@[simp] theorem kOfBls_map (f : List Bool → M D) (bs : List Bool) : kOfBls f [.lst (bs.map .bl)] = f bs := by simp [kOfBls]
@[simp] theorem kOfInts_map (f : List Int → M D) (bs : List Int) : kOfInts f [.lst (bs.map .int)] = f bs := by simp [kOfInts]
theorem bls_rep' (n : Nat) (b : Bool) : D.bls (List.replicate n (.bl b)) = some (List.replicate n b) := by
  rw [show List.replicate n (D.bl b) = (List.replicate n b).map .bl by simp]; exact bls_map _
@[simp] theorem kIsi_non (ns : List String) : kIsi ns .non = M.pure (.bl (ns.any (isTy "NoneType"))) := rfl
@[simp] theorem kIsi_bl (ns : List String) (b : Bool) : kIsi ns (.bl b) = M.pure (.bl (ns.any (isTy "bool"))) := rfl
@[simp] theorem kIsi_int (ns : List String) (b : Int) : kIsi ns (.int b) = M.pure (.bl (ns.any (isTy "int"))) := rfl
@[simp] theorem kIsi_str (ns : List String) (b : Str) : kIsi ns (.str b) = M.pure (.bl (ns.any (isTy "str"))) := rfl
@[simp] theorem kIsi_tup (ns : List String) (b : List D) : kIsi ns (.tup b) = M.pure (.bl (ns.any (isTy "tuple"))) := rfl
@[simp] theorem kIsi_lst (ns : List String) (b : List D) : kIsi ns (.lst b) = M.pure (.bl (ns.any (isTy "list"))) := rfl
@[simp] theorem isTy_ap (t n : String) : isTy t n = (t == n || (t == "bool" && n == "int")) := rfl
@[simp] theorem kIs_non (x : D) : kIs x .non = M.pure (.bl (D.isN x)) := by cases x <;> rfl
@[simp] theorem kIsNot_non (x : D) : kIsNot x .non = M.pure (.bl (!D.isN x)) := by cases x <;> rfl
@[simp] theorem kIs_bl (a b : Bool) : kIs (.bl a) (.bl b) = M.pure (.bl (decide (a = b))) := rfl
@[simp] theorem isN_non : D.isN .non = true := rfl
@[simp] theorem isN_bl (b : Bool) : D.isN (.bl b) = false := rfl
@[simp] theorem isN_int (b : Int) : D.isN (.int b) = false := rfl
@[simp] theorem isN_str (b : Str) : D.isN (.str b) = false := rfl
@[simp] theorem isN_tup (b : List D) : D.isN (.tup b) = false := rfl
@[simp] theorem isN_lst (b : List D) : D.isN (.lst b) = false := rfl
/-! ## equal as the law says -/
theorem zipD_map (xs : List D) : zipD xs xs = xs.map fun x => .tup [x, x] := by
  unfold zipD
  induction xs with
  | nil => rfl
  | cons x xs ih => simp [ih]
theorem zipK_lst (a b : List D) : zipK2 [.lst a, .lst b] = M.pure (zipD a b) := rfl
theorem zipK_tup (a b : List D) : zipK2 [.tup a, .tup b] = M.pure (zipD a b) := rfl
theorem equal_self : ∀ (n : Nat) (x : D), D.pl n x = true → ∀ g, d_Lequal (n + 1) [x, x] g = .ok (.bl true) g := by
  intro n
  induction n with
  | zero =>
    intro x hx g
    show runD 4 false (b_Lequal (d_Lequal 0)) [x, x] g = _
    unfold runD b_Lequal
    cases x with
    | tup _ => cases hx
    | lst _ => cases hx
    | slst _ => cases hx
    | dT _ => cases hx
    | dK _ => cases hx
    | hdl _ => cases hx
    | str s => simp [startD, kEq_pl 0 0 hx hx]; rfl
    | _ => simp [startD, M.pure]
  | succ n ih =>
    intro x hx g
    show runD 4 false (b_Lequal (d_Lequal (n + 1))) [x, x] g = _
    unfold runD b_Lequal
    have many : ∀ xs : List D, xs.all (D.pl n) = true → ∀ σ : DS, σ.length = 4 → ∀ g, compM (gNs [2, 3]) tYesD (eArgs (callN 2 (d_Lequal (n + 1))) (lCons (eVar 2) (lCons (eVar 3) lNil))) σ (xs.map fun x => .tup [x, x]) g = .ok (List.replicate xs.length (.bl true)) g := by
      intro xs hxs σ hσ
      induction xs with
      | nil => intro g; rfl
      | cons y ys ih2 =>
        intro g
        simp only [List.all_cons, Bool.and_eq_true] at hxs
        match σ, hσ with
        | [s0, s1, s2, s3], _ =>
          simp only [List.map_cons, compM, gNs_2, pure_bind', tYes_ap, noerr_pure', if_true]
          have e1 : M.noerr (eArgs (callN 2 (d_Lequal (n + 1))) (lCons (eVar 2) (lCons (eVar 3) lNil)) [s0, s1, some (.sh y), some (.sh y)]) g = .ok (.bl true) g := noerr_ok (by simpa using ih y hxs.1 g)
          have e2 := ih2 hxs.2 g
          show M.bind (M.noerr (eArgs (callN 2 (d_Lequal (n + 1))) (lCons (eVar 2) (lCons (eVar 3) lNil)) [s0, s1, some (.sh y), some (.sh y)])) _ g = _
          rw [bind_ok e1, bind_ok e2]
          simp [M.pure, List.replicate_succ]
    cases x with
    | slst _ => cases hx
    | dT _ => cases hx
    | dK _ => cases hx
    | hdl _ => cases hx
    | str s =>
      have hs : D.pl 0 (.str s) = true := hx
      simp [startD, kEq_pl 0 0 hs hs]; rfl
    | tup xs =>
      have h2 := Bool.and_eq_true_iff.mp hx
      have hl : xs.length < 1000000 := of_decide_eq_true h2.1
      simp [startD, zipK_tup, zipD_map, hl]
      rw [bind_ok (many xs h2.2 [some (.sh (.tup xs)), some (.sh (.tup xs)), none, none] rfl g)]
      simp [kOfBls, bls_rep', M.pure]
    | lst xs =>
      have h2 := Bool.and_eq_true_iff.mp hx
      have hl : xs.length < 1000000 := of_decide_eq_true h2.1
      simp [startD, zipK_lst, zipD_map, hl]
      rw [bind_ok (many xs h2.2 [some (.sh (.lst xs)), some (.sh (.lst xs)), none, none] rfl g)]
      simp [kOfBls, bls_rep', M.pure]
    | _ => simp [startD, M.pure]
theorem pl_mono : ∀ {n : Nat} {x : D}, D.pl n x = true → ∀ m, D.pl (n + m) x = true
  | _, .non, _, m => pl_non _
  | _, .bl _, _, m => pl_bl _ _
  | _, .int _, _, m => pl_int _ _
  | n, .str _, h, m => by rw [pl_str] at h ⊢; exact h
  | n + 1, .tup xs, h, m => by
    rw [show n + 1 + m = n + m + 1 by omega]
    simp only [pl_tup, Bool.and_eq_true, List.all_eq_true] at h ⊢
    exact ⟨h.1, fun x hx => pl_mono (h.2 x hx) m⟩
  | n + 1, .lst xs, h, m => by
    rw [show n + 1 + m = n + m + 1 by omega]
    simp only [pl_lst, Bool.and_eq_true, List.all_eq_true] at h ⊢
    exact ⟨h.1, fun x hx => pl_mono (h.2 x hx) m⟩
  | 0, .tup _, h, _ => nomatch h
  | 0, .lst _, h, _ => nomatch h
  | 0, .slst _, h, _ => nomatch h
  | _ + 1, .slst _, h, _ => nomatch h
  | 0, .dT _, h, _ => nomatch h
  | _ + 1, .dT _, h, _ => nomatch h
  | 0, .dK _, h, _ => nomatch h
  | _ + 1, .dK _, h, _ => nomatch h
  | 0, .hdl _, h, _ => nomatch h
  | _ + 1, .hdl _, h, _ => nomatch h
theorem equal_T {x y : D} {g : G} {Q : D → G → Prop} (h : x = y) (hp : D.pl 7 y = true) (q : Q (.bl true) g) : T (d_Lequal 8 [x, y]) g Q := by
  subst h
  exact (T_ok (equal_self 7 x hp g)).mpr q
end NS
namespace NS
open PySem PySem.Spec PyProof.Rows L2
/-! ## the law's source, its shape -/
@[simp] theorem srcNew_T (a b c : Int) (g : G) (Q : Fl → G → Prop) : T (srcNew (.lst [.int a, .int b, .int c])) g Q ↔ Q (.rt (.hdl g.length)) (g ++ [.src a b c]) := T_ok rfl
@[simp] theorem sRetH_ap (fe : DS → M D) (σ : DS) : sRetH fe σ = M.bind (fe σ) srcNew := rfl
theorem atI_map_int (ns : List Int) (i : Int) (h0 : 0 ≤ i) (h : i < ns.length) : ∃ n : Int, L2.atI (ns.map D.int) i = some (.int n) := by
  obtain ⟨j, rfl⟩ := Int.eq_ofNat_of_zero_le h0
  have hj : j < ns.length := by omega
  exact ⟨ns[j], atI_nat (by simp [hj])⟩
theorem kAbs_if (i : Int) : kAbs [.int i] = M.pure (.int (if i < 0 then -i else i)) := rfl
theorem source_T (ns : List Int) (i : Int) (g : G) (h0 : 0 ≤ i) (h1 : i < 1000) (hl : ns.length ≤ 63) : T (d_Lsource [.slst (ns.map .int), .int i]) g fun d g' => ∃ a b, d = .hdl g.length ∧ g' = g ++ [.src a b 0] ∧ 0 ≤ a ∧ 0 ≤ b ∧ b < 2147483648 := by
  have m : ∀ a : Int, 0 ≤ a % 2147483543 ∧ a % 2147483543 < 2147483543 := fun a => ⟨Int.emod_nonneg _ (by decide), Int.emod_lt_of_pos _ (by decide)⟩
  have fin : ∀ n : Int, ∀ Q : D → G → Prop, (∀ a b : Int, 0 ≤ a → 0 ≤ b → b < 2147483648 → Q (.hdl g.length) (g ++ [.src a b 0])) → T (sRetH (eArgs mkL (lCons (eBin kMul (eArgs kAbs (lCons (eVar 2) lNil)) (eArgs kInt (lCons (eBin kGe (eArgs kAbs (lCons (eVar 2) lNil)) (eBin kPow (eC (.int 10)) (eC (.int 18)))) lNil))) (lCons (eBin kMod (eBin kMul (eBin kAdd (eBin kAdd (eBin kMod (eVar 2) (eC (.int 2147483563))) (eBin kMul (eC (.int 90007)) (eVar 1))) (eC (.int 67))) (eC (.int 39971))) (eC (.int 2147483543))) (lCons (eC (.int 0)) lNil)))) [some (.sh (.slst (ns.map .int))), some (.sh (.int i)), some (.sh (.int n))]) g
      (RQ false Q) := fun n Q hq => by
    by_cases h : 1000000000000000000 ≤ (if n < 0 then -n else n) <;> simp [-kAbs_int, kAbs_if, h]
    · exact hq _ _ (by omega) (m _).1 (Int.lt_trans (m _).2 (by decide))
    · exact hq _ _ (by omega) (m _).1 (Int.lt_trans (m _).2 (by decide))
  refine runD_T ?_
  unfold b_Lsource
  rw [sSeq_ap, T_bind, sSet_sh, eC_ap, pure_bind', T_pure]
  show T (sSeq _ _ [some (.sh (.slst (ns.map .int))), some (.sh (.int i)), some (.sh (.int 0))]) g _
  rw [sSeq_ap, T_bind]
  by_cases hi : i < ns.length
  · obtain ⟨n, e⟩ := atI_map_int ns i h0 hi
    simp only [sIf_ap, eTst_ap, eBin_ap, eVar0, eVarS, eArgs_ap, lCons_ap, lNil_ap, pure_bind', kLen_slst, List.length_map, kLt_int, asB_bl, hi, decide_true, if_true, sSet_sh, kIx_slst, e, opt_some', T_pure]
    exact fin n _ fun a b h1 h2 h3 => ⟨a, b, rfl, rfl, h1, h2, h3⟩
  · simp only [sIf_ap, eTst_ap, eBin_ap, eVar0, eVarS, eArgs_ap, lCons_ap, lNil_ap, pure_bind', kLen_slst, List.length_map, kLt_int, asB_bl, hi, decide_false, Bool.false_eq_true, if_false, sNil_ap, T_pure]
    exact fin 0 _ fun a b h1 h2 h3 => ⟨a, b, rfl, rfl, h1, h2, h3⟩
theorem rngD_get {lo hi : Int} {i : Nat} {d : D} (h : (rngD lo hi)[i]? = some d) : d = .int (lo + i) ∧ lo + i < hi := by
  unfold rngD at h
  rw [List.getElem?_map] at h
  by_cases hi' : i < (hi - lo).toNat
  · rw [List.getElem?_range hi'] at h
    simp at h
    exact ⟨h.symm, by omega⟩
  · rw [List.getElem?_eq_none (by simpa using hi')] at h
    cases h
@[simp] theorem rngD_len (lo hi : Int) : (rngD lo hi).length = (hi - lo).toNat := by simp [rngD]
theorem src_new (g : G) (hg : Gpur g = true) (a b : Int) (h1 : 0 ≤ a) (h2 : 0 ≤ b) (h3 : b < 2147483648) : Src g.length 1000000000 (g ++ [.src a b 0]) := ⟨a, b, 0, by simp, h1, h2, h3, by decide, by decide, Gpur.add hg a b 0⟩
def bLawA (N : Int) (H : List D → M D) : DS → M Fl :=
  (sRet (eArgs (kOfBls fun bs => M.pure (.bl (bs.all id))) (lCons (eComp (iArgs rng1 (lCons (eArgs kMax2 (lCons (eC (.int 1)) (lCons (eArgs kMin2 (lCons (eC (.int N)) (lCons (eArgs kLen (lCons (eVar 0) lNil)) lNil))) lNil))) lNil)) [1] (gN 1) tYesD (eArgs (callN 1 H) (lCons (eArgs (callN 2 d_Lsource) (lCons (eVar 0) (lCons (eVar 1) lNil))) lNil))) lNil)))
theorem law_A {N : Int} {H : List D → M D} (hH : ∀ k g, Src k 1000000000 g → T (H [.hdl k]) g fun d g' => d = .bl true ∧ Gpur g' = true) (ns : List Int) (hl : ns.length ≤ 63) (hN : 1 ≤ N ∧ N ≤ 3 := by decide) : ∃ g', runD 2 false (bLawA N H) [.slst (ns.map .int)] [] = .ok (.bl true) g' := by
  have t : T (runD 2 false (bLawA N H) [.slst (ns.map .int)]) [] fun d _ => d = .bl true := by
    refine runD_T ?_
    unfold bLawA
    generalize hm : max 1 (min N (ns.length : Int)) = m
    have hm1 : 1 ≤ m ∧ m ≤ 3 := by omega
    simp [startD]
    rw [hm]
    refine ⟨by omega, by omega, by omega, ?_⟩
    refine compM_T (fun n rs g => rs = List.replicate n (.bl true) ∧ Gpur g = true) (n := 0) (rs := []) ?_ ⟨rfl, rfl⟩ fun rs g' ⟨e, _⟩ => ?_
    · rintro i d g rs e ⟨rfl, hg⟩
      obtain ⟨rfl, h1⟩ := rngD_get e
      simp
      refine (source_T ns (i : Int) g (by omega) (by omega) hl).imp fun d g' ⟨a, b, e1, e2, h1, h2, h3⟩ => ?_
      subst e1 e2
      refine (hH _ _ (src_new g hg a b h1 h2 h3)).imp fun d _ ⟨e, hg'⟩ => ?_
      subst e
      exact ⟨by rw [List.replicate_succ'], hg'⟩
    · simp at e
      subst e
      simp [kOfBls, bls_rep']
  obtain ⟨d, g', e, h⟩ := t
  subst h
  exact ⟨g', e⟩
/-- a law with one turn, from the first source -/
theorem law_one {H : List D → M D} (hH : ∀ a b : Int, 0 ≤ a → 0 ≤ b → b < 2147483648 → ∃ g', H [.hdl 0] [.src a b 0] = .ok (.bl true) g') (ns : List Int) (hl : ns.length ≤ 63) : ∃ g', runD 2 false (bLawA 1 H) [.slst (ns.map .int)] [] = .ok (.bl true) g' := by
  have t : T (runD 2 false (bLawA 1 H) [.slst (ns.map .int)]) [] fun d _ => d = .bl true := by
    refine runD_T ?_
    unfold bLawA
    have hm : max 1 (min 1 (ns.length : Int)) = 1 := by omega
    simp [startD]
    rw [hm]
    refine ⟨by omega, by omega, by omega, ?_⟩
    refine compM_T (fun n rs g => rs = List.replicate n (.bl true) ∧ (n = 0 → g = [])) (n := 0) (rs := []) ?_ ⟨rfl, fun _ => rfl⟩ fun rs g' ⟨e, _⟩ => ?_
    · rintro i d g rs e ⟨rfl, hg⟩
      obtain ⟨rfl, h1⟩ := rngD_get e
      have hi : i = 0 := by omega
      subst hi
      rw [hg rfl]
      simp
      refine (source_T ns 0 [] (by omega) (by omega) hl).imp fun d g' ⟨a, b, e1, e2, h1, h2, h3⟩ => ?_
      subst e1 e2
      obtain ⟨g2, e⟩ := hH a b h1 h2 h3
      exact ⟨_, _, e, rfl⟩
    · simp at e
      subst e
      simp [kOfBls, D.bls]
  obtain ⟨d, g', e, h⟩ := t
  subst h
  exact ⟨g', e⟩
end NS
namespace NS
/-! ## sums -/
def sg {α : Type} (l : List α) (f : α → Nat) : Nat := (l.map f).sum
@[simp] theorem sg_nil {α : Type} (f : α → Nat) : sg [] f = 0 := rfl
@[simp] theorem sg_cons {α : Type} (a : α) (l : List α) (f : α → Nat) : sg (a :: l) f = f a + sg l f := by simp [sg]
theorem sg_app {α : Type} (l m : List α) (f : α → Nat) : sg (l ++ m) f = sg l f + sg m f := by simp [sg]
theorem sg_map {α β : Type} (h : α → β) (l : List α) (f : β → Nat) : sg (l.map h) f = sg l fun a => f (h a) := by simp [sg, Function.comp_def]
theorem sg_congr {α : Type} {l : List α} {f g : α → Nat} (h : ∀ a ∈ l, f a = g a) : sg l f = sg l g := by
  unfold sg; rw [List.map_congr_left h]
theorem sg_add {α : Type} (l : List α) (f g : α → Nat) : sg l (fun a => f a + g a) = sg l f + sg l g := by
  induction l with
  | nil => rfl
  | cons a l ih => simp [ih]; omega
theorem sg_mul {α : Type} (l : List α) (k : Nat) (f : α → Nat) : sg l (fun a => k * f a) = k * sg l f := by
  induction l with
  | nil => rfl
  | cons a l ih => simp [ih, Nat.mul_add]
theorem sg_mul' {α : Type} (l : List α) (k : Nat) (f : α → Nat) : sg l (fun a => f a * k) = sg l f * k := by
  induction l with
  | nil => simp
  | cons a l ih => simp [ih, Nat.add_mul]
theorem sg_zero {α : Type} {l : List α} {f : α → Nat} (h : ∀ a ∈ l, f a = 0) : sg l f = 0 := by
  rw [sg_congr h]; induction l with
  | nil => rfl
  | cons a l ih => simp [ih fun a ha => h a (List.mem_cons_of_mem _ ha)]
theorem sg_zero_iff {α : Type} {l : List α} {f : α → Nat} : sg l f = 0 ↔ ∀ a ∈ l, f a = 0 := by
  induction l with
  | nil => simp
  | cons a l ih => simp [ih]
theorem sg_swap {α β : Type} (l : List α) (m : List β) (f : α → β → Nat) : sg l (fun a => sg m (f a)) = sg m (fun b => sg l fun a => f a b) := by
  induction l with
  | nil => simp; exact (sg_zero fun _ _ => rfl).symm
  | cons a l ih => simp [ih, sg_add]
theorem sg_filter {α : Type} (l : List α) (p : α → Bool) (f : α → Nat) : sg (l.filter p) f = sg l fun a => if p a = true then f a else 0 := by
  induction l with
  | nil => rfl
  | cons a l ih => by_cases h : p a = true <;> simp [List.filter_cons, h, ih]
theorem sg_le {α : Type} {l : List α} {f g : α → Nat} (h : ∀ a ∈ l, f a ≤ g a) : sg l f ≤ sg l g := by
  induction l with
  | nil => simp
  | cons a l ih =>
    have := h a List.mem_cons_self
    have := ih fun b hb => h b (List.mem_cons_of_mem _ hb)
    simp; omega
theorem sg_const {α : Type} (l : List α) (k : Nat) : sg l (fun _ => k) = l.length * k := by
  induction l with
  | nil => simp
  | cons a l ih => simp [ih, Nat.add_mul]; omega
/-! ## a cell taken away -/
def rm (c : Int) (R : List Int) : List Int := R.filter fun d => d != c
theorem mem_rm {c d : Int} {R : List Int} : d ∈ rm c R ↔ d ∈ R ∧ d ≠ c := by simp [rm]
theorem rm_comm (c d : Int) (R : List Int) : rm c (rm d R) = rm d (rm c R) := by
  simp only [rm, List.filter_filter]
  congr 1; funext x; exact Bool.and_comm _ _
theorem rm_app (c : Int) (A B : List Int) : rm c (A ++ B) = rm c A ++ rm c B := by simp [rm]
theorem rm_not {c : Int} {R : List Int} (h : c ∉ R) : rm c R = R := List.filter_eq_self.mpr fun d hd => by simp; rintro rfl; exact h hd
theorem rm_nodup {c : Int} {R : List Int} (h : R.Nodup) : (rm c R).Nodup := h.filter _
theorem rm_sub (c : Int) (R : List Int) : ∀ d ∈ rm c R, d ∈ R := fun d h => (mem_rm.mp h).1
theorem rm_len {c : Int} : ∀ {R : List Int}, R.Nodup → c ∈ R → (rm c R).length + 1 = R.length
  | d :: R, h, hc => by
    have h2 := List.nodup_cons.mp h
    by_cases e : d = c
    · subst e
      have : rm d (d :: R) = R := by simp [rm, List.filter_cons]; exact fun a ha => by rintro rfl; exact h2.1 ha
      rw [this]; rfl
    · have hc' : c ∈ R := by rcases List.mem_cons.mp hc with rfl | h'; exact absurd rfl e; exact h'
      have : rm c (d :: R) = d :: rm c R := by simp [rm, List.filter_cons, e]
      rw [this]; simp [rm_len h2.2 hc']
theorem sg_rm (c : Int) (R : List Int) (f : Int → Nat) : sg (rm c R) f = sg R fun d => if (d != c) = true then f d else 0 := sg_filter _ _ _
/-! ## counts by steps -/
def cnt (ok : List Int → Int → Bool) : Nat → List Int → Nat
  | _, [] => 1
  | 0, _ :: _ => 0
  | k + 1, c :: R => sg (c :: R) fun d => if ok (c :: R) d = true then cnt ok k (rm d (c :: R)) else 0
@[simp] theorem cnt_nil (ok : List Int → Int → Bool) (k : Nat) : cnt ok k [] = 1 := by cases k <;> rfl
theorem cnt_step (ok : List Int → Int → Bool) (k : Nat) {R : List Int} (h : R ≠ []) : cnt ok (k + 1) R = sg R fun d => if ok R d = true then cnt ok k (rm d R) else 0 := by
  cases R with
  | nil => exact absurd rfl h
  | cons c R => rfl
/-- the count, the steps as many as there are cells -/
def ct (ok : List Int → Int → Bool) (R : List Int) : Nat := cnt ok R.length R
@[simp] theorem ct_nil (ok : List Int → Int → Bool) : ct ok [] = 1 := rfl
theorem ct_step (ok : List Int → Int → Bool) {R : List Int} (nd : R.Nodup) (h : R ≠ []) : ct ok R = sg R fun d => if ok R d = true then ct ok (rm d R) else 0 := by
  unfold ct
  obtain ⟨k, hk⟩ : ∃ k, R.length = k + 1 := by cases R; exact absurd rfl h; exact ⟨_, rfl⟩
  rw [hk, cnt_step _ _ h]
  refine sg_congr fun d hd => ?_
  have := rm_len nd hd
  rw [show (rm d R).length = k by omega]
theorem nodup_ind {P : List Int → Prop} (h : ∀ R : List Int, R.Nodup → (∀ c ∈ R, P (rm c R)) → P R) : ∀ {R : List Int}, R.Nodup → P R := by
  have : ∀ n, ∀ R : List Int, R.length = n → R.Nodup → P R := by
    intro n
    induction n with
    | zero => intro R hR nd; exact h R nd fun c hc => by cases R with | nil => cases hc | cons => cases hR
    | succ n ih =>
      intro R hR nd
      exact h R nd fun c hc => ih _ (by have := rm_len nd hc; omega) (rm_nodup nd)
  exact fun {R} nd => this _ R rfl nd
section
variable (nd : Int → Int → Bool)
/-- c needs none of R -/
def okF (R : List Int) (c : Int) : Bool := R.all fun d => !nd c d
/-- none of R needs c -/
def okL (R : List Int) (c : Int) : Bool := R.all fun d => !nd d c
/-- what c needs of U is in R -/
def okW (U R : List Int) (c : Int) : Bool := U.all fun d => !nd c d || R.contains d
/-- the number of orders -/
def LE (R : List Int) : Nat := ct (okF nd) R
variable {nd}
theorem okF_iff {R : List Int} {c : Int} : okF nd R c = true ↔ ∀ d ∈ R, nd c d = false := by simp [okF]
theorem okL_iff {R : List Int} {c : Int} : okL nd R c = true ↔ ∀ d ∈ R, nd d c = false := by simp [okL]
theorem okW_iff {U R : List Int} {c : Int} : okW nd U R c = true ↔ ∀ d ∈ U, nd c d = true → d ∈ R := by
  simp only [okW, List.all_eq_true, Bool.or_eq_true, Bool.not_eq_true', List.contains_iff_mem]
  constructor
  · intro h d hd e; rcases h d hd with h | h; rw [e] at h; cases h; exact h
  · intro h d hd; cases e : nd c d; exact .inl rfl; exact .inr (h d hd e)
theorem bool_iff {a b : Bool} (h : a = true ↔ b = true) : a = b := by cases a <;> cases b <;> simp_all
/-- by first ones and by last ones: the same -/
theorem first_last (irr : ∀ c, nd c c = false) {R : List Int} (h : R.Nodup) : ct (okF nd) R = ct (okL nd) R := by
  have : ∀ n, ∀ R : List Int, R.length ≤ n → R.Nodup → ct (okF nd) R = ct (okL nd) R := by
    intro n
    induction n with
    | zero =>
      intro R hR _
      cases R with
      | nil => rfl
      | cons => cases hR
    | succ n ih =>
      intro R hR hn
      match R, hR, hn with
      | [], _, _ => rfl
      | [c], _, _ => simp [ct, cnt, okF, okL, irr, rm]
      | c :: d :: R, hR, hn =>
        have ne : (c :: d :: R) ≠ [] := by simp
        have two : 2 ≤ (c :: d :: R).length := by simp
        generalize c :: d :: R = R at *
        have rne : ∀ x ∈ R, rm x R ≠ [] := fun x hx e => by have := rm_len hn hx; rw [e] at this; simp at this; omega
        rw [ct_step _ hn ne, ct_step _ hn ne]
        have eA : (sg R fun x => if okF nd R x = true then ct (okF nd) (rm x R) else 0) = sg R fun x => sg R fun y => if okF nd R x = true ∧ y ≠ x ∧ okL nd (rm x R) y = true then ct (okL nd) (rm y (rm x R)) else 0 := by
          refine sg_congr fun x hx => ?_
          by_cases hF : okF nd R x = true
          · simp only [hF, if_true, true_and]
            rw [ih _ (by have := rm_len hn hx; omega) (rm_nodup hn), ct_step _ (rm_nodup hn) (rne x hx), sg_rm]
            refine sg_congr fun y hy => ?_
            by_cases e : y = x <;> simp [e]
          · simp only [hF, false_and, if_false]
            exact (sg_zero fun _ _ => by simp).symm
        have eB : (sg R fun x => if okL nd R x = true then ct (okL nd) (rm x R) else 0) = sg R fun x => sg R fun y => if okL nd R x = true ∧ y ≠ x ∧ okF nd (rm x R) y = true then ct (okF nd) (rm y (rm x R)) else 0 := by
          refine sg_congr fun x hx => ?_
          by_cases hF : okL nd R x = true
          · simp only [hF, if_true, true_and]
            rw [← ih _ (by have := rm_len hn hx; omega) (rm_nodup hn), ct_step _ (rm_nodup hn) (rne x hx), sg_rm]
            refine sg_congr fun y hy => ?_
            by_cases e : y = x <;> simp [e]
          · simp only [hF, false_and, if_false]
            exact (sg_zero fun _ _ => by simp).symm
        rw [eA, eB, sg_swap]
        refine sg_congr fun y hy => sg_congr fun x hx => ?_
        have key : (okF nd R x = true ∧ y ≠ x ∧ okL nd (rm x R) y = true) ↔ (okL nd R y = true ∧ x ≠ y ∧ okF nd (rm y R) x = true) := by
          simp only [okF_iff, okL_iff, mem_rm]
          constructor
          · rintro ⟨h1, h2, h3⟩
            refine ⟨fun d hd => ?_, Ne.symm h2, fun d hd => h1 d hd.1⟩
            by_cases e : d = x
            · subst e; exact h1 y hy
            · exact h3 d ⟨hd, e⟩
          · rintro ⟨h1, h2, h3⟩
            refine ⟨fun d hd => ?_, Ne.symm h2, fun d hd => h1 d hd.1⟩
            by_cases e : d = y
            · subst e; exact h1 x hx
            · exact h3 d ⟨hd, e⟩
        by_cases c : (okF nd R x = true ∧ y ≠ x ∧ okL nd (rm x R) y = true)
        · rw [if_pos c, if_pos (key.mp c), rm_comm]
          refine (ih _ ?_ (rm_nodup (rm_nodup hn))).symm
          have h1 := rm_len hn hy
          have h2 := rm_len (rm_nodup (c := y) hn) (mem_rm.mpr ⟨hx, fun e => c.2.1 e.symm⟩)
          omega
        · rw [if_neg c, if_neg fun h => c (key.mpr h)]
  exact this _ R (Nat.le_refl _) h
/-- the numbers of shuffles -/
def ch : Nat → Nat → Nat
  | _, 0 => 1
  | 0, _ + 1 => 0
  | n + 1, k + 1 => ch n k + ch n (k + 1)
@[simp] theorem ch_zero (n : Nat) : ch n 0 = 1 := by cases n <;> rfl
theorem ch_big : ∀ {n k : Nat}, n < k → ch n k = 0
  | 0, k + 1, _ => rfl
  | n + 1, k + 1, h => by rw [ch, ch_big (by omega), ch_big (by omega)]
@[simp] theorem ch_self : ∀ n : Nat, ch n n = 1
  | 0 => rfl
  | n + 1 => by rw [ch, ch_self n, ch_big (by omega)]
theorem ch_pos : ∀ {n k : Nat}, k ≤ n → 0 < ch n k
  | _, 0, _ => by simp
  | n + 1, k + 1, h => by rw [ch]; have := ch_pos (n := n) (k := k) (by omega); omega
theorem ch_succ : ∀ n k : Nat, ch n (k + 1) * (k + 1) = ch n k * (n - k)
  | 0, k => by cases k <;> simp [ch]
  | n + 1, 0 => by simp [ch]; have := ch_succ n 0; simp at this; omega
  | n + 1, k + 1 => by
    have h1 := ch_succ n (k + 1)
    have h2 := ch_succ n k
    simp only [ch]
    by_cases hk : k + 1 ≤ n
    · obtain ⟨j, rfl⟩ : ∃ j, n = k + 1 + j := ⟨n - (k + 1), by omega⟩
      rw [show k + 1 + j - (k + 1) = j by omega] at h1
      rw [show k + 1 + j - k = j + 1 by omega] at h2
      rw [show k + 1 + j + 1 - (k + 1) = j + 1 by omega]
      rw [Nat.add_mul, h1]
      have : ch (k + 1 + j) (k + 1) * (k + 1 + 1) = ch (k + 1 + j) (k + 1) * (k + 1) + ch (k + 1 + j) (k + 1) := by rw [Nat.mul_succ]
      rw [this, h2, Nat.add_mul, Nat.mul_succ (ch (k + 1 + j) (k + 1)) j]
      omega
    · by_cases e : n = k
      · subst e; simp [ch_big (show n < n + 1 by omega), ch_big (show n < n + 1 + 1 by omega)]
      · simp [ch_big (show n < k by omega), ch_big (show n < k + 1 by omega), ch_big (show n < k + 1 + 1 by omega)]
theorem ch_symm : ∀ a b : Nat, ch (a + b) a = ch (a + b) b
  | 0, b => by simp
  | a + 1, 0 => by simp
  | a + 1, b + 1 => by
    rw [show a + 1 + (b + 1) = a + (b + 1) + 1 by omega, ch, ch, ch_symm a (b + 1)]
    have := ch_symm (a + 1) b
    rw [show a + 1 + b = a + (b + 1) by omega] at this
    rw [this]; omega
/-- two parts that do not need one another: shuffles -/
theorem ct_apart {ok : List Int → Int → Bool} {A B : List Int} (hn : (A ++ B).Nodup)
    (hA : ∀ A' B' : List Int, (∀ x ∈ A', x ∈ A) → (∀ x ∈ B', x ∈ B) → ∀ c ∈ A', ok (A' ++ B') c = ok A' c)
    (hB : ∀ A' B' : List Int, (∀ x ∈ A', x ∈ A) → (∀ x ∈ B', x ∈ B) → ∀ c ∈ B', ok (A' ++ B') c = ok B' c) :
    ct ok (A ++ B) = ch (A.length + B.length) A.length * (ct ok A * ct ok B) := by
  have : ∀ n, ∀ A B : List Int, A.length + B.length ≤ n → (A ++ B).Nodup →
    (∀ A' B' : List Int, (∀ x ∈ A', x ∈ A) → (∀ x ∈ B', x ∈ B) → ∀ c ∈ A', ok (A' ++ B') c = ok A' c) →
    (∀ A' B' : List Int, (∀ x ∈ A', x ∈ A) → (∀ x ∈ B', x ∈ B) → ∀ c ∈ B', ok (A' ++ B') c = ok B' c) →
    ct ok (A ++ B) = ch (A.length + B.length) A.length * (ct ok A * ct ok B) := by
    intro n
    induction n with
    | zero =>
      intro A B h _ _ _
      have hA : A = [] := List.length_eq_zero_iff.mp (by omega)
      have hB : B = [] := List.length_eq_zero_iff.mp (by omega)
      subst hA hB; simp
    | succ n ih =>
      intro A B h hn hA hB
      by_cases eA : A = []
      · subst eA; simp
      by_cases eB : B = []
      · subst eB; simp
      obtain ⟨nA, nB, dis⟩ := List.nodup_append.mp hn
      have dA : ∀ x ∈ A, x ∉ B := fun x hx hy => dis x hx x hy rfl
      have dB : ∀ x ∈ B, x ∉ A := fun x hx hy => dis x hy x hx rfl
      obtain ⟨a, ha⟩ : ∃ a, A.length = a + 1 := by cases A; exact absurd rfl eA; exact ⟨_, rfl⟩
      obtain ⟨b, hb⟩ : ∃ b, B.length = b + 1 := by cases B; exact absurd rfl eB; exact ⟨_, rfl⟩
      have e1 : (sg A fun d => if ok (A ++ B) d = true then ct ok (rm d (A ++ B)) else 0) = ch (a + B.length) a * (ct ok A * ct ok B) := by
        rw [ct_step ok nA eA, ← sg_mul', ← sg_mul]
        refine sg_congr fun d hd => ?_
        rw [hA A B (fun _ h => h) (fun _ h => h) d hd]
        by_cases c : ok A d = true
        · rw [if_pos c, if_pos c, rm_app, rm_not (dA d hd)]
          have l := rm_len nA hd
          rw [ih (rm d A) B (by omega) ?_ (fun A' B' h1 h2 => hA A' B' (fun x hx => rm_sub _ _ _ (h1 x hx)) h2) (fun A' B' h1 h2 => hB A' B' (fun x hx => rm_sub _ _ _ (h1 x hx)) h2)]
          · rw [show (rm d A).length = a by omega]
          · exact List.nodup_append.mpr ⟨rm_nodup nA, nB, fun x hx y hy => dis x (rm_sub _ _ _ hx) y hy⟩
        · rw [if_neg c, if_neg c]; simp
      have e2 : (sg B fun d => if ok (A ++ B) d = true then ct ok (rm d (A ++ B)) else 0) = ch (A.length + b) A.length * (ct ok A * ct ok B) := by
        rw [ct_step ok nB eB, ← sg_mul, ← sg_mul]
        refine sg_congr fun d hd => ?_
        rw [hB A B (fun _ h => h) (fun _ h => h) d hd]
        by_cases c : ok B d = true
        · rw [if_pos c, if_pos c, rm_app, rm_not (dB d hd)]
          have l := rm_len nB hd
          rw [ih A (rm d B) (by omega) ?_ (fun A' B' h1 h2 => hA A' B' h1 (fun x hx => rm_sub _ _ _ (h2 x hx))) (fun A' B' h1 h2 => hB A' B' h1 (fun x hx => rm_sub _ _ _ (h2 x hx)))]
          · rw [show (rm d B).length = b by omega]
          · exact List.nodup_append.mpr ⟨nA, rm_nodup nB, fun x hx y hy => dis x hx y (rm_sub _ _ _ hy)⟩
        · rw [if_neg c, if_neg c]; simp
      rw [ct_step ok hn (by simp [eA]), sg_app, e1, e2, ha, hb, show a + 1 + (b + 1) = (a + (b + 1)) + 1 by omega, ch, Nat.add_mul, show a + 1 + b = a + (b + 1) by omega]
  exact this _ A B (Nat.le_refl _) hn hA hB
/-- what is not closed has no order -/
theorem okW_open {U : List Int} {S : List Int} (hn : S.Nodup) (hU : ∀ x ∈ S, x ∈ U) (h : ∃ d ∈ S, okW nd U S d = false) : ct (okW nd U) S = 0 := by
  refine nodup_ind (P := fun S => (∀ x ∈ S, x ∈ U) → (∃ d ∈ S, okW nd U S d = false) → ct (okW nd U) S = 0) ?_ hn hU h
  intro S hn ih hU ⟨d, hd, e⟩
  rw [ct_step _ hn (by rintro rfl; cases hd)]
  refine sg_zero fun c hc => ?_
  by_cases ok : okW nd U S c = true
  · rw [if_pos ok]
    have ne : d ≠ c := by rintro rfl; rw [ok] at e; cases e
    refine ih c hc (fun x hx => hU x (rm_sub _ _ _ hx)) ⟨d, mem_rm.mpr ⟨hd, ne⟩, ?_⟩
    cases e2 : okW nd U (rm c S) d with
    | false => rfl
    | true =>
      rw [okW_iff] at e2
      have : okW nd U S d = true := okW_iff.mpr fun x hx n => (mem_rm.mp (e2 x hx n)).1
      rw [this] at e; cases e
  · rw [if_neg ok]
theorem okW_last {U : List Int} {S : List Int} (hn : S.Nodup) (hU : ∀ x ∈ S, x ∈ U) (irr : ∀ c, nd c c = false) (h : ∀ d ∈ S, okW nd U S d = true) : ct (okW nd U) S = ct (okL nd) S := by
  refine nodup_ind (P := fun S => (∀ x ∈ S, x ∈ U) → (∀ d ∈ S, okW nd U S d = true) → ct (okW nd U) S = ct (okL nd) S) ?_ hn hU h
  intro S hn ih hU h
  by_cases eS : S = []
  · subst eS; rfl
  rw [ct_step _ hn eS, ct_step _ hn eS]
  refine sg_congr fun c hc => ?_
  rw [if_pos (h c hc)]
  by_cases ok : okL nd S c = true
  · rw [if_pos ok]
    refine ih c hc (fun x hx => hU x (rm_sub _ _ _ hx)) fun d hd => okW_iff.mpr fun x hx n => mem_rm.mpr ⟨okW_iff.mp (h d (rm_sub _ _ _ hd)) x hx n, ?_⟩
    rintro rfl
    have := okL_iff.mp ok d (rm_sub _ _ _ hd)
    rw [this] at n; cases n
  · rw [if_neg ok]
    have : ¬ ∀ d ∈ S, nd d c = false := fun h => ok (okL_iff.mpr h)
    obtain ⟨d, hd, e⟩ : ∃ d ∈ S, nd d c = true := by
      apply Classical.byContradiction
      intro hh
      refine this fun d hd => ?_
      cases e : nd d c
      · rfl
      · exact absurd ⟨d, hd, e⟩ hh
    refine okW_open (rm_nodup hn) (fun x hx => hU x (rm_sub _ _ _ hx)) ⟨d, mem_rm.mpr ⟨hd, ?_⟩, ?_⟩
    · rintro rfl; rw [irr] at e; cases e
    · cases e2 : okW nd U (rm c S) d with
      | false => rfl
      | true => exact absurd rfl (mem_rm.mp (okW_iff.mp e2 c (hU c hc) e)).2
theorem LE_W (irr : ∀ c, nd c c = false) {R : List Int} (hn : R.Nodup) : ct (okW nd R) R = LE nd R := by
  rw [okW_last hn (fun _ h => h) irr fun d hd => okW_iff.mpr fun x hx _ => hx, LE, first_last irr hn]
theorem LE_first {R : List Int} (hn : R.Nodup) (h : R ≠ []) : LE nd R = sg R fun d => if okF nd R d = true then LE nd (rm d R) else 0 := ct_step _ hn h
theorem LE_last (irr : ∀ c, nd c c = false) {R : List Int} (hn : R.Nodup) (h : R ≠ []) : LE nd R = sg R fun d => if okL nd R d = true then LE nd (rm d R) else 0 := by
  rw [LE, first_last irr hn, ct_step _ hn h]
  refine sg_congr fun d hd => ?_
  by_cases c : okL nd R d = true
  · rw [if_pos c, if_pos c, LE, first_last irr (rm_nodup hn)]
  · rw [if_neg c, if_neg c]
end
end NS
namespace NS
/-! ## ranges of ints -/
def rI (lo hi : Int) : List Int := (List.range (hi - lo).toNat).map fun k => lo + (k : Nat)
@[simp] theorem rI_len (lo hi : Int) : (rI lo hi).length = (hi - lo).toNat := by simp [rI]
theorem mem_rI {lo hi x : Int} : x ∈ rI lo hi ↔ lo ≤ x ∧ x < hi := by
  unfold rI
  rw [List.mem_map]
  constructor
  · rintro ⟨k, hk, rfl⟩
    have := List.mem_range.mp hk
    omega
  · rintro ⟨h1, h2⟩
    exact ⟨(x - lo).toNat, List.mem_range.mpr (by omega), by omega⟩
theorem rI_nil {lo hi : Int} (h : hi ≤ lo) : rI lo hi = [] := List.length_eq_zero_iff.mp (by rw [rI_len]; omega)
theorem rI_get {lo hi : Int} {k : Nat} (h : k < (hi - lo).toNat) : (rI lo hi)[k]? = some (lo + k) := by simp [rI, h]
theorem rI_cons {lo hi : Int} (h : lo < hi) : rI lo hi = lo :: rI (lo + 1) hi := by
  apply List.ext_getElem?
  intro k
  cases k with
  | zero => rw [rI_get (by omega)]; simp
  | succ k =>
    rw [List.getElem?_cons_succ]
    by_cases hk : k + 1 < (hi - lo).toNat
    · rw [rI_get hk, rI_get (by omega)]; congr 1; omega
    · rw [List.getElem?_eq_none (by rw [rI_len]; omega), List.getElem?_eq_none (by rw [rI_len]; omega)]
theorem rI_split {lo mid hi : Int} (h1 : lo ≤ mid) (h2 : mid ≤ hi) : rI lo hi = rI lo mid ++ rI mid hi := by
  apply List.ext_getElem?
  intro k
  by_cases hk : k < (mid - lo).toNat
  · rw [List.getElem?_append_left (by rw [rI_len]; exact hk), rI_get hk, rI_get (by omega)]
  · rw [List.getElem?_append_right (by rw [rI_len]; omega), rI_len]
    by_cases hk2 : k < (hi - lo).toNat
    · rw [rI_get hk2, rI_get (by omega)]; congr 1; omega
    · rw [List.getElem?_eq_none (by rw [rI_len]; omega), List.getElem?_eq_none (by rw [rI_len]; omega)]
theorem rI_last {lo hi : Int} (h : lo < hi) : rI lo hi = rI lo (hi - 1) ++ [hi - 1] := by
  rw [rI_split (mid := hi - 1) (by omega) (by omega), rI_cons (lo := hi - 1) (by omega), rI_nil (lo := hi - 1 + 1) (by omega)]
theorem filter_rI {p : Int → Bool} {a b lo hi : Int} (h0 : a ≤ lo) (h1 : hi ≤ b) (h : ∀ x, a ≤ x → x < b → (p x = true ↔ lo ≤ x ∧ x < hi)) : (rI a b).filter p = rI lo hi := by
  by_cases hle : lo ≤ hi
  · rw [rI_split (lo := a) (mid := lo) (hi := b) h0 (by omega), rI_split (lo := lo) (mid := hi) (hi := b) hle h1, List.filter_append, List.filter_append]
    have e1 : (rI a lo).filter p = [] := List.filter_eq_nil_iff.mpr fun x hx hp => by
      have := mem_rI.mp hx
      have := (h x (by omega) (by omega)).mp hp
      omega
    have e2 : (rI lo hi).filter p = rI lo hi := List.filter_eq_self.mpr fun x hx => by
      have := mem_rI.mp hx
      exact (h x (by omega) (by omega)).mpr this
    have e3 : (rI hi b).filter p = [] := List.filter_eq_nil_iff.mpr fun x hx hp => by
      have := mem_rI.mp hx
      have := (h x (by omega) (by omega)).mp hp
      omega
    rw [e1, e2, e3]; simp
  · rw [rI_nil (lo := lo) (by omega)]
    exact List.filter_eq_nil_iff.mpr fun x hx hp => by
      have h2 := mem_rI.mp hx
      have := (h x h2.1 h2.2).mp hp
      omega
/-! ## what is needed -/
/-- the cells nearer to w than c, as a range -/
def nLo (c w : Int) : Int := if w ≤ c then max 0 (2 * w - c) else c + 1
def nHi (s c w : Int) : Int := if w ≤ c then c else min s (2 * w - c)
def needL (s c w : Int) : List Int := rI (nLo c w) (nHi s c w)
/-- nearer, or as near and before -/
def nearer (a c w : Int) : Prop := (a - w).natAbs < (c - w).natAbs ∨ ((a - w).natAbs = (c - w).natAbs ∧ a < c)
instance (a c w : Int) : Decidable (nearer a c w) := by unfold nearer; infer_instance
theorem nearer_iff {s a c w : Int} (h0 : 0 ≤ a) (h1 : a < s) : nearer a c w ↔ nLo c w ≤ a ∧ a < nHi s c w := by
  unfold nearer nLo nHi
  split <;> omega
theorem need_eq {s c w : Int} (hc0 : 0 ≤ c) (hc : c < s) (hw : w < s) : (rI 0 s).filter (fun a => decide (nearer a c w)) = needL s c w := by
  refine filter_rI ?_ ?_ fun x h0 h1 => ?_
  · unfold nLo; split <;> omega
  · unfold nHi; split <;> omega
  · rw [decide_eq_true_eq]; exact nearer_iff h0 h1
end NS
namespace NS
open PySem PySem.Spec PyProof.Rows L2
theorem rngD_rI (lo hi : Int) : rngD lo hi = (rI lo hi).map .int := by simp [rngD, rI, Function.comp_def]
/-- small -/
def sml (i : Int) : Prop := -1000 < i ∧ i < 1000
theorem needs_T {s c w : Int} (hs : sml s) (hc : sml c) (hw : sml w) : d_needs [.int s, .int c, .int w] = M.pure (.tup ((needL s c w).map .int)) := by
  have h : (nHi s c w - nLo c w).toNat < 1000000 := by unfold nHi nLo sml at *; split <;> omega
  unfold d_needs runD b_needs needL
  unfold sml at *
  rw [← rngD_rI]
  simp [startD]
  unfold nLo nHi at h ⊢
  by_cases hw2 : w ≤ c
  · simp only [hw2, if_true] at h ⊢
    rw [if_pos ⟨by omega, by omega, by omega, by omega, by omega⟩]
  · simp only [hw2, if_false] at h ⊢
    rw [if_pos ⟨by omega, by omega, by omega, by omega, by omega⟩]
theorem lneeds_T {s c w : Int} (hs : sml s) (hc : sml c) (hw : sml w) : d_Lneeds [.int s, .int c, .int w] = M.pure (.lst (((rI 0 s).filter (fun a => decide (nearer a c w))).map .int)) := by
  unfold d_Lneeds runD b_Lneeds
  unfold sml at *
  have hl : s.toNat < 1000000 := by omega
  simp [startD, hl]
  rw [rngD_rI, compM_pure (en := .int) (p := fun a => decide (nearer a c w)) (f := .int)]
  · rw [if_pos ⟨by omega, by omega⟩]; rfl
  · intro x hx
    refine ⟨_, rfl, ?_, ?_⟩
    · simp
      congr 1
      rw [← Bool.decide_and, ← Bool.decide_or]
      unfold nearer
      apply decide_eq_decide.mpr
      omega
    · intro _; simp
end NS
namespace NS
open PySem PySem.Spec PyProof.Rows L2
/-! ## own lists and dicts, evaluated -/
@[simp] theorem opt_if {α : Type} (c : Prop) [Decidable c] (a : α) : (M.opt (if c then some a else none) : M α) = if c then M.pure a else M.bad := by split <;> rfl
@[simp] theorem bind_pure' {α : Type} (x : M α) : M.bind x (fun a => M.pure a) = x := by
  funext g; unfold M.bind; cases x g <;> rfl
@[simp] theorem ownL_ow (ds : List D) : ownL (some (some (.ow (.lst ds)))) = some ds := rfl
@[simp] theorem ownD_ow (d : D) : ownD (some (some (.ow d))) = some d := rfl
@[simp] theorem sOwn_ap (i : Nat) (k : List D → D → Option (List D)) (fe : DS → M D) (σ : DS) : sOwn i k fe σ = M.bind (M.opt (ownL σ[i]?)) fun ds => M.bind (fe σ) fun d => M.bind (M.opt (k ds d)) fun ds' => M.pure (.nx (σ.set i (some (.ow (.lst ds'))))) := by
  unfold sOwn
  cases ownL σ[i]? with
  | none => rfl
  | some ds =>
    simp only [opt_some', pure_bind']
    congr 1; funext d
    cases k ds d <;> rfl
@[simp] theorem sOwnL_ap (i : Nat) (k : List D → List D → Option (List D)) (fl : DS → M (List D)) (σ : DS) : sOwnL i k fl σ = M.bind (M.opt (ownL σ[i]?)) fun ds => M.bind (fl σ) fun d => M.bind (M.opt (k ds d)) fun ds' => M.pure (.nx (σ.set i (some (.ow (.lst ds'))))) := by
  unfold sOwnL
  cases ownL σ[i]? with
  | none => rfl
  | some ds =>
    simp only [opt_some', pure_bind']
    congr 1; funext d
    cases k ds d <;> rfl
@[simp] theorem kApp_ap (ds : List D) (d : D) : kApp ds d = if fit ds.length = true then some (ds ++ [d]) else none := rfl
@[simp] theorem sRetO_ap (i : Nat) (σ : DS) : sRetO i σ = M.bind (M.opt (ownD σ[i]?)) fun d => M.pure (.rt d) := by
  unfold sRetO ownD
  rcases σ[i]? with _ | (_ | (d | d)) <;> rfl
@[simp] theorem sDPut_ap (j : Nat) (fe fi : DS → M D) (σ : DS) : sDPut' j fe fi σ = M.bind (fe σ) fun d => M.bind (M.opt (ownD σ[j]?)) fun x => M.bind (fi σ) fun i => M.bind (M.opt (dPut x i d)) fun x' => M.pure (.nx (σ.set j (some (.ow x')))) := by
  unfold sDPut'
  congr 1; funext d
  cases ownD σ[j]? with
  | none => rfl
  | some x =>
    simp only [opt_some', pure_bind']
    congr 1; funext i
    cases dPut x i d <;> rfl
@[simp] theorem dPut_pair (kvs : List (List Key × D)) (a b : Int) (v : D) : dPut (.dT kvs) (.tup [.int a, .int b]) v = if fit kvs.length = true then some (.dT (putD kvs [.inl a, .inl b] v)) else none := rfl
@[simp] theorem kIxD_pair (kvs : List (List Key × D)) (a b : Int) : kIxD (.dT kvs) (.tup [.int a, .int b]) = M.opt (valD kvs [.inl a, .inl b]) := rfl
@[simp] theorem kIxD_lst (xs : List D) (y : D) : kIxD (.lst xs) y = kIx (.lst xs) y := rfl
@[simp] theorem kIxD_tup (xs : List D) (y : D) : kIxD (.tup xs) y = kIx (.tup xs) y := rfl
@[simp] theorem kOfInts_cons (f : List Int → M D) (i : Int) (bs : List Int) : kOfInts f [.lst (.int i :: bs.map .int)] = f (i :: bs) := by rw [← List.map_cons, kOfInts_map]
@[simp] theorem minI_cons (i : Int) (l : List Int) : minI (i :: l) = some (l.foldl min i) := rfl
@[simp] theorem maxI_cons (i : Int) (l : List Int) : maxI (i :: l) = some (l.foldl max i) := rfl
theorem valD_cons {κ : Type} [DecidableEq κ] (x : κ × D) (xs : List (κ × D)) (k : κ) : valD (x :: xs) k = if x.1 = k then some x.2 else valD xs k := by
  unfold valD
  by_cases h : x.1 = k <;> simp [h]
theorem valD_map {κ : Type} [DecidableEq κ] {k k' : κ} {v : D} : ∀ kvs : List (κ × D), valD (kvs.map fun kv => if kv.1 = k then (kv.1, v) else kv) k' = if k = k' ∧ (kvs.any fun kv => decide (kv.1 = k)) = true then some v else valD kvs k'
  | [] => by simp [valD]
  | x :: xs => by
    rw [List.map_cons, valD_cons, valD_cons, valD_map xs]
    by_cases hx : x.1 = k
    · by_cases hk : k = k'
      · subst hk; simp [hx]
      · simp [hx, hk]
    · by_cases hk : k = k'
      · subst hk
        simp only [hx, if_false, List.any_cons, decide_false, Bool.false_or, true_and]
      · simp [hx, hk]
theorem valD_app {κ : Type} [DecidableEq κ] {k k' : κ} {v : D} : ∀ kvs : List (κ × D), (kvs.any fun kv => decide (kv.1 = k)) = false → valD (kvs ++ [(k, v)]) k' = if k = k' then some v else valD kvs k'
  | [], _ => by simp [valD_cons]
  | x :: xs, h => by
    simp only [List.any_cons, Bool.or_eq_false_iff, decide_eq_false_iff_not] at h
    rw [List.cons_append, valD_cons, valD_cons, valD_app xs h.2]
    by_cases hx : x.1 = k'
    · have : ¬ k = k' := fun e => h.1 (hx.trans e.symm)
      simp [hx, this]
    · simp [hx]
theorem valD_put {κ : Type} [DecidableEq κ] {kvs : List (κ × D)} {k k' : κ} {v : D} : valD (putD kvs k v) k' = if k = k' then some v else valD kvs k' := by
  unfold putD
  by_cases h : (kvs.any fun kv => decide (kv.1 = k)) = true
  · rw [if_pos h, valD_map]; simp [h]
  · rw [if_neg h, valD_app kvs (Bool.eq_false_iff.mpr h)]
theorem putD_len {κ : Type} [DecidableEq κ] (kvs : List (κ × D)) (k : κ) (v : D) : (putD kvs k v).length ≤ kvs.length + 1 := by
  unfold putD
  split <;> simp
theorem whileM_T (I : Nat → DS → G → Prop) {c : DS → M Bool} {b : DS → M Fl} {Q : Fl → G → Prop} (h : ∀ k σ g, I k σ g → T (c σ) g fun t g1 => (t = true → ∃ k', k = k' + 1 ∧ T (b σ) g1 fun fl g2 => match fl with
      | .nx σ' => I k' σ' g2
      | .ct σ' => I k' σ' g2
      | .bk σ' => Q (.nx σ') g2
      | .rt d => Q (.rt d) g2) ∧ (t = false → Q (.nx σ) g1)) : ∀ {n k : Nat} {σ : DS} {g : G}, I k σ g → k < n → T (whileM c b n σ) g Q
  | 0, k, σ, g, _, hn => by omega
  | n + 1, k, σ, g, h0, hn => by
    unfold whileM
    rw [T_bind]
    refine (h k σ g h0).imp fun t g1 h1 => ?_
    cases t with
    | false => simpa using h1.2 rfl
    | true =>
      obtain ⟨k', rfl, h2⟩ := h1.1 rfl
      simp only [if_true]
      rw [T_bind]
      refine h2.imp fun fl g2 h3 => ?_
      cases fl with
      | nx σ' => exact whileM_T I h h3 (by omega)
      | ct σ' => exact whileM_T I h h3 (by omega)
      | bk σ' => simpa using h3
      | rt d => simpa using h3
end NS
namespace NS
theorem rI_nodup (a b : Int) : (rI a b).Nodup := by
  unfold rI
  rw [List.nodup_iff_pairwise_ne, List.pairwise_map]
  exact (List.nodup_iff_pairwise_ne.mp List.nodup_range).imp fun h e => h (by omega)
theorem rI_sorted (a b : Int) : (rI a b).Pairwise (· < ·) := by
  unfold rI
  rw [List.pairwise_map]
  exact List.pairwise_lt_range.imp fun h => by omega
theorem rm_rI {a b l : Int} (h1 : a ≤ l) (h2 : l < b) : rm l (rI a b) = rI a l ++ rI (l + 1) b := by
  rw [rI_split (lo := a) (mid := l) (hi := b) h1 (by omega), rI_cons (lo := l) h2, rm_app]
  rw [rm_not (R := rI a l) (by rw [mem_rI]; omega)]
  congr 1
  have : rm l (l :: rI (l + 1) b) = rm l (rI (l + 1) b) := by simp [rm, List.filter_cons]
  rw [this, rm_not (by rw [mem_rI]; omega)]
theorem ct_map {f : Int → Int} {ok ok' : List Int → Int → Bool} {I : List Int} (hn : I.Nodup) (inj : ∀ x ∈ I, ∀ y ∈ I, f x = f y → x = y)
    (h : ∀ I' : List Int, (∀ x ∈ I', x ∈ I) → ∀ c ∈ I', ok (I'.map f) (f c) = ok' I' c) : ct ok (I.map f) = ct ok' I := by
  refine nodup_ind (P := fun J => (∀ x ∈ J, x ∈ I) → ct ok (J.map f) = ct ok' J) ?_ hn fun _ h => h
  intro J hJ ih hs
  by_cases e : J = []
  · subst e; rfl
  have hm : (J.map f).Nodup := by
    rw [List.nodup_iff_pairwise_ne, List.pairwise_map]
    refine (List.Pairwise.imp_of_mem ?_ (List.nodup_iff_pairwise_ne.mp hJ))
    intro a b ha hb ne e2
    exact ne (inj a (hs a ha) b (hs b hb) e2)
  rw [ct_step ok hm (by simpa using e), ct_step ok' hJ e, sg_map]
  refine sg_congr fun c hc => ?_
  rw [h J hs c hc]
  have er : rm (f c) (J.map f) = (rm c J).map f := by
    unfold rm
    rw [List.filter_map]
    congr 1
    refine List.filter_congr fun x hx => ?_
    by_cases e2 : x = c
    · subst e2; simp
    · have e4 : f x ≠ f c := fun e3 => e2 (inj x (hs x hx) c (hs c hc) e3)
      show (f x != f c) = (x != c)
      rw [bne_iff_ne.mpr e4, bne_iff_ne.mpr e2]
  rw [er, ih c hc fun x hx => hs x (rm_sub _ _ _ hx)]
section
variable {nd : Int → Int → Bool}
/-- what is needed lies side by side with the one that needs it -/
def Iv (nd : Int → Int → Bool) : Prop := ∀ c d e, nd c d = true → (c < e ∧ e < d ∨ d < e ∧ e < c) → nd c e = true
/-- the count of the orders of a part -/
def pt (nd : Int → Int → Bool) (n a b : Int) : Nat := ct (okW nd (rI 0 n)) (rI a b)
theorem pt_nil (nd : Int → Int → Bool) (n a : Int) : pt nd n a a = 1 := by unfold pt; rw [rI_nil (Int.le_refl _)]; rfl
theorem pt_step (iv : Iv nd) {n a b : Int} (h0 : 0 ≤ a) (h1 : a < b) (h2 : b ≤ n) :
    pt nd n a b = sg (rI a b) fun l => if okW nd (rI 0 n) (rI a b) l = true then ch (b - a - 1).toNat (l - a).toNat * (pt nd n a l * pt nd n (l + 1) b) else 0 := by
  have ne : rI a b ≠ [] := by rw [rI_cons h1]; simp
  unfold pt
  rw [ct_step _ (rI_nodup a b) ne]
  refine sg_congr fun l hl => ?_
  have hl := mem_rI.mp hl
  by_cases c : okW nd (rI 0 n) (rI a b) l = true
  · rw [if_pos c, if_pos c, rm_rI hl.1 hl.2]
    have hd : (rI a l ++ rI (l + 1) b).Nodup := by rw [← rm_rI hl.1 hl.2]; exact rm_nodup (rI_nodup a b)
    rw [ct_apart hd, rI_len, rI_len, show (l - a).toNat + (b - (l + 1)).toNat = (b - a - 1).toNat by omega]
    · intro A' B' hA hB c hc
      refine bool_iff ?_
      rw [okW_iff, okW_iff]
      constructor
      · intro h d hd n
        rcases List.mem_append.mp (h d hd n) with h' | h'
        · exact h'
        · exfalso
          have c1 := mem_rI.mp (hA c hc)
          have d1 := mem_rI.mp (hB d h')
          have nl := iv c d l n (.inl ⟨by omega, by omega⟩)
          rcases List.mem_append.mp (h l (mem_rI.mpr ⟨by omega, by omega⟩) nl) with h3 | h3
          · have := mem_rI.mp (hA l h3); omega
          · have := mem_rI.mp (hB l h3); omega
      · intro h d hd n; exact List.mem_append_left _ (h d hd n)
    · intro A' B' hA hB c hc
      refine bool_iff ?_
      rw [okW_iff, okW_iff]
      constructor
      · intro h d hd n
        rcases List.mem_append.mp (h d hd n) with h' | h'
        · exfalso
          have c1 := mem_rI.mp (hB c hc)
          have d1 := mem_rI.mp (hA d h')
          have nl := iv c d l n (.inr ⟨by omega, by omega⟩)
          rcases List.mem_append.mp (h l (mem_rI.mpr ⟨by omega, by omega⟩) nl) with h3 | h3
          · have := mem_rI.mp (hA l h3); omega
          · have := mem_rI.mp (hB l h3); omega
        · exact h'
      · intro h d hd n; exact List.mem_append_right _ (h d hd n)
  · rw [if_neg c, if_neg c]
theorem pt_all (irr : ∀ c, nd c c = false) (n : Int) : pt nd n 0 n = LE nd (rI 0 n) := LE_W irr (rI_nodup 0 n)
/-- one that needs nothing -/
theorem max_of {R : List Int} {P : Int → Prop} (h : ∃ c ∈ R, P c) : ∃ c ∈ R, P c ∧ ∀ e ∈ R, P e → e ≤ c := by
  induction R with
  | nil => obtain ⟨c, hc, _⟩ := h; cases hc
  | cons x R ih =>
    by_cases hR : ∃ c ∈ R, P c
    · obtain ⟨c, hc, p, m⟩ := ih hR
      by_cases hx : P x ∧ c < x
      · refine ⟨x, List.mem_cons_self, hx.1, fun e he pe => ?_⟩
        rcases List.mem_cons.mp he with rfl | he
        · exact Int.le_refl _
        · have := m e he pe; omega
      · refine ⟨c, List.mem_cons_of_mem _ hc, p, fun e he pe => ?_⟩
        rcases List.mem_cons.mp he with rfl | he
        · apply Classical.byContradiction; intro hh; exact hx ⟨pe, by omega⟩
        · exact m e he pe
    · obtain ⟨c, hc, p⟩ := h
      rcases List.mem_cons.mp hc with rfl | hc
      · refine ⟨c, List.mem_cons_self, p, fun e he pe => ?_⟩
        rcases List.mem_cons.mp he with rfl | he
        · exact Int.le_refl _
        · exact absurd ⟨e, he, pe⟩ hR
      · exact absurd ⟨c, hc, p⟩ hR
theorem min_of {R : List Int} {P : Int → Prop} (h : ∃ c ∈ R, P c) : ∃ c ∈ R, P c ∧ ∀ e ∈ R, P e → c ≤ e := by
  obtain ⟨c, hc, p⟩ := h
  obtain ⟨d, hd, q, m⟩ := max_of (R := R.map fun x => -x) (P := fun x => P (-x)) ⟨-c, List.mem_map.mpr ⟨c, hc, rfl⟩, by simpa using p⟩
  obtain ⟨x, hx, rfl⟩ := List.mem_map.mp hd
  refine ⟨x, hx, by simpa using q, fun e he pe => ?_⟩
  have := m (-e) (List.mem_map.mpr ⟨e, he, rfl⟩) (by simpa using pe)
  omega
/-- on one side alone -/
def Os (nd : Int → Int → Bool) : Prop := ∀ c d e, nd c d = true → nd c e = true → (d < c ↔ e < c)
/-- no two of R need one another -/
def Nm (nd : Int → Int → Bool) (R : List Int) : Prop := ∀ c ∈ R, ∀ d ∈ R, ¬ (nd c d = true ∧ nd d c = true)
theorem Nm.sub {R S : List Int} (h : Nm nd R) (hs : ∀ x ∈ S, x ∈ R) : Nm nd S := fun c hc d hd => h c (hs c hc) d (hs d hd)
theorem some_ready (irr : ∀ c, nd c c = false) (iv : Iv nd) (os : Os nd) {R : List Int} (hR : R ≠ []) (nm : Nm nd R) : ∃ c ∈ R, okF nd R c = true := by
  apply Classical.byContradiction
  intro hh
  have all : ∀ c ∈ R, ∃ d ∈ R, nd c d = true := by
    intro c hc
    apply Classical.byContradiction
    intro h2
    refine hh ⟨c, hc, okF_iff.mpr fun d hd => ?_⟩
    cases e : nd c d
    · rfl
    · exact absurd ⟨d, hd, e⟩ h2
  obtain ⟨m, hm, _, mm⟩ := min_of (R := R) (P := fun _ => True) (by cases R; exact absurd rfl hR; exact ⟨_, List.mem_cons_self, trivial⟩)
  obtain ⟨d0, hd0, n0⟩ := all m hm
  have ne0 : d0 ≠ m := by rintro rfl; rw [irr] at n0; cases n0
  obtain ⟨c, hc, ⟨d, hd, lt, nc⟩, mx⟩ := max_of (R := R) (P := fun c => ∃ d ∈ R, c < d ∧ nd c d = true) ⟨m, hm, d0, hd0, by have := mm d0 hd0 trivial; omega, n0⟩
  obtain ⟨d', hd', lt', mn⟩ := min_of (R := R) (P := fun d => c < d) ⟨d, hd, lt⟩
  have nc' : nd c d' = true := by
    have := mn d hd lt
    by_cases e : d' = d
    · rw [e]; exact nc
    · exact iv c d d' nc (.inl ⟨lt', by omega⟩)
  obtain ⟨e, he, ne⟩ := all d' hd'
  have ned : e ≠ d' := by rintro rfl; rw [irr] at ne; cases ne
  have le : e ≤ c := by
    by_cases h1 : d' < e
    · have := mx d' hd' ⟨e, he, h1, ne⟩; omega
    · apply Classical.byContradiction
      intro h2
      have := mn e he (by omega); omega
  have ne' : nd d' c = true := by
    by_cases h1 : e = c
    · rw [← h1]; exact ne
    · exact iv d' e c ne (.inr ⟨by omega, lt'⟩)
  exact nm c hc d' hd' ⟨nc', ne'⟩
theorem LE_pos (irr : ∀ c, nd c c = false) (iv : Iv nd) (os : Os nd) {R : List Int} (hn : R.Nodup) (nm : Nm nd R) : 0 < LE nd R := by
  refine nodup_ind (P := fun R => Nm nd R → 0 < LE nd R) ?_ hn nm
  intro R hn ih nm
  by_cases e : R = []
  · subst e; simp [LE]
  obtain ⟨c, hc, ok⟩ := some_ready irr iv os e nm
  rw [LE_first hn e]
  have p := ih c hc (nm.sub (rm_sub c R))
  apply Nat.pos_of_ne_zero
  intro h
  have := sg_zero_iff.mp h c hc
  rw [if_pos ok] at this; omega
theorem LE_zero {R : List Int} (hn : R.Nodup) (m : ¬ Nm nd R) : LE nd R = 0 := by
  refine nodup_ind (P := fun R => ¬ Nm nd R → LE nd R = 0) ?_ hn m
  intro R hn ih m
  obtain ⟨c, hc, d, hd, h1, h2⟩ : ∃ c ∈ R, ∃ d ∈ R, nd c d = true ∧ nd d c = true := by
    apply Classical.byContradiction
    intro hh
    exact m fun c hc d hd h => hh ⟨c, hc, d, hd, h⟩
  rw [LE_first hn (by rintro rfl; cases hc)]
  refine sg_zero fun x hx => ?_
  by_cases ok : okF nd R x = true
  · rw [if_pos ok]
    refine ih x hx fun nm => ?_
    have nc : c ≠ x := by rintro rfl; have := okF_iff.mp ok d hd; rw [h1] at this; cases this
    have nd' : d ≠ x := by rintro rfl; have := okF_iff.mp ok c hc; rw [h2] at this; cases this
    exact nm c (mem_rm.mpr ⟨hc, nc⟩) d (mem_rm.mpr ⟨hd, nd'⟩) ⟨h1, h2⟩
  · rw [if_neg ok]
theorem LE_pos_iff (irr : ∀ c, nd c c = false) (iv : Iv nd) (os : Os nd) {R : List Int} (hn : R.Nodup) : 0 < LE nd R ↔ Nm nd R :=
  ⟨fun h => Classical.byContradiction fun m => by rw [LE_zero hn m] at h; omega, LE_pos irr iv os hn⟩
def fct : Nat → Nat
  | 0 => 1
  | n + 1 => (n + 1) * fct n
theorem ct_le {ok : List Int → Int → Bool} {R : List Int} (hn : R.Nodup) : ct ok R ≤ fct R.length := by
  refine nodup_ind (P := fun R => ct ok R ≤ fct R.length) ?_ hn
  intro R hn ih
  by_cases e : R = []
  · subst e; simp [fct]
  rw [ct_step _ hn e]
  obtain ⟨k, hk⟩ : ∃ k, R.length = k + 1 := by cases R; exact absurd rfl e; exact ⟨_, rfl⟩
  refine Nat.le_trans (sg_le (g := fun _ => fct k) fun a ha => ?_) (by rw [sg_const, hk]; exact Nat.le_refl _)
  have := rm_len hn ha
  have := ih a ha
  rw [show (rm a R).length = k by omega] at this
  split <;> omega
theorem fct_mono {n m : Nat} (h : n ≤ m) : fct n ≤ fct m := by
  induction h with
  | refl => exact Nat.le_refl _
  | step _ ih => refine Nat.le_trans ih ?_; rw [fct]; exact Nat.le_mul_of_pos_left _ (by omega)
theorem LE_le {R : List Int} (hn : R.Nodup) {n : Nat} (h : R.length ≤ n) : LE nd R ≤ fct n := Nat.le_trans (ct_le hn) (fct_mono h)
end
end NS
namespace NS
open PySem PySem.Spec PyProof.Rows L2
/-! ## pieces that leave all as it was -/
def Is {α : Type} (x : M α) (v : α) : Prop := ∀ g, Gpur g = true → x g = .ok v g
theorem Is.T {α : Type} {x : M α} {v : α} (h : Is x v) {g : G} (hg : Gpur g = true) {Q : α → G → Prop} : NS.T x g Q ↔ Q v g := T_ok (h g hg)
theorem Is.eq {α : Type} {x : M α} {v : α} (h : x = M.pure v) : Is x v := fun g _ => by rw [h]; rfl
theorem Is.of_T {α : Type} {x : M α} {v : α} (h : ∀ g, Gpur g = true → NS.T x g (fun a g' => a = v ∧ g' = g)) : Is x v := fun g hg => by
  obtain ⟨a, g', e, rfl, rfl⟩ := h g hg; exact e
theorem Is.uniq {α : Type} {x : M α} {v w : α} (h : Is x v) (h' : Is x w) : v = w := by
  have := (h [] rfl).symm.trans (h' [] rfl)
  cases this; rfl
/-- a comprehension of such parts -/
theorem compM_is {fg : D → DS → M DS} {ft : DS → M Bool} {fe : DS → M D} {σ : DS} {α : Type} {en : α → D} {p : α → Bool} {f : α → D} : ∀ {xs : List α},
    (∀ x ∈ xs, ∃ σ1, fg (en x) σ = M.pure σ1 ∧ Is (ft σ1) (p x) ∧ (p x = true → Is (fe σ1) (f x))) → Is (compM fg ft fe σ (xs.map en)) ((xs.filter p).map f)
  | [], _ => fun _ _ => rfl
  | x :: xs, h => fun g hg => by
    obtain ⟨σ1, e1, e2, e3⟩ := h x List.mem_cons_self
    have ih := compM_is (fg := fg) (ft := ft) (fe := fe) (σ := σ) (en := en) (p := p) (f := f) (xs := xs) fun y hy => h y (List.mem_cons_of_mem _ hy)
    show M.bind (fg (en x) σ) _ g = _
    rw [e1, pure_bind', bind_ok (noerr_ok (e2 g hg))]
    cases hp : p x with
    | true => simp only [if_true]; rw [bind_ok (noerr_ok (e3 hp g hg)), bind_ok (ih g hg)]; simp [hp, M.pure]
    | false => simp only [Bool.false_eq_true, if_false]; rw [ih g hg]; simp [hp]
theorem compM2_is {fg : D → DS → M DS} {ft : DS → M Bool} {fi1 : DS → M (List D)} {vs1 : List Nat} {fg1 : D → DS → M DS} {ft1 : DS → M Bool} {fe : DS → M D} {σ : DS} {α : Type} {en : α → D} {p : α → Bool} {f : α → List D} : ∀ {xs : List α},
    (∀ x ∈ xs, ∃ σ1, fg (en x) σ = M.pure σ1 ∧ Is (ft σ1) (p x) ∧ (p x = true → ∃ es, Is (fi1 σ1) es ∧ Is (compM fg1 ft1 fe (wipeD σ1 vs1) es) (f x))) → Is (compM2 fg ft fi1 vs1 fg1 ft1 fe σ (xs.map en)) ((xs.filter p).flatMap f)
  | [], _ => fun _ _ => rfl
  | x :: xs, h => fun g hg => by
    obtain ⟨σ1, e1, e2, e3⟩ := h x List.mem_cons_self
    have ih := compM2_is (fg := fg) (ft := ft) (fi1 := fi1) (vs1 := vs1) (fg1 := fg1) (ft1 := ft1) (fe := fe) (σ := σ) (en := en) (p := p) (f := f) (xs := xs) fun y hy => h y (List.mem_cons_of_mem _ hy)
    show M.bind (fg (en x) σ) _ g = _
    rw [e1, pure_bind', bind_ok (noerr_ok (e2 g hg))]
    cases hp : p x with
    | true =>
      obtain ⟨es, h1, h2⟩ := e3 hp
      simp only [if_true]; rw [bind_ok (noerr_ok (h1 g hg)), bind_ok (h2 g hg), bind_ok (ih g hg)]; simp [hp, M.pure]
    | false => simp only [Bool.false_eq_true, if_false]; rw [ih g hg]; simp [hp]
theorem compM2_pure {fg : D → DS → M DS} {ft : DS → M Bool} {fi1 : DS → M (List D)} {vs1 : List Nat} {fg1 : D → DS → M DS} {ft1 : DS → M Bool} {fe : DS → M D} {σ : DS} {α : Type} {en : α → D} {p : α → Bool} {f : α → List D} : ∀ {xs : List α},
    (∀ x ∈ xs, ∃ σ1, fg (en x) σ = M.pure σ1 ∧ ft σ1 = M.pure (p x) ∧ (p x = true → ∃ es, fi1 σ1 = M.pure es ∧ compM fg1 ft1 fe (wipeD σ1 vs1) es = M.pure (f x))) → compM2 fg ft fi1 vs1 fg1 ft1 fe σ (xs.map en) = M.pure ((xs.filter p).flatMap f)
  | [], _ => rfl
  | x :: xs, h => by
    obtain ⟨σ1, e1, e2, e3⟩ := h x List.mem_cons_self
    have ih := compM2_pure (fg := fg) (ft := ft) (fi1 := fi1) (vs1 := vs1) (fg1 := fg1) (ft1 := ft1) (fe := fe) (σ := σ) (en := en) (p := p) (f := f) (xs := xs) fun y hy => h y (List.mem_cons_of_mem _ hy)
    show M.bind (fg (en x) σ) _ = _
    rw [e1, pure_bind', e2]
    simp only [noerr_pure', pure_bind']
    cases hp : p x with
    | true =>
      obtain ⟨es, h1, h2⟩ := e3 hp
      rw [h1, ih]; simp [h2, hp]
    | false => rw [ih]; simp [hp]
theorem filt_true {α : Type} (l : List α) : l.filter (fun _ => true) = l := List.filter_eq_self.mpr (by simp)
theorem compM_all {fg : D → DS → M DS} {ft : DS → M Bool} {fe : DS → M D} {σ : DS} {α : Type} {en : α → D} {f : α → D} {xs : List α}
    (h : ∀ x ∈ xs, ∃ σ1, fg (en x) σ = M.pure σ1 ∧ ft σ1 = M.pure true ∧ fe σ1 = M.pure (f x)) : compM fg ft fe σ (xs.map en) = M.pure (xs.map f) := by
  have := compM_pure (fg := fg) (ft := ft) (fe := fe) (σ := σ) (en := en) (p := fun _ => true) (f := f) (xs := xs) fun x hx => by
    obtain ⟨σ1, h1, h2, h3⟩ := h x hx; exact ⟨σ1, h1, h2, fun _ => h3⟩
  rw [filt_true] at this; exact this
theorem compM_allis {fg : D → DS → M DS} {ft : DS → M Bool} {fe : DS → M D} {σ : DS} {α : Type} {en : α → D} {f : α → D} {xs : List α}
    (h : ∀ x ∈ xs, ∃ σ1, fg (en x) σ = M.pure σ1 ∧ Is (ft σ1) true ∧ Is (fe σ1) (f x)) : Is (compM fg ft fe σ (xs.map en)) (xs.map f) := by
  have := compM_is (fg := fg) (ft := ft) (fe := fe) (σ := σ) (en := en) (p := fun _ => true) (f := f) (xs := xs) fun x hx => by
    obtain ⟨σ1, h1, h2, h3⟩ := h x hx; exact ⟨σ1, h1, h2, fun _ => h3⟩
  rw [filt_true] at this; exact this
theorem compM2_all {fg : D → DS → M DS} {ft : DS → M Bool} {fi1 : DS → M (List D)} {vs1 : List Nat} {fg1 : D → DS → M DS} {ft1 : DS → M Bool} {fe : DS → M D} {σ : DS} {α : Type} {en : α → D} {f : α → List D} {xs : List α}
    (h : ∀ x ∈ xs, ∃ σ1, fg (en x) σ = M.pure σ1 ∧ ft σ1 = M.pure true ∧ ∃ es, fi1 σ1 = M.pure es ∧ compM fg1 ft1 fe (wipeD σ1 vs1) es = M.pure (f x)) : compM2 fg ft fi1 vs1 fg1 ft1 fe σ (xs.map en) = M.pure (xs.flatMap f) := by
  have := compM2_pure (fg := fg) (ft := ft) (fi1 := fi1) (vs1 := vs1) (fg1 := fg1) (ft1 := ft1) (fe := fe) (σ := σ) (en := en) (p := fun _ => true) (f := f) (xs := xs) fun x hx => by
    obtain ⟨σ1, h1, h2, h3⟩ := h x hx; exact ⟨σ1, h1, h2, fun _ => h3⟩
  rw [filt_true] at this; exact this
/-! ## in, of ints -/
theorem eqF_int (i j : Int) : eqF (.int i) (.int j) = (i == j) := rfl
theorem inF_ints (x : Int) (xs : List Int) : inF (.int x) (xs.map .int) = xs.contains x := by
  unfold inF
  rw [List.any_map]
  induction xs with
  | nil => rfl
  | cons y ys ih => simp only [List.any_cons, ih, List.contains_cons, Function.comp_apply, eqF_int]; rw [Bool.beq_comm]
theorem flat_ints (xs : List Int) : (xs.map D.int).all D.flat = true := by simp [D.flat]
theorem kInF_ints (x : Int) (xs : List Int) : kInF (.int x) (xs.map .int) = some (xs.contains x) := by
  unfold kInF; rw [if_pos ⟨rfl, flat_ints xs⟩, inF_ints]
theorem inD_lst_ints (x : Int) (xs : List Int) : inD (.int x) (.lst (xs.map .int)) = some (xs.contains x) := by
  show (match kInF (.int x) (xs.map .int) with | some b => some b | none => kInP (.int x) (xs.map .int)) = _
  rw [kInF_ints]
@[simp] theorem kIn_lst_ints (x : Int) (xs : List Int) : kIn (.int x) (.lst (xs.map .int)) = M.pure (.bl (xs.contains x)) := by
  unfold kIn; rw [inD_lst_ints]; rfl
@[simp] theorem kNotIn_lst_ints (x : Int) (xs : List Int) : kNotIn (.int x) (.lst (xs.map .int)) = M.pure (.bl (!xs.contains x)) := by
  unfold kNotIn; rw [inD_lst_ints]; rfl
theorem inD_tup_ints (x : Int) (xs : List Int) : inD (.int x) (.tup (xs.map .int)) = some (xs.contains x) := kInF_ints x xs
@[simp] theorem kIn_tup_ints (x : Int) (xs : List Int) : kIn (.int x) (.tup (xs.map .int)) = M.pure (.bl (xs.contains x)) := by
  unfold kIn; rw [inD_tup_ints]; rfl
@[simp] theorem kNotIn_tup_ints (x : Int) (xs : List Int) : kNotIn (.int x) (.tup (xs.map .int)) = M.pure (.bl (!xs.contains x)) := by
  unfold kNotIn; rw [inD_tup_ints]; rfl
/-! ## tables -/
inductive Ent where
  | e | u | w (i : Int)
deriving DecidableEq
def Ent.d : Ent → D
  | .e => .non | .u => .str "?" | .w i => .int i
abbrev Tab := List Ent
/-- the table as a tuple or a list -/
def Tb (x : D) (t : Tab) : Prop := x = .tup (t.map Ent.d) ∨ x = .lst (t.map Ent.d)
/-- ints as a list or a tuple -/
def Sq (x : D) (R : List Int) : Prop := x = .tup (R.map .int) ∨ x = .lst (R.map .int)
def ent (t : Tab) (c : Int) : Ent := if c < 0 then .e else (t[c.toNat]?).getD .e
def tn (t : Tab) : Int := t.length
theorem ent_lt {t : Tab} {c : Int} (h : ent t c ≠ .e) : 0 ≤ c ∧ c < tn t := by
  unfold ent at h
  split at h
  · exact absurd rfl h
  · refine ⟨by omega, ?_⟩
    apply Classical.byContradiction
    intro hh
    unfold tn at hh
    rw [List.getElem?_eq_none (by omega)] at h
    exact h rfl
theorem ent_get {t : Tab} {c : Int} (h0 : 0 ≤ c) (h1 : c < tn t) : t[c.toNat]? = some (ent t c) := by
  unfold tn at h1
  unfold ent
  rw [if_neg (by omega)]
  rw [List.getElem?_eq_getElem (by omega)]; rfl
theorem ent_nat {t : Tab} {k : Nat} {x : Ent} (h : t[k]? = some x) : ent t (k : Int) = x := by
  unfold ent; rw [if_neg (by omega)]; simp [h]
theorem tab_ext {t s : Tab} (hl : tn t = tn s) (h : ∀ c, ent t c = ent s c) : t = s := by
  unfold tn at hl
  apply List.ext_getElem?
  intro k
  by_cases hk : k < t.length
  · have h1 := ent_get (t := t) (c := k) (by omega) (by unfold tn; omega)
    have h2 := ent_get (t := s) (c := k) (by omega) (by unfold tn; omega)
    simp at h1 h2
    rw [h1, h2, h]
  · rw [List.getElem?_eq_none (by omega), List.getElem?_eq_none (by omega)]
theorem atI_tab {t : Tab} {c : Int} (h0 : 0 ≤ c) (h1 : c < tn t) : L2.atI (t.map Ent.d) c = some (ent t c).d := by
  obtain ⟨k, rfl⟩ := Int.eq_ofNat_of_zero_le h0
  refine atI_nat ?_
  have := ent_get h0 h1
  simp at this ⊢
  rw [this]; exact ⟨_, rfl, rfl⟩
theorem enumD_tab (t : Tab) : enumD (t.map Ent.d) = (rI 0 (tn t)).map fun c => .tup [.int c, (ent t c).d] := by
  apply List.ext_getElem?
  intro k
  by_cases hk : k < t.length
  · have h1 := ent_get (t := t) (c := k) (by omega) (by unfold tn; omega)
    simp at h1
    rw [enumD_get (d := (ent t k).d) (by simp [h1]), List.getElem?_map, rI_get (by unfold tn; omega)]
    simp
  · rw [List.getElem?_eq_none (by rw [enumD_len]; simp; omega), List.getElem?_eq_none (by simp [tn]; omega)]
/-- a table that the program takes -/
structure Tok (t : Tab) : Prop where
  len : t.length ≤ 12
  wish : ∀ c v, ent t c = .w v → 0 ≤ v ∧ v < tn t
def takenI (t : Tab) : List Int := (rI 0 (tn t)).filter fun c => ent t c != .e
theorem mem_taken {t : Tab} {c : Int} : c ∈ takenI t ↔ ent t c ≠ .e := by
  unfold takenI
  simp only [List.mem_filter, mem_rI, bne_iff_ne]
  exact ⟨fun h => h.2, fun h => ⟨ent_lt h, h⟩⟩
theorem taken_nodup (t : Tab) : (takenI t).Nodup := (rI_nodup _ _).filter _
theorem taken_sorted (t : Tab) : (takenI t).Pairwise (· < ·) := (rI_sorted _ _).filter _
theorem taken_len (t : Tab) : (takenI t).length ≤ t.length := by
  refine Nat.le_trans (List.length_filter_le _ _) ?_
  simp [tn]
def nd (t : Tab) (c d : Int) : Bool := match ent t c with
  | .w v => decide (nLo c v ≤ d ∧ d < nHi (tn t) c v)
  | _ => false
def needI (t : Tab) (c : Int) : List Int := match ent t c with
  | .w v => needL (tn t) c v
  | _ => []
theorem mem_need {t : Tab} {c d : Int} : d ∈ needI t c ↔ nd t c d = true := by
  unfold needI nd
  cases ent t c with
  | w v => simp [needL, mem_rI]
  | _ => simp
theorem contains_need (t : Tab) (c d : Int) : (needI t c).contains d = nd t c d := bool_iff (by rw [List.contains_iff_mem, mem_need])
theorem nd_lt {t : Tab} (ok : Tok t) {c d : Int} (h : nd t c d = true) : 0 ≤ d ∧ d < tn t := by
  unfold nd at h
  cases e : ent t c with
  | w v =>
    rw [e] at h
    have h := of_decide_eq_true h
    have hw := ok.wish c v e
    have hc := ent_lt (t := t) (c := c) (by rw [e]; simp)
    unfold nLo nHi at h
    split at h <;> omega
  | _ => rw [e] at h; cases h
theorem nd_irr (t : Tab) (c : Int) : nd t c c = false := by
  unfold nd
  cases ent t c with
  | w v => simp; unfold nLo nHi; split <;> omega
  | _ => rfl
theorem nd_iv (t : Tab) : Iv (nd t) := by
  intro c d e h b
  unfold nd at h ⊢
  cases e1 : ent t c with
  | w v =>
    rw [e1] at h
    have h := of_decide_eq_true h
    refine decide_eq_true ?_
    unfold nLo nHi at h ⊢
    split at h <;> simp only [*, if_true, if_false] <;> omega
  | _ => rw [e1] at h; cases h
theorem nd_os (t : Tab) : Os (nd t) := by
  intro c d e h h2
  unfold nd at h h2
  cases e1 : ent t c with
  | w v =>
    rw [e1] at h h2
    have h := of_decide_eq_true h
    have h2 := of_decide_eq_true h2
    unfold nLo nHi at h h2
    split at h <;> simp only [*, if_true, if_false] at h2 <;> omega
  | _ => rw [e1] at h; cases h
theorem nd_taken {t : Tab} {c d : Int} (h : nd t c d = true) : ent t c ≠ .e := by
  unfold nd at h
  intro e; rw [e] at h; cases h
@[simp] theorem isN_ent (x : Ent) : D.isN x.d = (x == .e) := by cases x <;> rfl
theorem kEq_ent_u (x : Ent) : kEq x.d (.str "?") = M.pure (.bl (x == .u)) := by
  have hs : PyData.strOk "?" = true := by decide +kernel
  cases x with
  | e => exact (kEq_pl 0 0 (by rfl) (by simpa using hs)).trans rfl
  | u => exact (kEq_pl 0 0 (by simpa [Ent.d] using hs) (by simpa using hs)).trans (by simp [Ent.d])
  | w i => exact (kEq_pl 0 0 (by rfl) (by simpa using hs)).trans (by simp [Ent.d]; rfl)
theorem taken_T {x : D} {t : Tab} (h : Tb x t) (hl : t.length ≤ 12) : d_taken [x] = M.pure (.lst ((takenI t).map .int)) := by
  have key : compM (gNs [1, 2]) (eTst (eBin kIsNot (eVar 2) (eC .non))) (eVar 1) [some (.sh x), none, none] (enumD (t.map Ent.d)) = M.pure ((takenI t).map .int) := by
    rw [enumD_tab, compM_pure (en := fun c => .tup [.int c, (ent t c).d]) (p := fun c => ent t c != .e) (f := .int)]
    · rfl
    · intro c hc
      refine ⟨_, rfl, ?_, fun _ => rfl⟩
      simp [bne]
  rcases h with rfl | rfl <;> (unfold d_taken runD b_taken; simp [startD, enumD_len, key]; omega)
theorem need_of_T {x : D} {t : Tab} (h : Tb x t) (ok : Tok t) {c : Int} (hc : ent t c ≠ .e) : d_need_of [x, .int c] = M.pure (.tup ((needI t c).map .int)) := by
  obtain ⟨h0, h1⟩ := ent_lt hc
  have hl := ok.len
  have hn : tn t ≤ 12 := by unfold tn; omega
  have e1 := atI_tab h0 h1
  unfold needI
  have fin : ∀ σ : DS, (if ent t c = .u then (M.pure (.tup []) : M D) else d_needs [.int (t.length : Int), .int c, (ent t c).d]) = M.pure (.tup ((match ent t c with | .w v => needL (tn t) c v | _ => []).map .int)) := by
    intro σ
    cases e : ent t c with
    | e => exact absurd e hc
    | u => rfl
    | w v =>
      have := ok.wish c v e
      rw [if_neg (by simp)]
      exact needs_T ⟨by omega, by omega⟩ ⟨by omega, by omega⟩ ⟨by omega, by omega⟩
  rcases h with rfl | rfl <;> (unfold d_need_of runD b_need_of; simp [startD, e1, kEq_ent_u]; exact fin [])
end NS
namespace NS
open PySem PySem.Spec PyProof.Rows L2
/-! ## gaps -/
def pr (p : Int × Int) : D := .tup [.int p.1, .int p.2]
def gapOf (t : Tab) (c : Int) : List Int := (needI t c).filter fun d => ent t d == .e
def gapI (t : Tab) : List (Int × Int) := (takenI t).flatMap fun c => (gapOf t c).map fun d => (c, d)
theorem need_len {t : Tab} (ok : Tok t) (c : Int) : (needI t c).length ≤ 12 := by
  have := ok.len
  unfold needI
  cases e : ent t c with
  | w v =>
    have hw := ok.wish c v e
    have hc := ent_lt (t := t) (c := c) (by rw [e]; simp)
    simp only [needL, rI_len]
    unfold nLo nHi tn at *
    split <;> omega
  | _ => simp
theorem tl_le {t : Tab} (ok : Tok t) : (takenI t).length ≤ 12 := Nat.le_trans (taken_len t) ok.len
theorem flatMap_len {α β : Type} {l : List α} {f : α → List β} {k : Nat} (h : ∀ a ∈ l, (f a).length ≤ k) : (l.flatMap f).length ≤ l.length * k := by
  induction l with
  | nil => simp
  | cons a l ih =>
    have := h a List.mem_cons_self
    have := ih fun b hb => h b (List.mem_cons_of_mem _ hb)
    rw [List.flatMap_cons, List.length_append, List.length_cons, Nat.add_mul]; omega
theorem gap_len {t : Tab} (ok : Tok t) : (gapI t).length ≤ 144 := by
  refine Nat.le_trans (flatMap_len (k := 12) fun c hc => ?_) (by have := tl_le ok; omega)
  rw [List.length_map]
  exact Nat.le_trans (List.length_filter_le _ _) (need_len ok c)
theorem gaps_T {x : D} {t : Tab} (h : Tb x t) (ok : Tok t) : d_gaps [x] = M.pure (.lst ((gapI t).map pr)) := by
  have hl := ok.len
  have e1 : ∀ σ3 σ4 σ2 σ1, compM (gN 3) tYesD (eArgs mkT (lCons (eVar 3) (lCons (eComp (iSeq (eArgs (callN 2 d_need_of) (lCons (eVar 0) (lCons (eVar 3) lNil)))) [2] (gN 2) (eTst (eBin kIs (eBin kIx (eVar 0) (eVar 2)) (eC .non))) (eVar 2)) lNil))) [some (.sh x), σ1, σ2, σ3, σ4] ((takenI t).map .int)
      = M.pure ((takenI t).map fun c => .tup [.int c, .lst ((gapOf t c).map .int)]) := by
    intro σ3 σ4 σ2 σ1
    refine compM_all ?_
    · intro c hc
      have hc := mem_taken.mp hc
      refine ⟨_, rfl, rfl, ?_⟩
      have h2 := need_len ok c
      have e2 : compM (gN 2) (eTst (eBin kIs (eBin kIx (eVar 0) (eVar 2)) (eC .non))) (eVar 2) [some (.sh x), σ1, none, some (.sh (.int c)), σ4] ((needI t c).map .int) = M.pure ((gapOf t c).map .int) := by
        rw [compM_pure (p := fun d => ent t d == .e) (f := .int)]
        · rfl
        · intro d hd
          obtain ⟨d0, d1⟩ := nd_lt ok (mem_need.mp hd)
          refine ⟨_, rfl, ?_, fun _ => rfl⟩
          rcases h with rfl | rfl <;> simp [atI_tab d0 d1]
      simp [need_of_T h ok hc, e2]
      omega
  have e3 : compM2 (gNs [3, 4]) tYesD (iSeq (eVar 4)) [2] (gN 2) tYesD (eArgs mkT (lCons (eVar 3) (lCons (eVar 2) lNil))) [some (.sh x), some (.sh (.lst ((takenI t).map fun c => .tup [.int c, .lst ((gapOf t c).map .int)]))), none, none, none] ((takenI t).map fun c => .tup [.int c, .lst ((gapOf t c).map .int)]) = M.pure ((gapI t).map pr) := by
    rw [compM2_all (f := fun c => (gapOf t c).map fun d => pr (c, d))]
    · simp [gapI, List.map_flatMap, Function.comp_def]
    · intro c hc
      refine ⟨_, rfl, rfl, (gapOf t c).map .int, rfl, ?_⟩
      exact compM_all fun d hd => ⟨_, rfl, rfl, rfl⟩
  unfold d_gaps runD b_gaps
  have := tl_le ok
  have := gap_len ok
  simp [startD, taken_T h hl, e1, e3]
  repeat rw [if_pos (by omega)]
/-! ## choose -/
theorem ch_le : ∀ n k : Nat, ch n k ≤ 2 ^ n
  | n, 0 => by simp; exact Nat.one_le_two_pow
  | 0, k + 1 => by simp [ch]
  | n + 1, k + 1 => by
    have h1 := ch_le n k
    have h2 := ch_le n (k + 1)
    rw [ch, Nat.pow_succ]; omega
theorem ch_le12 {n : Nat} (h : n ≤ 12) (k : Nat) : ch n k ≤ 4096 := by
  have all : ∀ n, n < 13 → ∀ k, k < 13 → ch n k ≤ 4096 := by decide +kernel
  by_cases hk : k ≤ n
  · exact all n (by omega) k (by omega)
  · rw [ch_big (by omega)]; omega
theorem ch_next (n i : Nat) : (ch n i : Int) * ((n : Int) - i) / ((i : Int) + 1) = ch n (i + 1) := by
  by_cases h : i ≤ n
  · have e := ch_succ n i
    have e2 : (ch n i : Int) * ((n : Int) - i) = (ch n (i + 1) : Int) * ((i : Int) + 1) := by
      have e3 : ((ch n (i + 1) * (i + 1) : Nat) : Int) = ((ch n i * (n - i) : Nat) : Int) := by rw [e]
      rw [Int.natCast_mul, Int.natCast_mul, Int.natCast_add, Int.natCast_sub h] at e3
      exact e3.symm
    rw [e2, Int.mul_ediv_cancel _ (by omega)]
  · rw [ch_big (by omega), ch_big (by omega)]; simp
theorem choose_T {n k : Nat} (hn : n ≤ 12) (hk : k ≤ 12) : Is (d_choose [.int (n : Int), .int (k : Int)]) (.int (ch n k : Nat)) := by
  refine Is.of_T fun g hg => runD_T ?_
  unfold b_choose
  generalize hn' : (n : Int) = n'
  generalize hk' : (k : Int) = k'
  simp -implicitDefEqProofs [startD]
  refine ⟨by omega, by omega, ?_⟩
  refine forM_T (fun i σ g' => (∃ x, σ = [some (.sh (.int n')), some (.sh (.int k')), some (.sh (.int (ch n i : Nat))), x]) ∧ g' = g) (n := 0) ?_ ⟨⟨none, by simp⟩, rfl⟩ ?_
  · rintro i d σ g' e ⟨⟨x, rfl⟩, rfl⟩
    obtain ⟨rfl, h1⟩ := rngD_get e
    simp
    subst hn'
    exact ⟨.inr ⟨by omega, by omega⟩, by omega, ch_next n i⟩
  · rintro σ g' ⟨⟨x, rfl⟩, rfl⟩
    subst hk'
    simp
/-! ## bounds -/
def gI (R : List Int) (k : Int) : Int := (R[k.toNat]?).getD 0
theorem gI_get {R : List Int} {k : Nat} {x : Int} (h : R[k]? = some x) : gI R k = x := by simp [gI, h]
theorem gI_some {R : List Int} {k : Int} (h0 : 0 ≤ k) (h1 : k < R.length) : R[k.toNat]? = some (gI R k) := by
  unfold gI; rw [List.getElem?_eq_getElem (by omega)]; rfl
theorem gI_mem {R : List Int} {k : Int} (h0 : 0 ≤ k) (h1 : k < R.length) : gI R k ∈ R := List.mem_of_getElem? (gI_some h0 h1)
theorem enumD_ints (R : List Int) : enumD (R.map .int) = (rI 0 (R.length : Int)).map fun k => .tup [.int k, .int (gI R k)] := by
  apply List.ext_getElem?
  intro k
  by_cases hk : k < R.length
  · have h1 := gI_some (R := R) (k := k) (by omega) (by omega)
    simp at h1
    rw [enumD_get (d := .int (gI R k)) (by simp [h1]), List.getElem?_map, rI_get (by omega)]
    simp
  · rw [List.getElem?_eq_none (by rw [enumD_len]; simp; omega), List.getElem?_eq_none (by simp; omega)]
theorem map_gI (R : List Int) : (rI 0 (R.length : Int)).map (gI R) = R := by
  apply List.ext_getElem?
  intro k
  by_cases hk : k < R.length
  · have h1 := gI_some (R := R) (k := k) (by omega) (by omega)
    simp at h1
    rw [List.getElem?_map, rI_get (by omega), h1]; simp
  · rw [List.getElem?_eq_none (by simp; omega), List.getElem?_eq_none (by omega)]
/-- what is needed, by indexes -/
def ndx (t : Tab) (R : List Int) (i j : Int) : Bool := decide (0 ≤ i ∧ i < (R.length : Int) ∧ 0 ≤ j ∧ j < (R.length : Int)) && nd t (gI R i) (gI R j)
def bdl (t : Tab) (R : List Int) (k : Int) : List Int := (rI 0 (R.length : Int)).filter fun j => nd t (gI R k) (gI R j)
def bd (t : Tab) (R : List Int) (k : Int) : Int × Int := ((bdl t R k).foldl min k, (bdl t R k).foldl max k + 1)
theorem in_bd {t : Tab} {R : List Int} {a k b : Int} (h0 : 0 ≤ a) (h1 : a ≤ k) (h2 : k < b) (h3 : b ≤ R.length) : (a ≤ (bd t R k).1 ∧ (bd t R k).2 ≤ b) ↔ okW (ndx t R) (rI 0 (R.length : Int)) (rI a b) k = true := by
  rw [okW_iff]
  obtain ⟨m1, m2, m3⟩ := foldl_min_spec (bdl t R k) k
  obtain ⟨x1, x2, x3⟩ := foldl_max_spec (bdl t R k) k
  have mem : ∀ j, j ∈ bdl t R k ↔ (j ∈ rI 0 (R.length : Int) ∧ ndx t R k j = true) := by
    intro j
    unfold bdl ndx
    rw [List.mem_filter, mem_rI]
    simp only [Bool.and_eq_true, decide_eq_true_eq]
    constructor
    · rintro ⟨h, h'⟩; exact ⟨h, ⟨by omega, by omega, by omega, by omega⟩, h'⟩
    · rintro ⟨h, _, h'⟩; exact ⟨h, h'⟩
  unfold bd
  simp only
  constructor
  · rintro ⟨p, q⟩ j hj n
    have hj' := (mem j).mpr ⟨hj, n⟩
    have := m3 j hj'
    have := x3 j hj'
    exact mem_rI.mpr ⟨by omega, by omega⟩
  · intro h
    have h' : ∀ j ∈ bdl t R k, a ≤ j ∧ j < b := fun j hj => mem_rI.mp (h j ((mem j).mp hj).1 ((mem j).mp hj).2)
    constructor
    · rcases m1 with e | e
      · rw [e]; exact h1
      · exact (h' _ e).1
    · rcases x1 with e | e
      · rw [e]; omega
      · have := (h' _ e).2; omega
theorem ndx_iv {t : Tab} {R : List Int} (hs : R.Pairwise (· < ·)) : Iv (ndx t R) := by
  intro i j k h b
  unfold ndx at h ⊢
  simp only [Bool.and_eq_true, decide_eq_true_eq] at h ⊢
  obtain ⟨⟨h1, h2, h3, h4⟩, n⟩ := h
  refine ⟨⟨by omega, by omega, by omega, by omega⟩, nd_iv t _ _ _ n ?_⟩
  have mono : ∀ x y : Int, 0 ≤ x → x < y → y < R.length → gI R x < gI R y := by
    intro x y hx hxy hy
    have e1 := gI_some (R := R) hx (by omega)
    have e2 := gI_some (R := R) (k := y) (by omega) hy
    obtain ⟨l1, e1⟩ := List.getElem?_eq_some_iff.mp e1
    obtain ⟨l2, e2⟩ := List.getElem?_eq_some_iff.mp e2
    have := List.pairwise_iff_getElem.mp hs x.toNat y.toNat l1 l2 (by omega)
    rw [e1, e2] at this; exact this
  rcases b with b | b
  · exact .inl ⟨mono _ _ h1 b.1 (by omega), mono _ _ (by omega) b.2 h4⟩
  · exact .inr ⟨mono _ _ h3 b.1 (by omega), mono _ _ (by omega) b.2 h2⟩
theorem ndx_irr (t : Tab) (R : List Int) (k : Int) : ndx t R k k = false := by unfold ndx; rw [nd_irr]; simp
theorem LE_ndx {t : Tab} {R : List Int} (hn : R.Nodup) : LE (nd t) R = LE (ndx t R) (rI 0 (R.length : Int)) := by
  have inj : ∀ x ∈ rI 0 (R.length : Int), ∀ y ∈ rI 0 (R.length : Int), gI R x = gI R y → x = y := by
    intro x hx y hy e
    have hx := mem_rI.mp hx
    have hy := mem_rI.mp hy
    have e1 := gI_some (R := R) (k := x) (by omega) (by omega)
    have e2 := gI_some (R := R) (k := y) (by omega) (by omega)
    rw [e, ← e2] at e1
    have := (List.getElem?_inj (by omega) hn).mp e1
    omega
  conv => lhs; rw [← map_gI R]
  unfold LE
  refine ct_map (rI_nodup _ _) inj fun I' hI c hc => ?_
  refine bool_iff ?_
  rw [okF_iff, okF_iff]
  have hc' := mem_rI.mp (hI c hc)
  constructor
  · intro h d hd
    have hd' := mem_rI.mp (hI d hd)
    unfold ndx
    rw [h _ (List.mem_map.mpr ⟨d, hd, rfl⟩)]; simp
  · intro h d hd
    obtain ⟨x, hx, rfl⟩ := List.mem_map.mp hd
    have hd' := mem_rI.mp (hI x hx)
    have := h x hx
    unfold ndx at this
    simp only [Bool.and_eq_false_iff, decide_eq_false_iff_not] at this
    rcases this with h | h
    · exact absurd ⟨by omega, by omega, by omega, by omega⟩ h
    · exact h
theorem pt_LE {t : Tab} {R : List Int} (hn : R.Nodup) : pt (ndx t R) (R.length : Int) 0 (R.length : Int) = LE (nd t) R := by
  rw [pt_all (ndx_irr t R), LE_ndx hn]
theorem bounds_T {x y : D} {t : Tab} {R : List Int} (h : Tb x t) (ok : Tok t) (hy : Sq y R) (hR : ∀ c ∈ R, ent t c ≠ .e) (hl : R.length ≤ 12) : Is (d_bounds [x, y]) (.lst ((rI 0 (R.length : Int)).map fun k => pr (bd t R k))) := by
  refine Is.of_T fun g hg => runD_T ?_
  have key : ∀ k : Int, 0 ≤ k → k < R.length → ∀ x2 x3 x5, compM (gNs [6, 7]) (eTst (eBin kIn (eVar 7) (eArgs (callN 2 d_need_of) (lCons (eVar 0) (lCons (eVar 4) lNil))))) (eVar 6) [some (.sh x), some (.sh y), x2, x3, some (.sh (.int (gI R k))), x5, none, none] (enumD (R.map .int)) = M.pure ((bdl t R k).map .int) := by
    intro k h0 h1 x2 x3 x5
    rw [enumD_ints, compM_pure (en := fun k => .tup [.int k, .int (gI R k)]) (p := fun j => nd t (gI R k) (gI R j)) (f := .int)]
    · rfl
    · intro j hj
      refine ⟨_, rfl, ?_, fun _ => rfl⟩
      have e := kIn_tup_ints (gI R j) (needI t (gI R k))
      rw [contains_need] at e
      simp [need_of_T h ok (hR _ (gI_mem h0 h1)), e]
  have lenb : ∀ k, (bdl t R k).length ≤ 12 := fun k => by
    refine Nat.le_trans (List.length_filter_le _ _) ?_
    simp; omega
  have en : iArgs enumK (lCons (eVar 1) lNil) [some (.sh x), some (.sh y), some (.ow (.lst [])), none, none, none, none, none] = M.pure (enumD (R.map .int)) := by
    rcases hy with rfl | rfl <;> rfl
  have en2 : ∀ x2 x3 x4 x5 x6 x7, iArgs enumK (lCons (eVar 1) lNil) [some (.sh x), some (.sh y), x2, x3, x4, x5, x6, x7] = M.pure (enumD (R.map .int)) := by
    intros; rcases hy with rfl | rfl <;> rfl
  unfold b_bounds
  simp [startD, -iArgs_ap, en]
  refine forM_T (fun i σ g' => (∃ x3 x4 x5 x6 x7, σ = [some (.sh x), some (.sh y), some (.ow (.lst ((rI 0 (i : Int)).map fun k => pr (bd t R k)))), x3, x4, x5, x6, x7]) ∧ g' = g) (n := 0) ?_ ⟨⟨_, _, _, _, _, rfl⟩, rfl⟩ ?_
  · rintro i d σ g' e ⟨⟨x3, x4, x5, x6, x7, rfl⟩, rfl⟩
    have hi : i < R.length := by have := (List.getElem?_eq_some_iff.mp e).1; rw [enumD_len] at this; simpa using this
    rw [enumD_ints, List.getElem?_map, rI_get (by omega)] at e
    simp at e
    subst e
    have k1 := key i (by omega) (by omega)
    have l1 := lenb i
    simp [-iArgs_ap, en2, k1, enumD_len]
    refine ⟨by omega, by omega, by omega, ?_⟩
    rw [rI_last (lo := 0) (hi := (i : Int) + 1) (by omega), List.map_append, show (i : Int) + 1 - 1 = i by omega]
    rfl
  · rintro σ g' ⟨⟨x3, x4, x5, x6, x7, rfl⟩, rfl⟩
    simp [enumD_len]
end NS
namespace NS
open PySem PySem.Spec PyProof.Rows L2
@[simp] theorem kLe_int (i j : Int) : kLe (.int i) (.int j) = M.pure (.bl (decide (i ≤ j))) := rfl
@[simp] theorem ix_pr0 (p : Int × Int) : kIx (pr p) (.int 0) = M.pure (.int p.1) := rfl
@[simp] theorem ix_pr1 (p : Int × Int) : kIx (pr p) (.int 1) = M.pure (.int p.2) := rfl
theorem inside_T (p : Int × Int) (a b : Int) : d_is_inside [pr p, .int a, .int b] = M.pure (.bl (decide (a ≤ p.1) && decide (p.2 ≤ b))) := by
  unfold d_is_inside runD b_is_inside
  simp [startD]
  by_cases h : a ≤ p.1 <;> simp [h]
theorem sg_drop {α : Type} {l : List α} {n : Nat} {x : α} (h : l[n]? = some x) (f : α → Nat) : sg (l.drop n) f = f x + sg (l.drop (n + 1)) f := by
  obtain ⟨hn, e⟩ := List.getElem?_eq_some_iff.mp h
  rw [List.drop_eq_getElem_cons hn, sg_cons, e]
/-- the dict holds the counts of all parts -/
def PT (ndr : Int → Int → Bool) (m : Int) (kvs : List (List Key × D)) (P : Int → Int → Prop) : Prop := ∀ a b, 0 ≤ a → a ≤ b → b ≤ m → P a b → valD kvs [.inl a, .inl b] = some (.int (pt ndr m a b : Nat))
theorem pt_le {ndr : Int → Int → Bool} {m : Int} (h : m ≤ 12) {a b : Int} (h0 : 0 ≤ a) (h1 : b ≤ m) : pt ndr m a b ≤ 479001600 := by
  refine Nat.le_trans (ct_le (rI_nodup a b)) (Nat.le_trans (fct_mono (m := 12) ?_) (by decide +kernel))
  rw [rI_len]; omega
theorem part_table_T {ndr : Int → Int → Bool} {m : Int} (h0 : 0 ≤ m) (hm : m ≤ 12) (iv : Iv ndr) {B : Int → Int × Int} (hB : ∀ a k b, 0 ≤ a → a ≤ k → k < b → b ≤ m → ((a ≤ (B k).1 ∧ (B k).2 ≤ b) ↔ okW ndr (rI 0 m) (rI a b) k = true)) {g : G} (hg : Gpur g = true) :
    T (d_part_table [.lst ((rI 0 m).map fun k => pr (B k))]) g fun d g' => g' = g ∧ ∃ kvs, d = .dT kvs ∧ PT ndr m kvs fun _ _ => True := by
  refine runD_T ?_
  unfold b_part_table
  generalize hx : D.lst ((rI 0 m).map fun k => pr (B k)) = x
  have ex : ∀ k : Int, 0 ≤ k → k < m → kIx x (.int k) = M.pure (pr (B k)) := by
    intro k h1 h2
    subst hx
    rw [kIx_lst]
    obtain ⟨j, rfl⟩ := Int.eq_ofNat_of_zero_le h1
    rw [atI_nat (v := pr (B j)) (by rw [List.getElem?_map, rI_get (by omega)]; simp)]; rfl
  have el : kLen [x] = M.pure (.int m) := by
    subst hx; simp [Int.max_eq_left h0]
  clear hx
  simp -implicitDefEqProofs [startD, el]
  refine ⟨by omega, by omega, ?_⟩
  refine forM_T (fun i σ g' => (∃ x3 kvs, σ = [some (.sh x), some (.sh (.int m)), some (.ow (.dT kvs)), x3, none, none, none, none] ∧ kvs.length ≤ i ∧ PT ndr m kvs fun a b => a = b ∧ a < i) ∧ g' = g) (n := 0) ?_ ⟨⟨none, [], rfl, by simp, fun a b _ _ _ h => by omega⟩, rfl⟩ ?_
  · rintro i d σ g' e ⟨⟨x3, kvs, rfl, hl, hp⟩, rfl⟩
    obtain ⟨rfl, h1⟩ := rngD_get e
    simp -implicitDefEqProofs
    refine ⟨by omega, Nat.le_trans (putD_len _ _ _) (by omega), fun a b h2 h3 h4 ⟨h5, h6⟩ => ?_⟩
    subst h5
    rw [valD_put]
    by_cases e : a = i
    · subst e; rw [if_pos rfl, pt_nil]; rfl
    · rw [if_neg (by simp; exact fun h => e h.symm)]
      exact hp a a h2 h3 h4 ⟨rfl, by omega⟩
  · rintro σ g' ⟨⟨x3, kvs, rfl, hl, hp⟩, rfl⟩
    simp at hl hp
    simp -implicitDefEqProofs
    refine ⟨by omega, by omega, ?_⟩
    refine forM_T (fun i σ g1 => (∃ x3 x4 x5 x6 x7 kvs, σ = [some (.sh x), some (.sh (.int m)), some (.ow (.dT kvs)), x3, x4, x5, x6, x7] ∧ kvs.length ≤ 20 + 20 * i ∧ PT ndr m kvs fun a b => b - a ≤ i) ∧ g1 = g') (n := 0) ?_ ⟨⟨_, _, _, _, _, kvs, rfl, by omega, fun a b h2 h3 h4 h5 => hp a b h2 h3 h4 ⟨by omega, by omega⟩⟩, rfl⟩ ?_
    · rintro i d σ g1 e ⟨⟨x3, x4, x5, x6, x7, kvs, rfl, hl, hp⟩, rfl⟩
      obtain ⟨rfl, h1⟩ := rngD_get e
      simp at hl hp
      generalize hlen : (1 : Int) + i = len at h1
      simp -implicitDefEqProofs
      refine ⟨by omega, by omega, ?_⟩
      refine forM_T (fun j σ g2 => (∃ x3 x5 x6 x7 kvs, σ = [some (.sh x), some (.sh (.int m)), some (.ow (.dT kvs)), x3, some (.sh (.int len)), x5, x6, x7] ∧ kvs.length ≤ 20 + 20 * i + j ∧ PT ndr m kvs fun a b => b - a ≤ i ∨ (b - a = len ∧ a < j)) ∧ g2 = g1) (n := 0) ?_ ⟨⟨_, _, _, _, kvs, rfl, by omega, fun a b h2 h3 h4 h5 => hp a b h2 h3 h4 (by omega)⟩, rfl⟩ ?_
      · rintro j d σ g2 e ⟨⟨x3, x5, x6, x7, kvs, rfl, hl, hp⟩, rfl⟩
        obtain ⟨rfl, h2⟩ := rngD_get e
        simp at hl hp
        generalize hf : (0 : Int) + j = f at h2
        have key : ∀ x2 x6, compM (gN 7) (eTst (eArgs (callN 3 d_is_inside) (lCons (eBin kIx (eVar 0) (eVar 7)) (lCons (eVar 3) (lCons (eVar 5) lNil))))) (eVar 7) [some (.sh x), some (.sh (.int m)), x2, some (.sh (.int f)), some (.sh (.int len)), some (.sh (.int (f + len))), x6, none] (rngD f (f + len)) = M.pure (((rI f (f + len)).filter fun l => okW ndr (rI 0 m) (rI f (f + len)) l).map .int) := by
          intro x2 x6
          rw [rngD_rI]
          refine compM_pure (p := fun l => okW ndr (rI 0 m) (rI f (f + len)) l) (f := .int) fun l hl => ?_
          have hl := mem_rI.mp hl
          refine ⟨_, rfl, ?_, fun _ => rfl⟩
          simp [ex l (by omega) (by omega), inside_T]
          congr 1
          refine bool_iff ?_
          rw [Bool.and_eq_true, decide_eq_true_eq, decide_eq_true_eq]
          exact hB f l (f + len) (by omega) hl.1 hl.2 (by omega)
        generalize hL : (rI f (f + len)).filter (fun l => okW ndr (rI 0 m) (rI f (f + len)) l) = L at key
        have hp0 : pt ndr m f (f + len) = sg L fun l => ch (len - 1).toNat (l - f).toNat * (pt ndr m f l * pt ndr m (l + 1) (f + len)) := by
          rw [pt_step iv (by omega) (by omega) (by omega), ← hL, sg_filter, show f + len - f - 1 = len - 1 by omega]
        simp -implicitDefEqProofs [key]
        refine ⟨by omega, by omega, by omega, by omega, by omega, ?_⟩
        refine forM_T (fun q σ g3 => (∃ x7 total, σ = [some (.sh x), some (.sh (.int m)), some (.ow (.dT kvs)), some (.sh (.int f)), some (.sh (.int len)), some (.sh (.int (f + len))), some (.sh (.int (total : Nat))), x7] ∧ total + sg (L.drop q) (fun l => ch (len - 1).toNat (l - f).toNat * (pt ndr m f l * pt ndr m (l + 1) (f + len))) = pt ndr m f (f + len)) ∧ g3 = g2) (n := 0) ?_ ⟨⟨_, 0, rfl, by rw [hp0]; simp⟩, rfl⟩ ?_
        · rintro q d σ g3 e ⟨⟨x7, total, rfl, ht⟩, rfl⟩
          rw [List.getElem?_map] at e
          obtain ⟨l, el, rfl⟩ := Option.map_eq_some_iff.mp e
          have ml : l ∈ rI f (f + len) := by
            have := List.mem_of_getElem? el
            rw [← hL] at this
            exact (List.mem_filter.mp this).1
          have ml := mem_rI.mp ml
          rw [Nat.zero_add, sg_drop el] at ht
          have v1 := hp f l (by omega) (by omega) (by omega) (.inl (by omega))
          have v2 := hp (l + 1) (f + len) (by omega) (by omega) (by omega) (.inl (by omega))
          have c1 := choose_T (n := (len - 1).toNat) (k := (l - f).toNat) (by omega) (by omega)
          rw [show (((len - 1).toNat : Nat) : Int) = len - 1 by omega, show (((l - f).toNat : Nat) : Int) = l - f by omega] at c1
          have b1 := ch_le12 (n := (len - 1).toNat) (by omega) (l - f).toNat
          have b2 := pt_le (ndr := ndr) hm (a := f) (b := l) (by omega) (by omega)
          have b3 := pt_le (ndr := ndr) hm (a := l + 1) (b := f + len) (by omega) (by omega)
          generalize ch (len - 1).toNat (l - f).toNat = C at *
          generalize pt ndr m f l = P1 at *
          generalize pt ndr m (l + 1) (f + len) = P2 at *
          simp -implicitDefEqProofs [c1.T hg, v1, v2]
          refine ⟨.inl ⟨by omega, by omega⟩, .inr ⟨by omega, by omega⟩, hg, ?_⟩
          refine ⟨_, total + C * (P1 * P2), by simp [Int.mul_assoc], rfl, ?_⟩
          rw [show len.toNat - 1 = (len - 1).toNat by omega]
          omega
        · rintro σ g3 ⟨⟨x7, total, rfl, ht⟩, rfl⟩
          simp at ht
          simp -implicitDefEqProofs
          refine ⟨by omega, Nat.le_trans (putD_len _ _ _) (by omega), fun a b h2 h3 h4 h5 => ?_⟩
          rw [valD_put]
          by_cases e : a = f ∧ b = f + len
          · obtain ⟨rfl, rfl⟩ := e
            rw [if_pos rfl, ← ht]
          · rw [if_neg (by simp; intro h6 h7; exact e ⟨h6.symm, h7.symm⟩)]
            exact hp a b h2 h3 h4 (by omega)
      · rintro σ g2 ⟨⟨x3, x5, x6, x7, kvs, rfl, hl, hp⟩, rfl⟩
        simp at hl hp
        refine ⟨⟨_, _, _, _, _, kvs, rfl, by omega, fun a b h2 h3 h4 h5 => hp a b h2 h3 h4 (by omega)⟩, rfl⟩
    · rintro σ g1 ⟨⟨x3, x4, x5, x6, x7, kvs, rfl, hl, hp⟩, rfl⟩
      simp at hl hp
      simp -implicitDefEqProofs
      exact fun a b h2 h3 h4 _ => hp a b h2 h3 h4 (by omega)
theorem count_of_T {x y : D} {t : Tab} {R : List Int} (h : Tb x t) (ok : Tok t) (hy : Sq y R) (hs : R.Pairwise (· < ·)) (hR : ∀ c ∈ R, ent t c ≠ .e) (hl : R.length ≤ 12) : Is (d_count_of [x, y]) (.int (LE (nd t) R : Nat)) := by
  refine Is.of_T fun g hg => runD_T ?_
  unfold b_count_of
  have hn : R.Nodup := List.nodup_iff_pairwise_ne.mpr (hs.imp fun h e => by omega)
  have e1 : ∀ y, Sq y R → kLen [y] = M.pure (.int (R.length : Int)) := by rintro y (rfl | rfl) <;> simp
  have pt' := part_table_T (ndr := ndx t R) (m := (R.length : Int)) (by omega) (by omega) (ndx_iv hs) (B := bd t R) (fun a k b h0 h1 h2 h3 => in_bd h0 h1 h2 h3) hg
  simp -implicitDefEqProofs [startD, (bounds_T h ok hy hR hl).T hg, e1 y hy]
  refine pt'.imp fun d g' ⟨e, kvs, ed, hp⟩ => ?_
  subst e ed
  have := hp 0 (R.length : Int) (by omega) (by omega) (by omega) trivial
  rw [pt_LE hn] at this
  simp -implicitDefEqProofs [this]
end NS
namespace NS
open PySem PySem.Spec PyProof.Rows L2
/-! ## sorted ints -/
theorem leD_int (a b : Int) : leD (.int a) (.int b) = decide (a ≤ b) := by
  show (!(PyProof.Rows.lexLt PyProof.Rows.itemOrd [.inl b] [.inl a])) = _
  unfold PyProof.Rows.lexLt
  by_cases h1 : b < a
  · have : PyProof.Rows.itemLt (.inl b) (.inl a) = true := decide_eq_true h1
    rw [show decide (a ≤ b) = false from decide_eq_false (by omega)]
    simp [this]
  · have : PyProof.Rows.itemLt (.inl b) (.inl a) = false := decide_eq_false h1
    rw [show decide (a ≤ b) = true from decide_eq_true (by omega)]
    simp [this, PyProof.Rows.lexLt]
def insI (x : Int) : List Int → List Int
  | [] => [x]
  | y :: ys => if x ≤ y then x :: y :: ys else y :: insI x ys
def sortI : List Int → List Int
  | [] => []
  | x :: xs => insI x (sortI xs)
theorem insD_int (x : Int) : ∀ l : List Int, insD leD (.int x) (l.map .int) = (insI x l).map .int
  | [] => rfl
  | y :: ys => by
    simp only [List.map_cons, insD, insI, leD_int, decide_eq_true_eq]
    split
    · rfl
    · rw [insD_int x ys]; rfl
theorem isrt_int : ∀ l : List Int, isrt leD (l.map .int) = (sortI l).map .int
  | [] => rfl
  | x :: xs => by rw [List.map_cons, isrt, isrt_int xs, insD_int]; rfl
theorem insI_perm (x : Int) : ∀ l : List Int, (insI x l).Perm (x :: l)
  | [] => .refl _
  | y :: ys => by
    unfold insI
    split
    · exact .refl _
    · exact (List.Perm.cons y (insI_perm x ys)).trans (List.Perm.swap x y ys)
theorem sortI_perm : ∀ l : List Int, (sortI l).Perm l
  | [] => .refl _
  | x :: xs => (insI_perm x _).trans (List.Perm.cons x (sortI_perm xs))
theorem insI_sorted (x : Int) : ∀ {l : List Int}, l.Pairwise (· ≤ ·) → (insI x l).Pairwise (· ≤ ·)
  | [], _ => by simp [insI]
  | y :: ys, h => by
    have h2 := List.pairwise_cons.mp h
    unfold insI
    split
    · rename_i hxy
      refine List.pairwise_cons.mpr ⟨fun a ha => ?_, h⟩
      rcases List.mem_cons.mp ha with rfl | ha
      · exact hxy
      · have := h2.1 a ha; omega
    · refine List.pairwise_cons.mpr ⟨fun a ha => ?_, insI_sorted x h2.2⟩
      rcases List.mem_cons.mp ((insI_perm x ys).mem_iff.mp ha) with rfl | ha
      · omega
      · exact h2.1 a ha
theorem sortI_sorted : ∀ l : List Int, (sortI l).Pairwise (· ≤ ·)
  | [] => .nil
  | x :: xs => insI_sorted x (sortI_sorted xs)
theorem sortI_eq {l m : List Int} (hm : m.Pairwise (· < ·)) : sortI l = m ↔ l.Perm m := by
  constructor
  · rintro rfl; exact (sortI_perm l).symm
  · intro h
    exact List.Perm.eq_of_pairwise (le := (· ≤ ·)) (fun a b _ _ h1 h2 => by omega) (sortI_sorted l) (hm.imp fun h => by omega) ((sortI_perm l).trans h)
theorem srtOk_ints (l : List Int) (h : l.length < 1000000) : srtOk (l.map .int) = true := by
  have ok : ∀ l : List Int, D.pysOk (l.map .int) = true := fun l => by induction l with | nil => rfl | cons x xs ih => simp [D.pysOk, ih, D.pyOk]
  have e : ∀ l : List Int, D.pys (l.map .int) = l.map .int := fun l => by induction l with | nil => rfl | cons x xs ih => simp [D.pys, ih, D.py]
  have dp : ∀ l : List Int, PyData.depthAll (l.map .int) ≤ 60 := fun l => by induction l with | nil => simp [PyData.depthAll] | cons x xs ih => simp [PyData.depthAll, PyData.depth]; exact ih
  unfold srtOk
  rw [ok, e]
  simp [dp, PySem.W.alike, notTN, h]
@[simp] theorem kSorted_tup_ints (l : List Int) (h : l.length < 1000000) : kSorted [.tup (l.map .int)] = M.pure (.lst ((sortI l).map .int)) := by
  unfold kSorted; simp only [srtOk_ints l h, if_true, isrt_int]
@[simp] theorem kSorted_lst_ints (l : List Int) (h : l.length < 1000000) : kSorted [.lst (l.map .int)] = M.pure (.lst ((sortI l).map .int)) := by
  unfold kSorted; simp only [srtOk_ints l h, if_true, isrt_int]
/-! ## equality of lists -/
theorem eqD_lst_ints (xs ys : List Int) : eqD (.lst (xs.map .int)) (.lst (ys.map .int)) = decide (xs = ys) := by
  rw [eqD_lst, eqDs_map]; intro x y; simp [eqD_int, Bool.beq_eq_decide_eq]
theorem eqD_tup_ints (xs ys : List Int) : eqD (.tup (xs.map .int)) (.tup (ys.map .int)) = decide (xs = ys) := by
  rw [eqD_tup, eqDs_map]; intro x y; simp [eqD_int, Bool.beq_eq_decide_eq]
theorem pl_lst_ints (n : Nat) (xs : List Int) (h : xs.length < 1000000) : D.pl (n + 1) (.lst (xs.map .int)) = true := by simp [h]
theorem pl_tup_ints (n : Nat) (xs : List Int) (h : xs.length < 1000000) : D.pl (n + 1) (.tup (xs.map .int)) = true := by simp [h]
theorem kEq_lst_ints {xs ys : List Int} (h : xs.length < 1000000) (h2 : ys.length < 1000000) : kEq (.lst (xs.map .int)) (.lst (ys.map .int)) = M.pure (.bl (decide (xs = ys))) := by
  rw [kEq_pl 1 1 (pl_lst_ints 0 _ h) (pl_lst_ints 0 _ h2), eqD_lst_ints]
theorem kNe_lst_ints {xs ys : List Int} (h : xs.length < 1000000) (h2 : ys.length < 1000000) : kNe (.lst (xs.map .int)) (.lst (ys.map .int)) = M.pure (.bl (!decide (xs = ys))) := by
  rw [kNe_pl 1 1 (pl_lst_ints 0 _ h) (pl_lst_ints 0 _ h2), eqD_lst_ints]
theorem kEq_tup_ints {xs ys : List Int} (h : xs.length < 1000000) (h2 : ys.length < 1000000) : kEq (.tup (xs.map .int)) (.tup (ys.map .int)) = M.pure (.bl (decide (xs = ys))) := by
  rw [kEq_pl 1 1 (pl_tup_ints 0 _ h) (pl_tup_ints 0 _ h2), eqD_tup_ints]
theorem kNe_tup_ints {xs ys : List Int} (h : xs.length < 1000000) (h2 : ys.length < 1000000) : kNe (.tup (xs.map .int)) (.tup (ys.map .int)) = M.pure (.bl (!decide (xs = ys))) := by
  rw [kNe_pl 1 1 (pl_tup_ints 0 _ h) (pl_tup_ints 0 _ h2), eqD_tup_ints]
theorem eqD_pr (p q : Int × Int) : eqD (pr p) (pr q) = decide (p = q) := by
  obtain ⟨a, b⟩ := p
  obtain ⟨c, d⟩ := q
  unfold pr
  rw [eqD_tup]
  simp only [eqDs, eqD_int, Bool.and_true, Prod.mk.injEq]
  by_cases h1 : a = c <;> by_cases h2 : b = d <;> simp [h1, h2]
@[simp] theorem pl_pr (n : Nat) (p : Int × Int) : D.pl (n + 1) (pr p) = true := by simp [pr]
theorem pl_prs (n : Nat) (xs : List (Int × Int)) (h : xs.length < 1000000) : D.pl (n + 2) (.lst (xs.map pr)) = true := by simp [h]
theorem kEq_prs {xs ys : List (Int × Int)} (h : xs.length < 1000000) (h2 : ys.length < 1000000) : kEq (.lst (xs.map pr)) (.lst (ys.map pr)) = M.pure (.bl (decide (xs = ys))) := by
  rw [kEq_pl 2 2 (pl_prs 0 _ h) (pl_prs 0 _ h2), eqD_lst, eqDs_map pr eqD_pr]
theorem kNe_prs {xs ys : List (Int × Int)} (h : xs.length < 1000000) (h2 : ys.length < 1000000) : kNe (.lst (xs.map pr)) (.lst (ys.map pr)) = M.pure (.bl (!decide (xs = ys))) := by
  rw [kNe_pl 2 2 (pl_prs 0 _ h) (pl_prs 0 _ h2), eqD_lst, eqDs_map pr eqD_pr]
theorem kEq_prs_nil {xs : List (Int × Int)} (h : xs.length < 1000000) : kEq (.lst (xs.map pr)) (.lst []) = M.pure (.bl (decide (xs = []))) := kEq_prs (ys := []) h (by decide)
theorem kNe_prs_nil {xs : List (Int × Int)} (h : xs.length < 1000000) : kNe (.lst (xs.map pr)) (.lst []) = M.pure (.bl (!decide (xs = []))) := kNe_prs (ys := []) h (by decide)
theorem kIn_prs {p : Int × Int} {xs : List (Int × Int)} (h : xs.length < 1000000) : kIn (pr p) (.lst (xs.map pr)) = M.pure (.bl (xs.contains p)) := by
  have e : inD (pr p) (.lst (xs.map pr)) = some (xs.contains p) := by
    have f : kInF (pr p) (xs.map pr) = none := by unfold kInF; rw [if_neg]; rintro ⟨h, _⟩; cases h
    show (match kInF (pr p) (xs.map pr) with | some b => some b | none => kInP (pr p) (xs.map pr)) = _
    rw [f]
    have h1 := pl_sh (n := 2) (pl_pr 1 p) (by decide)
    have h2 := pl_sh (n := 2) (pl_prs 0 xs h) (by decide)
    show kInP (pr p) (xs.map pr) = _
    unfold kInP
    rw [if_pos ⟨h1.1, h2.1, h1.2, h2.2⟩]
    congr 1
    rw [pys_map, List.any_map, List.any_map]
    induction xs with
    | nil => rfl
    | cons y ys ih =>
      have hy : (ys.length < 1000000) := by simp at h; omega
      have e1 : PyData.eqv (D.py (pr y)) (D.py (pr p)) = decide (y = p) := eqD_pr y p
      have e2 := ih hy (by unfold kInF; rw [if_neg]; rintro ⟨h, _⟩; cases h) (pl_sh (n := 2) (pl_prs 0 ys hy) (by decide))
      simp only [List.any_cons, List.contains_cons, Function.comp_apply, e1] at e2 ⊢
      rw [e2]
      congr 1
      by_cases hyp : y = p
      · subst hyp; simp
      · have : ¬ p = y := fun e => hyp e.symm
        simp [hyp, this]
  unfold kIn; rw [e]; rfl
end NS
namespace NS
open PySem PySem.Spec PyProof.Rows L2
/-! ## ways through a table -/
def restI (t : Tab) (P : List Int) : List Int := (takenI t).filter fun c => !P.contains c
def readyI (t : Tab) (P : List Int) : List Int := (restI t P).filter fun c => (needI t c).all fun d => P.contains d
theorem mem_rest {t : Tab} {P : List Int} {c : Int} : c ∈ restI t P ↔ c ∈ takenI t ∧ c ∉ P := by
  unfold restI; simp only [List.mem_filter, Bool.not_eq_true', ← Bool.not_eq_true, List.contains_iff_mem]
theorem mem_ready {t : Tab} {P : List Int} {c : Int} : c ∈ readyI t P ↔ c ∈ takenI t ∧ c ∉ P ∧ ∀ d, nd t c d = true → d ∈ P := by
  unfold readyI
  simp only [List.mem_filter, mem_rest, List.all_eq_true, List.contains_iff_mem, mem_need]
  exact ⟨fun ⟨⟨a, b⟩, c⟩ => ⟨a, b, c⟩, fun ⟨a, b, c⟩ => ⟨⟨a, b⟩, c⟩⟩
theorem rest_nodup (t : Tab) (P : List Int) : (restI t P).Nodup := (taken_nodup t).filter _
theorem rest_sorted (t : Tab) (P : List Int) : (restI t P).Pairwise (· < ·) := (taken_sorted t).filter _
theorem rest_nil (t : Tab) : restI t [] = takenI t := by unfold restI; simp
theorem rest_snoc (t : Tab) (P : List Int) (c : Int) : restI t (P ++ [c]) = rm c (restI t P) := by
  unfold restI rm
  rw [List.filter_filter]
  congr 1; funext d
  refine bool_iff ?_
  simp only [Bool.not_eq_true', ← Bool.not_eq_true, List.contains_iff_mem, Bool.and_eq_true, bne_iff_ne, List.mem_append, List.mem_singleton, not_or]
  exact And.comm
/-- no object needs an empty cell -/
def Ngap (t : Tab) : Prop := ∀ c d, nd t c d = true → ent t d ≠ .e
theorem ready_okF {t : Tab} (ng : Ngap t) (P : List Int) : readyI t P = (restI t P).filter fun c => okF (nd t) (restI t P) c := by
  unfold readyI
  refine List.filter_congr fun c hc => bool_iff ?_
  simp only [List.all_eq_true, List.contains_iff_mem, mem_need, okF_iff]
  constructor
  · intro h d hd
    cases e : nd t c d
    · rfl
    · exact absurd (h d e) (mem_rest.mp hd).2
  · intro h d n
    apply Classical.byContradiction
    intro hd
    have := h d (mem_rest.mpr ⟨mem_taken.mpr (ng c d n), hd⟩)
    rw [n] at this; cases this
/-- P is the beginning of an order that agrees, as far as it goes -/
structure Good (t : Tab) (P : List Int) : Prop where
  nodup : P.Nodup
  sub : ∀ c ∈ P, c ∈ takenI t
  ag : ∀ k c, P[k]? = some c → ∀ d, nd t c d = true → d ∈ P.take k
theorem Good.nil (t : Tab) : Good t [] := ⟨List.nodup_nil, fun _ h => (nomatch h), fun _ _ h => (nomatch h)⟩
theorem Good.snoc {t : Tab} {P : List Int} (h : Good t P) {c : Int} (hc : c ∈ readyI t P) : Good t (P ++ [c]) := by
  obtain ⟨h1, h2, h3⟩ := mem_ready.mp hc
  refine ⟨?_, fun x hx => ?_, fun k x e d n => ?_⟩
  · refine List.nodup_append.mpr ⟨h.nodup, by simp, fun a ha b hb => ?_⟩
    rw [List.mem_singleton.mp hb]; rintro rfl; exact h2 ha
  · rcases List.mem_append.mp hx with hx | hx
    · exact h.sub x hx
    · rw [List.mem_singleton.mp hx]; exact h1
  · by_cases hk : k < P.length
    · rw [List.getElem?_append_left hk] at e
      rw [List.take_append_of_le_length (by omega)]
      exact h.ag k x e d n
    · have hk2 : k = P.length := by
        have := (List.getElem?_eq_some_iff.mp e).1
        simp at this; omega
      subst hk2
      rw [List.getElem?_append_right (by omega)] at e
      simp at e
      subst e
      simp
      exact h3 d n
theorem Good.pre {t : Tab} {P : List Int} {c : Int} (h : Good t (P ++ [c])) : Good t P ∧ c ∈ readyI t P := by
  have nd := List.nodup_append.mp h.nodup
  refine ⟨⟨nd.1, fun x hx => h.sub x (List.mem_append_left _ hx), fun k x e d n => ?_⟩, mem_ready.mpr ⟨h.sub c (by simp), fun hc => nd.2.2 c hc c (by simp) rfl, fun d n => ?_⟩⟩
  · have hk := (List.getElem?_eq_some_iff.mp e).1
    have := h.ag k x (by rw [List.getElem?_append_left hk]; exact e) d n
    rw [List.take_append_of_le_length (by omega)] at this
    exact this
  · have := h.ag P.length c (by simp) d n
    simpa using this
theorem perm_of {l m : List Int} (hl : l.Nodup) (hm : m.Nodup) (h : ∀ x ∈ l, x ∈ m) (e : m.length ≤ l.length) : l.Perm m := by
  induction l generalizing m with
  | nil => cases m with | nil => exact .refl _ | cons => simp at e
  | cons a l ih =>
    have h2 := List.nodup_cons.mp hl
    have ha := h a List.mem_cons_self
    have p := List.perm_cons_erase ha
    refine (List.Perm.cons a (ih h2.2 (hm.erase a) (fun x hx => ?_) ?_)).trans p.symm
    · exact (List.mem_erase_of_ne (fun e => by subst e; exact h2.1 hx)).mpr (h x (List.mem_cons_of_mem _ hx))
    · rw [List.length_erase_of_mem ha]; simp at e; omega
theorem sub_len {l m : List Int} (hl : l.Nodup) (h : ∀ x ∈ l, x ∈ m) : l.length ≤ m.length := by
  induction l generalizing m with
  | nil => simp
  | cons a l ih =>
    have h2 := List.nodup_cons.mp hl
    have ha := h a List.mem_cons_self
    have := ih (m := m.erase a) h2.2 fun x hx => (List.mem_erase_of_ne (fun e => by subst e; exact h2.1 hx)).mpr (h x (List.mem_cons_of_mem _ hx))
    rw [List.length_erase_of_mem ha] at this
    have : 0 < m.length := List.length_pos_of_mem ha
    simp; omega
theorem Good.len {t : Tab} {P : List Int} (h : Good t P) : P.length ≤ (takenI t).length := sub_len h.nodup h.sub
theorem Good.rest_ne {t : Tab} {P : List Int} (h : Good t P) (hl : P.length < (takenI t).length) : restI t P ≠ [] := by
  intro e
  have := sub_len (taken_nodup t) (m := P) fun c hc => by
    apply Classical.byContradiction
    intro hn
    have := mem_rest.mpr ⟨hc, hn⟩
    rw [e] at this; cases this
  omega
theorem Good.rest_len {t : Tab} {P : List Int} (h : Good t P) : (restI t P).length + P.length = (takenI t).length := by
  have h1 : ∀ {P : List Int}, P.Nodup → (∀ c ∈ P, c ∈ takenI t) → (restI t P).length + P.length = (takenI t).length := by
    intro P hn hs
    induction P with
    | nil => rw [rest_nil]; simp
    | cons c P ih =>
      have h2 := List.nodup_cons.mp hn
      have := ih h2.2 fun x hx => hs x (List.mem_cons_of_mem _ hx)
      have e : restI t (c :: P) = rm c (restI t P) := by
        rw [← rest_snoc]; unfold restI; congr 1; funext d
        refine bool_iff ?_
        simp only [Bool.not_eq_true', ← Bool.not_eq_true, List.contains_iff_mem, List.mem_append, List.mem_cons, List.mem_singleton, List.not_mem_nil, or_false]
        exact not_congr Or.comm
      have := rm_len (rest_nodup t P) (mem_rest.mpr ⟨hs c List.mem_cons_self, h2.1⟩)
      rw [e]; simp; omega
  exact h1 h.nodup h.sub
/-- one can always go on -/
theorem ready_ne {t : Tab} (ng : Ngap t) (nm : Nm (nd t) (takenI t)) {P : List Int} (h : Good t P) (hl : P.length < (takenI t).length) : readyI t P ≠ [] := by
  obtain ⟨c, hc, ok⟩ := some_ready (nd_irr t) (nd_iv t) (nd_os t) (h.rest_ne hl) (nm.sub fun x hx => (mem_rest.mp hx).1)
  rw [ready_okF ng]
  intro e
  have := List.mem_filter.mpr ⟨hc, ok⟩
  rw [e] at this; cases this
/-- the first order from P on -/
def foN (t : Tab) : Nat → List Int → List Int
  | 0, P => P
  | n + 1, P => match readyI t P with
    | [] => P
    | c :: _ => foN t n (P ++ [c])
def foI (t : Tab) : List Int := foN t (takenI t).length []
theorem foN_good {t : Tab} (ng : Ngap t) (nm : Nm (nd t) (takenI t)) : ∀ {n : Nat} {P : List Int}, Good t P → P.length + n = (takenI t).length → Good t (foN t n P) ∧ (foN t n P).length = (takenI t).length
  | 0, P, h, e => ⟨h, e⟩
  | n + 1, P, h, e => by
    have ne := ready_ne ng nm h (by omega)
    unfold foN
    cases hr : readyI t P with
    | nil => exact absurd hr ne
    | cons c r => exact foN_good ng nm (h.snoc (by rw [hr]; exact List.mem_cons_self)) (by simp; omega)
theorem foI_good {t : Tab} (ng : Ngap t) (nm : Nm (nd t) (takenI t)) : Good t (foI t) ∧ (foI t).length = (takenI t).length := foN_good ng nm (Good.nil t) (by simp)
theorem mem_gap {t : Tab} {p : Int × Int} : p ∈ gapI t ↔ nd t p.1 p.2 = true ∧ ent t p.2 = .e := by
  obtain ⟨c, d⟩ := p
  unfold gapI gapOf
  simp only [List.mem_flatMap, List.mem_map, List.mem_filter, beq_iff_eq, mem_need, Prod.mk.injEq]
  constructor
  · rintro ⟨a, ha, b, ⟨h1, h2⟩, rfl, rfl⟩; exact ⟨h1, h2⟩
  · rintro ⟨h1, h2⟩; exact ⟨c, mem_taken.mpr (nd_taken h1), d, ⟨h1, h2⟩, rfl, rfl⟩
theorem ngap_iff {t : Tab} : gapI t = [] ↔ Ngap t := by
  constructor
  · intro h c d n e
    have : (c, d) ∈ gapI t := mem_gap.mpr ⟨n, e⟩
    rw [h] at this; cases this
  · intro h
    apply List.eq_nil_iff_forall_not_mem.mpr
    intro p hp
    obtain ⟨h1, h2⟩ := mem_gap.mp hp
    exact h _ _ h1 h2
/-- some order agrees -/
def Pos (t : Tab) : Prop := Ngap t ∧ Nm (nd t) (takenI t)
theorem pos_iff {t : Tab} : Pos t ↔ gapI t = [] ∧ 0 < LE (nd t) (takenI t) := by
  unfold Pos
  rw [ngap_iff, LE_pos_iff (nd_irr t) (nd_iv t) (nd_os t) (taken_nodup t)]
/-- the number of orders from P on -/
def cI (t : Tab) (P : List Int) : Nat := LE (nd t) (restI t P)
theorem cI_step {t : Tab} (ng : Ngap t) {P : List Int} (h : restI t P ≠ []) : cI t P = sg (readyI t P) fun c => cI t (P ++ [c]) := by
  unfold cI
  rw [LE_first (rest_nodup t P) h, ready_okF ng, sg_filter]
  refine sg_congr fun c hc => ?_
  rw [rest_snoc]
end NS
namespace NS
open PySem PySem.Spec PyProof.Rows L2
theorem ready_T {x y : D} {t : Tab} {P : List Int} (h : Tb x t) (ok : Tok t) (hy : Sq y P) : d_ready [x, y] = M.pure (.lst ((readyI t P).map .int)) := by
  have nin : ∀ c, kNotIn (.int c) y = M.pure (.bl (!P.contains c)) := by intro c; rcases hy with rfl | rfl <;> simp
  have kin : ∀ c, kIn (.int c) y = M.pure (.bl (P.contains c)) := by intro c; rcases hy with rfl | rfl <;> simp
  have tl := tl_le ok
  have e1 : compM (gN 3) (eTst (eBin kNotIn (eVar 3) (eVar 1))) (eVar 3) [some (.sh x), some (.sh y), none, none, none] ((takenI t).map .int) = M.pure ((restI t P).map .int) := by
    refine compM_pure (p := fun c => !P.contains c) (f := .int) fun c hc => ⟨_, rfl, ?_, fun _ => rfl⟩
    simp [nin]
  have rl : (restI t P).length ≤ 12 := Nat.le_trans (List.length_filter_le _ _) tl
  have e2 : compM (gN 3) (eTst (eArgs (kOfBls fun bs => M.pure (.bl (bs.all id))) (lCons (eComp (iSeq (eArgs (callN 2 d_need_of) (lCons (eVar 0) (lCons (eVar 3) lNil)))) [4] (gN 4) tYesD (eBin kIn (eVar 4) (eVar 1))) lNil))) (eVar 3) [some (.sh x), some (.sh y), some (.sh (.lst ((restI t P).map .int))), none, none] ((restI t P).map .int) = M.pure ((readyI t P).map .int) := by
    refine compM_pure (p := fun c => (needI t c).all fun d => P.contains d) (f := .int) fun c hc => ⟨_, rfl, ?_, fun _ => rfl⟩
    have hc := mem_taken.mp (mem_rest.mp hc).1
    have nl := need_len ok c
    have e3 : compM (gN 4) tYesD (eBin kIn (eVar 4) (eVar 1)) [some (.sh x), some (.sh y), some (.sh (.lst ((restI t P).map .int))), some (.sh (.int c)), none] ((needI t c).map .int) = M.pure (((needI t c).map fun d => P.contains d).map .bl) := by
      rw [compM_all (f := fun d => .bl (P.contains d)) fun d hd => ⟨_, rfl, rfl, by simp [kin]⟩, List.map_map]
      rfl
    simp -implicitDefEqProofs [need_of_T h ok hc, e3, -List.map_map]
    intro h; omega
  unfold d_ready runD b_ready
  simp -implicitDefEqProofs [startD, taken_T h ok.len, e1, e2]
  repeat rw [if_pos (by omega)]
theorem nexts_T {x y : D} {t : Tab} {P : List Int} (h : Tb x t) (ok : Tok t) (hy : Sq y P) : Is (d_nexts [x, y]) (.lst ((readyI t P).map fun c => pr (c, (cI t (P ++ [c]) : Nat)))) := by
  have nin : ∀ c, kNotIn (.int c) y = M.pure (.bl (!P.contains c)) := by intro c; rcases hy with rfl | rfl <;> simp
  have tl := tl_le ok
  have e1 : compM (gN 3) (eTst (eBin kNotIn (eVar 3) (eVar 1))) (eVar 3) [some (.sh x), some (.sh y), none, none, none] ((takenI t).map .int) = M.pure ((restI t P).map .int) := by
    refine compM_pure (p := fun c => !P.contains c) (f := .int) fun c hc => ⟨_, rfl, ?_, fun _ => rfl⟩
    simp [nin]
  have rl : (restI t P).length ≤ 12 := Nat.le_trans (List.length_filter_le _ _) tl
  have rl2 : (readyI t P).length ≤ 12 := Nat.le_trans (List.length_filter_le _ _) rl
  have e2 : Is (compM (gN 3) tYesD (eArgs mkT (lCons (eVar 3) (lCons (eArgs (callN 2 d_count_of) (lCons (eVar 0) (lCons (eComp (iSeq (eVar 2)) [4] (gN 4) (eTst (eBin kNe (eVar 4) (eVar 3))) (eVar 4)) lNil))) lNil))) [some (.sh x), some (.sh y), some (.sh (.lst ((restI t P).map .int))), none, none] ((readyI t P).map .int)) ((readyI t P).map fun c => pr (c, (cI t (P ++ [c]) : Nat))) := by
    refine compM_allis fun c hc => ⟨_, rfl, Is.eq rfl, ?_⟩
    refine Is.of_T fun g hg => ?_
    have e3 : compM (gN 4) (eTst (eBin kNe (eVar 4) (eVar 3))) (eVar 4) [some (.sh x), some (.sh y), some (.sh (.lst ((restI t P).map .int))), some (.sh (.int c)), none] ((restI t P).map .int) = M.pure ((rm c (restI t P)).map .int) := by
      refine compM_pure (p := fun d => d != c) (f := .int) fun d hd => ⟨_, rfl, ?_, fun _ => rfl⟩
      simp; rfl
    have cc := count_of_T h ok (y := .lst ((rm c (restI t P)).map .int)) (R := rm c (restI t P)) (.inr rfl) ((rest_sorted t P).filter _) (fun d hd => mem_taken.mp (mem_rest.mp (rm_sub _ _ _ hd)).1) (Nat.le_trans (List.length_filter_le _ _) rl)
    simp -implicitDefEqProofs [e3]
    refine ⟨by omega, ?_⟩
    rw [cc.T hg]
    unfold cI
    rw [rest_snoc]
    exact ⟨rfl, rfl⟩
  refine Is.of_T fun g hg => runD_T ?_
  unfold b_nexts
  simp -implicitDefEqProofs [startD, taken_T h ok.len, e1, ready_T h ok hy]
  refine ⟨by omega, by omega, ?_⟩
  rw [e2.T hg]
  exact ⟨rfl, rfl⟩
theorem gap_lt {t : Tab} (ok : Tok t) : (gapI t).length < 1000000 := by have := gap_len ok; omega
theorem possible_T {x : D} {t : Tab} (h : Tb x t) (ok : Tok t) : Is (d_is_possible [x]) (.bl (decide (gapI t = []) && decide (0 < LE (nd t) (takenI t)))) := by
  refine Is.of_T fun g hg => runD_T ?_
  unfold b_is_possible
  have cc := count_of_T h ok (y := .lst ((takenI t).map .int)) (.inr rfl) (taken_sorted t) (fun c hc => mem_taken.mp hc) (tl_le ok)
  simp -implicitDefEqProofs [startD, gaps_T h ok, kEq_prs_nil (gap_lt ok)]
  refine ⟨fun e => ?_, fun e => by simp [e]⟩
  simp -implicitDefEqProofs [taken_T h ok.len, cc.T hg, e]
theorem count_orders_T {x : D} {t : Tab} (h : Tb x t) (ok : Tok t) : Is (d_count_orders [x]) (.int ((if gapI t = [] then LE (nd t) (takenI t) else 0 : Nat) : Int)) := by
  refine Is.of_T fun g hg => runD_T ?_
  unfold b_count_orders
  have cc := count_of_T h ok (y := .lst ((takenI t).map .int)) (.inr rfl) (taken_sorted t) (fun c hc => mem_taken.mp hc) (tl_le ok)
  simp -implicitDefEqProofs [startD, gaps_T h ok, kEq_prs_nil (gap_lt ok)]
  refine ⟨fun e => ?_, fun e => by simp [e]⟩
  simp -implicitDefEqProofs [taken_T h ok.len, cc.T hg, e]
theorem first_order_T {x y : D} {t : Tab} (h : Tb x t) (ok : Tok t) (hy : Sq y []) (p : Pos t) : Is (d_first_order [x, y]) (.lst ((foI t).map .int)) := by
  refine Is.of_T fun g hg => runD_T ?_
  unfold b_first_order
  have kl : kLen [y] = M.pure (.int 0) := by rcases hy with rfl | rfl <;> rfl
  have kls : kList [y] = M.pure (.lst []) := by rcases hy with rfl | rfl <;> rfl
  have tl := tl_le ok
  simp -implicitDefEqProofs [startD]
  refine whileM_T (fun k σ g' => (∃ P, σ = [some (.sh x), some (.sh y), some (.ow (.lst (P.map .int)))] ∧ Good t P ∧ P.length + k = (takenI t).length ∧ foN t k P = foI t) ∧ g' = g) ?_ (k := (takenI t).length) ⟨⟨[], rfl, Good.nil t, by simp, rfl⟩, rfl⟩ (by omega)
  rintro k σ g' ⟨⟨P, rfl, gp, hk, hf⟩, rfl⟩
  simp -implicitDefEqProofs [kl, taken_T h ok.len, hg]
  refine ⟨fun hlt => ?_, fun hge => ?_⟩
  · obtain ⟨k', rfl⟩ : ∃ k', k = k' + 1 := ⟨k - 1, by omega⟩
    refine ⟨k', rfl, ?_⟩
    have ne := ready_ne p.1 p.2 gp (by omega)
    unfold foN at hf
    cases hr : readyI t P with
    | nil => exact absurd hr ne
    | cons c r =>
      rw [hr] at hf
      have rt := ready_T h ok (y := .lst (P.map .int)) (P := P) (.inr rfl)
      rw [hr] at rt
      simp -implicitDefEqProofs [kls, rt, hg]
      exact ⟨by omega, _, atI_nat (j := 0) rfl, rfl, by omega, P ++ [c], by simp, gp.snoc (by rw [hr]; exact List.mem_cons_self), by simp; omega, hf⟩
  · have : k = 0 := by omega
    subst this
    simp -implicitDefEqProofs [← hf, foN]
end NS
namespace NS
open PySem PySem.Spec PyProof.Rows L2
theorem cutD_take (xs : List D) (k : Int) (h : 0 ≤ k) : cutD xs none (some k) = xs.take k.toNat := by
  unfold cutD HT.sIx
  simp [show ¬ k < 0 by omega]
theorem cutD_drop (xs : List D) (k : Int) (h : 0 ≤ k) : cutD xs (some k) none = xs.drop k.toNat := by
  unfold cutD HT.sIx
  simp [show ¬ k < 0 by omega]
  rw [List.take_of_length_le (by simp)]
  by_cases hk : k.toNat ≤ xs.length
  · rw [Nat.min_eq_left hk]
  · rw [Nat.min_eq_right (by omega), List.drop_length, List.drop_eq_nil_of_le (by omega)]
theorem is_integer_int (i : Int) : d_is_integer [.int i] = M.pure (.bl true) := rfl
theorem all_true {α : Type} (l : List α) : (l.map fun _ => true).all id = true := by simp
theorem need_both_T {x : D} {t : Tab} (h : Tb x t) (ok : Tok t) {a b : Int} (ha : ent t a ≠ .e) (hb : ent t b ≠ .e) : d_need_both [x, .int a, .int b] = M.pure (.bl (nd t a b && nd t b a)) := by
  have e1 := kIn_tup_ints b (needI t a)
  have e2 := kIn_tup_ints a (needI t b)
  rw [contains_need] at e1 e2
  unfold d_need_both runD b_need_both
  simp -implicitDefEqProofs [startD, need_of_T h ok ha, need_of_T h ok hb, e1, e2]
  by_cases c : nd t a b = true <;> simp [c]
/-! ## the reasons, by all pairs -/
def pairsI (n : Int) : List (Int × Int) := (rI 0 n).flatMap fun a => (rI 0 n).map fun b => (a, b)
theorem mem_pairs {n : Int} {p : Int × Int} : p ∈ pairsI n ↔ (0 ≤ p.1 ∧ p.1 < n) ∧ 0 ≤ p.2 ∧ p.2 < n := by
  obtain ⟨a, b⟩ := p
  unfold pairsI
  simp only [List.mem_flatMap, List.mem_map, mem_rI, Prod.mk.injEq]
  constructor
  · rintro ⟨a, ha, b, hb, rfl, rfl⟩; exact ⟨ha, hb⟩
  · rintro ⟨ha, hb⟩; exact ⟨a, ha, b, hb, rfl, rfl⟩
theorem need_filter {t : Tab} (ok : Tok t) (c : Int) : needI t c = (rI 0 (tn t)).filter fun d => nd t c d := by
  unfold needI nd
  cases e : ent t c with
  | w v =>
    have hw := ok.wish c v e
    have hc := ent_lt (t := t) (c := c) (by rw [e]; simp)
    symm
    refine filter_rI ?_ ?_ fun x h0 h1 => by simp
    · unfold nLo; split <;> omega
    · unfold nHi; split <;> omega
  | _ => simp
def gapB (t : Tab) (p : Int × Int) : Bool := nd t p.1 p.2 && ent t p.2 == .e
def bothB (t : Tab) (p : Int × Int) : Bool := nd t p.1 p.2 && nd t p.2 p.1
theorem filter_flatMap {α β : Type} (l : List α) (f : α → List β) (p : β → Bool) : (l.flatMap f).filter p = l.flatMap fun a => (f a).filter p := by
  induction l with
  | nil => rfl
  | cons a l ih => simp [ih]
theorem flatMap_filter {α β : Type} (l : List α) (f : α → List β) (p : α → Bool) (h : ∀ a ∈ l, p a = false → f a = []) : (l.filter p).flatMap f = l.flatMap f := by
  induction l with
  | nil => rfl
  | cons a l ih =>
    have ih := ih fun b hb => h b (List.mem_cons_of_mem _ hb)
    cases hp : p a with
    | true => simp [List.filter_cons, hp, ih]
    | false => simp [List.filter_cons, hp, ih, h a List.mem_cons_self hp]
theorem gap_pairs {t : Tab} (ok : Tok t) : gapI t = (pairsI (tn t)).filter (gapB t) := by
  unfold gapI pairsI takenI
  rw [filter_flatMap, flatMap_filter]
  · congr 1; funext c
    unfold gapOf
    rw [need_filter ok, List.filter_filter, List.filter_map]
    congr 1
    refine List.filter_congr fun d _ => ?_
    simp [gapB, Function.comp, Bool.and_comm]
  · intro c hc e
    have : ent t c = .e := by simpa using e
    unfold gapOf needI
    rw [this]; rfl
def bothI (t : Tab) : List (Int × Int) := (pairsI (tn t)).filter (bothB t)
theorem mem_both {t : Tab} (ok : Tok t) {p : Int × Int} : p ∈ bothI t ↔ nd t p.1 p.2 = true ∧ nd t p.2 p.1 = true := by
  unfold bothI
  rw [List.mem_filter, mem_pairs]
  unfold bothB
  rw [Bool.and_eq_true]
  constructor
  · exact fun h => h.2
  · exact fun h => ⟨⟨nd_lt ok h.2, nd_lt ok h.1⟩, h⟩
theorem nm_both {t : Tab} (ok : Tok t) : bothI t = [] ↔ Nm (nd t) (takenI t) := by
  constructor
  · intro h c hc d hd hh
    have : (c, d) ∈ bothI t := (mem_both ok).mpr hh
    rw [h] at this; cases this
  · intro h
    apply List.eq_nil_iff_forall_not_mem.mpr
    intro p hp
    have hh := (mem_both ok).mp hp
    exact h _ (mem_taken.mpr (nd_taken hh.1)) _ (mem_taken.mpr (nd_taken hh.2)) hh
/-- ascending pairs -/
def plt (p q : Int × Int) : Prop := p.1 < q.1 ∨ (p.1 = q.1 ∧ p.2 < q.2)
theorem pairs_sorted (n : Int) : (pairsI n).Pairwise plt := by
  unfold pairsI
  rw [List.pairwise_flatMap]
  refine ⟨fun a ha => ?_, ?_⟩
  · rw [List.pairwise_map]
    exact (rI_sorted 0 n).imp fun h => .inr ⟨rfl, h⟩
  · refine (rI_sorted 0 n).imp fun h x hx y hy => ?_
    obtain ⟨_, _, rfl⟩ := List.mem_map.mp hx
    obtain ⟨_, _, rfl⟩ := List.mem_map.mp hy
    exact .inl h
theorem head_first {t : Tab} (ok : Tok t) {p : Int × Int} {r : List (Int × Int)} (h : bothI t = p :: r) : (nd t p.1 p.2 = true ∧ nd t p.2 p.1 = true) ∧ ∀ q, nd t q.1 q.2 = true → nd t q.2 q.1 = true → p = q ∨ plt p q := by
  have hs : (bothI t).Pairwise plt := (pairs_sorted _).filter _
  refine ⟨(mem_both ok).mp (by rw [h]; exact List.mem_cons_self), fun q h1 h2 => ?_⟩
  have hq := (mem_both ok).mpr ⟨h1, h2⟩
  rw [h] at hq hs
  rcases List.mem_cons.mp hq with e | e
  · exact .inl e.symm
  · exact .inr ((List.pairwise_cons.mp hs).1 q e)
theorem sorted_take {l : List Int} (hs : l.Pairwise (· < ·)) {i : Nat} {a x : Int} (ha : l[i]? = some a) (hx : x ∈ l) (h : x < a) : x ∈ l.take i := by
  obtain ⟨hi, e⟩ := List.getElem?_eq_some_iff.mp ha
  obtain ⟨k, hk, ek⟩ := List.getElem_of_mem hx
  refine List.mem_take_iff_getElem.mpr ⟨k, ?_, ek⟩
  have : k < i := by
    apply Classical.byContradiction
    intro hh
    rcases Nat.lt_or_eq_of_le (Nat.le_of_not_lt hh) with l1 | l1
    · have := List.pairwise_iff_getElem.mp hs i k hi hk l1
      omega
    · subst l1; omega
  omega
theorem sorted_drop {l : List Int} (hs : l.Pairwise (· < ·)) {i : Nat} {a x : Int} (ha : l[i]? = some a) (hx : x ∈ l) (h : a < x) : x ∈ l.drop (i + 1) := by
  obtain ⟨hi, e⟩ := List.getElem?_eq_some_iff.mp ha
  rw [← List.take_append_drop (i + 1) l] at hx
  rcases List.mem_append.mp hx with hx | hx
  · exfalso
    obtain ⟨k, hk, ek⟩ := List.mem_take_iff_getElem.mp hx
    by_cases l1 : k = i
    · subst l1; omega
    · have := List.pairwise_iff_getElem.mp hs k i (by omega) hi (by omega)
      omega
  · exact hx
/-- what verdict tells -/
def verD (t : Tab) : D := match gapI t with
  | p :: _ => .tup [.str "gap", .int p.1, .int p.2]
  | [] => match bothI t with
    | p :: _ => .tup [.str "both", .int p.1, .int p.2]
    | [] => .tup [.str "order", .tup ((foI t).map .int)]
theorem verdict_T {x : D} {t : Tab} (h : Tb x t) (ok : Tok t) : Is (d_verdict [x]) (verD t) := by
  refine Is.of_T fun g hg => runD_T ?_
  unfold b_verdict
  have gl := gap_lt ok
  have tl := tl_le ok
  simp -implicitDefEqProofs [startD, gaps_T h ok, kNe_prs_nil gl]
  refine And.symm ⟨fun ne => ?_, fun e => ?_⟩
  · unfold verD
    cases hg2 : gapI t with
    | nil => exact absurd hg2 ne
    | cons p r =>
      refine ⟨_, atI_nat (j := 0) rfl, ?_⟩
      simp [pr]
  · have ng := ngap_iff.mp e
    simp -implicitDefEqProofs [taken_T h ok.len]
    -- the loop over the taken cells
    refine forM_T (fun i σ g' => (∃ x3 x4 x5, σ = [some (.sh x), some (.sh (.lst ((gapI t).map pr))), some (.sh (.lst ((takenI t).map .int))), x3, x4, x5]) ∧ g' = g ∧ ∀ a ∈ (takenI t).take i, ∀ b, a < b → ¬ (nd t a b = true ∧ nd t b a = true)) (n := 0) ?_ ⟨⟨_, _, _, rfl⟩, rfl, by simp⟩ ?_
    · rintro i d σ g' hd ⟨⟨x3, x4, x5, rfl⟩, rfl, hno⟩
      rw [enumD_ints, List.getElem?_map] at hd
      obtain ⟨k, hk, rfl⟩ := Option.map_eq_some_iff.mp hd
      have hi : i < (takenI t).length := by have := (List.getElem?_eq_some_iff.mp hk).1; rw [rI_len] at this; omega
      rw [rI_get (by omega)] at hk
      cases hk
      have ga := gI_some (R := takenI t) (k := i) (by omega) (by omega)
      generalize ha : gI (takenI t) ((0 : Int) + i) = a
      simp at ha
      simp [ha] at ga
      have ta : a ∈ takenI t := List.mem_of_getElem? ga
      have hc := cutD_drop ((takenI t).map .int) ((0 : Int) + i + 1) (by omega)
      rw [show ((0 : Int) + i + 1).toNat = i + 1 by omega, ← List.map_drop] at hc
      simp at hno
      simp -implicitDefEqProofs at hc
      simp -implicitDefEqProofs [hc]
      refine forM_T (fun j σ g2 => (∃ x5, σ = [some (.sh x), some (.sh (.lst ((gapI t).map pr))), some (.sh (.lst ((takenI t).map .int))), some (.sh (.int i)), some (.sh (.int a)), x5]) ∧ g2 = g' ∧ ∀ b ∈ ((takenI t).drop (i + 1)).take j, ¬ (nd t a b = true ∧ nd t b a = true)) (n := 0) ?_ ⟨⟨_, rfl⟩, rfl, by simp⟩ ?_
      · rintro j d σ g2 hd ⟨⟨x5, rfl⟩, rfl, hno2⟩
        rw [← List.map_drop, List.getElem?_map] at hd
        obtain ⟨b, hb, rfl⟩ := Option.map_eq_some_iff.mp hd
        have tb : b ∈ takenI t := List.mem_of_mem_drop (List.mem_of_getElem? hb)
        simp at hno2
        simp -implicitDefEqProofs [need_both_T h ok (mem_taken.mp ta) (mem_taken.mp tb)]
        refine ⟨fun m1 m2 => ?_, fun hh c hc => ?_⟩
        · have mab : (a, b) ∈ bothI t := (mem_both ok).mpr ⟨m1, m2⟩
          unfold verD
          rw [e]
          cases hb2 : bothI t with
          | nil => rw [hb2] at mab; cases mab
          | cons p r =>
            obtain ⟨⟨p1, p2⟩, hf⟩ := head_first ok hb2
            have tp1 := mem_taken.mpr (nd_taken p1)
            have tp2 := mem_taken.mpr (nd_taken p2)
            have ne : p.1 ≠ p.2 := fun e => by rw [e, nd_irr] at p1; cases p1
            have low : ∀ x y, x ∈ takenI t → nd t x y = true → nd t y x = true → x < y → a ≤ x := by
              intro x y hx n1 n2 hxy
              apply Classical.byContradiction
              intro hh
              have := hno x (sorted_take (taken_sorted t) ga hx (by omega)) y hxy n1
              rw [n2] at this; cases this
            have q : p = (a, b) := by
              rcases hf (a, b) m1 m2 with h1 | h1
              · exact h1
              · exfalso
                rcases h1 with h1 | ⟨h1, h2⟩
                · have h1 : p.1 < a := h1
                  rcases Int.lt_trichotomy p.1 p.2 with l | l | l
                  · have := low _ _ tp1 p1 p2 l; omega
                  · exact ne l
                  · have := low _ _ tp2 p2 p1 l; omega
                · have h1 : p.1 = a := h1
                  have h2 : p.2 < b := h2
                  rcases Int.lt_trichotomy p.1 p.2 with l | l | l
                  · have := hno2 p.2 (sorted_take ((taken_sorted t).sublist (List.drop_sublist _ _)) hb (sorted_drop (taken_sorted t) ga tp2 (by omega)) h2)
                    rw [← h1] at this
                    have := this p1
                    rw [p2] at this; cases this
                  · exact ne l
                  · have := low _ _ tp2 p2 p1 l; omega
            subst q; rfl
        · rw [List.take_add_one, hb] at hc
          rcases List.mem_append.mp hc with hc | hc
          · exact hno2 c (by simpa using hc)
          · simp at hc; subst hc
            exact hh
      · rintro σ g2 ⟨⟨x5, rfl⟩, rfl, hno2⟩
        simp -implicitDefEqProofs
        intro c hc b hb
        rw [List.take_add_one, ga] at hc
        rcases List.mem_append.mp hc with hc | hc
        · exact fun h1 => hno c hc b hb h1
        · simp at hc; subst hc
          intro m1
          have tb : b ∈ takenI t := mem_taken.mpr (fun e => ng _ _ m1 e)
          have := hno2 b (by
            have := sorted_drop (taken_sorted t) ga tb hb
            rw [List.take_of_length_le (by simp)]; exact this)
          cases m2 : nd t b c
          · rfl
          · exact absurd ⟨m1, m2⟩ this
    · rintro σ g' ⟨⟨x3, x4, x5, rfl⟩, rfl, hno⟩
      have lt : (takenI t).take (0 + (enumD ((takenI t).map D.int)).length) = takenI t := List.take_of_length_le (by rw [enumD_len]; simp)
      rw [lt] at hno
      have nm : Nm (nd t) (takenI t) := by
        intro c hc d hd hh
        rcases Int.lt_trichotomy c d with l | l | l
        · exact hno c hc d l hh
        · subst l; rw [nd_irr] at hh; exact absurd hh.1 (by simp)
        · exact hno d hd c l ⟨hh.2, hh.1⟩
      have fo := first_order_T h ok (y := .lst []) (.inr rfl) ⟨ng, nm⟩
      have vd : verD t = .tup [.str "order", .tup ((foI t).map .int)] := by unfold verD; rw [e, (nm_both ok).mpr nm]
      simp -implicitDefEqProofs [fo.T hg, vd]
end NS
namespace NS
open PySem PySem.Spec PyProof.Rows L2
def agB (t : Tab) (σ : List Int) : Bool := (rI 0 (σ.length : Int)).all fun k => (needI t (gI σ k)).all fun d => (σ.take k.toNat).contains d
theorem agB_iff {t : Tab} {σ : List Int} : agB t σ = true ↔ ∀ k c, σ[k]? = some c → ∀ d, nd t c d = true → d ∈ σ.take k := by
  unfold agB
  simp only [List.all_eq_true, List.contains_iff_mem, mem_need]
  constructor
  · intro h k c e d n
    have hk := (List.getElem?_eq_some_iff.mp e).1
    have := h k (mem_rI.mpr ⟨by omega, by omega⟩) d (by rw [gI_get e]; exact n)
    simpa using this
  · intro h k hk d n
    have hk := mem_rI.mp hk
    exact h k.toNat _ (gI_some hk.1 hk.2) d n
/-- a list of all taken cells that agrees -/
theorem good_iff {t : Tab} {σ : List Int} : (σ.Perm (takenI t) ∧ agB t σ = true) ↔ Good t σ ∧ σ.length = (takenI t).length := by
  rw [agB_iff]
  constructor
  · rintro ⟨p, h⟩
    exact ⟨⟨p.nodup_iff.mpr (taken_nodup t), fun c hc => p.mem_iff.mp hc, h⟩, p.length_eq⟩
  · rintro ⟨g, e⟩
    exact ⟨perm_of g.nodup (taken_nodup t) g.sub (by omega), g.ag⟩
theorem is_order_T {x : D} {t : Tab} (h : Tb x t) (ok : Tok t) {σ : List Int} (hl : σ.length < 1000000) : d_is_order [x, .tup (σ.map .int)] = M.pure (.bl (decide (σ.Perm (takenI t)))) := by
  have tl := tl_le ok
  have sl : (sortI σ).length < 1000000 := by rw [(sortI_perm σ).length_eq]; exact hl
  have e1 : compM (gN 2) tYesD (eArgs (callN 1 d_is_integer) (lCons (eVar 2) lNil)) [some (.sh x), some (.sh (.tup (σ.map .int))), none] (σ.map .int) = M.pure ((σ.map fun _ => true).map .bl) := by
    rw [compM_all (f := fun _ => .bl true) fun c hc => ⟨_, rfl, rfl, by simp [is_integer_int]⟩, List.map_map]; rfl
  unfold d_is_order runD b_is_order
  simp -implicitDefEqProofs [startD, e1, taken_T h ok.len, kSorted_tup_ints σ hl, kEq_lst_ints sl (show (takenI t).length < 1000000 by omega), -List.map_map, sortI_eq (taken_sorted t)]
  omega
theorem sh_comp {x : D} {t : Tab} (h : Tb x t) (ok : Tok t) {σ : List Int} (p : ∀ c ∈ σ, c ∈ takenI t) : compM2 (gNs [2, 3]) tYesD (iSeq (eArgs (callN 2 d_need_of) (lCons (eVar 0) (lCons (eVar 3) lNil)))) [4] (gN 4) tYesD (eBin kIn (eVar 4) (eSl kSl (eVar 1) oNone (oSome (eVar 2)))) [some (.sh x), some (.sh (.tup (σ.map .int))), none, none, none] (enumD (σ.map .int))
    = M.pure (((rI 0 (σ.length : Int)).flatMap fun k => (needI t (gI σ k)).map fun d => (σ.take k.toNat).contains d).map .bl) := by
  rw [enumD_ints, compM2_all (f := fun k => (needI t (gI σ k)).map fun d => .bl ((σ.take k.toNat).contains d))]
  · simp [List.map_flatMap, Function.comp_def]
  · intro k hk
    have hk := mem_rI.mp hk
    have tc := p _ (gI_mem hk.1 hk.2)
    refine ⟨_, rfl, rfl, (needI t (gI σ k)).map .int, ?_, ?_⟩
    · simp [need_of_T h ok (mem_taken.mp tc)]
    · refine compM_all fun d hd => ⟨_, rfl, rfl, ?_⟩
      have e1 := cutD_take (σ.map .int) k hk.1
      rw [← List.map_take] at e1
      have e2 := kIn_tup_ints d (σ.take k.toNat)
      simp -implicitDefEqProofs [e1, e2, -List.map_take]
theorem flat_all {α β : Type} (l : List α) (f : α → List β) (p : α → β → Bool) : ((l.flatMap fun a => (f a).map (p a)).all id) = l.all fun a => (f a).all (p a) := by
  induction l with
  | nil => rfl
  | cons a l ih => simp [List.all_append, ih, Function.comp_def, List.all_map]
theorem flat_len {t : Tab} (ok : Tok t) (σ : List Int) (h : σ.length ≤ 1000) : ((rI 0 (σ.length : Int)).flatMap fun k => (needI t (gI σ k)).map fun d => (σ.take k.toNat).contains d).length < 1000000 := by
  have := flatMap_len (l := rI 0 (σ.length : Int)) (f := fun k => (needI t (gI σ k)).map fun d => (σ.take k.toNat).contains d) (k := 12) fun k hk => by
    rw [List.length_map]; exact need_len ok _
  rw [rI_len] at this
  omega
theorem shows_order_T {x : D} {t : Tab} (h : Tb x t) (ok : Tok t) {σ : List Int} (hl : σ.length ≤ 1000) : d_shows_order [x, .tup (σ.map .int)] = M.pure (.bl (decide (σ.Perm (takenI t)) && agB t σ)) := by
  unfold d_shows_order runD b_shows_order
  simp -implicitDefEqProofs [startD, is_order_T h ok (show σ.length < 1000000 by omega)]
  by_cases p : σ.Perm (takenI t)
  · have sc := sh_comp h ok (σ := σ) fun c hc => p.mem_iff.mp hc
    have fl := flat_len ok σ hl
    have fa : (((rI 0 (σ.length : Int)).flatMap fun k => (needI t (gI σ k)).map fun d => (σ.take k.toNat).contains d).all id) = agB t σ := flat_all (rI 0 (σ.length : Int)) (fun k => needI t (gI σ k)) (fun k d => (σ.take k.toNat).contains d)
    generalize ((rI 0 (σ.length : Int)).flatMap fun k => (needI t (gI σ k)).map fun d => (σ.take k.toNat).contains d) = F at *
    simp -implicitDefEqProofs [p, sc, enumD_len, fl, fa]
    omega
  · simp [p]
theorem shows_gap_T {x : D} {t : Tab} (h : Tb x t) (ok : Tok t) (p : Int × Int) : d_shows_gap [x, pr p] = M.pure (.bl (gapB t p)) := by
  have ip : d_is_pair [pr p] = M.pure (.bl true) := rfl
  have e : (gapI t).contains p = gapB t p := bool_iff (by
    rw [List.contains_iff_mem, mem_gap]; unfold gapB; rw [Bool.and_eq_true, beq_iff_eq])
  unfold d_shows_gap runD b_shows_gap
  simp -implicitDefEqProofs [startD, ip, gaps_T h ok, kIn_prs (gap_lt ok), -List.contains_eq_mem, e]
theorem shows_both_T {x : D} {t : Tab} (h : Tb x t) (ok : Tok t) (p : Int × Int) : d_shows_both [x, pr p] = M.pure (.bl (bothB t p)) := by
  have ip : d_is_pair [pr p] = M.pure (.bl true) := rfl
  have e1 : compM (gN 2) tYesD (eBin kIn (eVar 2) (eArgs (callN 1 d_taken) (lCons (eVar 0) lNil))) [some (.sh x), some (.sh (pr p)), none] [.int p.1, .int p.2] = M.pure (([(takenI t).contains p.1, (takenI t).contains p.2]).map .bl) := by
    have := compM_all (fg := gN 2) (ft := tYesD) (fe := eBin kIn (eVar 2) (eArgs (callN 1 d_taken) (lCons (eVar 0) lNil))) (σ := [some (.sh x), some (.sh (pr p)), none]) (en := D.int) (f := fun c => .bl ((takenI t).contains c)) (xs := [p.1, p.2]) fun c hc => ⟨_, rfl, rfl, by simp -implicitDefEqProofs [taken_T h ok.len]⟩
    exact this
  have it : itD (pr p) = M.pure [.int p.1, .int p.2] := rfl
  unfold d_shows_both runD b_shows_both
  have k2 : ∀ (f : List Bool → M D) (a b : Bool), kOfBls f [.lst [.bl a, .bl b]] = f [a, b] := fun _ _ _ => rfl
  simp -implicitDefEqProofs [startD, ip, it, e1, k2]
  by_cases h1 : p.1 ∈ takenI t
  · by_cases h2 : p.2 ∈ takenI t
    · simp -implicitDefEqProofs [h1, h2, need_both_T h ok (mem_taken.mp h1) (mem_taken.mp h2), bothB]
    · have : bothB t p = false := by
        cases e : bothB t p
        · rfl
        · exact absurd (mem_taken.mpr (nd_taken (Bool.and_eq_true_iff.mp e).2)) h2
      simp [h2, this]
  · have : bothB t p = false := by
      cases e : bothB t p
      · rfl
      · exact absurd (mem_taken.mpr (nd_taken (Bool.and_eq_true_iff.mp e).1)) h1
    simp [h1, this]
/-! ## the law's own needs -/
theorem Lneeds_t {t : Tab} (ok : Tok t) {c w : Int} (hc : ent t c = .w w) : d_Lneeds [.int (t.length : Int), .int c, .int w] = M.pure (.lst ((needI t c).map .int)) := by
  have hw := ok.wish c w hc
  have h := ent_lt (t := t) (c := c) (by rw [hc]; simp)
  have hl := ok.len
  unfold tn at *
  rw [lneeds_T ⟨by omega, by omega⟩ ⟨by omega, by omega⟩ ⟨by omega, by omega⟩, need_eq h.1 h.2 hw.2]
  unfold needI; rw [hc]; rfl
theorem Lwanted_T {x : D} {t : Tab} (h : Tb x t) (ok : Tok t) {c : Int} (hc : ent t c ≠ .e) : d_Lwanted [x, .int c] = M.pure (.lst ((needI t c).map .int)) := by
  obtain ⟨h0, h1⟩ := ent_lt hc
  have e1 := atI_tab h0 h1
  have fin : (if ent t c = .u then (M.pure (.lst []) : M D) else d_Lneeds [.int (t.length : Int), .int c, (ent t c).d]) = M.pure (.lst ((needI t c).map .int)) := by
    cases e : ent t c with
    | e => exact absurd e hc
    | u => unfold needI; rw [e]; rfl
    | w v => rw [if_neg (by simp)]; exact Lneeds_t ok e
  rcases h with rfl | rfl <;> (unfold d_Lwanted runD b_Lwanted; simp -implicitDefEqProofs [startD, e1, kEq_ent_u]; exact fin)
theorem Lfull_T {x : D} {t : Tab} (h : Tb x t) (ok : Tok t) : d_Lfull_spots [x] = M.pure (.lst ((takenI t).map .int)) := taken_T h ok.len
theorem Lagrees_T {x : D} {t : Tab} (h : Tb x t) (ok : Tok t) {σ : List Int} (hl : σ.length ≤ 1000) (hs : ∀ c ∈ σ, c ∈ takenI t) : d_Lagrees [x, .tup (σ.map .int)] = M.pure (.bl (agB t σ)) := by
  have e1 : compM (gNs [3, 4]) tYesD (eArgs (kOfBls fun bs => M.pure (.bl (bs.all id))) (lCons (eComp (iSeq (eArgs (callN 2 d_Lwanted) (lCons (eVar 0) (lCons (eVar 4) lNil)))) [2] (gN 2) tYesD (eBin kIn (eVar 2) (eSl kSl (eVar 1) oNone (oSome (eVar 3))))) lNil)) [some (.sh x), some (.sh (.tup (σ.map .int))), none, none, none] (enumD (σ.map .int))
      = M.pure (((rI 0 (σ.length : Int)).map fun k => (needI t (gI σ k)).all fun d => (σ.take k.toNat).contains d).map .bl) := by
    rw [enumD_ints, compM_all (f := fun k => .bl ((needI t (gI σ k)).all fun d => (σ.take k.toNat).contains d)), List.map_map]; rfl
    intro k hk
    have hk := mem_rI.mp hk
    have tc := hs _ (gI_mem hk.1 hk.2)
    have nl := need_len ok (gI σ k)
    refine ⟨_, rfl, rfl, ?_⟩
    have e3 : compM (gN 2) tYesD (eBin kIn (eVar 2) (eSl kSl (eVar 1) oNone (oSome (eVar 3)))) [some (.sh x), some (.sh (.tup (σ.map .int))), none, some (.sh (.int k)), some (.sh (.int (gI σ k)))] ((needI t (gI σ k)).map .int) = M.pure (((needI t (gI σ k)).map fun d => (σ.take k.toNat).contains d).map .bl) := by
      rw [compM_all (f := fun d => .bl ((σ.take k.toNat).contains d)), List.map_map]; rfl
      intro d hd
      refine ⟨_, rfl, rfl, ?_⟩
      have e1 := cutD_take (σ.map .int) k hk.1
      rw [← List.map_take] at e1
      have e2 := kIn_tup_ints d (σ.take k.toNat)
      simp -implicitDefEqProofs [e1, e2, -List.map_take]
    simp -implicitDefEqProofs [Lwanted_T h ok (mem_taken.mp tc), e3, -List.map_map]
    intro h; omega
  have fa : (((rI 0 (σ.length : Int)).map fun k => (needI t (gI σ k)).all fun d => (σ.take k.toNat).contains d).all id) = agB t σ := by
    rw [List.all_map]; rfl
  unfold d_Lagrees runD b_Lagrees
  generalize ((rI 0 (σ.length : Int)).map fun k => (needI t (gI σ k)).all fun d => (σ.take k.toNat).contains d) = F at *
  simp -implicitDefEqProofs [startD, e1, enumD_len, fa]
  omega
end NS
namespace NS
open PySem PySem.Spec PyProof.Rows L2
/-! ## more own steps -/
@[simp] theorem sPar_ap (is : List Nat) (bs : List Bool) (fl : DS → M (List D)) (σ : DS) : sPar is bs fl σ = M.bind (fl σ) fun ds => if ds.length = is.length then M.pure (.nx (setMs is bs ds σ)) else M.bad := rfl
@[simp] theorem setMs_cons (i : Nat) (is : List Nat) (b : Bool) (bs : List Bool) (d : D) (ds : List D) (σ : DS) : setMs (i :: is) (b :: bs) (d :: ds) σ = setMs is bs ds (σ.set i (some (mkV b d))) := rfl
@[simp] theorem setMs_nil (bs : List Bool) (ds : List D) (σ : DS) : setMs [] bs ds σ = σ := by cases bs <;> cases ds <;> rfl
@[simp] theorem mkV_t (d : D) : mkV true d = .ow d := rfl
@[simp] theorem mkV_f (d : D) : mkV false d = .sh d := rfl
theorem ixN_nat {n k : Nat} (h : k < n) : ixN n (k : Int) = some k := by unfold ixN; simp; omega
theorem sSetIx_T {j : Nat} {fe fi : DS → M D} {σ : DS} {g : G} {Q : Fl → G → Prop} (h : T (fe σ) g fun d g1 => ∃ ds, ownL σ[j]? = some ds ∧ T (fi σ) g1 fun i g2 => ∃ k : Nat, i = .int (k : Int) ∧ k < ds.length ∧ Q (.nx (σ.set j (some (.ow (.lst (ds.set k d)))))) g2) : T (sSetIx j fe fi σ) g Q := by
  unfold sSetIx
  rw [T_bind]
  refine h.imp fun d g1 ⟨ds, e, h1⟩ => ?_
  rw [e]
  show T (M.bind (fi σ) _) g1 Q
  rw [T_bind]
  refine h1.imp fun i g2 ⟨k, e, hk, q⟩ => ?_
  subst e
  simp only [ixN_nat hk]
  rw [T_pure]; exact q
/-! ## draws -/
/-- only the law's source differs, and it goes on -/
def Go (k m : Nat) (g g' : G) : Prop := Src k m g' ∧ Oth k g g'
theorem Go.trans {k m n : Nat} {g g1 g2 : G} (h : Go k m g g1) (h' : Go k n g1 g2) : Go k n g g2 := ⟨h'.1, h.2.trans h'.2⟩
theorem Go.refl {k m : Nat} {g : G} (h : Src k m g) : Go k m g g := ⟨h, Oth.refl k g⟩
theorem Go.mono {k m n : Nat} {g g' : G} (h : Go k m g g') (hm : n ≤ m) : Go k n g g' := ⟨h.1.mono hm, h.2⟩
theorem draw_G {k m : Nat} {b : Int} {g : G} (h : Src k (m + 2) g) (hb : 0 < b) (hb2 : b < 2 ^ 30) {Q : D → G → Prop} (q : ∀ (r : Int) g', 0 ≤ r → r < b → Go k m g g' → Q (.int r) g') : T (d_Ldraw 3 [.hdl k, .int b]) g Q :=
  (draw_T h hb hb2).imp fun d g' ⟨r, e, h1, h2, h3, h4⟩ => by subst e; exact q r g' h1 h2 ⟨h3, h4⟩
theorem choice_T {k m : Nat} {g : G} {xs : List D} (h : Src k (m + 2) g) (hx : xs ≠ []) (hl : xs.length < 1000000) {Q : D → G → Prop} (q : ∀ d ∈ xs, ∀ g', Go k m g g' → Q d g') : T (d_Lchoice [.hdl k, .lst xs]) g Q := by
  have hp : 0 < xs.length := by cases xs; exact absurd rfl hx; simp
  refine runD_T ?_
  unfold b_Lchoice
  simp -implicitDefEqProofs [startD]
  refine draw_G h (by omega) (by omega) fun r g' h1 h2 go => ?_
  simp
  obtain ⟨j, rfl⟩ := Int.eq_ofNat_of_zero_le h1
  have hj : j < xs.length := by omega
  exact ⟨xs[j], atI_nat (by simp [hj]), q _ (List.getElem_mem hj) _ go⟩
theorem hopes_T {k m : Nat} {g : G} {w : Int} (h : Src k (m + 40) g) (h1 : 1 ≤ w) (h2 : w ≤ 12) {Q : D → G → Prop} (q : ∀ (hs : List Int) g', hs.length ≤ w → (∀ v ∈ hs, 0 ≤ v ∧ v < w) → Go k m g g' → Q (.lst (hs.map .int)) g') : T (d_Lhopes [.hdl k, .int w]) g Q := by
  refine runD_T ?_
  unfold b_Lhopes
  simp -implicitDefEqProofs [startD]
  refine draw_G (m := m + 38) h (by omega) (by omega) fun r1 g1 a1 b1 o1 => ?_
  refine draw_G (m := m + 36) o1.1 (by omega) (by omega) fun r2 g2 a2 b2 o2 => ?_
  refine draw_G (m := m + 34) o2.1 (by omega) (by omega) fun r3 g3 a3 b3 o3 => ?_
  simp -implicitDefEqProofs
  refine ⟨by omega, by omega, ?_⟩
  refine forM_T (fun i σ g' => (∃ x5 x6, ∃ hs : List Int, σ = [some (.sh (.hdl k)), some (.sh (.int w)), some (.sh (.int r1)), some (.sh (.int r2)), some (.ow (.lst (hs.map .int))), x5, x6] ∧ hs.length = i ∧ ∀ v ∈ hs, 0 ≤ v ∧ v < w) ∧ Go k (m + 34 - 2 * i) g g') (n := 0) ?_ ⟨⟨_, _, [], rfl, rfl, by simp⟩, (o1.trans o2).trans o3⟩ ?_
  · rintro i d σ g' e ⟨⟨x5, x6, hs, rfl, hl, hv⟩, go⟩
    obtain ⟨rfl, hi⟩ := rngD_get e
    have nx : ∀ v : Int, ∀ u ∈ hs ++ [max 0 (min (w - 1) v)], 0 ≤ u ∧ u < w := by
      intro v u hu
      rcases List.mem_append.mp hu with hu | hu
      · exact hv u hu
      · simp at hu; omega
    simp -implicitDefEqProofs
    refine ⟨fun hr => ?_, fun hr => ?_⟩
    · refine draw_G (m := m + 34 - 2 * (i + 1)) (go.1.mono (by omega)) (by omega) (by omega) fun r4 g4 a4 b4 o4 => ?_
      simp -implicitDefEqProofs
      exact ⟨by omega, ⟨_, _, hs ++ [max 0 (min (w - 1) r4)], by simp, rfl, rfl, by simp; omega, nx r4⟩, go.trans o4⟩
    · refine draw_G (m := m + 34 - 2 * (i + 1)) (go.1.mono (by omega)) (by omega) (by omega) fun r4 g4 a4 b4 o4 => ?_
      simp -implicitDefEqProofs
      exact ⟨by omega, ⟨_, _, hs ++ [max 0 (min (w - 1) (r1 + r4 - 1))], by simp, rfl, rfl, by simp; omega, nx _⟩, go.trans o4⟩
  · rintro σ g' ⟨⟨x5, x6, hs, rfl, hl, hv⟩, go⟩
    simp at hl
    simp
    exact q hs g' (by omega) hv (go.mono (by simp; omega))
/-! ## objects put in -/
theorem minPr_spec : ∀ (l : List (Int × Int)) (p : Int × Int), (minPr p l = p ∨ minPr p l ∈ l) ∧ ∀ q, q = p ∨ q ∈ l → ¬ plt q (minPr p l)
  | [], p => ⟨.inl rfl, fun q h => by
      rcases h with rfl | h
      · unfold minPr plt; omega
      · cases h⟩
  | x :: l, p => by
    unfold minPr
    by_cases c : x.1 < p.1 ∨ (x.1 = p.1 ∧ x.2 < p.2)
    · rw [if_pos c]
      obtain ⟨h1, h2⟩ := minPr_spec l x
      refine ⟨?_, fun q hq => ?_⟩
      · rcases h1 with h | h
        · exact .inr (by rw [h]; exact List.mem_cons_self)
        · exact .inr (List.mem_cons_of_mem _ h)
      · rcases hq with rfl | hq
        · have := h2 x (.inl rfl)
          generalize minPr x l = y at *
          unfold plt at *; omega
        · rcases List.mem_cons.mp hq with rfl | hq
          · exact h2 _ (.inl rfl)
          · exact h2 q (.inr hq)
    · rw [if_neg c]
      obtain ⟨h1, h2⟩ := minPr_spec l p
      refine ⟨?_, fun q hq => ?_⟩
      · rcases h1 with h | h
        · exact .inl h
        · exact .inr (List.mem_cons_of_mem _ h)
      · rcases hq with rfl | hq
        · exact h2 _ (.inl rfl)
        · rcases List.mem_cons.mp hq with rfl | hq
          · have := h2 p (.inl rfl)
            generalize minPr p l = y at *
            unfold plt at *; omega
          · exact h2 q (.inr hq)
/-- the nearest of some cells -/
def nearI (w : Int) : List Int → Int
  | [] => 0
  | c :: r => (minPr (((c - w).natAbs : Int), c) (r.map fun c => (((c - w).natAbs : Int), c))).2
theorem nearI_spec {w : Int} {l : List Int} (h : l ≠ []) : nearI w l ∈ l ∧ ∀ a ∈ l, ¬ nearer a (nearI w l) w := by
  cases l with
  | nil => exact absurd rfl h
  | cons c r =>
    obtain ⟨h1, h2⟩ := minPr_spec (r.map fun c => (((c - w).natAbs : Int), c)) (((c - w).natAbs : Int), c)
    have e : ∃ x ∈ c :: r, minPr (((c - w).natAbs : Int), c) (r.map fun c => (((c - w).natAbs : Int), c)) = (((x - w).natAbs : Int), x) := by
      rcases h1 with h | h
      · exact ⟨c, List.mem_cons_self, h⟩
      · obtain ⟨x, hx, e⟩ := List.mem_map.mp h
        exact ⟨x, List.mem_cons_of_mem _ hx, e.symm⟩
    obtain ⟨x, hx, e⟩ := e
    have en : nearI w (c :: r) = x := by
      show (minPr (((c - w).natAbs : Int), c) (r.map fun c => (((c - w).natAbs : Int), c))).2 = x
      rw [e]
    rw [en]
    refine ⟨hx, fun a ha hn => ?_⟩
    have := h2 (((a - w).natAbs : Int), a) (by
      rcases List.mem_cons.mp ha with rfl | ha
      · exact .inl rfl
      · exact .inr (List.mem_map.mpr ⟨a, ha, rfl⟩))
    rw [e] at this
    unfold plt nearer at *
    simp only at this
    omega
theorem kMinP_lst (ds : List D) (ps : List (Int × Int)) (p : Int × Int) (r : List (Int × Int)) (h : D.prs ds = some ps) (hp : ps = p :: r) (hl : ds.length < 1000000) : kMinP [.lst ds] = M.pure (.tup [.int (minPr p r).1, .int (minPr p r).2]) := by
  subst hp
  unfold kMinP
  simp only [h]
  rw [if_pos (by simpa using hl)]
theorem kMinP_near (w : Int) {l : List Int} (h : l ≠ []) (hl : l.length < 1000000) : ∃ a : Int, kMinP [.lst (l.map fun c => .tup [.int ((c - w).natAbs : Int), .int c])] = M.pure (.tup [.int a, .int (nearI w l)]) := by
  cases l with
  | nil => exact absurd rfl h
  | cons c r =>
    have e : ∀ l : List Int, D.prs (l.map fun c => .tup [.int ((c - w).natAbs : Int), .int c]) = some (l.map fun c => (((c - w).natAbs : Int), c)) := by
      intro l
      induction l with
      | nil => rfl
      | cons c r ih => simp only [List.map_cons, D.prs, ih]; rfl
    exact ⟨_, kMinP_lst _ _ _ _ (e (c :: r)) rfl (by rw [List.length_map]; exact hl)⟩
def freeI (t : Tab) : List Int := (rI 0 (tn t)).filter fun c => ent t c == .e
theorem mem_free {t : Tab} {c : Int} : c ∈ freeI t ↔ 0 ≤ c ∧ c < tn t ∧ ent t c = .e := by
  unfold freeI; rw [List.mem_filter, mem_rI, beq_iff_eq, and_assoc]
def putT (t : Tab) (c : Int) (x : Ent) : Tab := t.set c.toNat x
@[simp] theorem putT_len (t : Tab) (c : Int) (x : Ent) : (putT t c x).length = t.length := by simp [putT]
theorem ent_put {t : Tab} {c : Int} {x : Ent} (h0 : 0 ≤ c) (h1 : c < tn t) (d : Int) : ent (putT t c x) d = if d = c then x else ent t d := by
  unfold tn at h1
  unfold ent putT
  by_cases hd : d < 0
  · rw [if_pos hd, if_pos hd, if_neg (by omega)]
  · rw [if_neg hd, if_neg hd]
    by_cases e : d = c
    · subst e; rw [if_pos rfl, List.getElem?_set_self (by omega)]; rfl
    · rw [if_neg e, List.getElem?_set_ne (by omega)]
theorem tn_put (t : Tab) (c : Int) (x : Ent) : tn (putT t c x) = tn t := by unfold tn; simp
/-- the state on the way: the order is all taken cells, each put in where its needs end -/
structure Fil (t : Tab) (σ : List Int) : Prop where
  ok : Tok t
  good : Good t σ
  all : σ.length = (takenI t).length
theorem Fil.mem {t : Tab} {σ : List Int} (f : Fil t σ) {c : Int} : c ∈ σ ↔ ent t c ≠ .e := by
  have p := perm_of f.good.nodup (taken_nodup t) f.good.sub (by have := f.all; omega)
  rw [p.mem_iff, mem_taken]
theorem taken_put {t : Tab} {c : Int} {x : Ent} (h0 : 0 ≤ c) (h1 : c < tn t) (hx : x ≠ .e) (he : ent t c = .e) : (takenI (putT t c x)).Perm (c :: takenI t) := by
  refine perm_of (taken_nodup _) ?_ (fun d hd => ?_) ?_
  · refine List.nodup_cons.mpr ⟨fun h => ?_, taken_nodup t⟩
    exact mem_taken.mp h he
  · have := mem_taken.mp hd
    rw [ent_put h0 h1] at this
    by_cases e : d = c
    · subst e; exact List.mem_cons_self
    · rw [if_neg e] at this; exact List.mem_cons_of_mem _ (mem_taken.mpr this)
  · refine sub_len (List.nodup_cons.mpr ⟨fun h => mem_taken.mp h he, taken_nodup t⟩) fun d hd => ?_
    rw [mem_taken, ent_put h0 h1]
    rcases List.mem_cons.mp hd with rfl | hd
    · rw [if_pos rfl]; exact hx
    · by_cases e : d = c
      · rw [if_pos e]; exact hx
      · rw [if_neg e]; exact mem_taken.mp hd
theorem nd_put {t : Tab} {c : Int} {x : Ent} (h0 : 0 ≤ c) (h1 : c < tn t) {a d : Int} (ne : a ≠ c) : nd (putT t c x) a d = nd t a d := by
  unfold nd
  rw [ent_put h0 h1, if_neg ne, tn_put]
theorem Fil.put {t : Tab} {σ : List Int} (f : Fil t σ) {w : Int} (h0 : 0 ≤ w) (h1 : w < tn t) (hf : freeI t ≠ []) : Fil (putT t (nearI w (freeI t)) (.w w)) (σ ++ [nearI w (freeI t)]) := by
  obtain ⟨hm, hn⟩ := nearI_spec (w := w) hf
  generalize nearI w (freeI t) = s at *
  obtain ⟨s0, s1, se⟩ := mem_free.mp hm
  have tp := taken_put (x := .w w) s0 s1 (by simp) se
  have ok' : Tok (putT t s (.w w)) := ⟨by simpa using f.ok.len, fun c v e => by
    rw [ent_put s0 s1] at e
    rw [tn_put]
    by_cases h : c = s
    · rw [if_pos h] at e; cases e; exact ⟨h0, h1⟩
    · rw [if_neg h] at e; exact f.ok.wish c v e⟩
  have ns : s ∉ σ := fun h => f.mem.mp h se
  have g1 : Good (putT t s (.w w)) σ := ⟨f.good.nodup, fun c hc => tp.mem_iff.mpr (List.mem_cons_of_mem _ (f.good.sub c hc)), fun k c e d n => by
    have hc : c ≠ s := by rintro rfl; exact ns (List.mem_of_getElem? e)
    rw [nd_put s0 s1 hc] at n
    exact f.good.ag k c e d n⟩
  refine ⟨ok', g1.snoc (mem_ready.mpr ⟨tp.mem_iff.mpr List.mem_cons_self, ns, fun d n => ?_⟩), ?_⟩
  · have hd := nd_lt ok' n
    rw [tn_put] at hd
    apply Classical.byContradiction
    intro hh
    have ed : ent t d = .e := Classical.byContradiction fun h => hh (f.mem.mpr h)
    refine hn d (mem_free.mpr ⟨hd.1, hd.2, ed⟩) ?_
    unfold nd at n
    rw [ent_put s0 s1, if_pos rfl, tn_put] at n
    exact (nearer_iff hd.1 hd.2).mpr (of_decide_eq_true n)
  · rw [tp.length_eq]; simp [f.all]
theorem free_ne {t : Tab} (h : (takenI t).length < t.length) : freeI t ≠ [] := by
  intro e
  have : takenI t = rI 0 (tn t) := List.filter_eq_self.mpr fun c hc => by
    have hc := mem_rI.mp hc
    cases h2 : (ent t c != Ent.e) with
    | true => rfl
    | false =>
      have : c ∈ freeI t := mem_free.mpr ⟨hc.1, hc.2, by simpa using h2⟩
      rw [e] at this; cases this
  rw [this, rI_len] at h
  unfold tn at h; omega
theorem Fil.pos {t : Tab} {σ : List Int} (f : Fil t σ) : Pos t := by
  have idx : ∀ c, ent t c ≠ .e → ∃ k, σ[k]? = some c := fun c hc => List.getElem?_of_mem (f.mem.mpr hc)
  refine ⟨fun c d n => ?_, fun c hc d hd ⟨n1, n2⟩ => ?_⟩
  · obtain ⟨k, hk⟩ := idx c (nd_taken n)
    exact f.mem.mp (List.mem_of_mem_take (f.good.ag k c hk d n))
  · obtain ⟨i, hi⟩ := idx c (nd_taken n1)
    obtain ⟨j, hj⟩ := idx d (nd_taken n2)
    have a1 := f.good.ag i c hi d n1
    have a2 := f.good.ag j d hj c n2
    obtain ⟨x, hx, ex⟩ := List.mem_take_iff_getElem.mp a1
    obtain ⟨y, hy, ey⟩ := List.mem_take_iff_getElem.mp a2
    obtain ⟨li, ei⟩ := List.getElem?_eq_some_iff.mp hi
    obtain ⟨lj, ej⟩ := List.getElem?_eq_some_iff.mp hj
    have h1 : x = j := (List.getElem_inj f.good.nodup).mp (ex.trans ej.symm)
    have h2 : y = i := (List.getElem_inj f.good.nodup).mp (ey.trans ei.symm)
    omega
end NS
namespace NS
open PySem PySem.Spec PyProof.Rows L2
theorem Fil.empty {w : Int} (h0 : 0 ≤ w) (h1 : w ≤ 12) : Fil (List.replicate w.toNat .e) [] := by
  have e : ∀ c, ent (List.replicate w.toNat Ent.e) c = .e := by
    intro c; unfold ent; split
    · rfl
    · rw [List.getElem?_replicate]; split <;> rfl
  refine ⟨⟨by simp; omega, fun c v h => by rw [e] at h; cases h⟩, Good.nil _, ?_⟩
  have : takenI (List.replicate w.toNat Ent.e) = [] := List.filter_eq_nil_iff.mpr fun c _ => by rw [e]; simp
  rw [this]
/-- the objects put in one after the other -/
def filI : Tab × List Int → List Int → Tab × List Int
  | p, [] => p
  | (t, σ), h :: hs => filI (putT t (nearI h (freeI t)) (.w h), σ ++ [nearI h (freeI t)]) hs
theorem filI_snoc : ∀ (hs : List Int) (p : Tab × List Int) (h : Int), filI p (hs ++ [h]) = (putT (filI p hs).1 (nearI h (freeI (filI p hs).1)) (.w h), (filI p hs).2 ++ [nearI h (freeI (filI p hs).1)])
  | [], (t, σ), h => rfl
  | x :: hs, (t, σ), h => filI_snoc hs _ h
def emp (w : Int) : Tab × List Int := (List.replicate w.toNat .e, [])
theorem filI_fil {w : Int} (h0 : 0 ≤ w) (h1 : w ≤ 12) : ∀ {hs : List Int}, (hs.length : Int) ≤ w → (∀ v ∈ hs, 0 ≤ v ∧ v < w) → Fil (filI (emp w) hs).1 (filI (emp w) hs).2 ∧ tn (filI (emp w) hs).1 = w ∧ (filI (emp w) hs).2.length = hs.length := by
  intro hs
  generalize hn : hs.length = n
  induction n generalizing hs with
  | zero =>
    intro _ _
    have : hs = [] := List.length_eq_zero_iff.mp hn
    subst this
    exact ⟨Fil.empty h0 h1, by unfold filI emp tn; simp [Int.max_eq_left h0], rfl⟩
  | succ n ih =>
    intro hl hv
    obtain ⟨r, h, rfl⟩ : ∃ r h, hs = r ++ [h] := ⟨hs.dropLast, hs.getLast (by intro e; subst e; simp at hn), (List.dropLast_concat_getLast _).symm⟩
    have hr : r.length = n := by simpa using hn
    obtain ⟨f, e1, e2⟩ := ih hr (by omega) fun v hv' => hv v (List.mem_append_left _ hv')
    have hh := hv h (by simp)
    rw [filI_snoc]
    have fr := free_ne (t := (filI (emp w) r).1) (by have := f.all; unfold tn at e1; omega)
    exact ⟨f.put hh.1 (by rw [e1]; exact hh.2) fr, by rw [tn_put]; exact e1, by simp [e2]⟩
theorem free_comp {t : Tab} {w h : Int} (hw : w = tn t) (x0 x1 x3 x4 x5 x6 : Option DV) (h4 : x4 = some (.sh (.int h))) : compM (gN 6) (eTst (eBin kIs (eBin kIx (eVar 2) (eVar 6)) (eC .non))) (eArgs mkT (lCons (eArgs kAbs (lCons (eBin kSub (eVar 6) (eVar 4)) lNil)) (lCons (eVar 6) lNil))) [x0, x1, some (.sh (.lst (t.map Ent.d))), x3, x4, x5, x6] (rngD 0 w) = M.pure ((freeI t).map fun c => .tup [.int ((c - h).natAbs : Int), .int c]) := by
  subst h4 hw
  rw [rngD_rI]
  refine compM_pure (p := fun c => ent t c == .e) fun c hc => ⟨_, rfl, ?_, fun _ => ?_⟩
  · have hc := mem_rI.mp hc
    simp [atI_tab hc.1 hc.2]
  · simp
theorem map_put {t : Tab} {c : Int} {x : Ent} : (t.map Ent.d).set c.toNat x.d = (putT t c x).map Ent.d := by unfold putT; rw [List.map_set]
theorem Lfill_T {w : Int} {hs : List Int} (h0 : 1 ≤ w) (h1 : w ≤ 12) (hl : (hs.length : Int) ≤ w) (hv : ∀ v ∈ hs, 0 ≤ v ∧ v < w) : Is (d_Lfill [.int w, .lst (hs.map .int)]) (.tup [.tup ((filI (emp w) hs).1.map Ent.d), .tup ((filI (emp w) hs).2.map .int)]) := by
  refine Is.of_T fun g hg => runD_T ?_
  unfold b_Lfill
  have e0 : (List.replicate w.toNat [D.non]).flatten = (emp w).1.map Ent.d := by
    unfold emp; simp only [List.map_replicate]
    induction w.toNat with
    | zero => rfl
    | succ n ih => rw [List.replicate_succ, List.flatten_cons, ih]; rfl
  simp -implicitDefEqProofs [startD, e0]
  refine ⟨by omega, by omega, ?_⟩
  refine forM_T (fun i σ g' => (∃ x4 x5 x6, σ = [some (.sh (.int w)), some (.sh (.lst (hs.map .int))), some (.ow (.lst ((filI (emp w) (hs.take i)).1.map Ent.d))), some (.ow (.lst ((filI (emp w) (hs.take i)).2.map .int))), x4, x5, x6]) ∧ g' = g) (n := 0) ?_ ⟨⟨_, _, _, rfl⟩, rfl⟩ ?_
  · rintro i d σ g' e ⟨⟨x4, x5, x6, rfl⟩, rfl⟩
    rw [List.getElem?_map] at e
    obtain ⟨h, eh, rfl⟩ := Option.map_eq_some_iff.mp e
    have hi : i < hs.length := (List.getElem?_eq_some_iff.mp eh).1
    have ht : hs.take (0 + i + 1) = hs.take i ++ [h] := by rw [Nat.zero_add, List.take_add_one, eh]; rfl
    obtain ⟨f, e1, e2⟩ := filI_fil (w := w) (by omega) h1 (hs := hs.take i) (by simp; omega) fun v hv' => hv v (List.mem_of_mem_take hv')
    rw [ht, filI_snoc, Nat.zero_add]
    generalize filI (emp w) (hs.take i) = p at *
    obtain ⟨t, s⟩ := p
    simp only at f e1 e2 ⊢
    have fr := free_ne (t := t) (by have := f.all; have : (hs.take i).length ≤ i := List.length_take_le _ _; unfold tn at e1; omega)
    have fc := free_comp (t := t) (w := w) (h := h) e1.symm
    have fl : (freeI t).length < 1000000 := by
      have : (freeI t).length ≤ t.length := by unfold freeI; refine Nat.le_trans (List.length_filter_le _ _) ?_; simp [tn]
      have := f.ok.len; omega
    obtain ⟨a, ka⟩ := kMinP_near h fr fl
    obtain ⟨hm, _⟩ := nearI_spec (w := h) fr
    obtain ⟨m0, m1, _⟩ := mem_free.mp hm
    simp -implicitDefEqProofs [fc, ka]
    refine ⟨by omega, by omega, by omega, _, atI_nat (j := 1) rfl, rfl, hg, ?_⟩
    refine sSetIx_T ?_
    simp -implicitDefEqProofs
    refine ⟨(nearI h (freeI t)).toNat, by omega, by unfold tn at m1; omega, ?_⟩
    rw [show D.int h = (Ent.w h).d from rfl, map_put]
    refine ⟨by have := f.ok.len; have := f.all; have := taken_len t; omega, ?_⟩
    simp
  · rintro σ g' ⟨⟨x4, x5, x6, rfl⟩, rfl⟩
    rw [List.length_map, Nat.zero_add, List.take_of_length_le (Nat.le_refl _)]
    simp -implicitDefEqProofs
/-! ## wishes made unknown -/
def Veil (t t' : Tab) : Prop := tn t' = tn t ∧ ∀ c, ent t' c = ent t c ∨ (ent t c ≠ .e ∧ ent t' c = .u)
theorem Veil.e {t t' : Tab} (h : Veil t t') (c : Int) : ent t' c = .e ↔ ent t c = .e := by
  rcases h.2 c with e | ⟨e1, e2⟩
  · rw [e]
  · rw [e2]; simp [e1]
theorem Veil.taken {t t' : Tab} (h : Veil t t') : takenI t' = takenI t := by
  unfold takenI; rw [h.1]
  refine List.filter_congr fun c _ => bool_iff ?_
  rw [bne_iff_ne, bne_iff_ne]; exact not_congr (h.e c)
theorem Veil.nd {t t' : Tab} (h : Veil t t') {c d : Int} (n : nd t' c d = true) : NS.nd t c d = true := by
  unfold NS.nd at *
  rcases h.2 c with e | ⟨e1, e2⟩
  · rw [e, h.1] at n; exact n
  · rw [e2] at n; cases n
theorem Veil.tok {t t' : Tab} (h : Veil t t') (ok : Tok t) : Tok t' := by
  refine ⟨by have := h.1; unfold tn at this; have := ok.len; omega, fun c v e => ?_⟩
  rw [h.1]
  rcases h.2 c with e1 | ⟨e1, e2⟩
  · rw [e1] at e; exact ok.wish c v e
  · rw [e2] at e; cases e
theorem Veil.fil {t t' : Tab} {σ : List Int} (h : Veil t t') (f : Fil t σ) : Fil t' σ :=
  ⟨h.tok f.ok, ⟨f.good.nodup, fun c hc => by rw [h.taken]; exact f.good.sub c hc, fun k c e d n => f.good.ag k c e d (h.nd n)⟩, by rw [h.taken]; exact f.all⟩
theorem Lveiled_T {k m : Nat} {g : G} {t : Tab} (hs : Src k (m + 40) g) (ok : Tok t) {Q : D → G → Prop} (q : ∀ t' g', Veil t t' → Go k m g g' → Q (.tup (t'.map Ent.d)) g') : T (d_Lveiled [.hdl k, .tup (t.map Ent.d)]) g Q := by
  have hl := ok.len
  refine runD_T ?_
  unfold b_Lveiled
  simp -implicitDefEqProofs [startD]
  refine choice_T (m := m + 38) hs (by simp) (by simp) fun d hd g1 o1 => ?_
  obtain ⟨odds, rfl⟩ : ∃ i : Int, d = .int i := by
    simp at hd; rcases hd with rfl | rfl | rfl | rfl <;> exact ⟨_, rfl⟩
  refine ⟨by omega, ?_⟩
  refine compM_T (fun i rs g' => (∃ s : Tab, rs = s.map Ent.d ∧ s.length = i ∧ ∀ (j : Nat) (x y : Ent), t[j]? = some x → s[j]? = some y → y = x ∨ (x ≠ Ent.e ∧ y = Ent.u)) ∧ Go k (m + 38 - 2 * i) g g') (n := 0) (rs := []) ?_ ⟨⟨[], rfl, rfl, by simp⟩, o1⟩ ?_
  · rintro i d g' rs e ⟨⟨s, rfl, hsl, hv⟩, go⟩
    rw [List.getElem?_map] at e
    obtain ⟨x, ex, rfl⟩ := Option.map_eq_some_iff.mp e
    have hi := (List.getElem?_eq_some_iff.mp ex).1
    have step : ∀ (y : Ent) (g2 : G), (y = x ∨ (x ≠ Ent.e ∧ y = Ent.u)) → Go k (m + 38 - 2 * (0 + i + 1)) g g2 → (∃ s' : Tab, s.map Ent.d ++ [y.d] = s'.map Ent.d ∧ s'.length = 0 + i + 1 ∧ ∀ (j : Nat) (x y : Ent), t[j]? = some x → s'[j]? = some y → y = x ∨ (x ≠ Ent.e ∧ y = Ent.u)) ∧ Go k (m + 38 - 2 * (0 + i + 1)) g g2 := by
      intro y g2 hy go2
      refine ⟨⟨s ++ [y], by simp, by simp [hsl], fun j a b ha hb => ?_⟩, go2⟩
      by_cases hj : j < s.length
      · rw [List.getElem?_append_left hj] at hb; exact hv j a b ha hb
      · have : j = s.length := by have := (List.getElem?_eq_some_iff.mp hb).1; simp at this; omega
        subst this
        rw [List.getElem?_append_right (by omega)] at hb
        simp at hb
        subst hb
        rw [show s.length = i by omega, ex] at ha
        cases ha; exact hy
    simp -implicitDefEqProofs
    refine ⟨fun hx => ?_, fun hx => ?_⟩
    · refine draw_G (m := m + 38 - 2 * (0 + i + 1)) (go.1.mono (by omega)) (by omega) (by omega) fun r g2 a2 b2 o2 => ?_
      simp -implicitDefEqProofs
      have go2 := go.trans o2
      refine ⟨fun _ => ?_, fun _ => ?_⟩
      · have := step .u g2 (.inr ⟨hx, rfl⟩) go2
        rw [Nat.zero_add] at this; exact this
      · have := step x g2 (.inl rfl) go2
        rw [Nat.zero_add] at this; exact this
    · have := step x g' (.inl rfl) (go.mono (by omega))
      rw [Nat.zero_add] at this; exact this
  · rintro rs g' ⟨⟨s, e, hsl, hv⟩, go⟩
    simp at e hsl go
    subst e
    refine q s g' ⟨by unfold tn; rw [hsl], fun c => ?_⟩ (go.mono (by omega))
    by_cases hc : 0 ≤ c ∧ c < tn t
    · have h1 := ent_get hc.1 hc.2
      have h2 := ent_get (t := s) hc.1 (by unfold tn at *; omega)
      exact hv _ _ _ h1 h2
    · left
      unfold ent
      split
      · rfl
      · unfold tn at hc
        rw [List.getElem?_eq_none (by omega), List.getElem?_eq_none (by omega)]
/-- a table of random wishes and its order -/
theorem Lcase_T {k m : Nat} {g : G} {n : Int} (hs : Src k (m + 100) g) (h1 : 1 ≤ n) (h2 : n ≤ 12) {Q : D → G → Prop} (q : ∀ t σ g', Fil t σ → 1 ≤ tn t → tn t ≤ n → Go k m g g' → Q (.tup [.tup (t.map Ent.d), .tup (σ.map .int)]) g') : T (d_Lcase [.hdl k, .int n]) g Q := by
  refine runD_T ?_
  unfold b_Lcase
  simp -implicitDefEqProofs [startD]
  refine draw_G (m := m + 98) hs (by omega) (by omega) fun r g1 a1 b1 o1 => ?_
  simp -implicitDefEqProofs
  refine hopes_T (m := m + 58) (w := 1 + r) o1.1 (by omega) (by omega) fun hs g2 hl hv o2 => ?_
  have ft := Lfill_T (w := 1 + r) (hs := hs) (by omega) (by omega) hl hv
  obtain ⟨f, e1, e2⟩ := filI_fil (w := 1 + r) (by omega) (by omega) hl hv
  rw [ft.T o2.1.pur]
  simp -implicitDefEqProofs
  refine Lveiled_T (m := m) (o2.1.mono (by omega)) f.ok fun t' g3 hv o3 => ?_
  have := q t' _ g3 (hv.fil f) (by rw [hv.1, e1]; omega) (by rw [hv.1, e1]; omega) ((o1.trans o2).trans o3)
  exact this
/-! ## entries replaced -/
theorem Lspoiled_T {k m : Nat} {g : G} {t : Tab} (hs : Src k (m + 40) g) (ok : Tok t) (h1 : 1 ≤ tn t) {Q : D → G → Prop} (q : ∀ t' g', Tok t' → tn t' = tn t → Go k m g g' → Q (.tup (t'.map Ent.d)) g') : T (d_Lspoiled [.hdl k, .tup (t.map Ent.d)]) g Q := by
  have hl := ok.len
  have h1' : 1 ≤ t.length := by unfold tn at h1; omega
  refine runD_T ?_
  unfold b_Lspoiled
  simp -implicitDefEqProofs [startD]
  refine draw_G (m := m + 38) hs (by omega) (by omega) fun r g1 a1 b1 o1 => ?_
  simp -implicitDefEqProofs
  refine ⟨by omega, by omega, ?_⟩
  refine forM_T (fun i σ g' => (∃ x3, ∃ s : Tab, σ = [some (.sh (.hdl k)), some (.sh (.tup (t.map Ent.d))), some (.ow (.lst (s.map Ent.d))), x3] ∧ Tok s ∧ tn s = tn t) ∧ Go k (m + 38 - 4 * i) g g') (n := 0) ?_ ⟨⟨_, t, rfl, ok, rfl⟩, o1⟩ ?_
  · rintro i d σ g' e ⟨⟨x3, s, rfl, oks, hsl⟩, go⟩
    obtain ⟨rfl, hi⟩ := rngD_get e
    have hsl' : s.length = t.length := by unfold tn at hsl; omega
    simp -implicitDefEqProofs
    refine sSetIx_T ?_
    simp -implicitDefEqProofs
    refine ⟨by omega, by omega, by omega, by omega, ?_⟩
    refine choice_T (m := m + 38 - 4 * i - 2) (go.1.mono (by omega)) (by simp) (by simp; omega) fun d hd g2 o2 => ?_
    have ed : ∃ x : Ent, d = x.d ∧ ∀ v, x = .w v → 0 ≤ v ∧ v < tn t := by
      have r : d ∈ rngD 0 (t.length : Int) → ∃ x : Ent, d = x.d ∧ ∀ v, x = .w v → 0 ≤ v ∧ v < tn t := fun hd => by
        obtain ⟨j, hj⟩ := List.getElem?_of_mem hd
        obtain ⟨rfl, h2⟩ := rngD_get hj
        exact ⟨.w (0 + j), rfl, fun v e => by cases e; unfold tn; omega⟩
      rcases List.mem_append.mp hd with hd | hd
      · exact r hd
      rcases List.mem_append.mp hd with hd | hd
      · exact r hd
      · simp at hd
        rcases hd with rfl | rfl
        · exact ⟨.e, rfl, fun v e => by cases e⟩
        · exact ⟨.u, rfl, fun v e => by cases e⟩
    obtain ⟨x, rfl, hx⟩ := ed
    refine draw_G (m := m + 38 - 4 * (i + 1)) (o2.1.mono (by omega)) (by omega) (by omega) fun r4 g4 a4 b4 o4 => ?_
    refine ⟨r4.toNat, by rw [Int.toNat_of_nonneg a4], by omega, ⟨_, putT s r4 x, by rw [map_put], rfl, ⟨by simpa using oks.len, fun c v e => ?_⟩, by rw [tn_put]; exact hsl⟩, by simpa using (go.trans o2).trans o4⟩
    rw [tn_put, hsl]
    rw [ent_put a4 (by unfold tn; omega)] at e
    by_cases h : c = r4
    · rw [if_pos h] at e; exact hx v e
    · rw [if_neg h] at e; rw [← hsl]; exact oks.wish c v e
  · rintro σ g' ⟨⟨x3, s, rfl, oks, hsl⟩, go⟩
    simp -implicitDefEqProofs
    exact q s g' oks hsl (go.mono (by simp; omega))
theorem Lany_T {k m : Nat} {g : G} {n : Int} (hs : Src k (m + 150) g) (h1 : 1 ≤ n) (h2 : n ≤ 12) {Q : D → G → Prop} (q : ∀ t g', Tok t → 1 ≤ tn t → tn t ≤ n → Go k m g g' → Q (.tup (t.map Ent.d)) g') : T (d_Lany [.hdl k, .int n]) g Q := by
  refine runD_T ?_
  unfold b_Lany
  simp -implicitDefEqProofs [startD]
  refine Lcase_T (m := m + 50) hs h1 h2 fun t σ g1 f e1 e2 o1 => ?_
  simp -implicitDefEqProofs
  refine draw_G (m := m + 48) o1.1 (by omega) (by omega) fun r g2 a1 b1 o2 => ?_
  simp -implicitDefEqProofs
  refine ⟨fun _ => ?_, fun _ => q t g2 f.ok e1 e2 ((o1.trans o2).mono (by omega))⟩
  exact Lspoiled_T (m := m) (o2.1.mono (by omega)) f.ok e1 fun t' g3 ok' e3 o3 => q t' g3 ok' (by omega) (by omega) ((o1.trans o2).trans o3)
end NS
namespace NS
open PySem PySem.Spec PyProof.Rows L2
/-! ## laws whose turns share a source -/
def bLawB (N n : Int) (H : List D → M D) : DS → M Fl :=
  (sSeq (sFor (iArgs rng1 (lCons (eArgs kMax2 (lCons (eC (.int 1)) (lCons (eArgs kMin2 (lCons (eC (.int N)) (lCons (eArgs kLen (lCons (eVar 0) lNil)) lNil))) lNil))) lNil)) (gN 1)
    (sSeq (sSet false 2 (eArgs (callN 2 d_Lsource) (lCons (eVar 0) (lCons (eVar 1) lNil))))
    (sIf (eNot (eTst (eArgs (kOfBls fun bs => M.pure (.bl (bs.all id))) (lCons (eComp (iArgs rng1 (lCons (eC (.int n)) lNil)) [3] (gN 3) tYesD (eArgs (callN 1 H) (lCons (eVar 2) lNil))) lNil))))
    (sRet (eC (.bl false)))
    sNil)))
    (sRet (eC (.bl true))))
theorem law_B {N n : Int} {H : List D → M D} (hH : ∀ k m g, Src k (m + 100000000) g → T (H [.hdl k]) g fun d g' => d = .bl true ∧ Src k m g') (ns : List Int) (hl : ns.length ≤ 63) (hN : 1 ≤ N ∧ N ≤ 3 := by decide) (hn : 1 ≤ n ∧ n ≤ 9 := by decide) : ∃ g', runD 4 false (bLawB N n H) [.slst (ns.map .int)] [] = .ok (.bl true) g' := by
  have t : T (runD 4 false (bLawB N n H) [.slst (ns.map .int)]) [] fun d _ => d = .bl true := by
    refine runD_T ?_
    unfold bLawB
    generalize hm : max 1 (min N (ns.length : Int)) = m
    have hm1 : 1 ≤ m ∧ m ≤ 3 := by omega
    simp -implicitDefEqProofs [startD]
    rw [hm]
    refine ⟨by omega, by omega, ?_⟩
    refine forM_T (fun i σ g => (∃ x1 x2 x3, σ = [some (.sh (.slst (ns.map .int))), x1, x2, x3]) ∧ Gpur g = true) (n := 0) ?_ ⟨⟨_, _, _, rfl⟩, rfl⟩ ?_
    · rintro i d σ g e ⟨⟨x1, x2, x3, rfl⟩, hg⟩
      obtain ⟨rfl, h1⟩ := rngD_get e
      simp -implicitDefEqProofs
      refine (source_T ns (i : Int) g (by omega) (by omega) hl).imp fun d g' ⟨a, b, e1, e2, h1, h2, h3⟩ => ?_
      subst e1 e2
      refine ⟨by omega, by omega, by omega, ?_⟩
      refine compM_T (fun j rs g1 => rs = List.replicate j (.bl true) ∧ Src g.length (1000000000 - 100000000 * j) g1) (n := 0) (rs := []) ?_ ⟨rfl, src_new g hg a b h1 h2 h3⟩ ?_
      · rintro j d g1 rs e ⟨rfl, hs⟩
        obtain ⟨rfl, h4⟩ := rngD_get e
        simp -implicitDefEqProofs
        refine (hH _ (1000000000 - 100000000 * (j + 1)) _ (hs.mono (by omega))).imp fun d g2 ⟨e, hs2⟩ => ?_
        subst e
        exact ⟨by rw [List.replicate_succ'], hs2⟩
      · rintro rs g2 ⟨e, hs⟩
        simp at e
        subst e
        simp [kOfBls, bls_rep', hs.pur]
    · rintro σ g ⟨⟨x1, x2, x3, rfl⟩, hg⟩
      simp
  obtain ⟨d, g', e, h⟩ := t
  subst h
  exact ⟨g', e⟩
theorem law_A' {N : Int} {H : List D → M D} (hH : ∀ k m g, Src k (m + 100000000) g → T (H [.hdl k]) g fun d g' => d = .bl true ∧ Src k m g') (ns : List Int) (hl : ns.length ≤ 63) (hN : 1 ≤ N ∧ N ≤ 3 := by decide) : ∃ g', runD 2 false (bLawA N H) [.slst (ns.map .int)] [] = .ok (.bl true) g' :=
  law_A (fun k g hs => (hH k 0 g (hs.mono (by omega))).imp fun d g' ⟨e, h⟩ => ⟨e, h.pur⟩) ns hl hN
/-! ## shuffled -/
theorem sAppPop_T {i j : Nat} {fe : DS → M D} {σ : DS} {g : G} {Q : Fl → G → Prop} {xs ys : List D} (hx : ownL σ[i]? = some xs) (hy : ownL σ[j]? = some ys) (lx : xs.length < 1000000) (ly : ys.length < 1000000)
    (h : T (fe σ) g fun d g1 => ∃ n : Nat, ∃ x, d = .int (n : Int) ∧ ys[n]? = some x ∧ Q (.nx ((σ.set j (some (.ow (.lst (ys.eraseIdx n))))).set i (some (.ow (.lst (xs ++ [x])))))) g1) : T (sAppPop i j fe σ) g Q := by
  unfold sAppPop
  rw [hx, hy]
  show T (M.bind (fe σ) _) g Q
  rw [T_bind]
  refine h.imp fun d g1 ⟨n, x, e, ex, q⟩ => ?_
  subst e
  have hn := (List.getElem?_eq_some_iff.mp ex).1
  have ep : popAt ys (.int (n : Int)) = some (x, ys.eraseIdx n) := by
    show (if 0 ≤ (n : Int) ∧ (n : Int) < ys.length ∧ ys.length < 1000000 then _ else _) = _
    rw [if_pos ⟨by omega, by omega, ly⟩]
    simp [ex]
  rw [ep]
  show T (if fit xs.length = true then _ else _) g1 Q
  rw [if_pos (by simpa using lx), T_pure]; exact q
theorem erase_map {α β : Type} (f : α → β) : ∀ (l : List α) (n : Nat), (l.map f).eraseIdx n = (l.eraseIdx n).map f
  | [], _ => rfl
  | a :: l, 0 => rfl
  | a :: l, n + 1 => by simp [erase_map f l n]
theorem erase_perm {α : Type} : ∀ (l : List α) (n : Nat) (h : n < l.length), (l[n] :: l.eraseIdx n).Perm l
  | a :: l, 0, _ => .refl _
  | a :: l, n + 1, h => (List.Perm.swap a _ _).trans (List.Perm.cons a (erase_perm l n (by simpa using h)))
theorem nil_cases {R : List Int} (h : R.length < 1000000) : kNe (.lst (R.map .int)) (.lst []) = M.pure (.bl (!decide (R = []))) := kNe_lst_ints (ys := []) h (by decide)
theorem Lshuffled_T {k m : Nat} {g : G} {y : D} {R : List Int} (hs : Src k (m + 40) g) (hy : Sq y R) (hl : R.length ≤ 12) {Q : D → G → Prop} (q : ∀ σ : List Int, ∀ g', σ.Perm R → Go k m g g' → Q (.lst (σ.map .int)) g') : T (d_Lshuffled [.hdl k, y]) g Q := by
  refine runD_T ?_
  unfold b_Lshuffled
  have kl : kList [y] = M.pure (.lst (R.map .int)) := by rcases hy with rfl | rfl <;> rfl
  simp -implicitDefEqProofs [startD, kl]
  refine whileM_T (fun i σ g' => (∃ A B : List Int, σ = [some (.sh (.hdl k)), some (.sh y), some (.ow (.lst (A.map .int))), some (.ow (.lst (B.map .int)))] ∧ A.length = i ∧ (B ++ A).Perm R) ∧ Go k (m + 2 * i) g g') ?_ (k := R.length) ⟨⟨R, [], rfl, rfl, by simp⟩, (Go.refl hs).mono (by omega)⟩ (by omega)
  rintro i σ g' ⟨⟨A, B, rfl, hA, hp⟩, go⟩
  have hAl : A.length ≤ 12 := by have := hp.length_eq; simp at this; omega
  simp -implicitDefEqProofs [nil_cases (show A.length < 1000000 by omega), go.1.pur]
  refine ⟨fun ne => ?_, fun e => ?_⟩
  · have hpos : 0 < A.length := by cases A; exact absurd rfl ne; simp
    obtain ⟨j, hj⟩ : ∃ j, i = j + 1 := ⟨i - 1, by omega⟩
    refine ⟨j, hj, ?_⟩
    refine sAppPop_T (xs := B.map .int) (ys := A.map .int) rfl rfl (by have := hp.length_eq; simp at this ⊢; omega) (by simp; omega) ?_
    simp -implicitDefEqProofs
    refine draw_G (m := m + 2 * j) (go.1.mono (by omega)) (by omega) (by omega) fun r g2 a2 b2 o2 => ?_
    obtain ⟨n, rfl⟩ := Int.eq_ofNat_of_zero_le a2
    have hn : n < A.length := by omega
    refine ⟨rfl, o2.1.pur, n, rfl, .int A[n], by simp [hn], ⟨A.eraseIdx n, erase_map _ _ _, B ++ [A[n]], by simp, by rw [List.length_eraseIdx_of_lt hn]; omega, ?_⟩, go.trans o2⟩
    rw [List.append_assoc]
    exact (List.Perm.append_left B (erase_perm A n hn)).trans hp
  · subst e
    simp at hA hp

    exact q B g' hp (go.mono (by omega))
end NS
namespace NS
open PySem PySem.Spec PyProof.Rows L2
@[simp] theorem atI_0 {α : Type} (x : α) (l : List α) : L2.atI (x :: l) 0 = some x := atI_nat (j := 0) rfl
@[simp] theorem atI_1 {α : Type} (x y : α) (l : List α) : L2.atI (x :: y :: l) 1 = some y := atI_nat (j := 1) rfl
@[simp] theorem atI_2 {α : Type} (x y z : α) (l : List α) : L2.atI (x :: y :: z :: l) 2 = some z := atI_nat (j := 2) rfl
@[simp] theorem kExt_ap (ds es : List D) : kExt ds (.lst es) = if fit (ds.length + es.length) = true then some (ds ++ es) else none := rfl
theorem kNe_self {n : Nat} {d : D} (h : D.pl n d = true) (hn : n ≤ 64 := by decide) : kNe d d = M.pure (.bl false) := by
  rw [kNe_pl n n h h hn hn, eqD_self h]; rfl
theorem kEq_self {n : Nat} {d : D} (h : D.pl n d = true) (hn : n ≤ 64 := by decide) : kEq d d = M.pure (.bl true) := by
  rw [kEq_pl n n h h hn hn, eqD_self h]
def posB (t : Tab) : Bool := decide (gapI t = []) && decide (bothI t = [])
theorem posB_iff {t : Tab} (ok : Tok t) : posB t = true ↔ Pos t := by
  unfold posB Pos
  rw [Bool.and_eq_true, decide_eq_true_eq, decide_eq_true_eq, ngap_iff, nm_both ok]
theorem posB_false {t : Tab} (ok : Tok t) : posB t = false ↔ ¬ Pos t := by rw [← posB_iff ok]; simp
theorem Lpossible_T {x : D} {t : Tab} (h : Tb x t) (ok : Tok t) : Is (d_Lpossible [x]) (.bl (posB t)) := by
  refine Is.of_T fun g hg => runD_T ?_
  unfold b_Lpossible
  simp -implicitDefEqProofs [startD, Lfull_T h ok]
  refine forM_T (fun i σ g' => (∃ x2 x3, σ = [some (.sh x), some (.sh (.lst ((takenI t).map .int))), x2, x3]) ∧ g' = g ∧ ∀ a ∈ (takenI t).take i, ∀ d, nd t a d = true → ent t d ≠ .e ∧ nd t d a = false) (n := 0) ?_ ⟨⟨_, _, rfl⟩, rfl, by simp⟩ ?_
  · rintro i d σ g' hd ⟨⟨x2, x3, rfl⟩, rfl, hno⟩
    rw [List.getElem?_map] at hd
    obtain ⟨a, ha, rfl⟩ := Option.map_eq_some_iff.mp hd
    have ta := mem_taken.mp (List.mem_of_getElem? ha)
    simp -implicitDefEqProofs [Lwanted_T h ok ta]
    refine forM_T (fun j σ g2 => (∃ x3, σ = [some (.sh x), some (.sh (.lst ((takenI t).map .int))), some (.sh (.int a)), x3]) ∧ g2 = g' ∧ ∀ d ∈ (needI t a).take j, ent t d ≠ .e ∧ nd t d a = false) (n := 0) ?_ ⟨⟨_, rfl⟩, rfl, by simp⟩ ?_
    · rintro j d σ g2 hd ⟨⟨x3, rfl⟩, rfl, hno2⟩
      rw [List.getElem?_map] at hd
      obtain ⟨d, ed, rfl⟩ := Option.map_eq_some_iff.mp hd
      have nad := mem_need.mp (List.mem_of_getElem? ed)
      obtain ⟨d0, d1⟩ := nd_lt ok nad
      have kx : kIx x (.int d) = M.pure (ent t d).d := by rcases h with rfl | rfl <;> simp [atI_tab d0 d1]
      simp -implicitDefEqProofs [kx]
      refine ⟨fun e => ?_, fun ne => ?_⟩
      · skip
        rw [posB_false ok]
        exact fun p => p.1 _ _ nad e
      · have e2 := kIn_lst_ints a (needI t d)
        rw [contains_need] at e2
        simp -implicitDefEqProofs [Lwanted_T h ok ne, e2]
        refine ⟨fun m => ?_, fun m c hc => ?_⟩
        · skip
          rw [posB_false ok]
          exact fun p => p.2 a (mem_taken.mpr ta) d (mem_taken.mpr ne) ⟨nad, m⟩
        · rw [List.take_add_one, ed] at hc
          rcases List.mem_append.mp hc with hc | hc
          · exact hno2 c (by simpa using hc)
          · simp at hc; subst hc; exact ⟨ne, m⟩
    · rintro σ g2 ⟨⟨x3, rfl⟩, rfl, hno2⟩
      simp -implicitDefEqProofs
      intro c hc d n
      rw [List.take_add_one, ha] at hc
      rcases List.mem_append.mp hc with hc | hc
      · exact hno c (by simpa using hc) d n
      · simp at hc; subst hc
        exact hno2 d (by rw [List.take_of_length_le (by simp)]; exact mem_need.mpr n)
  · rintro σ g' ⟨⟨x2, x3, rfl⟩, rfl, hno⟩
    rw [List.take_of_length_le (by simp)] at hno
    simp -implicitDefEqProofs
    rw [posB_iff ok]
    refine ⟨fun c d n => (hno c (mem_taken.mpr (nd_taken n)) d n).1, fun c hc d hd ⟨n1, n2⟩ => ?_⟩
    have := (hno c hc d n1).2
    rw [n2] at this; cases this
/-- a perm of the taken cells that agrees: some order -/
theorem agrees_pos {t : Tab} (ok : Tok t) {σ : List Int} (p : σ.Perm (takenI t)) (a : agB t σ = true) : Pos t := by
  obtain ⟨g, e⟩ := good_iff.mp ⟨p, a⟩
  exact Fil.pos ⟨ok, g, e⟩
end NS
namespace NS
open PySem PySem.Spec PyProof.Rows L2
/-! ## what repr gives of data -/
theorem strOk_app {x y : Str} (hx : PyData.strOk x = true) (hy : PyData.strOk y = true) : PyData.strOk (x ++ y) = true := by
  unfold PyData.strOk at *
  show (x.cps ++ y.cps).all _ = true
  rw [Array.all_append, hx, hy]; rfl
/-- d is shown in at most b signs, at most k deep -/
structure Shw (d : D) (b k : Nat) : Prop where
  ok : D.pyOk d = true
  sh : (D.py d).showable = true
  st : PyData.strOk (D.py d).shown = true
  ln : (D.py d).shown.length ≤ b
  dp : (D.py d).depth ≤ k
theorem Shw.mono {d : D} {b k b' k' : Nat} (h : Shw d b k) (hb : b ≤ b') (hk : k ≤ k') : Shw d b' k' := ⟨h.ok, h.sh, h.st, Nat.le_trans h.ln hb, Nat.le_trans h.dp hk⟩
theorem shw_non : Shw .non 4 1 := ⟨rfl, rfl, by decide +kernel, by decide +kernel, by decide +kernel⟩
theorem shw_q : Shw (.str "?") 3 1 := ⟨rfl, rfl, by decide +kernel, by decide +kernel, by decide +kernel⟩
theorem shw_int {i : Int} (h0 : 0 ≤ i) (h1 : i < 16) : Shw (.int i) 4 1 := by
  have : ∀ n : Nat, n < 16 → (PyData.int (n : Int)).showable = true ∧ PyData.strOk (PyData.int (n : Int)).shown = true ∧ (PyData.int (n : Int)).shown.length ≤ 4 ∧ (PyData.int (n : Int)).depth ≤ 1 := by decide +kernel
  obtain ⟨n, rfl⟩ := Int.eq_ofNat_of_zero_le h0
  obtain ⟨a, b, c, d⟩ := this n (by omega)
  exact ⟨rfl, a, b, c, d⟩
def okS (b : Nat) (ts : List Str) : Prop := ∀ t ∈ ts, PyData.strOk t = true ∧ t.length ≤ b
theorem join_ok {b : Nat} : ∀ {ts : List Str}, okS b ts → PyData.strOk (Str.join ", " ts) = true ∧ (Str.join ", " ts).length ≤ ts.length * (b + 2)
  | [], _ => ⟨by decide +kernel, by show (0 : Nat) ≤ _; omega⟩
  | [x], h => by
    have := h x (by simp)
    exact ⟨this.1, by show x.length ≤ _; simp; omega⟩
  | x :: y :: r, h => by
    have hx := h x (by simp)
    obtain ⟨i1, i2⟩ := join_ok (ts := y :: r) fun t ht => h t (List.mem_cons_of_mem _ ht)
    have l2 : ((", " : String) : Str).length = 2 := by decide +kernel
    refine ⟨strOk_app (strOk_app hx.1 (by decide +kernel)) i1, ?_⟩
    show ((x ++ ", ") ++ Str.join ", " (y :: r)).length ≤ _
    rw [strLen_append, strLen_append, l2]
    simp only [List.length_cons] at i2 ⊢
    rw [Nat.add_mul (r.length + 1) 1]; omega
theorem tupText_ok {b : Nat} {ts : List Str} (h : okS b ts) : PyData.strOk (tupleText ts) = true ∧ (tupleText ts).length ≤ ts.length * (b + 2) + 3 := by
  obtain ⟨i1, i2⟩ := join_ok h
  unfold tupleText
  have l1 : (("(" : String) : Str).length = 1 := by decide +kernel
  split
  · have l2 : ((",)" : String) : Str).length = 2 := by decide +kernel
    exact ⟨strOk_app (strOk_app (by decide +kernel) i1) (by decide +kernel), by rw [strLen_append, strLen_append, l1, l2]; omega⟩
  · have l2 : ((")" : String) : Str).length = 1 := by decide +kernel
    exact ⟨strOk_app (strOk_app (by decide +kernel) i1) (by decide +kernel), by rw [strLen_append, strLen_append, l1, l2]; omega⟩
theorem from_ok {b : Nat} : ∀ {ts : List Str} {k : Nat} {acc : Str}, okS b ts → PyData.strOk acc = true → PyData.strOk (textFrom k acc ts) = true ∧ (textFrom k acc ts).length ≤ acc.length + ts.length * (b + 2)
  | [], k, acc, _, h => ⟨h, by show acc.length ≤ _; omega⟩
  | t :: r, k, acc, h, ha => by
    have ht := h t (by simp)
    have hs : PyData.strOk ((if k > 0 then ", " else "" : String) : Str) = true ∧ ((if k > 0 then ", " else "" : String) : Str).length ≤ 2 := by
      split
      · exact ⟨by decide +kernel, by decide +kernel⟩
      · exact ⟨by decide +kernel, by decide +kernel⟩
    obtain ⟨i1, i2⟩ := from_ok (k := k + 1) (acc := acc ++ (if k > 0 then ", " else "" : String) ++ t) (fun u hu => h u (List.mem_cons_of_mem _ hu)) (strOk_app (strOk_app ha hs.1) ht.1)
    refine ⟨i1, Nat.le_trans i2 ?_⟩
    rw [strLen_append, strLen_append, List.length_cons, Nat.add_mul]; omega
theorem lstText_ok {b : Nat} {ts : List Str} (h : okS b ts) : PyData.strOk (listText ts) = true ∧ (listText ts).length ≤ ts.length * (b + 2) + 3 := by
  obtain ⟨i1, i2⟩ := from_ok (k := 0) (acc := "[") h (by decide +kernel)
  have l1 : (("[" : String) : Str).length = 1 := by decide +kernel
  have l2 : (("]" : String) : Str).length = 1 := by decide +kernel
  unfold listText
  exact ⟨strOk_app i1 (by decide +kernel), by rw [strLen_append, l2]; omega⟩
theorem shws {b k : Nat} : ∀ {ds : List D}, (∀ d ∈ ds, Shw d b k) → D.pysOk ds = true ∧ PyData.showableAll (D.pys ds) = true ∧ okS b (PyData.shownAll (D.pys ds)) ∧ (PyData.shownAll (D.pys ds)).length = ds.length ∧ PyData.depthAll (D.pys ds) ≤ k
  | [], _ => ⟨rfl, rfl, (fun _ h => nomatch h), rfl, Nat.zero_le _⟩
  | d :: ds, h => by
    have h1 := h d (by simp)
    obtain ⟨a1, a2, a3, a4, a5⟩ := shws (ds := ds) fun e he => h e (List.mem_cons_of_mem _ he)
    refine ⟨by rw [D.pysOk, h1.ok, a1]; rfl, by rw [D.pys, PyData.showableAll, h1.sh, a2]; rfl, fun t ht => ?_, by rw [D.pys, PyData.shownAll, List.length_cons, List.length_cons, a4], ?_⟩
    · rw [D.pys, PyData.shownAll] at ht
      rcases List.mem_cons.mp ht with rfl | ht
      · exact ⟨h1.st, h1.ln⟩
      · exact a3 t ht
    · rw [D.pys, PyData.depthAll]; exact Nat.max_le.mpr ⟨h1.dp, a5⟩
theorem shw_tup {b k : Nat} {ds : List D} (h : ∀ d ∈ ds, Shw d b k) : Shw (.tup ds) (ds.length * (b + 2) + 3) (k + 1) := by
  obtain ⟨a1, a2, a3, a4, a5⟩ := shws h
  obtain ⟨t1, t2⟩ := tupText_ok a3
  exact ⟨a1, a2, t1, by rw [a4] at t2; exact t2, by rw [D.py, PyData.depth]; omega⟩
theorem shw_lst {b k : Nat} {ds : List D} (h : ∀ d ∈ ds, Shw d b k) : Shw (.lst ds) (ds.length * (b + 2) + 3) (k + 1) := by
  obtain ⟨a1, a2, a3, a4, a5⟩ := shws h
  obtain ⟨t1, t2⟩ := lstText_ok a3
  exact ⟨a1, a2, t1, by rw [a4] at t2; exact t2, by rw [D.py, PyData.depth]; omega⟩
theorem repr_T {d : D} {b k : Nat} (h : Shw d b k) (hb : b ≤ 1000000) (hk : k ≤ 60) : ∃ x, PyData.strOk x = true ∧ kRepr [d] = M.pure (.str x) := by
  refine ⟨_, h.st, ?_⟩
  have h1 := h.ln
  have h2 := h.dp
  have h3 : b ≤ sizeLine := by rw [sizeLine_eq]; omega
  have e : reprOk d = true := by unfold reprOk; simp only [Bool.and_eq_true, decide_eq_true_eq]; exact ⟨⟨⟨h.ok, h.sh⟩, by omega⟩, by omega⟩
  show (if reprOk d = true then M.pure (.str (D.py d).shown) else M.bad : M D) = _
  rw [if_pos e]
theorem shw_ent {t : Tab} (ok : Tok t) : ∀ d ∈ t.map Ent.d, Shw d 4 1 := by
  intro d hd
  obtain ⟨e, he, rfl⟩ := List.mem_map.mp hd
  obtain ⟨i, hi, e1⟩ := List.getElem_of_mem he
  cases e with
  | e => exact shw_non
  | u => exact shw_q.mono (by decide) (Nat.le_refl _)
  | w v =>
    have hl := ok.len
    have := ok.wish (i : Int) v (by unfold ent; rw [if_neg (by omega)]; simp [hi, e1])
    exact shw_int this.1 (by have := this.2; simp [tn] at this; omega)
theorem repr_tab {t : Tab} (ok : Tok t) : ∃ x, PyData.strOk x = true ∧ kRepr [.tup (t.map Ent.d)] = M.pure (.str x) :=
  repr_T (shw_tup (shw_ent ok)) (by have := ok.len; simp; omega) (by decide)
end NS
namespace NS
open PySem PySem.Spec PyProof.Rows L2
/-! ## the package's own putting in -/
theorem nearest_of_T {y : D} {l : List Int} (hy : Sq y l) (w : Int) (h : l ≠ []) (hl : l.length < 1000000) : d_nearest_of [y, .int w] = M.pure (.int (nearI w l)) := by
  obtain ⟨a, ka⟩ := kMinP_near w h hl
  have e1 : compM (gN 2) tYesD (eArgs mkT (lCons (eArgs kAbs (lCons (eBin kSub (eVar 2) (eVar 1)) lNil)) (lCons (eVar 2) lNil))) [some (.sh y), some (.sh (.int w)), none] (l.map .int) = M.pure (l.map fun c => .tup [.int ((c - w).natAbs : Int), .int c]) :=
    compM_all fun c hc => ⟨_, rfl, rfl, by simp⟩
  have it : itD y = M.pure (l.map .int) := by rcases hy with rfl | rfl <;> rfl
  unfold d_nearest_of runD b_nearest_of
  simp -implicitDefEqProofs [startD, it, e1, ka]
  omega
theorem free_len (t : Tab) (h : t.length ≤ 12) : (freeI t).length ≤ 12 := by
  unfold freeI; refine Nat.le_trans (List.length_filter_le _ _) ?_; simp [tn]; omega
theorem nearest_T {x : D} {t : Tab} (h : Tb x t) (hl : t.length ≤ 12) {w : Int} (hf : freeI t ≠ []) : d_nearest [x, .int w] = M.pure (.int (nearI w (freeI t))) := by
  have key : compM (gNs [3, 4]) (eTst (eBin kIs (eVar 4) (eC .non))) (eVar 3) [some (.sh x), some (.sh (.int w)), none, none, none] (enumD (t.map Ent.d)) = M.pure ((freeI t).map .int) := by
    rw [enumD_tab]
    exact compM_pure (en := fun c => .tup [.int c, (ent t c).d]) (p := fun c => ent t c == .e) (f := .int) fun c hc => ⟨_, rfl, by simp, fun _ => rfl⟩
  have en : enumK [x] = M.pure (enumD (t.map Ent.d)) := by rcases h with rfl | rfl <;> rfl
  have fl := free_len t hl
  have ne : kEq (.lst ((freeI t).map .int)) (.lst []) = M.pure (.bl false) := by
    have := kEq_lst_ints (xs := freeI t) (ys := []) (by omega) (by decide)
    simpa [hf] using this
  unfold d_nearest runD b_nearest
  simp -implicitDefEqProofs [startD, en, key, enumD_len, ne, nearest_of_T (y := .lst ((freeI t).map .int)) (.inr rfl) w hf (by omega)]
  omega
theorem kRemI_ints {l : List Int} {s : Int} (hn : l.Nodup) (hs : s ∈ l) : kRemI (l.map .int) [.int s] = some ((rm s l).map .int) := by
  unfold kRemI
  rw [ints_map]
  simp only
  induction l with
  | nil => cases hs
  | cons a l ih =>
    have h2 := List.nodup_cons.mp hn
    rw [List.findIdx?_cons]
    by_cases e : a = s
    · subst e
      have : rm a (a :: l) = l := by
        simp [rm, List.filter_cons]; exact fun b hb => by rintro rfl; exact h2.1 hb
      simp [this]
    · have hs' : s ∈ l := by rcases List.mem_cons.mp hs with rfl | h; exact absurd rfl e; exact h
      have ih := ih h2.2 hs'
      have : rm s (a :: l) = a :: rm s l := by simp [rm, List.filter_cons, e]
      rw [this]
      simp only [e, beq_iff_eq, if_false, show (a == s) = false from beq_eq_false_iff_ne.mpr e, Bool.false_eq_true]
      cases hf : l.findIdx? (fun n => n == s) with
      | none => rw [hf] at ih; cases ih
      | some j =>
        rw [hf] at ih
        simp only [Option.map_some, Option.some.injEq] at ih ⊢
        simp [ih]
theorem free_put {t : Tab} {s : Int} {w : Int} (h0 : 0 ≤ s) (h1 : s < tn t) : freeI (putT t s (.w w)) = rm s (freeI t) := by
  unfold freeI rm
  rw [tn_put, List.filter_filter]
  refine List.filter_congr fun d _ => ?_
  rw [ent_put h0 h1]
  by_cases e : d = s
  · subst e; simp
  · simp [e]
theorem free_nodup (t : Tab) : (freeI t).Nodup := (rI_nodup _ _).filter _
theorem free_emp {w : Int} (h0 : 0 ≤ w) : freeI (emp w).1 = rI 0 w := by
  unfold freeI emp
  rw [show tn (List.replicate w.toNat Ent.e) = w by unfold tn; simp [Int.max_eq_left h0]]
  refine List.filter_eq_self.mpr fun c hc => ?_
  unfold ent
  split
  · rfl
  · rw [List.getElem?_replicate]; split <;> rfl
/-- what holds on the way -/
theorem on_way {w : Int} {hs : List Int} (h0 : 1 ≤ w) (h1 : w ≤ 12) (hl : (hs.length : Int) ≤ w) (hv : ∀ v ∈ hs, 0 ≤ v ∧ v < w) {i : Nat} {h : Int} (e : hs[i]? = some h) :
    Fil (filI (emp w) (hs.take i)).1 (filI (emp w) (hs.take i)).2 ∧ tn (filI (emp w) (hs.take i)).1 = w ∧ (filI (emp w) (hs.take i)).2.length = i ∧ freeI (filI (emp w) (hs.take i)).1 ≠ [] ∧
    filI (emp w) (hs.take (i + 1)) = (putT (filI (emp w) (hs.take i)).1 (nearI h (freeI (filI (emp w) (hs.take i)).1)) (.w h), (filI (emp w) (hs.take i)).2 ++ [nearI h (freeI (filI (emp w) (hs.take i)).1)]) := by
  have hi := (List.getElem?_eq_some_iff.mp e).1
  have lt : (hs.take i).length = i := by simp; omega
  obtain ⟨f, e1, e2⟩ := filI_fil (w := w) (by omega) h1 (hs := hs.take i) (by omega) fun v hv' => hv v (List.mem_of_mem_take hv')
  refine ⟨f, e1, by omega, free_ne ?_, ?_⟩
  · have := f.all; unfold tn at e1; omega
  · rw [List.take_add_one, e]; exact filI_snoc _ _ _
theorem cells_of_T {y : D} {w : Int} {hs : List Int} (hy : Sq y hs) (h0 : 1 ≤ w) (h1 : w ≤ 12) (hl : (hs.length : Int) ≤ w) (hv : ∀ v ∈ hs, 0 ≤ v ∧ v < w) : Is (d_cells_of [.int w, y]) (.tup ((filI (emp w) hs).2.map .int)) := by
  refine Is.of_T fun g hg => runD_T ?_
  unfold b_cells_of
  have kl : kLen [y] = M.pure (.int (hs.length : Int)) := by rcases hy with rfl | rfl <;> simp
  have it : itD y = M.pure (hs.map .int) := by rcases hy with rfl | rfl <;> rfl
  have kg : kGt (.int (hs.length : Int)) (.int w) = M.pure (.bl false) := by show M.pure _ = _; congr 2; simp; omega
  simp -implicitDefEqProofs [startD, kl, it, kg]
  refine ⟨by omega, by omega, by omega, ?_⟩
  refine forM_T (fun i σ g' => (∃ x4 x5, σ = [some (.sh (.int w)), some (.sh y), some (.ow (.lst ((freeI (filI (emp w) (hs.take i)).1).map .int))), some (.ow (.lst ((filI (emp w) (hs.take i)).2.map .int))), x4, x5]) ∧ g' = g) (n := 0) ?_ ⟨⟨_, _, by rw [show filI (emp w) (hs.take 0) = emp w from rfl, free_emp (by omega), rngD_rI]; rfl⟩, rfl⟩ ?_
  · rintro i d σ g' e ⟨⟨x4, x5, rfl⟩, rfl⟩
    rw [List.getElem?_map] at e
    obtain ⟨h, eh, rfl⟩ := Option.map_eq_some_iff.mp e
    obtain ⟨f, e1, e2, fr, en⟩ := on_way h0 h1 hl hv eh
    rw [Nat.zero_add, en]
    generalize filI (emp w) (hs.take i) = p at *
    obtain ⟨t, s⟩ := p
    simp only at f e1 e2 fr ⊢
    have fl := free_len t f.ok.len
    obtain ⟨hm, _⟩ := nearI_spec (w := h) fr
    obtain ⟨m0, m1, _⟩ := mem_free.mp hm
    have sl : s.length ≤ 12 := by have := f.all; have := taken_len t; have := f.ok.len; omega
    simp -implicitDefEqProofs [nearest_of_T (y := .lst ((freeI t).map .int)) (.inr rfl) h fr (by omega), hg, kRemI_ints (free_nodup t) hm, free_put m0 m1]
    omega
  · rintro σ g' ⟨⟨x4, x5, rfl⟩, rfl⟩
    rw [List.length_map, Nat.zero_add, List.take_of_length_le (Nat.le_refl _)]
    simp -implicitDefEqProofs
/-- the order's beginning -/
theorem filI_take {w : Int} {hs : List Int} (h0 : 1 ≤ w) (h1 : w ≤ 12) (hl : (hs.length : Int) ≤ w) (hv : ∀ v ∈ hs, 0 ≤ v ∧ v < w) : ∀ {j i : Nat}, i ≤ j → j ≤ hs.length → (filI (emp w) (hs.take j)).2.take i = (filI (emp w) (hs.take i)).2
  | 0, i, hij, hj => by
    have : i = 0 := by omega
    subst this; rfl
  | j + 1, i, hij, hj => by
    obtain ⟨h, eh⟩ : ∃ h, hs[j]? = some h := ⟨hs[j], by simp⟩
    obtain ⟨f, e1, e2, fr, en⟩ := on_way h0 h1 hl hv eh
    by_cases hi : i = j + 1
    · subst hi
      refine List.take_of_length_le ?_
      rw [en]; simp [e2]
    · rw [en]
      simp only
      rw [List.take_append_of_le_length (by omega), filI_take h0 h1 hl hv (by omega) (by omega)]
theorem filI_at {w : Int} {hs : List Int} (h0 : 1 ≤ w) (h1 : w ≤ 12) (hl : (hs.length : Int) ≤ w) (hv : ∀ v ∈ hs, 0 ≤ v ∧ v < w) {i : Nat} {h : Int} (e : hs[i]? = some h) : (filI (emp w) hs).2[i]? = some (nearI h (freeI (filI (emp w) (hs.take i)).1)) := by
  have hi := (List.getElem?_eq_some_iff.mp e).1
  obtain ⟨f, e1, e2, fr, en⟩ := on_way h0 h1 hl hv e
  have t1 := filI_take h0 h1 hl hv (j := hs.length) (i := i + 1) (by omega) (Nat.le_refl _)
  rw [List.take_of_length_le (l := hs) (Nat.le_refl _), en] at t1
  have : ((filI (emp w) hs).2.take (i + 1))[i]? = some (nearI h (freeI (filI (emp w) (hs.take i)).1)) := by
    rw [t1]
    simp only
    rw [List.getElem?_append_right (by omega), e2]; simp
  rwa [List.getElem?_take_of_lt (by omega)] at this
theorem filled_T {y : D} {w : Int} {hs : List Int} (hy : Sq y hs) (h0 : 1 ≤ w) (h1 : w ≤ 12) (hl : (hs.length : Int) ≤ w) (hv : ∀ v ∈ hs, 0 ≤ v ∧ v < w) : Is (d_filled [.int w, y]) (.tup ((filI (emp w) hs).1.map Ent.d)) := by
  refine Is.of_T fun g hg => runD_T ?_
  unfold b_filled
  have e0 : (List.replicate w.toNat [D.non]).flatten = (emp w).1.map Ent.d := by
    unfold emp; simp only [List.map_replicate]
    induction w.toNat with
    | zero => rfl
    | succ n ih => rw [List.replicate_succ, List.flatten_cons, ih]; rfl
  obtain ⟨f0, e10, e20⟩ := filI_fil (w := w) (by omega) h1 hl hv
  have zk : zipK2 [.tup ((filI (emp w) hs).2.map .int), y] = M.pure ((((filI (emp w) hs).2.zip hs)).map fun p => .tup [.int p.1, .int p.2]) := by
    have : zipD ((filI (emp w) hs).2.map .int) (hs.map .int) = (((filI (emp w) hs).2.zip hs)).map fun p => .tup [.int p.1, .int p.2] := by
      unfold zipD; rw [List.zip_map, List.map_map]; rfl
    rcases hy with rfl | rfl <;> (show M.pure _ = _; rw [← this])
  simp -implicitDefEqProofs [startD, e0, (cells_of_T hy h0 h1 hl hv).T hg, zk]
  refine ⟨by omega, by omega, ?_⟩
  refine forM_T (fun i σ g' => (∃ x3 x4, σ = [some (.sh (.int w)), some (.sh y), some (.ow (.lst ((filI (emp w) (hs.take i)).1.map Ent.d))), x3, x4]) ∧ g' = g) (n := 0) ?_ ⟨⟨_, _, rfl⟩, rfl⟩ ?_
  · rintro i d σ g' e ⟨⟨x3, x4, rfl⟩, rfl⟩
    rw [List.getElem?_map] at e
    obtain ⟨⟨c, h⟩, ez, rfl⟩ := Option.map_eq_some_iff.mp e
    obtain ⟨ec, eh⟩ := List.getElem?_zip_eq_some.mp ez
    simp only at ec eh
    have ea := filI_at h0 h1 hl hv eh
    rw [ec] at ea
    cases ea
    obtain ⟨f, e1, e2, fr, en⟩ := on_way h0 h1 hl hv eh
    rw [Nat.zero_add, en]
    generalize filI (emp w) (hs.take i) = p at *
    obtain ⟨t, s⟩ := p
    simp only at f e1 e2 fr ⊢
    obtain ⟨hm, _⟩ := nearI_spec (w := h) fr
    obtain ⟨m0, m1, _⟩ := mem_free.mp hm
    simp -implicitDefEqProofs
    refine sSetIx_T ?_
    simp -implicitDefEqProofs
    refine ⟨(nearI h (freeI t)).toNat, by rw [Int.toNat_of_nonneg m0], by unfold tn at m1; omega, ?_⟩
    rw [show D.int h = (Ent.w h).d from rfl, map_put]
  · rintro σ g' ⟨⟨x3, x4, rfl⟩, rfl⟩
    rw [List.length_map, Nat.zero_add, List.length_zip, e20, Nat.min_self, List.take_of_length_le (Nat.le_refl _)]
    simp -implicitDefEqProofs
/-! ## put in again -/
theorem near_only {t : Tab} {h s : Int} (hm : s ∈ freeI t) (hs : ∀ a ∈ freeI t, ¬ nearer a s h) : nearI h (freeI t) = s := by
  have fr : freeI t ≠ [] := by intro e; rw [e] at hm; cases hm
  obtain ⟨h1, h2⟩ := nearI_spec (w := h) fr
  have a1 := hs _ h1
  have a2 := h2 s hm
  unfold nearer at a1 a2
  omega
/-- the wishes of an order -/
def wishOf (t : Tab) (c : Int) : Int := match ent t c with
  | .w v => v
  | _ => 0
theorem replay {t : Tab} {σ : List Int} (f : Fil t σ) (hk : ∀ c, ent t c ≠ .u) (h1 : 1 ≤ tn t) : filI (emp (tn t)) (σ.map (wishOf t)) = (t, σ) := by
  have hn : tn t ≤ 12 := by have := f.ok.len; unfold tn; omega
  have wish : ∀ c ∈ σ, ent t c = .w (wishOf t c) := fun c hc => by
    have := f.mem.mp hc
    unfold wishOf
    cases e : ent t c with
    | e => exact absurd e this
    | u => exact absurd e (hk c)
    | w v => rfl
  have hl : ((σ.map (wishOf t)).length : Int) ≤ tn t := by have := f.all; have := taken_len t; simp; unfold tn; omega
  have hv : ∀ v ∈ σ.map (wishOf t), 0 ≤ v ∧ v < tn t := fun v hv => by
    obtain ⟨c, hc, rfl⟩ := List.mem_map.mp hv
    exact f.ok.wish c _ (wish c hc)
  have key : ∀ k, k ≤ σ.length → tn (filI (emp (tn t)) ((σ.map (wishOf t)).take k)).1 = tn t ∧ (filI (emp (tn t)) ((σ.map (wishOf t)).take k)).2 = σ.take k ∧ ∀ c, ent (filI (emp (tn t)) ((σ.map (wishOf t)).take k)).1 c = if c ∈ σ.take k then ent t c else .e := by
    intro k
    induction k with
    | zero =>
      intro _
      refine ⟨by unfold filI emp tn; simp, rfl, fun c => ?_⟩
      simp
      show ent (List.replicate _ Ent.e) c = .e
      unfold ent; split
      · rfl
      · rw [List.getElem?_replicate]; split <;> rfl
    | succ k ih =>
      intro hk'
      obtain ⟨e1, e2, e3⟩ := ih (by omega)
      obtain ⟨c, ec⟩ : ∃ c, σ[k]? = some c := ⟨σ[k], by simp⟩
      have hc : c ∈ σ := List.mem_of_getElem? ec
      have ew : (σ.map (wishOf t))[k]? = some (wishOf t c) := by simp [ec]
      obtain ⟨fk, _, _, fr, en⟩ := on_way h1 hn hl hv ew
      rw [en]
      generalize filI (emp (tn t)) ((σ.map (wishOf t)).take k) = p at *
      obtain ⟨s, τ⟩ := p
      simp only at e1 e2 e3 fk fr ⊢
      subst e2
      have tc := f.mem.mp hc
      have lc := ent_lt tc
      have nc : c ∉ σ.take k := by
        intro h
        obtain ⟨j, hj, ej⟩ := List.mem_take_iff_getElem.mp h
        obtain ⟨hk2, ek⟩ := List.getElem?_eq_some_iff.mp ec
        have := (List.getElem_inj f.good.nodup).mp (ej.trans ek.symm)
        omega
      have hs : nearI (wishOf t c) (freeI s) = c := by
        refine near_only (mem_free.mpr ⟨lc.1, by rw [e1]; exact lc.2, by rw [e3, if_neg nc]⟩) fun a ha hn => ?_
        obtain ⟨a0, a1, ae⟩ := mem_free.mp ha
        rw [e1] at a1
        have : nd t c a = true := by
          unfold nd; rw [wish c hc]
          exact decide_eq_true ((nearer_iff a0 a1).mp hn)
        have := f.good.ag k c ec a this
        rw [e3, if_pos this] at ae
        exact f.mem.mp (List.mem_of_mem_take this) ae
      rw [hs]
      have tk : σ.take (k + 1) = σ.take k ++ [c] := by rw [List.take_add_one, ec]; rfl
      refine ⟨by rw [tn_put]; exact e1, by rw [tk], fun d => ?_⟩
      rw [ent_put lc.1 (by rw [e1]; exact lc.2), e3, tk]
      by_cases h : d = c
      · subst h; rw [if_pos rfl, if_pos (by simp)]; exact (wish d hc).symm
      · rw [if_neg h]
        have : (d ∈ σ.take k ++ [c]) ↔ d ∈ σ.take k := by simp [h]
        simp only [this]
  obtain ⟨e1, e2, e3⟩ := key σ.length (Nat.le_refl _)
  rw [List.take_of_length_le (by simp)] at e1 e2 e3
  rw [List.take_of_length_le (l := σ) (Nat.le_refl _)] at e2 e3
  refine Prod.ext (tab_ext e1 fun c => ?_) e2
  rw [e3]
  split
  · rfl
  · rename_i h
    exact (Classical.byContradiction fun hh => h (f.mem.mpr hh)).symm
end NS
namespace NS
open PySem PySem.Spec PyProof.Rows L2
/-! ## orders by number -/
/-- the option in which r lies -/
def pick (f : Int → Nat) : List Int → Nat → Int × Nat
  | [], _ => (-1, 0)
  | c :: cs, r => if r < f c then (c, r) else pick f cs (r - f c)
theorem pick_spec (f : Int → Nat) : ∀ (L : List Int) (r : Nat), r < sg L f → (pick f L r).1 ∈ L ∧ (pick f L r).2 < f (pick f L r).1
  | [], r, h => by simp at h
  | c :: cs, r, h => by
    unfold pick
    by_cases hc : r < f c
    · rw [if_pos hc]; exact ⟨List.mem_cons_self, hc⟩
    · rw [if_neg hc]
      simp at h
      obtain ⟨h1, h2⟩ := pick_spec f cs (r - f c) (by omega)
      exact ⟨List.mem_cons_of_mem _ h1, h2⟩
theorem pick_drop (f : Int → Nat) {L : List Int} {i : Nat} {c : Int} (h : L[i]? = some c) (r : Nat) : pick f (L.drop i) r = if r < f c then (c, r) else pick f (L.drop (i + 1)) (r - f c) := by
  obtain ⟨hn, e⟩ := List.getElem?_eq_some_iff.mp h
  rw [List.drop_eq_getElem_cons hn, e]; rfl
theorem chosen_T {f : Int → Nat} {L : List Int} (hl : L.length < 1000000) {r : Nat} (hr : r < sg L f) (hb : ∀ c ∈ L, f c < 2 ^ 60) (hr2 : r < 2 ^ 60) : Is (d_chosen [.lst (L.map fun c => pr (c, (f c : Nat))), .int (r : Nat)]) (pr ((pick f L r).1, ((pick f L r).2 : Nat))) := by
  refine Is.of_T fun g hg => runD_T ?_
  unfold b_chosen
  simp -implicitDefEqProofs [startD]
  refine forM_T (fun i σ g' => (∃ x2 x3, ∃ q : Nat, σ = [some (.sh (.lst (L.map fun c => pr (c, (f c : Nat))))), some (.sh (.int (q : Nat))), x2, x3] ∧ pick f (L.drop i) q = pick f L r ∧ q < sg (L.drop i) f) ∧ g' = g) (n := 0) ?_ ⟨⟨_, _, r, rfl, rfl, hr⟩, rfl⟩ ?_
  · rintro i d σ g' e ⟨⟨x2, x3, q, rfl, hp, hq⟩, rfl⟩
    rw [List.getElem?_map] at e
    obtain ⟨c, ec, rfl⟩ := Option.map_eq_some_iff.mp e
    rw [Nat.zero_add] at hp hq
    rw [pick_drop f ec] at hp
    rw [sg_drop ec] at hq
    simp -implicitDefEqProofs [pr]
    refine ⟨fun hlt => ?_, fun hge => ?_⟩
    · rw [if_pos (by omega)] at hp
      rw [← hp]; exact ⟨rfl, rfl⟩
    · rw [if_neg (by omega)] at hp
      exact ⟨_, _, q - f c, by omega, rfl, rfl, hp, by omega⟩
  · rintro σ g' ⟨⟨x2, x3, q, rfl, hp, hq⟩, rfl⟩
    simp at hq
theorem cI_le (t : Tab) (ok : Tok t) (P : List Int) : cI t P ≤ 479001600 := by
  refine Nat.le_trans (LE_le (rest_nodup t P) (n := 12) ?_) (by decide +kernel)
  exact Nat.le_trans (List.length_filter_le _ _) (tl_le ok)
/-- the order with a number, from P on -/
def atN (t : Tab) : Nat → List Int → Nat → List Int
  | 0, P, _ => P
  | n + 1, P, r => atN t n (P ++ [(pick (fun c => cI t (P ++ [c])) (readyI t P) r).1]) (pick (fun c => cI t (P ++ [c])) (readyI t P) r).2
def atI (t : Tab) (r : Nat) : List Int := atN t (takenI t).length [] r
theorem atN_good {t : Tab} (ng : Ngap t) : ∀ {n : Nat} {P : List Int} {r : Nat}, Good t P → P.length + n = (takenI t).length → r < cI t P → Good t (atN t n P r) ∧ (atN t n P r).length = (takenI t).length
  | 0, P, r, h, e, _ => ⟨h, e⟩
  | n + 1, P, r, h, e, hr => by
    have ne := h.rest_ne (by omega)
    rw [cI_step ng ne] at hr
    obtain ⟨h1, h2⟩ := pick_spec _ _ _ hr
    unfold atN
    exact atN_good ng (h.snoc h1) (by simp; omega) h2
theorem atI_good {t : Tab} (ng : Ngap t) {r : Nat} (hr : r < LE (nd t) (takenI t)) : Good t (NS.atI t r) ∧ (NS.atI t r).length = (takenI t).length :=
  atN_good ng (Good.nil t) (by simp) (by unfold cI; rw [rest_nil]; exact hr)
theorem order_at_T {x : D} {t : Tab} (h : Tb x t) (ok : Tok t) (ng : Ngap t) {r : Nat} (hr : r < LE (nd t) (takenI t)) : Is (d_order_at [x, .int (r : Nat)]) (.tup ((NS.atI t r).map .int)) := by
  refine Is.of_T fun g hg => runD_T ?_
  unfold b_order_at
  have co := count_orders_T h ok
  rw [if_pos (ngap_iff.mpr ng)] at co
  have tl := tl_le ok
  have lz : kLe (.int 0) (.int (r : Nat)) = M.pure (.bl true) := by rw [kLe_int, decide_eq_true (by omega)]
  generalize hri : ((r : Nat) : Int) = ri at lz
  have ll : kLt (.int ri) (.int (LE (nd t) (takenI t) : Nat)) = M.pure (.bl true) := by rw [kLt_int, decide_eq_true (by omega)]
  simp -implicitDefEqProofs [startD, co.T hg, lz, ll]
  refine whileM_T (fun n σ g' => (∃ x4, ∃ P : List Int, ∃ q : Nat, σ = [some (.sh x), some (.sh (.int ri)), some (.ow (.lst (P.map .int))), some (.sh (.int (q : Nat))), x4] ∧ Good t P ∧ P.length + n = (takenI t).length ∧ q < cI t P ∧ atN t n P q = NS.atI t r) ∧ g' = g) ?_ (k := (takenI t).length) ⟨⟨_, [], r, by rw [hri]; rfl, Good.nil t, by simp, by unfold cI; rw [rest_nil]; exact hr, rfl⟩, rfl⟩ (by omega)
  rintro n σ g' ⟨⟨x4, P, q, rfl, gp, hn, hq, hf⟩, rfl⟩
  simp -implicitDefEqProofs [taken_T h ok.len, hg]
  refine ⟨fun hlt => ?_, fun hge => ?_⟩
  · obtain ⟨n', rfl⟩ : ∃ n', n = n' + 1 := ⟨n - 1, by omega⟩
    refine ⟨n', rfl, ?_⟩
    have ne := gp.rest_ne hlt
    rw [cI_step ng ne] at hq
    have nx := nexts_T h ok (y := .lst (P.map .int)) (P := P) (.inr rfl)
    have hb := fun c => cI_le t ok (P ++ [c])
    have qb : q < 2 ^ 60 := by have := cI_le t ok P; rw [cI_step ng ne] at this; omega
    have ct := chosen_T (f := fun c => cI t (P ++ [c])) (L := readyI t P) (by have : (readyI t P).length ≤ 12 := Nat.le_trans (List.length_filter_le _ _) (Nat.le_trans (List.length_filter_le _ _) tl); omega) hq (fun c _ => by have := hb c; omega) qb
    obtain ⟨h1, h2⟩ := pick_spec _ _ _ hq
    unfold atN at hf
    generalize pick (fun c => cI t (P ++ [c])) (readyI t P) q = pk at *
    obtain ⟨c, q'⟩ := pk
    simp only at h1 h2 hf
    have ct' : Is (d_chosen [.lst ((readyI t P).map fun c => pr (c, (cI t (P ++ [c]) : Nat))), .int (q : Nat)]) (.tup [.int c, .int (q' : Nat)]) := ct
    simp -implicitDefEqProofs [nx.T hg, ct'.T hg, hg]
    exact ⟨by omega, _, P ++ [c], by simp, q', rfl, rfl, gp.snoc h1, by simp; omega, h2, hf⟩
  · have : n = 0 := by omega
    subst this
    rw [← hf]
    simp -implicitDefEqProofs [atN]
end NS
namespace NS
open PySem PySem.Spec PyProof.Rows L2
/-! ## sets on the way -/
def clB (t : Tab) (S : List Int) : Bool := S.all fun c => (needI t c).all fun d => S.contains d
theorem clB_iff {t : Tab} {S : List Int} : clB t S = true ↔ ∀ c ∈ S, ∀ d, nd t c d = true → d ∈ S := by
  unfold clB; simp only [List.all_eq_true, List.contains_iff_mem, mem_need]
theorem closed_T {x y : D} {t : Tab} {S : List Int} (h : Tb x t) (ok : Tok t) (hy : Sq y S) (hS : ∀ c ∈ S, c ∈ takenI t) (hl : S.length ≤ 12) : d_is_closed [x, y] = M.pure (.bl (clB t S)) := by
  have kin : ∀ c, kIn (.int c) y = M.pure (.bl (S.contains c)) := by intro c; rcases hy with rfl | rfl <;> simp
  have it : itD y = M.pure (S.map .int) := by rcases hy with rfl | rfl <;> rfl
  have e1 : compM2 (gN 2) tYesD (iSeq (eArgs (callN 2 d_need_of) (lCons (eVar 0) (lCons (eVar 2) lNil)))) [3] (gN 3) tYesD (eBin kIn (eVar 3) (eVar 1)) [some (.sh x), some (.sh y), none, none] (S.map .int) = M.pure ((S.flatMap fun c => (needI t c).map fun d => S.contains d).map .bl) := by
    rw [compM2_all (f := fun c => (needI t c).map fun d => .bl (S.contains d))]
    · simp [List.map_flatMap, Function.comp_def]
    · intro c hc
      refine ⟨_, rfl, rfl, (needI t c).map .int, by simp [need_of_T h ok (mem_taken.mp (hS c hc))], ?_⟩
      exact compM_all fun d hd => ⟨_, rfl, rfl, by simp [kin]⟩
  have fa : ((S.flatMap fun c => (needI t c).map fun d => S.contains d).all id) = clB t S := flat_all S (fun c => needI t c) (fun _ d => S.contains d)
  have fl : (S.flatMap fun c => (needI t c).map fun d => S.contains d).length < 1000000 := by
    have := flatMap_len (l := S) (f := fun c => (needI t c).map fun d => S.contains d) (k := 12) fun c _ => by rw [List.length_map]; exact need_len ok c
    omega
  generalize (S.flatMap fun c => (needI t c).map fun d => S.contains d) = F at *
  unfold d_is_closed runD b_is_closed
  simp -implicitDefEqProofs [startD, it, e1, fl, fa]
  omega
def encS (p : List Int × Bool) : D := if p.2 then .lst (p.1.map .int) else .tup (p.1.map .int)
theorem encS_sq (p : List Int × Bool) : Sq (encS p) p.1 := by unfold encS Sq; split <;> simp
def dif (S B : List Int) : List Int := S.filter fun c => !B.contains c
def thr (t : Tab) : List (List Int × Bool) → List Int → Nat → Nat
  | [], _, f => f
  | S :: r, B, f => if (B.all (fun c => S.1.contains c) && clB t S.1) = true then thr t r S.1 (f * LE (nd t) (dif S.1 B)) else 0
/-- sets of taken cells, ascending -/
def Set1 (t : Tab) (S : List Int) : Prop := S.Pairwise (· < ·) ∧ ∀ c ∈ S, c ∈ takenI t
theorem Set1.nodup {t : Tab} {S : List Int} (h : Set1 t S) : S.Nodup := List.nodup_iff_pairwise_ne.mpr (h.1.imp fun h e => by omega)
theorem Set1.len {t : Tab} (ok : Tok t) {S : List Int} (h : Set1 t S) : S.length ≤ 12 := Nat.le_trans (sub_len h.nodup h.2) (tl_le ok)
theorem Set1.taken (t : Tab) : Set1 t (takenI t) := ⟨taken_sorted t, fun _ h => h⟩
theorem Set1.dif {t : Tab} {S : List Int} (h : Set1 t S) (B : List Int) : Set1 t (dif S B) := ⟨h.1.filter _, fun c hc => h.2 c (List.mem_filter.mp hc).1⟩
def allS (t : Tab) (seen : List (List Int)) : List (List Int × Bool) := seen.map (fun S => (S, false)) ++ [(takenI t, true)]
def seenD (seen : List (List Int)) : List D := seen.map fun S => .tup (S.map .int)
theorem allS_enc (t : Tab) (seen : List (List Int)) : seenD seen ++ [.lst ((takenI t).map .int)] = (allS t seen).map encS := by
  unfold allS seenD; rw [List.map_append, List.map_map]; rfl
theorem thr_drop (t : Tab) {L : List (List Int × Bool)} {i : Nat} {S : List Int × Bool} (h : L[i]? = some S) (B : List Int) (f : Nat) : thr t (L.drop i) B f = if (B.all (fun c => S.1.contains c) && clB t S.1) = true then thr t (L.drop (i + 1)) S.1 (f * LE (nd t) (dif S.1 B)) else 0 := by
  obtain ⟨hn, e⟩ := List.getElem?_eq_some_iff.mp h
  rw [List.drop_eq_getElem_cons hn, e]; rfl
theorem kMulI_int (i j : Int) : kMulI (.int i) (.int j) = M.opt (mulI i j) := rfl
theorem possible_yes {x : D} {t : Tab} (h : Tb x t) (ok : Tok t) (p : Pos t) : Is (d_is_possible [x]) (.bl true) := by
  have := possible_T h ok
  have pi := pos_iff.mp p
  rw [decide_eq_true pi.1, decide_eq_true pi.2] at this
  exact this
theorem count_through_T {x : D} {t : Tab} (h : Tb x t) (ok : Tok t) (p : Pos t) {seen : List (List Int)} (hs : ∀ S ∈ seen, Set1 t S) (hl : seen.length ≤ 100) : Is (d_count_through [x, .lst (seenD seen)]) (.int (thr t (allS t seen) [] 1 : Nat)) := by
  refine Is.of_T fun g hg => runD_T ?_
  unfold b_count_through
  have hS : ∀ S ∈ allS t seen, Set1 t S.1 := by
    intro S hS
    rcases List.mem_append.mp hS with hS | hS
    · obtain ⟨S', h', rfl⟩ := List.mem_map.mp hS; exact hs _ h'
    · simp at hS; subst hS; exact Set1.taken t
  have sl : (seenD seen).length = seen.length := by simp [seenD]
  simp -implicitDefEqProofs [startD, (possible_yes h ok p).T hg, taken_T h ok.len, sl, allS_enc]
  refine ⟨by omega, ?_⟩
  refine forM_T (fun i σ g' => (∃ x4 x5, ∃ B f, ∃ y, σ = [some (.sh x), some (.sh (.lst (seenD seen))), some (.sh y), some (.sh (.int (f : Nat))), x4, x5] ∧ Sq y B ∧ B.length ≤ 12 ∧ thr t ((allS t seen).drop i) B f = thr t (allS t seen) [] 1) ∧ g' = g) (n := 0) ?_ ⟨⟨_, _, [], 1, .lst [], rfl, .inr rfl, by simp, rfl⟩, rfl⟩ ?_
  · rintro i d σ g' e ⟨⟨x4, x5, B, f, y, rfl, hy, hB, ht⟩, rfl⟩
    rw [List.getElem?_map] at e
    obtain ⟨S, eS, rfl⟩ := Option.map_eq_some_iff.mp e
    have h1 := hS S (List.mem_of_getElem? eS)
    have l1 := h1.len ok
    have sq := encS_sq S
    rw [Nat.zero_add, thr_drop t eS] at ht
    generalize encS S = z at sq
    have it : itD y = M.pure (B.map .int) := by rcases hy with rfl | rfl <;> rfl
    have it2 : itD z = M.pure (S.1.map .int) := by rcases sq with rfl | rfl <;> rfl
    have kin : ∀ c, kIn (.int c) z = M.pure (.bl (S.1.contains c)) := by intro c; rcases sq with rfl | rfl <;> simp
    have nin : ∀ c, kNotIn (.int c) y = M.pure (.bl (!B.contains c)) := by intro c; rcases hy with rfl | rfl <;> simp
    have k1 : compM (gN 5) tYesD (eBin kIn (eVar 5) (eVar 4)) [some (.sh x), some (.sh (.lst (seenD seen))), some (.sh y), some (.sh (.int (f : Nat))), some (.sh z), none] (B.map .int) = M.pure ((B.map fun c => S.1.contains c).map .bl) := by
      rw [compM_all (f := fun c => .bl (S.1.contains c)) fun c hc => ⟨_, rfl, rfl, by simp [kin]⟩, List.map_map]; rfl
    have k2 : compM (gN 5) (eTst (eBin kNotIn (eVar 5) (eVar 2))) (eVar 5) [some (.sh x), some (.sh (.lst (seenD seen))), some (.sh y), some (.sh (.int (f : Nat))), some (.sh z), none] (S.1.map .int) = M.pure ((dif S.1 B).map .int) :=
      compM_pure (p := fun c => !B.contains c) (f := .int) fun c hc => ⟨_, rfl, by simp [nin], fun _ => rfl⟩
    have cl := closed_T h ok sq h1.2 l1
    have d1 := h1.dif B
    have cc := count_of_T h ok (y := .lst ((dif S.1 B).map .int)) (.inr rfl) d1.1 (fun c hc => mem_taken.mp (d1.2 c hc)) (d1.len ok)
    have fa : ((B.map fun c => S.1.contains c).all id) = B.all fun c => S.1.contains c := by rw [List.all_map]; rfl
    have fl : (B.map fun c => S.1.contains c).length = B.length := by simp
    generalize (B.map fun c => S.1.contains c) = F at *
    have lb : LE (nd t) (dif S.1 B) ≤ 479001600 := Nat.le_trans (LE_le d1.nodup (n := 12) (d1.len ok)) (by decide +kernel)
    simp -implicitDefEqProofs [it, it2, k1, cl, -List.map_map, fa]
    refine ⟨by omega, ?_⟩
    by_cases hb : (B.all fun c => S.1.contains c) = true
    · have hb' : ∀ c ∈ B, c ∈ S.1 := fun c hc => by simpa using List.all_eq_true.mp hb c hc
      refine ⟨fun c hc hn => absurd (hb' c hc) hn, fun _ => ⟨fun hc => ?_, fun hc => ⟨by omega, ?_⟩⟩⟩
      · rw [if_neg (by simp [hc])] at ht; rw [← ht]; rfl
      · rw [if_pos (by rw [hb, hc]; rfl)] at ht
        rw [k2, T_pure, cc.T hg, kMulI_int]
        simp -implicitDefEqProofs
        exact ⟨.inr ⟨by omega, by omega⟩, _, _, S.1, f * LE (nd t) (dif S.1 B), by simp, rfl, rfl, sq, l1, ht⟩
    · refine ⟨fun c hc hn => ?_, fun hh => absurd (List.all_eq_true.mpr fun c hc => by simpa using hh c hc) hb⟩
      rw [if_neg (fun e => hb (Bool.and_eq_true_iff.mp e).1)] at ht
      rw [← ht]; rfl
  · rintro σ g' ⟨⟨x4, x5, B, f, y, rfl, hy, hB, ht⟩, rfl⟩
    rw [List.length_map, Nat.zero_add, List.drop_eq_nil_of_le (Nat.le_refl _)] at ht
    rw [← ht]
    simp -implicitDefEqProofs [thr]
/-! ## the first order through sets -/
def rdyIn (t : Tab) (P S : List Int) : List Int := (readyI t P).filter fun c => S.contains c
def stg (t : Tab) (S : List Int) : Nat → List Int → List Int
  | 0, P => P
  | n + 1, P => match rdyIn t P S with
    | [] => P
    | c :: _ => stg t S n (P ++ [c])
theorem rdyIn_ne {t : Tab} (p : Pos t) {P S : List Int} (gp : Good t P) (hS : Set1 t S) (cl : clB t S = true) (sub : ∀ c ∈ P, c ∈ S) (hl : P.length < S.length) : rdyIn t P S ≠ [] := by
  have hne : S.filter (fun c => !P.contains c) ≠ [] := by
    intro e
    have := sub_len hS.nodup (m := P) fun c hc => by
      apply Classical.byContradiction
      intro hn
      have : c ∈ S.filter fun c => !P.contains c := List.mem_filter.mpr ⟨hc, by simpa using hn⟩
      rw [e] at this; cases this
    omega
  obtain ⟨c, hc, okc⟩ := some_ready (nd_irr t) (nd_iv t) (nd_os t) hne (p.2.sub fun x hx => hS.2 x (List.mem_filter.mp hx).1)
  have hc' := List.mem_filter.mp hc
  have : c ∈ rdyIn t P S := by
    unfold rdyIn
    refine List.mem_filter.mpr ⟨mem_ready.mpr ⟨hS.2 c hc'.1, by simpa using hc'.2, fun d n => ?_⟩, by simpa using hc'.1⟩
    apply Classical.byContradiction
    intro hd
    have := okF_iff.mp okc d (List.mem_filter.mpr ⟨clB_iff.mp cl c hc'.1 d n, by simpa using hd⟩)
    rw [n] at this; cases this
  intro e; rw [e] at this; cases this
theorem stg_spec {t : Tab} (p : Pos t) {S : List Int} (hS : Set1 t S) (cl : clB t S = true) : ∀ {n : Nat} {P : List Int}, Good t P → (∀ c ∈ P, c ∈ S) → P.length + n = S.length →
    Good t (stg t S n P) ∧ (stg t S n P).Perm S ∧ (stg t S n P).take P.length = P
  | 0, P, gp, sub, hn => by
    unfold stg
    exact ⟨gp, perm_of gp.nodup hS.nodup sub (by omega), List.take_length⟩
  | n + 1, P, gp, sub, hn => by
    have ne := rdyIn_ne p gp hS cl sub (by omega)
    unfold stg
    cases hr : rdyIn t P S with
    | nil => exact absurd hr ne
    | cons c r =>
      have hc : c ∈ rdyIn t P S := by rw [hr]; exact List.mem_cons_self
      have hc' := List.mem_filter.mp hc
      obtain ⟨h1, h2, h3⟩ := stg_spec p hS cl (n := n) (gp.snoc hc'.1) (fun x hx => by
        rcases List.mem_append.mp hx with hx | hx
        · exact sub x hx
        · rw [List.mem_singleton.mp hx]; simpa using hc'.2) (by simp; omega)
      refine ⟨h1, h2, ?_⟩
      have := congrArg (List.take P.length) h3
      rw [List.take_take, Nat.min_eq_left (by simp)] at this
      simpa using this
theorem stage_T {x y z : D} {t : Tab} (h : Tb x t) (ok : Tok t) (p : Pos t) {P S : List Int} (hy : Sq y P) (hz : Sq z S) (gp : Good t P) (hS : Set1 t S) (cl : clB t S = true) (sub : ∀ c ∈ P, c ∈ S) : Is (d_stage_order [x, y, z]) (.lst ((stg t S (S.length - P.length) P).map .int)) := by
  refine Is.of_T fun g hg => runD_T ?_
  unfold b_stage_order
  have kl : kList [y] = M.pure (.lst (P.map .int)) := by rcases hy with rfl | rfl <;> rfl
  have kz : kLen [z] = M.pure (.int (S.length : Int)) := by rcases hz with rfl | rfl <;> simp
  have kin : ∀ c, kIn (.int c) z = M.pure (.bl (S.contains c)) := by intro c; rcases hz with rfl | rfl <;> simp
  have sl := hS.len ok
  have pl := sub_len gp.nodup sub
  generalize hfin : stg t S (S.length - P.length) P = fin
  simp -implicitDefEqProofs [startD, kl]
  refine whileM_T (fun n σ g' => (∃ x4, ∃ R : List Int, σ = [some (.sh x), some (.sh y), some (.sh z), some (.ow (.lst (R.map .int))), x4] ∧ Good t R ∧ (∀ c ∈ R, c ∈ S) ∧ R.length + n = S.length ∧ stg t S n R = fin) ∧ g' = g) ?_ (k := S.length - P.length) ⟨⟨_, P, rfl, gp, sub, by omega, hfin⟩, rfl⟩ (by omega)
  rintro n σ g' ⟨⟨x4, R, rfl, gr, sr, hn, hf⟩, rfl⟩
  simp -implicitDefEqProofs [kz, hg]
  refine ⟨fun hlt => ?_, fun hge => ?_⟩
  · obtain ⟨n', rfl⟩ : ∃ n', n = n' + 1 := ⟨n - 1, by omega⟩
    refine ⟨n', rfl, ?_⟩
    have ne := rdyIn_ne p gr hS cl sr (by omega)
    have e1 : ∀ x4, compM (gN 4) (eTst (eBin kIn (eVar 4) (eVar 2))) (eVar 4) [some (.sh x), some (.sh y), some (.sh z), some (.sh (.lst (R.map .int))), x4] ((readyI t R).map .int) = M.pure ((rdyIn t R S).map .int) := fun x4 =>
      compM_pure (p := fun c => S.contains c) (f := .int) fun c hc => ⟨_, rfl, by simp [kin], fun _ => rfl⟩
    unfold stg at hf
    cases hr : rdyIn t R S with
    | nil => exact absurd hr ne
    | cons c r =>
      rw [hr] at hf e1
      have hc : c ∈ rdyIn t R S := by rw [hr]; exact List.mem_cons_self
      have hc' := List.mem_filter.mp hc
      have rl : (readyI t R).length ≤ 12 := Nat.le_trans (List.length_filter_le _ _) (Nat.le_trans (List.length_filter_le _ _) (tl_le ok))
      simp -implicitDefEqProofs [ready_T h ok (y := .lst (R.map .int)) (.inr rfl), e1, hg]
      have sr' : ∀ d ∈ R ++ [c], d ∈ S := fun d hd => by
        rcases List.mem_append.mp hd with hd | hd
        · exact sr d hd
        · rw [List.mem_singleton.mp hd]; simpa using hc'.2
      exact ⟨by omega, by omega, _, R ++ [c], by simp, rfl, gr.snoc hc'.1, sr', by simp; omega, hf⟩
  · have : n = 0 := by omega
    subst this
    rw [← hf]
    simp -implicitDefEqProofs [stg]
end NS
namespace NS
open PySem PySem.Spec PyProof.Rows L2
/-- sets one in another, each closed -/
structure Chn (t : Tab) (seen : List (List Int)) : Prop where
  set : ∀ S ∈ seen, Set1 t S
  cl : ∀ S ∈ seen, clB t S = true
  sub : seen.Pairwise fun A B => ∀ c ∈ A, c ∈ B
theorem Chn.take {t : Tab} {seen : List (List Int)} (h : Chn t seen) (n : Nat) : Chn t (seen.take n) :=
  ⟨fun S hS => h.set S (List.mem_of_mem_take hS), fun S hS => h.cl S (List.mem_of_mem_take hS), h.sub.sublist (List.take_sublist _ _)⟩
theorem cl_taken {t : Tab} (ng : Ngap t) : clB t (takenI t) = true := clB_iff.mpr fun c hc d n => mem_taken.mpr (ng c d n)
/-- .. with the taken cells at the end -/
theorem Chn.all {t : Tab} {seen : List (List Int)} (h : Chn t seen) (ng : Ngap t) : Chn t ((allS t seen).map Prod.fst) := by
  have e : (allS t seen).map Prod.fst = seen ++ [takenI t] := by
    unfold allS; rw [List.map_append, List.map_map]; simp [Function.comp_def]
  rw [e]
  refine ⟨fun S hS => ?_, fun S hS => ?_, List.pairwise_append.mpr ⟨h.sub, by simp, fun A hA B hB c hc => ?_⟩⟩
  · rcases List.mem_append.mp hS with hS | hS
    · exact h.set S hS
    · rw [List.mem_singleton.mp hS]; exact Set1.taken t
  · rcases List.mem_append.mp hS with hS | hS
    · exact h.cl S hS
    · rw [List.mem_singleton.mp hS]; exact cl_taken ng
  · rw [List.mem_singleton.mp hB]; exact (h.set A hA).2 c hc
theorem LE_pos' {t : Tab} (p : Pos t) {S : List Int} (h : Set1 t S) : 0 < LE (nd t) S :=
  LE_pos (nd_irr t) (nd_iv t) (nd_os t) h.nodup (p.2.sub h.2)
theorem thr_pos {t : Tab} (p : Pos t) : ∀ {L : List (List Int × Bool)} {B : List Int} {f : Nat}, 0 < f → Chn t (L.map Prod.fst) → (∀ S ∈ L, ∀ c ∈ B, c ∈ S.1) → 0 < thr t L B f
  | [], B, f, hf, _, _ => hf
  | S :: r, B, f, hf, h, hb => by
    unfold thr
    have h1 : (B.all fun c => S.1.contains c) = true := List.all_eq_true.mpr fun c hc => by simpa using hb S List.mem_cons_self c hc
    rw [if_pos (by rw [h1, h.cl S.1 (by simp)]; rfl)]
    have hp := List.pairwise_cons.mp h.sub
    refine thr_pos p (Nat.mul_pos hf (LE_pos' p ((h.set S.1 (by simp)).dif B))) ⟨fun S' hS => h.set S' (by simp at hS ⊢; exact .inr hS), fun S' hS => h.cl S' (by simp at hS ⊢; exact .inr hS), hp.2⟩ fun S' hS c hc => hp.1 S'.1 (List.mem_map.mpr ⟨S', hS, rfl⟩) c hc
def ftL (t : Tab) : List (List Int × Bool) → List Int → List Int
  | [], P => P
  | S :: r, P => ftL t r (stg t S.1 (S.1.length - P.length) P)
theorem ftL_spec {t : Tab} (p : Pos t) : ∀ {L : List (List Int × Bool)} {P : List Int}, Good t P → Chn t (L.map Prod.fst) → (∀ S ∈ L, ∀ c ∈ P, c ∈ S.1) → Good t (ftL t L P) ∧ (∀ S ∈ L, ((ftL t L P).take S.1.length).Perm S.1) ∧ (ftL t L P).take P.length = P
  | [], P, gp, _, _ => ⟨gp, fun _ h => (nomatch h), List.take_length⟩
  | S :: r, P, gp, h, hb => by
    have hS := h.set S.1 (by simp)
    have hsub := hb S List.mem_cons_self
    have hl := sub_len gp.nodup hsub
    obtain ⟨g1, p1, t1⟩ := stg_spec p hS (h.cl S.1 (by simp)) (n := S.1.length - P.length) gp hsub (by omega)
    have hp := List.pairwise_cons.mp h.sub
    have ih := ftL_spec p (L := r) g1 ⟨fun S' hS => h.set S' (by simp at hS ⊢; exact .inr hS), fun S' hS => h.cl S' (by simp at hS ⊢; exact .inr hS), hp.2⟩ fun S' hS c hc => hp.1 S'.1 (List.mem_map.mpr ⟨S', hS, rfl⟩) c (p1.mem_iff.mp hc)
    unfold ftL
    generalize stg t S.1 (S.1.length - P.length) P = P' at *
    obtain ⟨a, b, c⟩ := ih
    have pl := p1.length_eq
    refine ⟨a, fun S' hS' => ?_, ?_⟩
    · rcases List.mem_cons.mp hS' with rfl | hS'
      · rw [← pl, c]; exact p1
      · exact b S' hS'
    · have := congrArg (List.take P.length) c
      rw [List.take_take, Nat.min_eq_left (by omega), t1] at this
      exact this
def ftI (t : Tab) (seen : List (List Int)) : List Int := ftL t (allS t seen) []
theorem ftI_spec {t : Tab} (p : Pos t) {seen : List (List Int)} (h : Chn t seen) : Good t (ftI t seen) ∧ (ftI t seen).length = (takenI t).length ∧ ∀ S ∈ seen, ((ftI t seen).take S.length).Perm S := by
  obtain ⟨a, b, c⟩ := ftL_spec p (Good.nil t) (h.all p.1) (by simp)
  refine ⟨a, ?_, fun S hS => b (S, false) (List.mem_append_left _ (List.mem_map.mpr ⟨S, hS, rfl⟩))⟩
  have := (b (takenI t, true) (List.mem_append_right _ (by simp))).length_eq
  have l2 := a.len
  simp at this
  unfold ftI
  omega
theorem ftL_drop (t : Tab) {L : List (List Int × Bool)} {i : Nat} {S : List Int × Bool} (h : L[i]? = some S) (P : List Int) : ftL t (L.drop i) P = ftL t (L.drop (i + 1)) (stg t S.1 (S.1.length - P.length) P) := by
  obtain ⟨hn, e⟩ := List.getElem?_eq_some_iff.mp h
  rw [List.drop_eq_getElem_cons hn, e]; rfl
theorem first_through_T {x : D} {t : Tab} (h : Tb x t) (ok : Tok t) (p : Pos t) {seen : List (List Int)} (hs : Chn t seen) (hl : seen.length ≤ 100) : Is (d_first_through [x, .lst (seenD seen)]) (.tup ((ftI t seen).map .int)) := by
  refine Is.of_T fun g hg => runD_T ?_
  unfold b_first_through
  have sl : (seenD seen).length = seen.length := by simp [seenD]
  simp -implicitDefEqProofs [startD, (possible_yes h ok p).T hg, sl]
  refine ⟨by omega, ?_⟩
  refine forM_T (fun i σ g' => (∃ x2, σ = [some (.sh x), some (.sh (.lst (seenD seen))), x2, none, none]) ∧ g' = g) (n := 0) ?_ ⟨⟨_, rfl⟩, rfl⟩ ?_
  · rintro i d σ g' e ⟨⟨x2, rfl⟩, rfl⟩
    obtain ⟨rfl, hi⟩ := rngD_get e
    have c1 := cutD_take (seenD seen) ((0 : Int) + i + 1) (by omega)
    rw [show ((0 : Int) + i + 1).toNat = i + 1 by omega, show (seenD seen).take (i + 1) = seenD (seen.take (i + 1)) by unfold seenD; rw [List.map_take]] at c1
    have hc := hs.take (i + 1)
    have ct := count_through_T h ok p hc.set (by simp; omega)
    have cp := thr_pos p (f := 1) (B := []) (by decide) (hc.all p.1) (by simp)
    generalize thr t (allS t (seen.take (i + 1))) [] 1 = K at *
    simp -implicitDefEqProofs at c1
    simp -implicitDefEqProofs [c1, ct.T hg]
    omega
  · rintro σ g' ⟨⟨x2, rfl⟩, rfl⟩
    simp -implicitDefEqProofs [taken_T h ok.len, sl, allS_enc]
    refine ⟨by omega, ?_⟩
    have ch := hs.all p.1
    refine forM_T (fun i σ g2 => (∃ x2 x4, ∃ P y, σ = [some (.sh x), some (.sh (.lst (seenD seen))), x2, some (.sh y), x4] ∧ Sq y P ∧ Good t P ∧ (∀ S ∈ (allS t seen).drop i, ∀ c ∈ P, c ∈ S.1) ∧ ftL t ((allS t seen).drop i) P = ftI t seen) ∧ g2 = g') (n := 0) ?_ ⟨⟨_, _, [], .lst [], rfl, .inr rfl, Good.nil t, by simp, rfl⟩, rfl⟩ ?_
    · rintro i d σ g2 e ⟨⟨x2, x4, P, y, rfl, hy, gp, hb, hf⟩, rfl⟩
      rw [List.getElem?_map] at e
      obtain ⟨S, eS, rfl⟩ := Option.map_eq_some_iff.mp e
      rw [Nat.zero_add] at hb hf
      have hi := (List.getElem?_eq_some_iff.mp eS).1
      have ed : (allS t seen).drop i = S :: (allS t seen).drop (i + 1) := by
        obtain ⟨hn, e⟩ := List.getElem?_eq_some_iff.mp eS
        rw [List.drop_eq_getElem_cons hn, e]
      have mS : S.1 ∈ (allS t seen).map Prod.fst := List.mem_map.mpr ⟨S, List.mem_of_getElem? eS, rfl⟩
      have hsub := hb S (by rw [ed]; exact List.mem_cons_self)
      have st := stage_T h ok p hy (encS_sq S) gp (ch.set _ mS) (ch.cl _ mS) hsub
      have hl := sub_len gp.nodup hsub
      obtain ⟨g1, p1, t1⟩ := stg_spec p (ch.set _ mS) (ch.cl _ mS) (n := S.1.length - P.length) gp hsub (by omega)
      rw [ftL_drop t eS] at hf
      have hsb : ∀ S' ∈ (allS t seen).drop (i + 1), ∀ c ∈ S.1, c ∈ S'.1 := by
        intro S' hS' c hc
        have pw := ch.sub.sublist ((List.drop_sublist i (allS t seen)).map Prod.fst)
        rw [ed, List.map_cons] at pw
        exact (List.pairwise_cons.mp pw).1 _ (List.mem_map.mpr ⟨S', hS', rfl⟩) c hc
      generalize stg t S.1 (S.1.length - P.length) P = P' at *
      simp -implicitDefEqProofs [st.T hg]
      exact ⟨P', .inr rfl, g1, fun a => ⟨fun h c hc => hsb (a, false) h c (p1.mem_iff.mp hc), fun h c hc => hsb (a, true) h c (p1.mem_iff.mp hc)⟩, hf⟩
    · rintro σ g2 ⟨⟨x2, x4, P, y, rfl, hy, gp, hb, hf⟩, rfl⟩
      rw [List.length_map, Nat.zero_add, List.drop_eq_nil_of_le (Nat.le_refl _)] at hf
      unfold ftL at hf
      have kt : kTuple [y] = M.pure (.tup (P.map .int)) := by rcases hy with rfl | rfl <;> rfl
      simp -implicitDefEqProofs [kt, hf]
theorem Good.take {t : Tab} {P : List Int} (h : Good t P) (n : Nat) : Good t (P.take n) :=
  ⟨h.nodup.sublist (List.take_sublist _ _), fun c hc => h.sub c (List.mem_of_mem_take hc), fun k c e d n' => by
    have hk := (List.getElem?_eq_some_iff.mp e).1
    simp at hk
    rw [List.getElem?_take_of_lt (by omega)] at e
    have := h.ag k c e d n'
    rw [List.take_take, Nat.min_eq_left (by omega)]; exact this⟩
theorem Good.next {t : Tab} {P : List Int} (h : Good t P) {i : Nat} {c : Int} (e : P[i]? = some c) : c ∈ readyI t (P.take i) := by
  have h2 := h.take (i + 1)
  rw [List.take_add_one, e] at h2
  exact h2.pre.2
theorem count_after_T {x : D} {t : Tab} (h : Tb x t) (ok : Tok t) (ng : Ngap t) {P : List Int} (gp : Good t P) : Is (d_count_after [x, .tup (P.map .int)]) (.int (cI t P : Nat)) := by
  refine Is.of_T fun g hg => runD_T ?_
  unfold b_count_after
  have tl := tl_le ok
  simp -implicitDefEqProofs [startD]
  refine forM_T (fun i σ g' => (∃ x2 x3, σ = [some (.sh x), some (.sh (.tup (P.map .int))), x2, x3]) ∧ g' = g) (n := 0) ?_ ⟨⟨_, _, rfl⟩, rfl⟩ ?_
  · rintro i d σ g' e ⟨⟨x2, x3, rfl⟩, rfl⟩
    have hi : i < P.length := by have := (List.getElem?_eq_some_iff.mp e).1; rw [enumD_len] at this; simpa using this
    rw [enumD_ints, List.getElem?_map, rI_get (by omega)] at e
    simp at e
    subst e
    have ec := gI_some (R := P) (k := i) (by omega) (by omega)
    simp only [Int.toNat_natCast] at ec
    have nx := gp.next ec
    have c1 := cutD_take (P.map .int) (i : Int) (by omega)
    rw [← List.map_take, Int.toNat_natCast] at c1
    have rt := ready_T h ok (y := .tup ((P.take i).map .int)) (.inl rfl)
    have ni := kNotIn_lst_ints (gI P i) (readyI t (P.take i))
    rw [List.contains_iff_mem.mpr nx] at ni
    simp -implicitDefEqProofs [c1, rt, ni, -List.map_take]
  · rintro σ g' ⟨⟨x2, x3, rfl⟩, rfl⟩
    have ge := ngap_iff.mpr ng
    have kn : kNe (.lst ((gapI t).map pr)) (.lst []) = M.pure (.bl false) := by rw [kNe_prs_nil (gap_lt ok), ge]; rfl
    have e1 : compM (gN 3) (eTst (eBin kNotIn (eVar 3) (eVar 1))) (eVar 3) [some (.sh x), some (.sh (.tup (P.map .int))), x2, none] ((takenI t).map .int) = M.pure ((restI t P).map .int) :=
      compM_pure (p := fun c => !P.contains c) (f := .int) fun c hc => ⟨_, rfl, by
        have := kNotIn_tup_ints c P
        simp -implicitDefEqProofs [this], fun _ => rfl⟩
    have cc := count_of_T h ok (y := .lst ((restI t P).map .int)) (.inr rfl) (rest_sorted t P) (fun c hc => mem_taken.mp (mem_rest.mp hc).1) (Nat.le_trans (List.length_filter_le _ _) tl)
    simp -implicitDefEqProofs [gaps_T h ok, kn, taken_T h ok.len, e1, cc.T hg, cI]
    omega
/-! ## fewer or more sets -/
theorem LE_mul {t : Tab} {A R : List Int} (hR : R.Nodup) (hA : A.Nodup) (sub : ∀ c ∈ A, c ∈ R) (cl : ∀ c ∈ A, ∀ d ∈ R, nd t c d = true → d ∈ A) : LE (nd t) A * LE (nd t) (dif R A) ≤ LE (nd t) R := by
  refine nodup_ind (P := fun A => ∀ R : List Int, R.Nodup → (∀ c ∈ A, c ∈ R) → (∀ c ∈ A, ∀ d ∈ R, nd t c d = true → d ∈ A) → LE (nd t) A * LE (nd t) (dif R A) ≤ LE (nd t) R) ?_ hA R hR sub cl
  intro A hA ih R hR sub cl
  by_cases e : A = []
  · subst e
    have : dif R [] = R := List.filter_eq_self.mpr (by simp)
    rw [this]; simp [LE]
  have eR : R ≠ [] := by
    intro e2
    cases A with
    | nil => exact e rfl
    | cons a A => have := sub a List.mem_cons_self; rw [e2] at this; cases this
  rw [LE_first hA e, LE_first hR eR, ← sg_mul']
  -- the sum over A is one over a part of R
  have h1 : (sg A fun c => (if okF (nd t) A c = true then LE (nd t) (rm c A) else 0) * LE (nd t) (dif R A)) ≤ sg A fun c => if okF (nd t) R c = true then LE (nd t) (rm c R) else 0 := by
    refine sg_le fun c hc => ?_
    by_cases hk : okF (nd t) A c = true
    · have hk2 : okF (nd t) R c = true := okF_iff.mpr fun d hd => by
        cases n : nd t c d
        · rfl
        · have := okF_iff.mp hk d (cl c hc d hd n)
          rw [n] at this; cases this
      rw [if_pos hk, if_pos hk2]
      have ed : dif (rm c R) (rm c A) = dif R A := by
        unfold dif rm
        rw [List.filter_filter]
        refine List.filter_congr fun d hd => bool_iff ?_
        simp only [Bool.and_eq_true, Bool.not_eq_true', ← Bool.not_eq_true, List.contains_iff_mem, List.mem_filter, bne_iff_ne, ne_eq, not_and, Decidable.not_not]
        constructor
        · rintro ⟨a, b⟩ hd2; exact b (a hd2)
        · intro a
          exact ⟨fun hd2 => absurd hd2 a, fun e => a (by rw [e]; exact hc)⟩
      have := ih c hc (rm c R) (rm_nodup hR) (fun d hd => mem_rm.mpr ⟨sub d (rm_sub _ _ _ hd), (mem_rm.mp hd).2⟩) (fun a ha d hd n => mem_rm.mpr ⟨cl a (rm_sub _ _ _ ha) d (rm_sub _ _ _ hd) n, (mem_rm.mp hd).2⟩)
      rw [ed] at this; exact this
    · rw [if_neg hk]; simp
  refine Nat.le_trans h1 ?_
  have h2 : ∀ (A R : List Int) (f : Int → Nat), A.Nodup → R.Nodup → (∀ c ∈ A, c ∈ R) → sg A f ≤ sg R f := by
    intro A R f hA hR sub
    induction A generalizing R with
    | nil => simp
    | cons a A ih =>
      have h3 := List.nodup_cons.mp hA
      have ha := sub a List.mem_cons_self
      have := ih (rm a R) h3.2 (rm_nodup hR) fun c hc => mem_rm.mpr ⟨sub c (List.mem_cons_of_mem _ hc), fun e => by subst e; exact h3.1 hc⟩
      have e4 : sg R f = f a + sg (rm a R) f := by
        clear this ih sub hA h3
        induction R with
        | nil => cases ha
        | cons b R ih2 =>
          have h5 := List.nodup_cons.mp hR
          by_cases eb : b = a
          · subst eb
            have : rm b (b :: R) = R := by simp [rm, List.filter_cons]; exact fun c hc => by rintro rfl; exact h5.1 hc
            rw [this]; simp
          · have ha' : a ∈ R := by rcases List.mem_cons.mp ha with rfl | h; exact absurd rfl eb; exact h
            have : rm a (b :: R) = b :: rm a R := by simp [rm, List.filter_cons, eb]
            rw [this, sg_cons, sg_cons, ih2 h5.2 ha']; omega
      rw [sg_cons, e4]; omega
  exact h2 A R _ hA hR sub
end NS
namespace NS
open PySem PySem.Spec PyProof.Rows L2
/-! ## the sets on an order's way -/
theorem sortI_strict {l : List Int} (h : l.Nodup) : (sortI l).Pairwise (· < ·) := by
  have p := sortI_perm l
  have hn : (sortI l).Nodup := p.nodup_iff.mpr h
  have hs := sortI_sorted l
  exact (hs.and (List.nodup_iff_pairwise_ne.mp hn)).imp fun ⟨a, b⟩ => by omega
def wayS (σ : List Int) (k : Nat) : List Int := sortI (σ.take k)
theorem mem_way {σ : List Int} {k : Nat} {c : Int} : c ∈ wayS σ k ↔ c ∈ σ.take k := (sortI_perm _).mem_iff
theorem way_len {σ : List Int} {k : Nat} (h : k ≤ σ.length) : (wayS σ k).length = k := by
  unfold wayS; rw [(sortI_perm _).length_eq]; simp; omega
theorem way_set {t : Tab} {σ : List Int} (g : Good t σ) (k : Nat) : Set1 t (wayS σ k) :=
  ⟨sortI_strict (g.nodup.sublist (List.take_sublist _ _)), fun c hc => g.sub c (List.mem_of_mem_take (mem_way.mp hc))⟩
theorem way_cl {t : Tab} {σ : List Int} (g : Good t σ) (k : Nat) : clB t (wayS σ k) = true := clB_iff.mpr fun c hc d n => by
  obtain ⟨j, hj⟩ := List.getElem?_of_mem (mem_way.mp hc)
  have := (g.take k).ag j c hj d n
  exact mem_way.mpr (List.mem_of_mem_take this)
theorem take_mono {σ : List Int} {i j : Nat} (h : i ≤ j) {c : Int} (hc : c ∈ σ.take i) : c ∈ σ.take j := by
  have : σ.take i = (σ.take j).take i := by rw [List.take_take, Nat.min_eq_left h]
  rw [this] at hc; exact List.mem_of_mem_take hc
theorem way_chn {t : Tab} {σ : List Int} (g : Good t σ) {ks : List Nat} (h : ks.Pairwise (· ≤ ·)) : Chn t (ks.map (wayS σ)) := by
  refine ⟨fun S hS => ?_, fun S hS => ?_, ?_⟩
  · obtain ⟨k, _, rfl⟩ := List.mem_map.mp hS; exact way_set g k
  · obtain ⟨k, _, rfl⟩ := List.mem_map.mp hS; exact way_cl g k
  · rw [List.pairwise_map]
    exact h.imp fun hij c hc => mem_way.mpr (take_mono hij (mem_way.mp hc))
theorem take_perm_eq {σ τ : List Int} (hl : τ.length = σ.length) (h : ∀ k, k ≤ σ.length → (τ.take k).Perm (σ.take k)) : τ = σ := by
  apply List.ext_getElem?
  intro k
  by_cases hk : k < σ.length
  · have h1 := h k (by omega)
    have h2 := h (k + 1) (by omega)
    have e1 : τ[k]? = some τ[k] := by simp
    have e2 : σ[k]? = some σ[k] := by simp
    rw [List.take_add_one, List.take_add_one, e1, e2] at h2
    have h3 := (List.perm_append_left_iff (σ.take k)).mp ((h1.symm.append_right [τ[k]]).trans h2)
    rw [e1, e2]
    have := List.perm_singleton.mp h3
    simp at this
    rw [this]
  · rw [List.getElem?_eq_none (by omega), List.getElem?_eq_none (by omega)]
theorem LE_small {t : Tab} {l : List Int} (hn : l.Nodup) (h : l.length ≤ 1) : LE (nd t) l = 1 := by
  match l, h with
  | [], _ => rfl
  | [c], _ =>
    have e : rm c [c] = [] := by simp [rm]
    have k : okF (nd t) [c] c = true := okF_iff.mpr fun d hd => by rw [List.mem_singleton.mp hd]; exact nd_irr t c
    rw [LE_first hn (by simp)]
    simp [k, e, LE]
/-- at most one object more at each step -/
def Ones (t : Tab) : List (List Int × Bool) → List Int → Prop
  | [], _ => True
  | S :: r, B => (∀ c ∈ B, c ∈ S.1) ∧ clB t S.1 = true ∧ (dif S.1 B).Nodup ∧ (dif S.1 B).length ≤ 1 ∧ Ones t r S.1
theorem thr_ones {t : Tab} : ∀ {L : List (List Int × Bool)} {B : List Int} {f : Nat}, Ones t L B → thr t L B f = f
  | [], _, _, _ => rfl
  | S :: r, B, f, ⟨h1, h2, h3, h4, h5⟩ => by
    have : (B.all fun c => S.1.contains c) = true := List.all_eq_true.mpr fun c hc => by simpa using h1 c hc
    unfold thr
    rw [if_pos (by rw [this, h2]; rfl), LE_small h3 h4, Nat.mul_one]
    exact thr_ones h5
theorem all_eq_len {l : List Int} (hn : l.Nodup) {x : Int} (h : ∀ c ∈ l, c = x) : l.length ≤ 1 := by
  match l, hn, h with
  | [], _, _ => simp
  | [c], _, _ => simp
  | a :: b :: r, hn, h =>
    have h1 := h a (by simp)
    have h2 := h b (by simp)
    have := (List.nodup_cons.mp hn).1
    exact absurd (by rw [h1, ← h2]; simp) this
theorem ones_from {t : Tab} {σ : List Int} (g : Good t σ) (ng : Ngap t) (full : σ.length = (takenI t).length) : ∀ (m a : Nat) (B : List Int), a + m = σ.length + 1 → (∀ c, c ∈ B ↔ c ∈ σ.take (a - 1)) → (m = 0 → a = σ.length + 1) → Ones t ((((List.range m).map fun k => wayS σ (a + k)).map fun S => (S, false)) ++ [(takenI t, true)]) B := by
  have hperm := perm_of g.nodup (taken_nodup t) g.sub (by omega)
  intro m
  induction m with
  | zero =>
    intro a B ha hB h0
    have ha := h0 rfl
    subst ha
    refine ⟨fun c hc => g.sub c (List.mem_of_mem_take ((hB c).mp hc)), cl_taken ng, (taken_nodup t).filter _, ?_, trivial⟩
    have : dif (takenI t) B = [] := List.filter_eq_nil_iff.mpr fun c hc => by
      have : c ∈ σ := hperm.mem_iff.mpr hc
      have : c ∈ B := (hB c).mpr (by rw [show σ.length + 1 - 1 = σ.length by omega, List.take_length]; exact this)
      simp [this]
    rw [this]; simp
  | succ m ih =>
    intro a B ha hB _
    rw [List.range_succ_eq_map, List.map_cons, List.map_cons, List.cons_append]
    refine ⟨fun c hc => mem_way.mpr (take_mono (by omega) ((hB c).mp hc)), way_cl g _, (way_set g _).nodup.filter _, ?_, ?_⟩
    · cases a with
      | zero =>
        have : dif (wayS σ (0 + 0)) B = [] := List.filter_eq_nil_iff.mpr fun c hc => by have := mem_way.mp hc; simp at this
        rw [this]; simp
      | succ a =>
        obtain ⟨x, ex⟩ : ∃ x, σ[a]? = some x := ⟨σ[a], by simp⟩
        refine all_eq_len (x := x) ((way_set g _).nodup.filter _) fun c hc => ?_
        obtain ⟨h1, h2⟩ := List.mem_filter.mp hc
        have h1 := mem_way.mp h1
        rw [Nat.add_zero, List.take_add_one, ex] at h1
        rcases List.mem_append.mp h1 with h1 | h1
        · have := (hB c).mpr h1
          simp [this] at h2
        · simpa using h1
    · have := ih (a + 1) (wayS σ (a + 0)) (by omega) (fun c => by rw [mem_way]; rfl) (by omega)
      rw [List.map_map] at this
      have e : (((fun S => ((S, false) : List Int × Bool)) ∘ fun k => wayS σ (a + k)) ∘ Nat.succ) = ((fun S => ((S, false) : List Int × Bool)) ∘ fun k => wayS σ (a + 1 + k)) := by
        funext k; simp only [Function.comp_apply]; rw [show a + Nat.succ k = a + 1 + k by omega]
      rw [List.map_map, List.map_map, e]
      exact this
def everyS (σ : List Int) : List (List Int) := (List.range (σ.length + 1)).map (wayS σ)
theorem thr_every {t : Tab} {σ : List Int} (g : Good t σ) (ng : Ngap t) (full : σ.length = (takenI t).length) : thr t (allS t (everyS σ)) [] 1 = 1 := by
  have := ones_from g ng full (σ.length + 1) 0 [] (by omega) (by simp) (by omega)
  refine thr_ones ?_
  unfold allS everyS
  have e : (fun k => wayS σ (0 + k)) = wayS σ := by funext k; rw [Nat.zero_add]
  rw [e] at this; exact this
theorem ft_every {t : Tab} {σ : List Int} (p : Pos t) (g : Good t σ) (full : σ.length = (takenI t).length) : ftI t (everyS σ) = σ := by
  obtain ⟨h1, h2, h3⟩ := ftI_spec p (seen := everyS σ) (way_chn g (List.pairwise_lt_range.imp fun h => by omega))
  refine take_perm_eq (by omega) fun k hk => ?_
  have := h3 (wayS σ k) (List.mem_map.mpr ⟨k, List.mem_range.mpr (by omega), rfl⟩)
  rw [way_len hk] at this
  exact this.trans (sortI_perm _)
/-- without sets -/
theorem stg_fo {t : Tab} : ∀ (n : Nat) (P : List Int), stg t (takenI t) n P = foN t n P
  | 0, _ => rfl
  | n + 1, P => by
    have e : rdyIn t P (takenI t) = readyI t P := List.filter_eq_self.mpr fun c hc => by simpa using (mem_ready.mp hc).1
    unfold stg foN
    rw [e]
    cases readyI t P with
    | nil => rfl
    | cons c r => exact stg_fo n _
theorem ft_none (t : Tab) : ftI t [] = foI t := stg_fo _ _
theorem at_zero {t : Tab} (p : Pos t) : ∀ {n : Nat} {P : List Int}, Good t P → P.length + n = (takenI t).length → atN t n P 0 = foN t n P
  | 0, _, _, _ => rfl
  | n + 1, P, gp, hn => by
    have ne := ready_ne p.1 p.2 gp (by omega)
    unfold atN foN
    cases hr : readyI t P with
    | nil => exact absurd hr ne
    | cons c r =>
      have gc := gp.snoc (c := c) (by rw [hr]; exact List.mem_cons_self)
      have pos : 0 < cI t (P ++ [c]) := LE_pos (nd_irr t) (nd_iv t) (nd_os t) (rest_nodup _ _) (p.2.sub fun x hx => (mem_rest.mp hx).1)
      have e : pick (fun c => cI t (P ++ [c])) (c :: r) 0 = (c, 0) := by unfold pick; rw [if_pos pos]
      rw [e]
      exact at_zero p gc (by simp; omega)
theorem at0 {t : Tab} (p : Pos t) : NS.atI t 0 = foI t := at_zero p (Good.nil t) (by simp)
theorem dif_nil (S : List Int) : dif S [] = S := List.filter_eq_self.mpr (by simp)
theorem thr_none {t : Tab} (ng : Ngap t) : thr t (allS t []) [] 1 = LE (nd t) (takenI t) := by
  show thr t [(takenI t, true)] [] 1 = _
  unfold thr
  rw [if_pos (by simp [cl_taken ng]), dif_nil, Nat.one_mul]; rfl
/-- one set more: not more orders -/
theorem thr_more {t : Tab} (ng : Ngap t) {S : List Int} (hS : Set1 t S) (cl : clB t S = true) : ∀ {L : List (List Int × Bool)} {B : List Int} {f : Nat}, (∀ c ∈ B, c ∈ S) → (∀ A ∈ L, ∀ c ∈ A.1, c ∈ S) → thr t (L ++ [(S, false), (takenI t, true)]) B f ≤ thr t (L ++ [(takenI t, true)]) B f
  | [], B, f, hB, _ => by
    have b1 : (B.all fun c => S.contains c) = true := List.all_eq_true.mpr fun c hc => by simpa using hB c hc
    have b2 : (B.all fun c => (takenI t).contains c) = true := List.all_eq_true.mpr fun c hc => by simpa using hS.2 c (hB c hc)
    have b3 : (S.all fun c => (takenI t).contains c) = true := List.all_eq_true.mpr fun c hc => by simpa using hS.2 c hc
    simp only [List.nil_append, thr, b1, b2, b3, cl, cl_taken ng, Bool.and_self, if_true]
    rw [Nat.mul_assoc]
    refine Nat.mul_le_mul_left f ?_
    have := LE_mul (t := t) (A := dif S B) (R := dif (takenI t) B) ((taken_nodup t).filter _) (hS.nodup.filter _) (fun c hc => by
      obtain ⟨h1, h2⟩ := List.mem_filter.mp hc
      exact List.mem_filter.mpr ⟨hS.2 c h1, h2⟩) (fun c hc d hd n => by
      obtain ⟨h1, h2⟩ := List.mem_filter.mp hc
      obtain ⟨h3, h4⟩ := List.mem_filter.mp hd
      exact List.mem_filter.mpr ⟨clB_iff.mp cl c h1 d n, h4⟩)
    have e : dif (dif (takenI t) B) (dif S B) = dif (takenI t) S := by
      unfold dif
      rw [List.filter_filter]
      refine List.filter_congr fun d hd => bool_iff ?_
      simp only [Bool.and_eq_true, Bool.not_eq_true', ← Bool.not_eq_true, List.contains_iff_mem, List.mem_filter, not_and, Decidable.not_not]
      constructor
      · rintro ⟨a, b⟩ h; exact b (a h)
      · intro h; exact ⟨fun h2 => absurd h2 h, fun h2 => h (hB d h2)⟩
    rw [e] at this; exact this
  | A :: L, B, f, hB, hL => by
    simp only [List.cons_append, thr]
    split
    · exact thr_more ng hS cl (hL A List.mem_cons_self) fun A' h => hL A' (List.mem_cons_of_mem _ h)
    · exact Nat.le_refl _
end NS
namespace NS
/-! ## two parts of a list -/
theorem sg_split {α : Type} (l : List α) (p : α → Bool) (f : α → Nat) : sg l f = sg (l.filter p) f + sg (l.filter fun a => !p a) f := by
  induction l with
  | nil => rfl
  | cons a l ih =>
    cases h : p a <;> simp [List.filter_cons, h, ih] <;> omega
theorem rm_filter_in {p : Int → Bool} {c : Int} (S : List Int) : (rm c S).filter p = rm c (S.filter p) := by
  unfold rm; rw [List.filter_filter, List.filter_filter]; congr 1; funext d; exact Bool.and_comm _ _
theorem rm_filter_out {p : Int → Bool} {c : Int} (S : List Int) (h : p c = false) : (rm c S).filter p = S.filter p := by
  rw [rm_filter_in]
  refine rm_not fun hc => ?_
  have := (List.mem_filter.mp hc).2
  rw [h] at this; cases this
/-- the two parts do not need one another -/
def Apart (ok : List Int → Int → Bool) (p : Int → Bool) (S : List Int) : Prop := ∀ S' : List Int, (∀ x ∈ S', x ∈ S) → ∀ c ∈ S', ok S' c = if p c = true then ok (S'.filter p) c else ok (S'.filter fun d => !p d) c
theorem Apart.rm {ok : List Int → Int → Bool} {p : Int → Bool} {S : List Int} (h : Apart ok p S) (c : Int) : Apart ok p (rm c S) := fun S' hs => h S' fun x hx => rm_sub _ _ _ (hs x hx)
theorem Apart.flip {ok : List Int → Int → Bool} {p : Int → Bool} {S : List Int} (h : Apart ok p S) : Apart ok (fun d => !p d) S := fun S' hs c hc => by
  rw [h S' hs c hc]
  cases e : p c <;> simp [e]
theorem len_split (p : Int → Bool) (S : List Int) : (S.filter p).length + (S.filter fun d => !p d).length = S.length := by
  induction S with
  | nil => rfl
  | cons a l ih => cases h : p a <;> simp [List.filter_cons, h] <;> omega
theorem ct_parts {ok : List Int → Int → Bool} {p : Int → Bool} {S : List Int} (hn : S.Nodup) (h : Apart ok p S) : ct ok S = ch S.length (S.filter p).length * (ct ok (S.filter p) * ct ok (S.filter fun d => !p d)) := by
  refine nodup_ind (P := fun S => Apart ok p S → ct ok S = ch S.length (S.filter p).length * (ct ok (S.filter p) * ct ok (S.filter fun d => !p d))) ?_ hn h
  intro S hn ih h
  by_cases eS : S = []
  · subst eS; simp
  have ls := len_split p S
  have h1 : ∀ c ∈ S.filter p, (if ok S c = true then ct ok (rm c S) else 0) = ch (S.length - 1) ((S.filter p).length - 1) * ((if ok (S.filter p) c = true then ct ok (rm c (S.filter p)) else 0) * ct ok (S.filter fun d => !p d)) := by
    intro c hc
    obtain ⟨c1, c2⟩ := List.mem_filter.mp hc
    rw [h S (fun _ h => h) c c1, if_pos c2]
    by_cases e : ok (S.filter p) c = true
    · rw [if_pos e, if_pos e, ih c c1 (h.rm c), rm_filter_in, rm_filter_out _ (show (!p c) = false by simp [c2])]
      have l1 := rm_len hn c1
      have l2 := rm_len (hn.filter p) hc
      rw [show (rm c S).length = S.length - 1 by omega, show (rm c (S.filter p)).length = (S.filter p).length - 1 by omega]
    · rw [if_neg e, if_neg e]; simp
  have h2 : ∀ c ∈ S.filter (fun d => !p d), (if ok S c = true then ct ok (rm c S) else 0) = ch (S.length - 1) (S.filter p).length * (ct ok (S.filter p) * (if ok (S.filter fun d => !p d) c = true then ct ok (rm c (S.filter fun d => !p d)) else 0)) := by
    intro c hc
    obtain ⟨c1, c2⟩ := List.mem_filter.mp hc
    have c3 : p c = false := by simpa using c2
    have hok : ok S c = ok (S.filter fun d => !p d) c := by rw [h S (fun _ h => h) c c1, c3]; rfl
    rw [hok]
    by_cases e : ok (S.filter fun d => !p d) c = true
    · rw [if_pos e, if_pos e, ih c c1 (h.rm c), rm_filter_out _ c3, rm_filter_in (p := fun d => !p d)]
      have l1 := rm_len hn c1
      rw [show (rm c S).length = S.length - 1 by omega]
    · rw [if_neg e, if_neg e]; simp
  rw [ct_step ok hn eS, sg_split S p, sg_congr h1, sg_congr h2, sg_mul, sg_mul', sg_mul, sg_mul]
  by_cases eA : S.filter p = []
  · rw [eA]
    simp only [sg_nil, ct_nil, List.length_nil, ch_zero, Nat.zero_mul, Nat.mul_zero, Nat.one_mul, Nat.zero_add]
    have : S.filter (fun d => !p d) ≠ [] := by intro e; rw [eA, e] at ls; cases S; exact eS rfl; simp at ls
    rw [ct_step ok (hn.filter _) this]
  by_cases eB : S.filter (fun d => !p d) = []
  · rw [eB]
    have l : (S.filter p).length = S.length := by rw [eB] at ls; simpa using ls
    simp only [sg_nil, ct_nil, Nat.mul_zero, Nat.mul_one, Nat.add_zero]
    rw [l, ch_self, ch_self, ← ct_step ok (hn.filter p) eA]
  rw [← ct_step ok (hn.filter p) eA, ← ct_step ok (hn.filter _) eB, ← Nat.add_mul]
  congr 1
  have a0 : 0 < (S.filter p).length := List.length_pos_iff.mpr eA
  have b0 : 0 < (S.filter fun d => !p d).length := List.length_pos_iff.mpr eB
  obtain ⟨a, ha⟩ : ∃ a, (S.filter p).length = a + 1 := ⟨_, (Nat.succ_pred_eq_of_pos a0).symm⟩
  obtain ⟨n, hs⟩ : ∃ n, S.length = n + 1 := ⟨S.length - 1, by omega⟩
  rw [ha, hs]; rfl
/-! ## the times of an object -/
def tcn (ok : List Int → Int → Bool) : Nat → List Int → Int → Nat → Nat
  | 0, _, _, _ => 0
  | n + 1, S, x, k => if k + 1 = S.length then (if ok S x = true then ct ok (rm x S) else 0) else sg (rm x S) fun c => if ok S c = true then tcn ok n (rm c S) x k else 0
/-- the orders of S with x at the time k -/
def tc (ok : List Int → Int → Bool) (S : List Int) (x : Int) (k : Nat) : Nat := tcn ok S.length S x k
theorem tc_step {ok : List Int → Int → Bool} {S : List Int} (hn : S.Nodup) {x : Int} (hx : x ∈ S) (k : Nat) : tc ok S x k = if k + 1 = S.length then (if ok S x = true then ct ok (rm x S) else 0) else sg (rm x S) fun c => if ok S c = true then tc ok (rm c S) x k else 0 := by
  unfold tc
  obtain ⟨n, hk⟩ : ∃ n, S.length = n + 1 := by cases S; cases hx; exact ⟨_, rfl⟩
  rw [hk]
  show (if k + 1 = S.length then _ else _) = _
  rw [hk]
  by_cases e : k + 1 = n + 1
  · rw [if_pos e, if_pos e]
  · rw [if_neg e, if_neg e]
    refine sg_congr fun c hc => ?_
    have := rm_len hn (rm_sub _ _ _ hc)
    rw [show (rm c S).length = n by omega]
theorem tc_big {ok : List Int → Int → Bool} {S : List Int} (hn : S.Nodup) {x : Int} (hx : x ∈ S) {k : Nat} (h : S.length ≤ k) : tc ok S x k = 0 := by
  refine nodup_ind (P := fun S => x ∈ S → S.length ≤ k → tc ok S x k = 0) ?_ hn hx h
  intro S hn ih hx h
  rw [tc_step hn hx, if_neg (by omega)]
  refine sg_zero fun c hc => ?_
  have hc' := mem_rm.mp hc
  have := rm_len hn hc'.1
  rw [ih c hc'.1 (mem_rm.mpr ⟨hx, Ne.symm hc'.2⟩) (by omega)]
  split <;> rfl
/-- mixings with so many of the others before -/
def bm (a t b j : Nat) : Nat := ch (t + j) j * ch (a - 1 - t + (b - j)) (b - j)
theorem bm_step {a t b j : Nat} (ht : t < a) (hj : j ≤ b) (h : t + j + 1 < a + b) : (if t + 1 < a then bm (a - 1) t b j else 0) + (if j < b then bm a t (b - 1) j else 0) = bm a t b j := by
  unfold bm
  by_cases h1 : t + 1 < a
  · by_cases h2 : j < b
    · rw [if_pos h1, if_pos h2, ← Nat.mul_add]
      congr 1
      rw [show a - 1 - 1 - t + (b - j) = (a - 1 - t - 1) + (b - j) by omega, show a - 1 - t + (b - 1 - j) = (a - 1 - t - 1) + (b - j) by omega]
      obtain ⟨v, hv⟩ : ∃ v, b - j = v + 1 := ⟨b - j - 1, by omega⟩
      obtain ⟨u, hu⟩ : ∃ u, a - 1 - t = u + 1 := ⟨a - 1 - t - 1, by omega⟩
      rw [hv, hu, show b - 1 - j = v by omega, show u + 1 - 1 + (v + 1) = u + (v + 1) by omega, show u + 1 + (v + 1) = (u + (v + 1)) + 1 by omega, ch]
      omega
    · rw [if_pos h1, if_neg h2, show b - j = 0 by omega]; simp
  · by_cases h2 : j < b
    · rw [if_neg h1, if_pos h2, Nat.zero_add]
      congr 1
      rw [show a - 1 - t = 0 by omega, Nat.zero_add, Nat.zero_add, ch_self, ch_self]
    · omega
theorem sg_range_one {n i : Nat} {f : Nat → Nat} (hi : i < n) (h : ∀ j, j < n → j ≠ i → f j = 0) : sg (List.range n) f = f i := by
  induction n with
  | zero => omega
  | succ n ih =>
    rw [List.range_succ, sg_app, sg_cons, sg_nil, Nat.add_zero]
    by_cases e : i = n
    · subst e
      rw [sg_zero fun a ha => h a (by have := List.mem_range.mp ha; omega) (by have := List.mem_range.mp ha; omega)]; omega
    · rw [ih (by omega) fun j hj => h j (by omega), h n (by omega) (fun e2 => e e2.symm)]; omega
theorem sg_range_succ (n : Nat) (f : Nat → Nat) : sg (List.range (n + 1)) f = sg (List.range n) f + f n := by
  rw [List.range_succ, sg_app, sg_cons, sg_nil, Nat.add_zero]
/-- the times in the whole by those in the part -/
theorem tc_parts {ok : List Int → Int → Bool} {p : Int → Bool} {S : List Int} (hn : S.Nodup) (h : Apart ok p S) {x : Int} (hx : x ∈ S) (px : p x = true) (k : Nat) :
    tc ok S x k = ct ok (S.filter fun d => !p d) * sg (List.range ((S.filter fun d => !p d).length + 1)) fun j => if j ≤ k then tc ok (S.filter p) x (k - j) * bm (S.filter p).length (k - j) (S.filter fun d => !p d).length j else 0 := by
  refine nodup_ind (P := fun S => Apart ok p S → x ∈ S → tc ok S x k = ct ok (S.filter fun d => !p d) * sg (List.range ((S.filter fun d => !p d).length + 1)) fun j => if j ≤ k then tc ok (S.filter p) x (k - j) * bm (S.filter p).length (k - j) (S.filter fun d => !p d).length j else 0) ?_ hn h hx
  intro S hn ih h hx
  have xA : x ∈ S.filter p := List.mem_filter.mpr ⟨hx, px⟩
  have ls := len_split p S
  have a0 : 0 < (S.filter p).length := List.length_pos_of_mem xA
  have nA := hn.filter p
  have nB := hn.filter fun d => !p d
  by_cases hk : S.length ≤ k
  · rw [tc_big hn hx hk]
    symm
    rw [sg_zero, Nat.mul_zero]
    intro j hj
    have := List.mem_range.mp hj
    split
    · rw [tc_big nA xA (by omega), Nat.zero_mul]
    · rfl
  rw [tc_step hn hx]
  by_cases e : k + 1 = S.length
  · rw [if_pos e, h S (fun _ h => h) x hx, if_pos px]
    rw [sg_range_one (i := (S.filter fun d => !p d).length) (by omega) (fun j hj hne => by
      split
      · rw [tc_big nA xA (by omega), Nat.zero_mul]
      · rfl), if_pos (show (S.filter fun d => !p d).length ≤ k by omega), tc_step nA xA, if_pos (show k - (S.filter fun d => !p d).length + 1 = (S.filter p).length by omega)]
    have eb : bm (S.filter p).length (k - (S.filter fun d => !p d).length) (S.filter fun d => !p d).length (S.filter fun d => !p d).length = ch k (S.filter fun d => !p d).length := by
      unfold bm
      rw [Nat.sub_self, ch_zero, Nat.mul_one, show k - (S.filter fun d => !p d).length + (S.filter fun d => !p d).length = k by omega]
    rw [eb]
    by_cases o : ok (S.filter p) x = true
    · rw [if_pos o, if_pos o, ct_parts (rm_nodup hn) (h.rm x), rm_filter_in, rm_filter_out _ (show (!p x) = false by simp [px])]
      have l1 := rm_len hn hx
      have l2 := rm_len nA xA
      have c1 : ch (rm x S).length (rm x (S.filter p)).length = ch k (S.filter fun d => !p d).length := by
        have := ch_symm (rm x (S.filter p)).length (S.filter fun d => !p d).length
        rw [show (rm x S).length = (rm x (S.filter p)).length + (S.filter fun d => !p d).length by omega, this]
        congr 1; omega
      rw [c1, Nat.mul_comm (ct ok (rm x (S.filter p)))]
      simp only [Nat.mul_assoc, Nat.mul_left_comm, Nat.mul_comm]
    · rw [if_neg o, if_neg o]; simp
  · rw [if_neg e]
    -- the last one is in the one part or in the other
    have split1 : sg (rm x S) (fun c => if ok S c = true then tc ok (rm c S) x k else 0) = sg (rm x (S.filter p)) (fun c => if ok (S.filter p) c = true then tc ok (rm c S) x k else 0) + sg (S.filter fun d => !p d) (fun c => if ok (S.filter fun d => !p d) c = true then tc ok (rm c S) x k else 0) := by
      rw [sg_split _ p, rm_filter_in, rm_filter_out _ (show (!p x) = false by simp [px])]
      congr 1
      · refine sg_congr fun c hc => ?_
        obtain ⟨c1, c2⟩ := List.mem_filter.mp (rm_sub _ _ _ hc)
        rw [h S (fun _ h => h) c c1, if_pos c2]
      · refine sg_congr fun c hc => ?_
        obtain ⟨c1, c2⟩ := List.mem_filter.mp hc
        have c3 : p c = false := by simpa using c2
        have hok : ok S c = ok (S.filter fun d => !p d) c := by rw [h S (fun _ h => h) c c1, c3]; rfl
        rw [hok]
    have sA : sg (rm x (S.filter p)) (fun c => if ok (S.filter p) c = true then tc ok (rm c S) x k else 0) = ct ok (S.filter fun d => !p d) * sg (List.range ((S.filter fun d => !p d).length + 1)) fun j => if j ≤ k then tc ok (S.filter p) x (k - j) * (if k - j + 1 < (S.filter p).length then bm ((S.filter p).length - 1) (k - j) (S.filter fun d => !p d).length j else 0) else 0 := by
      have e1 : sg (rm x (S.filter p)) (fun c => if ok (S.filter p) c = true then tc ok (rm c S) x k else 0) = sg (rm x (S.filter p)) fun c => ct ok (S.filter fun d => !p d) * sg (List.range ((S.filter fun d => !p d).length + 1)) fun j => if ok (S.filter p) c = true then (if j ≤ k then tc ok (rm c (S.filter p)) x (k - j) * bm ((S.filter p).length - 1) (k - j) (S.filter fun d => !p d).length j else 0) else 0 := by
        refine sg_congr fun c hc => ?_
        obtain ⟨c0, cx⟩ := mem_rm.mp hc
        obtain ⟨c1, c2⟩ := List.mem_filter.mp c0
        by_cases o : ok (S.filter p) c = true
        · simp only [if_pos o]
          rw [ih c c1 (h.rm c) (mem_rm.mpr ⟨hx, Ne.symm cx⟩), rm_filter_in (p := p), rm_filter_out _ (show (!p c) = false by simp [c2])]
          have := rm_len nA c0
          rw [show (rm c (S.filter p)).length = (S.filter p).length - 1 by omega]
        · simp only [if_neg o]
          rw [sg_zero fun _ _ => rfl, Nat.mul_zero]
      rw [e1, sg_mul, sg_swap]
      congr 1
      refine sg_congr fun j hj => ?_
      by_cases hj2 : j ≤ k
      · simp only [if_pos hj2]
        have pull : (sg (rm x (S.filter p)) fun c => if ok (S.filter p) c = true then tc ok (rm c (S.filter p)) x (k - j) * bm ((S.filter p).length - 1) (k - j) (S.filter fun d => !p d).length j else 0) = (sg (rm x (S.filter p)) fun c => if ok (S.filter p) c = true then tc ok (rm c (S.filter p)) x (k - j) else 0) * bm ((S.filter p).length - 1) (k - j) (S.filter fun d => !p d).length j := by
          rw [← sg_mul']
          refine sg_congr fun c _ => ?_
          split <;> simp
        rw [pull]
        by_cases ht : k - j + 1 < (S.filter p).length
        · rw [if_pos ht, tc_step nA xA (k - j), if_neg (by omega)]
        · rw [if_neg ht, Nat.mul_zero]
          rw [sg_zero, Nat.zero_mul]
          intro c hc
          obtain ⟨c0, cx⟩ := mem_rm.mp hc
          have := rm_len nA c0
          rw [tc_big (rm_nodup nA) (mem_rm.mpr ⟨xA, Ne.symm cx⟩) (by omega)]
          split <;> rfl
      · simp only [if_neg hj2]
        exact sg_zero fun c _ => by split <;> rfl
    have sB : sg (S.filter fun d => !p d) (fun c => if ok (S.filter fun d => !p d) c = true then tc ok (rm c S) x k else 0) = ct ok (S.filter fun d => !p d) * sg (List.range ((S.filter fun d => !p d).length + 1)) fun j => if j ≤ k then tc ok (S.filter p) x (k - j) * (if j < (S.filter fun d => !p d).length then bm (S.filter p).length (k - j) ((S.filter fun d => !p d).length - 1) j else 0) else 0 := by
      by_cases eB : S.filter (fun d => !p d) = []
      · rw [eB]
        simp only [sg_nil, List.length_nil]
        rw [sg_zero, Nat.mul_zero]
        intro j _
        split
        · rw [if_neg (by omega), Nat.mul_zero]
        · rfl
      have e1 : sg (S.filter fun d => !p d) (fun c => if ok (S.filter fun d => !p d) c = true then tc ok (rm c S) x k else 0) = sg (S.filter fun d => !p d) fun c => (if ok (S.filter fun d => !p d) c = true then ct ok (rm c (S.filter fun d => !p d)) else 0) * sg (List.range (S.filter fun d => !p d).length) fun j => if j ≤ k then tc ok (S.filter p) x (k - j) * bm (S.filter p).length (k - j) ((S.filter fun d => !p d).length - 1) j else 0 := by
        refine sg_congr fun c hc => ?_
        obtain ⟨c1, c2⟩ := List.mem_filter.mp hc
        have c3 : p c = false := by simpa using c2
        have cx : x ≠ c := by rintro rfl; rw [px] at c3; cases c3
        by_cases o : ok (S.filter fun d => !p d) c = true
        · rw [if_pos o, if_pos o, ih c c1 (h.rm c) (mem_rm.mpr ⟨hx, cx⟩), rm_filter_out _ c3, rm_filter_in (p := fun d => !p d)]
          have := rm_len nB hc
          rw [show (rm c (S.filter fun d => !p d)).length + 1 = (S.filter fun d => !p d).length by omega, show (rm c (S.filter fun d => !p d)).length = (S.filter fun d => !p d).length - 1 by omega]
        · rw [if_neg o, if_neg o]; simp
      rw [e1, sg_mul', ← ct_step ok nB eB]
      congr 1
      rw [sg_range_succ]
      rw [show (if (S.filter fun d => !p d).length ≤ k then tc ok (S.filter p) x (k - (S.filter fun d => !p d).length) * (if (S.filter fun d => !p d).length < (S.filter fun d => !p d).length then bm (S.filter p).length (k - (S.filter fun d => !p d).length) ((S.filter fun d => !p d).length - 1) (S.filter fun d => !p d).length else 0) else 0) = 0 by split; rw [if_neg (by omega), Nat.mul_zero]; rfl, Nat.add_zero]
      refine sg_congr fun j hj => ?_
      have := List.mem_range.mp hj
      rw [if_pos (show j < (S.filter fun d => !p d).length from this)]
    rw [split1, sA, sB, ← Nat.mul_add, ← sg_add]
    congr 1
    refine sg_congr fun j hj => ?_
    have hj := List.mem_range.mp hj
    by_cases hj2 : j ≤ k
    · simp only [if_pos hj2]
      rw [← Nat.mul_add]
      by_cases ht : k - j < (S.filter p).length
      · rw [bm_step ht (by omega) (by omega)]
      · rw [tc_big nA xA (by omega)]; simp
    · simp only [if_neg hj2]
end NS
namespace NS
open PySem PySem.Spec PyProof.Rows L2
@[simp] theorem borOs_nil (f : DS → M D) : borOs [] f = f := rfl
@[simp] theorem borOs_cons (i : Nat) (is : List Nat) (f : DS → M D) : borOs (i :: is) f = eBorO i (borOs is f) := rfl
theorem ch_le12' {n : Nat} (h : n ≤ 12) (k : Nat) : (ch n k : Int) ≤ 4096 := by have := ch_le12 h k; omega
theorem bm_le {n t b c : Nat} (ht : t < n) (hc : c ≤ b) (h : n + b ≤ 12) : bm n t b c ≤ 16777216 := by
  unfold bm
  have h1 := ch_le12 (n := t + c) (by omega) c
  have h2 := ch_le12 (n := n - 1 - t + (b - c)) (by omega) (b - c)
  exact Nat.le_trans (Nat.mul_le_mul h1 h2) (by omega)
theorem before_mixed_T {n t b c : Nat} (ht : t < n) (hc : c ≤ b) (h : n + b ≤ 12) : Is (d_before_mixed [.int (n : Nat), .int (t : Nat), .int (b : Nat), .int (c : Nat)]) (.int (bm n t b c : Nat)) := by
  refine Is.of_T fun g hg => runD_T ?_
  unfold b_before_mixed
  have c1 := choose_T (n := t + c) (k := c) (by omega) (by omega)
  have c2 := choose_T (n := n - 1 - t + (b - c)) (k := b - c) (by omega) (by omega)
  rw [show ((t + c : Nat) : Int) = (t : Int) + c by omega] at c1
  rw [show ((n - 1 - t + (b - c) : Nat) : Int) = (n : Int) - 1 - t + b - c by omega, show ((b - c : Nat) : Int) = (b : Int) - c by omega] at c2
  have b1 := ch_le12 (n := t + c) (by omega) c
  have b2 := ch_le12 (n := n - 1 - t + (b - c)) (by omega) (b - c)
  unfold bm
  generalize ch (t + c) c = C1 at *
  generalize ch (n - 1 - t + (b - c)) (b - c) = C2 at *
  generalize ((n : Nat) : Int) = n' at *
  generalize ((t : Nat) : Int) = t' at *
  generalize ((b : Nat) : Int) = b' at *
  generalize ((c : Nat) : Int) = c' at *
  simp -implicitDefEqProofs [startD, c1.T hg, c2.T hg]
  left; omega
theorem sides_T (a b l x : Int) : d_sides [pr (a, b), .int l, .int x] = M.pure (if x < l then .tup [pr (a, l), pr (l + 1, b)] else .tup [pr (l + 1, b), pr (a, l)]) := by
  unfold d_sides runD b_sides
  by_cases h : x < l
  · simp -implicitDefEqProofs [startD, h, pr]
  · simp -implicitDefEqProofs [startD, h, pr]
theorem sAugIx_T {j : Nat} {fi fe : DS → M D} {σ : DS} {g : G} {Q : Fl → G → Prop} {ds : List D} (ho : ownL σ[j]? = some ds) (h : T (fi σ) g fun i g1 => ∃ k n x, i = .int k ∧ ixN ds.length k = some n ∧ ds[n]? = some (.int x) ∧ T (fe σ) g1 fun y g2 => ∃ v, y = .int v ∧ Q (.nx (σ.set j (some (.ow (.lst (ds.set n (.int (x + v)))))))) g2) : T (sAugIx j fi fe σ) g Q := by
  unfold sAugIx
  rw [ho]
  show T (M.bind (fi σ) _) g Q
  rw [T_bind]
  refine h.imp fun i g1 ⟨k, n, x, ei, en, ex, h2⟩ => ?_
  subst ei
  simp only [en, ex]
  rw [T_bind]
  refine h2.imp fun y g2 ⟨v, ey, q⟩ => ?_
  subst ey
  simp only []
  rw [T_pure]; exact q
/-- a list of numbers, by a function -/
def nums (n : Nat) (f : Nat → Nat) : List D := (List.range n).map fun k => .int (f k : Nat)
@[simp] theorem nums_len (n : Nat) (f : Nat → Nat) : (nums n f).length = n := by simp [nums]
theorem nums_get {n : Nat} {f : Nat → Nat} {k : Nat} (h : k < n) : (nums n f)[k]? = some (.int (f k : Nat)) := by
  unfold nums; rw [List.getElem?_map, List.getElem?_range h]; rfl
theorem nums_set {n : Nat} {f : Nat → Nat} {m v : Nat} (h : m < n) : (nums n f).set m (.int (((f m : Nat) : Int) + ((v : Nat) : Int))) = nums n fun k => f k + if k = m then v else 0 := by
  apply List.ext_getElem?
  intro k
  by_cases hk : k < n
  · rw [nums_get hk]
    by_cases e : k = m
    · subst e; rw [List.getElem?_set_self (by simp; exact hk)]; simp
    · rw [List.getElem?_set_ne (Ne.symm e), nums_get hk]; simp [e]
  · rw [List.getElem?_eq_none (by simp; omega), List.getElem?_eq_none (by simp; omega)]
theorem nums_zero (n : Nat) : List.replicate n (D.int 0) = nums n fun _ => 0 := by
  apply List.ext_getElem?
  intro k
  by_cases hk : k < n
  · rw [nums_get hk, List.getElem?_replicate, if_pos hk]; rfl
  · rw [List.getElem?_eq_none (by simp; omega), List.getElem?_eq_none (by simp; omega)]
theorem enumD_nums (n : Nat) (f : Nat → Nat) : enumD (nums n f) = (List.range n).map fun k => .tup [.int (k : Nat), .int (f k : Nat)] := by
  apply List.ext_getElem?
  intro k
  by_cases hk : k < n
  · rw [enumD_get (nums_get hk), List.getElem?_map, List.getElem?_range hk]; rfl
  · rw [List.getElem?_eq_none (by rw [enumD_len]; simp; omega), List.getElem?_eq_none (by simp; omega)]
/-- mixed with a part of its own orders -/
def spr (row : Nat → Nat) (n b w : Nat) (k : Nat) : Nat := sg (List.range n) fun t => sg (List.range (b + 1)) fun c => if k = t + c then row t * w * bm n t b c else 0
theorem spread_T {n b w : Nat} {row : Nat → Nat} (h : n + b ≤ 12) (hr : ∀ t, row t ≤ 479001600) (hw : w ≤ 479001600) : Is (d_spread [.lst (nums n row), .int (b : Nat), .int (w : Nat)]) (.lst (nums (n + b) (spr row n b w))) := by
  refine Is.of_T fun g hg => runD_T ?_
  unfold b_spread
  generalize hb : ((b : Nat) : Int) = b'
  simp -implicitDefEqProofs [startD]
  refine ⟨by omega, by omega, ?_⟩
  rw [show ((n : Int) + b').toNat = n + b by omega, nums_zero]
  refine forM_T (fun i σ g' => (∃ x4 x5 x6, σ = [some (.sh (.lst (nums n row))), some (.sh (.int b')), some (.sh (.int (w : Nat))), some (.ow (.lst (nums (n + b) fun k => sg (List.range i) fun t => sg (List.range (b + 1)) fun c => if k = t + c then row t * w * bm n t b c else 0))), x4, x5, x6]) ∧ g' = g) (n := 0) ?_ ⟨⟨_, _, _, rfl⟩, rfl⟩ ?_
  · rintro i d σ g' e ⟨⟨x4, x5, x6, rfl⟩, rfl⟩
    rw [enumD_nums, List.getElem?_map] at e
    obtain ⟨t, et, rfl⟩ := Option.map_eq_some_iff.mp e
    have hi : i < n := by have := (List.getElem?_eq_some_iff.mp et).1; simpa using this
    rw [List.getElem?_range hi] at et
    cases et
    rw [Nat.zero_add]
    generalize hF : (fun k => sg (List.range i) fun t => sg (List.range (b + 1)) fun c => if k = t + c then row t * w * bm n t b c else 0) = F
    simp -implicitDefEqProofs
    refine ⟨by omega, by omega, ?_⟩
    refine forM_T (fun c σ g2 => (∃ x6, σ = [some (.sh (.lst (nums n row))), some (.sh (.int b')), some (.sh (.int (w : Nat))), some (.ow (.lst (nums (n + b) fun k => F k + sg (List.range c) fun c' => if k = i + c' then row i * w * bm n i b c' else 0))), some (.sh (.int (i : Nat))), some (.sh (.int (row i : Nat))), x6]) ∧ g2 = g') (n := 0) ?_ ⟨⟨x6, by simp⟩, rfl⟩ ?_
    · rintro c d σ g2 e ⟨⟨x6, rfl⟩, rfl⟩
      obtain ⟨rfl, hc⟩ := rngD_get e
      rw [Nat.zero_add]
      have bmT := before_mixed_T (n := n) (t := i) (b := b) (c := c) hi (by omega) h
      have bl := bm_le (n := n) (t := i) (b := b) (c := c) hi (by omega) h
      have hri := hr i
      rw [hb] at bmT
      rw [gN_ap, T_pure]
      refine sAugIx_T (ds := nums (n + b) fun k => F k + sg (List.range c) fun c' => if k = i + c' then row i * w * bm n i b c' else 0) rfl ?_
      generalize hG : (fun k => F k + sg (List.range c) fun c' => if k = i + c' then row i * w * bm n i b c' else 0) = G1
      rw [show (0 : Int) + c = c by omega]
      have ix : ixN (n + b) ((i : Int) + (c : Int)) = some (i + c) := by rw [show (i : Int) + (c : Int) = ((i + c : Nat) : Int) by omega]; exact ixN_nat (by omega)
      have ng : (nums (n + b) G1)[i + c]? = some (.int (G1 (i + c) : Nat)) := nums_get (by omega)
      have ns := nums_set (f := G1) (n := n + b) (m := i + c) (v := row i * w * bm n i b c) (by omega)
      have v1 : kMul (.int (row i : Nat)) (.int (w : Nat)) = M.pure (.int ((row i * w : Nat) : Int)) := by
        rw [kMul_int, mulI_ap, if_pos (by simp; left; omega)]; simp
      have v2 : kMul (.int ((row i * w : Nat) : Int)) (.int (bm n i b c : Nat)) = M.pure (.int ((row i * w * bm n i b c : Nat) : Int)) := by
        rw [kMul_int, mulI_ap, if_pos (by simp; right; omega)]; simp
      have fin : nums (n + b) (fun k => G1 k + if k = i + c then row i * w * bm n i b c else 0) = nums (n + b) fun k => F k + sg (List.range (c + 1)) fun c' => if k = i + c' then row i * w * bm n i b c' else 0 := by
        rw [← hG]; congr 1; funext k; simp only []; rw [sg_range_succ]; omega
      generalize hv : row i * w * bm n i b c = v at *
      generalize row i * w = rw0 at *
      simp -implicitDefEqProofs [bmT.T hg, v1, v2]
      refine ⟨_, ix, _, ng, ?_⟩
      rw [ns]
      exact fin
    · rintro σ g2 ⟨⟨x6, rfl⟩, rfl⟩
      have lb : 0 + (rngD 0 (b' + 1)).length = b + 1 := by simp; omega
      rw [lb]
      refine ⟨⟨some (.sh (.int (i : Nat))), some (.sh (.int (row i : Nat))), x6, ?_⟩, rfl⟩
      rw [← hF]
      have : (fun k => (sg (List.range i) fun t => sg (List.range (b + 1)) fun c => if k = t + c then row t * w * bm n t b c else 0) + sg (List.range (b + 1)) fun c' => if k = i + c' then row i * w * bm n i b c' else 0) = fun k => sg (List.range (i + 1)) fun t => sg (List.range (b + 1)) fun c => if k = t + c then row t * w * bm n t b c else 0 := by
        funext k; exact (sg_range_succ i _).symm
      rw [this]
  · rintro σ g' ⟨⟨x4, x5, x6, rfl⟩, rfl⟩
    rw [Nat.zero_add, enumD_len, nums_len]
    simp -implicitDefEqProofs
    rfl
end NS
namespace NS
open PySem PySem.Spec PyProof.Rows L2
/-! ## sorted, of encoded things -/
def insG {α : Type} (le : α → α → Bool) (x : α) : List α → List α
  | [] => [x]
  | y :: ys => if le x y = true then x :: y :: ys else y :: insG le x ys
def isrtG {α : Type} (le : α → α → Bool) : List α → List α
  | [] => []
  | x :: xs => insG le x (isrtG le xs)
theorem insD_map {α : Type} (f : α → D) (x : α) : ∀ l : List α, insD leD (f x) (l.map f) = (insG (fun a b => leD (f a) (f b)) x l).map f
  | [] => rfl
  | y :: ys => by
    simp only [List.map_cons, insD, insG]
    split
    · rfl
    · rw [insD_map f x ys]; rfl
theorem isrt_map {α : Type} (f : α → D) : ∀ l : List α, isrt leD (l.map f) = (isrtG (fun a b => leD (f a) (f b)) l).map f
  | [] => rfl
  | x :: xs => by rw [List.map_cons, isrt, isrt_map f xs, insD_map]; rfl
theorem insG_perm {α : Type} (le : α → α → Bool) (x : α) : ∀ l : List α, (insG le x l).Perm (x :: l)
  | [] => .refl _
  | y :: ys => by
    unfold insG
    split
    · exact .refl _
    · exact (List.Perm.cons y (insG_perm le x ys)).trans (List.Perm.swap x y ys)
theorem isrtG_perm {α : Type} (le : α → α → Bool) : ∀ l : List α, (isrtG le l).Perm l
  | [] => .refl _
  | x :: xs => (insG_perm le x _).trans (List.Perm.cons x (isrtG_perm le xs))
theorem insG_sorted {α : Type} {le : α → α → Bool} (tr : ∀ a b c, le a b = true → le b c = true → le a c = true) (to : ∀ a b, le a b = true ∨ le b a = true) (x : α) : ∀ {l : List α}, l.Pairwise (fun a b => le a b = true) → (insG le x l).Pairwise fun a b => le a b = true
  | [], _ => by simp [insG]
  | y :: ys, h => by
    have h2 := List.pairwise_cons.mp h
    unfold insG
    split
    · rename_i hxy
      refine List.pairwise_cons.mpr ⟨fun a ha => ?_, h⟩
      rcases List.mem_cons.mp ha with rfl | ha
      · exact hxy
      · exact tr _ _ _ hxy (h2.1 a ha)
    · rename_i hxy
      refine List.pairwise_cons.mpr ⟨fun a ha => ?_, insG_sorted tr to x h2.2⟩
      rcases List.mem_cons.mp ((insG_perm le x ys).mem_iff.mp ha) with rfl | ha
      · exact (to a y).resolve_left hxy
      · exact h2.1 a ha
theorem isrtG_sorted {α : Type} {le : α → α → Bool} (tr : ∀ a b c, le a b = true → le b c = true → le a c = true) (to : ∀ a b, le a b = true ∨ le b a = true) : ∀ l : List α, (isrtG le l).Pairwise fun a b => le a b = true
  | [] => .nil
  | x :: xs => insG_sorted tr to x (isrtG_sorted tr to xs)
theorem isrtD_sorted {α : Type} (f : α → D) (l : List α) : (isrtG (fun a b => leD (f a) (f b)) l).Pairwise fun a b => leD (f a) (f b) = true :=
  isrtG_sorted (le := fun a b => leD (f a) (f b)) (fun a b c h1 h2 => leD_trans _ _ _ h1 h2) (fun a b => leD_tot.total (f a) (f b)) l
/-! ## parts with an index, the shorter ones first -/
def tri (p : Int × Int) : D := .tup [.int (p.2 - p.1), pr p]
theorem leD_tri {p q : Int × Int} (h : leD (tri p) (tri q) = true) : p.2 - p.1 ≤ q.2 - q.1 := by
  apply Classical.byContradiction
  intro hh
  have e : leD (tri p) (tri q) = !(PyProof.Rows.lexLt PyProof.Rows.itemOrd (.inl 1 :: .inl (q.2 - q.1) :: .inl 1 :: (PySem.W.keyToks (.tuple [.int q.1, .int q.2]) ++ [.inl 0])) (.inl 1 :: .inl (p.2 - p.1) :: .inl 1 :: (PySem.W.keyToks (.tuple [.int p.1, .int p.2]) ++ [.inl 0]))) := rfl
  have a1 : PyProof.Rows.itemLt (.inl 1) (.inl 1) = false := rfl
  have a2 : PyProof.Rows.itemLt (.inl (q.2 - q.1)) (.inl (p.2 - p.1)) = true := decide_eq_true (by omega)
  have l : PyProof.Rows.lexLt PyProof.Rows.itemOrd (.inl 1 :: .inl (q.2 - q.1) :: .inl 1 :: (PySem.W.keyToks (.tuple [.int q.1, .int q.2]) ++ [.inl 0])) (.inl 1 :: .inl (p.2 - p.1) :: .inl 1 :: (PySem.W.keyToks (.tuple [.int p.1, .int p.2]) ++ [.inl 0])) = true := by
    unfold PyProof.Rows.lexLt
    simp only [a1]
    unfold PyProof.Rows.lexLt
    simp only [a2]
    simp
  rw [e, l] at h; cases h
theorem srtOk_tri (ps : List (Int × Int)) (h : ps.length < 1000000) : srtOk (ps.map tri) = true := by
  have ok : ∀ l : List (Int × Int), D.pysOk (l.map tri) = true := fun l => by
    induction l with
    | nil => rfl
    | cons x xs ih => simp only [List.map_cons, D.pysOk, ih]; rfl
  have e : ∀ l : List (Int × Int), D.pys (l.map tri) = l.map fun p => .tuple [.int (p.2 - p.1), .tuple [.int p.1, .int p.2]] := fun l => by
    induction l with
    | nil => rfl
    | cons x xs ih => simp only [List.map_cons, D.pys, ih]; rfl
  have dp : ∀ l : List (Int × Int), PyData.depthAll (l.map fun p => .tuple [.int (p.2 - p.1), .tuple [.int p.1, .int p.2]]) ≤ 60 := fun l => by
    induction l with
    | nil => simp [PyData.depthAll]
    | cons x xs ih => simp only [List.map_cons, PyData.depthAll]; exact Nat.max_le.mpr ⟨by simp [PyData.depth, PyData.depthAll], ih⟩
  unfold srtOk
  rw [ok, e]
  have al : ((ps.map fun p => PyData.tuple [.int (p.2 - p.1), .tuple [.int p.1, .int p.2]]).all fun d => (ps.map fun p => PyData.tuple [.int (p.2 - p.1), .tuple [.int p.1, .int p.2]]).all fun e => PySem.W.alike d e) = true := by
    rw [List.all_map]
    refine List.all_eq_true.mpr fun p _ => ?_
    show (List.all _ _) = true
    rw [List.all_map]
    exact List.all_eq_true.mpr fun q _ => by simp [PySem.W.alike, PySem.W.alikeAll]
  have tn : ((ps.map fun p => PyData.tuple [.int (p.2 - p.1), .tuple [.int p.1, .int p.2]]).all isTN) = true := by
    rw [List.all_map]; exact List.all_eq_true.mpr fun q _ => rfl
  rw [al, tn]
  simp [dp, h]
theorem parts_with_T {m lo hi : Int} (h0 : 0 ≤ lo) (h1 : lo ≤ hi) (h2 : hi < m) (h3 : m ≤ 12) : ∃ ps : List (Int × Int), d_parts_with [.int m, .int lo, .int hi] = M.pure (.lst (ps.map pr)) ∧ (∀ p, p ∈ ps ↔ (0 ≤ p.1 ∧ p.1 ≤ lo) ∧ hi < p.2 ∧ p.2 ≤ m) ∧ ps.Pairwise (fun p q => p.2 - p.1 ≤ q.2 - q.1) ∧ ps.length ≤ 200 := by
  generalize hL : ((rI 0 (lo + 1)).flatMap fun a => (rI (hi + 1) (m + 1)).map fun b => (a, b)) = L
  have ml : L.length ≤ 200 := by
    rw [← hL]
    have := flatMap_len (l := rI 0 (lo + 1)) (f := fun a => (rI (hi + 1) (m + 1)).map fun b => (a, b)) (k := 12) fun a _ => by simp; omega
    rw [rI_len] at this
    omega
  have mm : ∀ p, p ∈ L ↔ (0 ≤ p.1 ∧ p.1 ≤ lo) ∧ hi < p.2 ∧ p.2 ≤ m := by
    rintro ⟨a, b⟩
    rw [← hL]
    simp only [List.mem_flatMap, List.mem_map, mem_rI, Prod.mk.injEq]
    constructor
    · rintro ⟨a, ha, b, hb, rfl, rfl⟩; exact ⟨⟨by omega, by omega⟩, by omega, by omega⟩
    · rintro ⟨ha, hb⟩; exact ⟨a, ⟨by omega, by omega⟩, b, ⟨by omega, by omega⟩, rfl, rfl⟩
  have pm := isrtG_perm (fun a b => leD (tri a) (tri b)) L
  refine ⟨isrtG (fun a b => leD (tri a) (tri b)) L, ?_, fun p => by rw [pm.mem_iff, mm], (isrtD_sorted tri L).imp fun h => leD_tri h, by rw [pm.length_eq]; exact ml⟩
  have k1 : ∀ x3, compM2 (gN 4) tYesD (iArgs rng2 (lCons (eBin kAdd (eVar 2) (eC (.int 1))) (lCons (eBin kAdd (eVar 0) (eC (.int 1))) lNil))) [5] (gN 5) tYesD (eArgs mkT (lCons (eVar 4) (lCons (eVar 5) lNil))) [some (.sh (.int m)), some (.sh (.int lo)), some (.sh (.int hi)), x3, none, none, none, none] (rngD 0 (lo + 1)) = M.pure (L.map pr) := by
    intro x3
    rw [rngD_rI, compM2_all (f := fun a => (rI (hi + 1) (m + 1)).map fun b => pr (a, b))]
    · rw [← hL, List.map_flatMap]; simp [Function.comp_def]
    · intro a ha
      refine ⟨_, rfl, rfl, (rI (hi + 1) (m + 1)).map .int, ?_, compM_all fun b hb => ⟨_, rfl, rfl, rfl⟩⟩
      simp -implicitDefEqProofs [rngD_rI]
      omega
  have k2 : compM (gNs [4, 5]) tYesD (eArgs mkT (lCons (eBin kSub (eVar 5) (eVar 4)) (lCons (eArgs mkT (lCons (eVar 4) (lCons (eVar 5) lNil))) lNil))) [some (.sh (.int m)), some (.sh (.int lo)), some (.sh (.int hi)), some (.sh (.lst (L.map pr))), none, none, none, none] (L.map pr) = M.pure (L.map tri) :=
    compM_all fun p hp => ⟨_, rfl, rfl, rfl⟩
  have k3 : kSorted [.lst (L.map tri)] = M.pure (.lst ((isrtG (fun a b => leD (tri a) (tri b)) L).map tri)) := by
    unfold kSorted; simp only [srtOk_tri L (by omega), if_true, isrt_map]
  have k4 : compM (gNs [6, 7]) tYesD (eVar 7) [some (.sh (.int m)), some (.sh (.int lo)), some (.sh (.int hi)), some (.sh (.lst (L.map pr))), none, none, none, none] ((isrtG (fun a b => leD (tri a) (tri b)) L).map tri) = M.pure ((isrtG (fun a b => leD (tri a) (tri b)) L).map pr) :=
    compM_all fun p hp => ⟨_, rfl, rfl, rfl⟩
  have pl := pm.length_eq
  generalize isrtG (fun a b => leD (tri a) (tri b)) L = L1 at *
  unfold d_parts_with runD b_parts_with
  simp -implicitDefEqProofs [startD, k1, k2, k3, k4]
  repeat rw [if_pos (by omega)]
end NS
namespace NS
open PySem PySem.Spec PyProof.Rows L2
/-! ## the times of an index, part by part -/
theorem part_apart {ndr : Int → Int → Bool} (iv : Iv ndr) {n a b l : Int} (h0 : 0 ≤ a) (h1 : a ≤ l) (h2 : l < b) (h3 : b ≤ n) : Apart (okW ndr (rI 0 n)) (fun d => decide (d < l)) (rm l (rI a b)) := by
  intro S' hs c hc
  have hS : ∀ x ∈ S', (a ≤ x ∧ x < b) ∧ x ≠ l := fun x hx => by
    have := mem_rm.mp (hs x hx)
    exact ⟨mem_rI.mp this.1, this.2⟩
  have nl : l ∉ S' := fun h => (hS l h).2 rfl
  have hl : l ∈ rI 0 n := mem_rI.mpr ⟨by omega, by omega⟩
  by_cases cl : c < l
  · rw [if_pos (decide_eq_true cl)]
    refine bool_iff ?_
    rw [okW_iff, okW_iff]
    constructor
    · intro h d hd nn
      have hd' := h d hd nn
      refine List.mem_filter.mpr ⟨hd', decide_eq_true ?_⟩
      apply Classical.byContradiction
      intro hh
      have := hS d hd'
      exact nl (h l hl (iv c d l nn (.inl ⟨cl, by omega⟩)))
    · intro h d hd nn; exact (List.mem_filter.mp (h d hd nn)).1
  · rw [if_neg (by simpa using cl)]
    have cl' : l < c := by have := (hS c hc).2; omega
    refine bool_iff ?_
    rw [okW_iff, okW_iff]
    constructor
    · intro h d hd nn
      have hd' := h d hd nn
      refine List.mem_filter.mpr ⟨hd', ?_⟩
      simp only [Bool.not_eq_true', decide_eq_false_iff_not]
      intro hh
      exact nl (h l hl (iv c d l nn (.inr ⟨hh, cl'⟩)))
    · intro h d hd nn; exact (List.mem_filter.mp (h d hd nn)).1
theorem part_filter {a b l : Int} (h1 : a ≤ l) (h2 : l < b) : (rm l (rI a b)).filter (fun d => decide (d < l)) = rI a l ∧ (rm l (rI a b)).filter (fun d => !decide (d < l)) = rI (l + 1) b := by
  rw [rm_rI h1 h2, List.filter_append, List.filter_append]
  have e1 : (rI a l).filter (fun d => decide (d < l)) = rI a l := List.filter_eq_self.mpr fun d hd => decide_eq_true (mem_rI.mp hd).2
  have e2 : (rI (l + 1) b).filter (fun d => decide (d < l)) = [] := List.filter_eq_nil_iff.mpr fun d hd h => by have := mem_rI.mp hd; have := of_decide_eq_true h; omega
  have e3 : (rI a l).filter (fun d => !decide (d < l)) = [] := List.filter_eq_nil_iff.mpr fun d hd h => by have := mem_rI.mp hd; simp at h; omega
  have e4 : (rI (l + 1) b).filter (fun d => !decide (d < l)) = rI (l + 1) b := List.filter_eq_self.mpr fun d hd => by have := mem_rI.mp hd; simp; omega
  rw [e1, e2, e3, e4]; simp
theorem spr_eq {row : Nat → Nat} {n b w k : Nat} (hz : ∀ t, n ≤ t → row t = 0) : spr row n b w k = w * sg (List.range (b + 1)) fun j => if j ≤ k then row (k - j) * bm n (k - j) b j else 0 := by
  unfold spr
  rw [sg_swap, ← sg_mul]
  refine sg_congr fun c _ => ?_
  by_cases hc : c ≤ k
  · rw [if_pos hc]
    by_cases hk : k - c < n
    · rw [sg_range_one (i := k - c) hk (fun j hj hne => if_neg (by omega)), if_pos (by omega)]
      simp only [Nat.mul_assoc, Nat.mul_left_comm]
    · rw [hz (k - c) (by omega), Nat.zero_mul, Nat.mul_zero]
      exact sg_zero fun t ht => if_neg (by have := List.mem_range.mp ht; omega)
  · rw [if_neg hc, Nat.mul_zero]
    exact sg_zero fun t ht => if_neg (by omega)
section
variable {ndr : Int → Int → Bool} {m : Int}
/-- the times of x in a part -/
def tp (ndr : Int → Int → Bool) (m a b x : Int) (k : Nat) : Nat := tc (okW ndr (rI 0 m)) (rI a b) x k
/-- what the last one l brings -/
def cb (ndr : Int → Int → Bool) (m a b x l : Int) (k : Nat) : Nat := if l = x then (if k + 1 = (b - a).toNat then ct (okW ndr (rI 0 m)) (rm x (rI a b)) else 0) else tc (okW ndr (rI 0 m)) (rm l (rI a b)) x k
theorem tp_sum {a b x : Int} (h1 : a ≤ x) (h2 : x < b) (k : Nat) : tp ndr m a b x k = sg ((rI a b).filter fun l => okW ndr (rI 0 m) (rI a b) l) fun l => cb ndr m a b x l k := by
  have hx : x ∈ rI a b := mem_rI.mpr ⟨h1, h2⟩
  have hn := rI_nodup a b
  unfold tp
  rw [tc_step hn hx, rI_len, sg_filter]
  by_cases e : k + 1 = (b - a).toNat
  · rw [if_pos e]
    have hz : ∀ l ∈ rI a b, l ≠ x → cb ndr m a b x l k = 0 := fun l hl ne => by
      unfold cb
      rw [if_neg ne]
      refine tc_big (rm_nodup hn) (mem_rm.mpr ⟨hx, Ne.symm ne⟩) ?_
      have := rm_len hn hl
      rw [rI_len] at this; omega
    -- one summand alone
    have one : ∀ (L : List Int) (f : Int → Nat), L.Nodup → x ∈ L → (∀ l ∈ L, l ≠ x → f l = 0) → sg L f = f x := by
      intro L f hL hx hf
      induction L with
      | nil => cases hx
      | cons c L ih =>
        have hL2 := List.nodup_cons.mp hL
        rw [sg_cons]
        by_cases ec : c = x
        · subst ec
          rw [sg_zero fun l hl => hf l (List.mem_cons_of_mem _ hl) (fun e => by subst e; exact hL2.1 hl)]; omega
        · have hx' : x ∈ L := by rcases List.mem_cons.mp hx with rfl | h; exact absurd rfl ec; exact h
          rw [hf c List.mem_cons_self ec, ih hL2.2 hx' fun l hl => hf l (List.mem_cons_of_mem _ hl)]; omega
    rw [one _ _ hn hx (fun l hl ne => by rw [hz l hl ne]; split <;> rfl)]
    unfold cb
    simp only [if_true, if_pos e]
  · rw [if_neg e, sg_rm]
    refine sg_congr fun l hl => ?_
    unfold cb
    by_cases el : l = x
    · subst el; simp [e]
    · simp [el]
theorem cb_zero {a b x l : Int} (h1 : a ≤ x) (h2 : x < b) (hl : l ∈ rI a b) (ne : l ≠ x) : cb ndr m a b x l ((b - a).toNat - 1) = 0 := by
  have hx : x ∈ rI a b := mem_rI.mpr ⟨h1, h2⟩
  unfold cb
  rw [if_neg ne]
  refine tc_big (rm_nodup (rI_nodup a b)) (mem_rm.mpr ⟨hx, Ne.symm ne⟩) ?_
  have := rm_len (rI_nodup a b) hl
  rw [rI_len] at this; omega
/-- the last one is x: the mixings of both sides -/
theorem cb_self (iv : Iv ndr) {a b x : Int} (h0 : 0 ≤ a) (h1 : a ≤ x) (h2 : x < b) (h3 : b ≤ m) : ct (okW ndr (rI 0 m)) (rm x (rI a b)) = ch ((b - a).toNat - 1) (x - a).toNat * (pt ndr m a x * pt ndr m (x + 1) b) := by
  have ap := part_apart (n := m) iv h0 h1 h2 h3
  rw [ct_parts (rm_nodup (rI_nodup a b)) ap, (part_filter h1 h2).1, (part_filter h1 h2).2]
  have := rm_len (rI_nodup a b) (mem_rI.mpr ⟨h1, h2⟩)
  rw [rI_len] at this
  rw [rI_len, show (rm x (rI a b)).length = (b - a).toNat - 1 by omega]; rfl
/-- the last one is another: the times in the one side, spread -/
theorem cb_left (iv : Iv ndr) {a b x l : Int} (h0 : 0 ≤ a) (h1 : a ≤ x) (h2 : l < b) (h3 : b ≤ m) (hx : x < l) (k : Nat) : cb ndr m a b x l k = spr (tp ndr m a l x) (l - a).toNat (b - (l + 1)).toNat (pt ndr m (l + 1) b) k := by
  have ap := part_apart (n := m) iv h0 (show a ≤ l by omega) h2 h3
  unfold cb
  rw [if_neg (by omega), tc_parts (rm_nodup (rI_nodup a b)) ap (mem_rm.mpr ⟨mem_rI.mpr ⟨h1, by omega⟩, by omega⟩) (decide_eq_true hx), (part_filter (by omega) h2).1, (part_filter (by omega) h2).2, rI_len, rI_len, spr_eq]
  · rfl
  · intro t ht
    exact tc_big (rI_nodup _ _) (mem_rI.mpr ⟨h1, hx⟩) (by rw [rI_len]; exact ht)
theorem cb_right (iv : Iv ndr) {a b x l : Int} (h0 : 0 ≤ a) (h1 : a ≤ l) (h2 : x < b) (h3 : b ≤ m) (hx : l < x) (k : Nat) : cb ndr m a b x l k = spr (tp ndr m (l + 1) b x) (b - (l + 1)).toNat (l - a).toNat (pt ndr m a l) k := by
  have ap := (part_apart (n := m) iv h0 h1 (show l < b by omega) h3).flip
  have f2 := part_filter (a := a) (b := b) h1 (show l < b by omega)
  have ff : (rm l (rI a b)).filter (fun d => !!decide (d < l)) = rI a l := by rw [← f2.1]; congr 1; funext d; simp
  unfold cb
  rw [if_neg (by omega), tc_parts (rm_nodup (rI_nodup a b)) ap (mem_rm.mpr ⟨mem_rI.mpr ⟨by omega, h2⟩, by omega⟩) (by simp; omega), ff, f2.2, rI_len, rI_len, spr_eq]
  · rfl
  · intro t ht
    exact tc_big (rI_nodup _ _) (mem_rI.mpr ⟨by omega, h2⟩) (by rw [rI_len]; exact ht)
end
end NS
namespace NS
open PySem PySem.Spec PyProof.Rows L2
theorem nums_congr {n : Nat} {f g : Nat → Nat} (h : ∀ k, k < n → f k = g k) : nums n f = nums n g := by
  unfold nums
  refine List.map_congr_left fun k hk => ?_
  rw [h k (List.mem_range.mp hk)]
theorem nums_snoc {n : Nat} {f : Nat → Nat} (h : f n = 0) : nums n f ++ [.int 0] = nums (n + 1) f := by
  unfold nums; rw [List.range_succ, List.map_append, List.map_singleton, h]; rfl
theorem zipD_nums (n : Nat) (f g : Nat → Nat) : zipD (nums n f) (nums n g) = (List.range n).map fun k => .tup [.int (f k : Nat), .int (g k : Nat)] := by
  unfold zipD nums
  rw [List.zip_map, List.map_map]
  rw [show (List.range n).zip (List.range n) = (List.range n).map fun k => (k, k) by
    induction (List.range n) with
    | nil => rfl
    | cons a l ih => simp [ih]]
  rw [List.map_map]; rfl
theorem ixN_last {n : Nat} (h : 0 < n) : ixN n (-1) = some (n - 1) := by
  unfold ixN; simp; omega
theorem T_sIf {t : DS → M Bool} {f h : DS → M Fl} {σ : DS} {g : G} {Q : Fl → G → Prop} {b : Bool} (ht : t σ = M.pure b) (h1 : b = true → T (f σ) g Q) (h2 : b = false → T (h σ) g Q) : T (sIf t f h σ) g Q := by
  rw [sIf_ap, ht, pure_bind']
  cases b with
  | true => exact h1 rfl
  | false => exact h2 rfl
theorem lasts_T {ndr : Int → Int → Bool} {m : Int} {x : D} {B : Int → Int × Int} (ex : ∀ k : Int, 0 ≤ k → k < m → kIx x (.int k) = M.pure (pr (B k))) (hB : ∀ a k b, 0 ≤ a → a ≤ k → k < b → b ≤ m → ((a ≤ (B k).1 ∧ (B k).2 ≤ b) ↔ okW ndr (rI 0 m) (rI a b) k = true)) {a b : Int} (h0 : 0 ≤ a) (h1 : a ≤ b) (h2 : b ≤ m) (hm : m ≤ 12) :
    d_lasts_of [x, pr (a, b)] = M.pure (.lst (((rI a b).filter fun l => okW ndr (rI 0 m) (rI a b) l).map .int)) := by
  have key : compM (gN 2) (eTst (eArgs (callN 3 d_is_inside) (lCons (eBin kIx (eVar 0) (eVar 2)) (lCons (eBin kIx (eVar 1) (eC (.int 0))) (lCons (eBin kIx (eVar 1) (eC (.int 1))) lNil))))) (eVar 2) [some (.sh x), some (.sh (pr (a, b))), none] (rngD a b) = M.pure (((rI a b).filter fun l => okW ndr (rI 0 m) (rI a b) l).map .int) := by
    rw [rngD_rI]
    refine compM_pure (p := fun l => okW ndr (rI 0 m) (rI a b) l) (f := .int) fun l hl => ?_
    have hl := mem_rI.mp hl
    refine ⟨_, rfl, ?_, fun _ => rfl⟩
    simp -implicitDefEqProofs [ex l (by omega) (by omega), inside_T]
    congr 1
    refine bool_iff ?_
    rw [Bool.and_eq_true, decide_eq_true_eq, decide_eq_true_eq]
    exact hB a l b h0 hl.1 hl.2 h2
  unfold d_lasts_of runD b_lasts_of
  simp -implicitDefEqProofs [startD, key]
  rw [if_pos ⟨by omega, by omega⟩, if_pos (by omega)]
theorem dPut_prL (kvs : List (List Key × D)) (p : Int × Int) (v : D) : dPut (.dT kvs) (pr p) v = if fit kvs.length = true then some (.dT (putD kvs [.inl p.1, .inl p.2] v)) else none := rfl
theorem kIxD_pr (kvs : List (List Key × D)) (p : Int × Int) : kIxD (.dT kvs) (pr p) = M.opt (valD kvs [.inl p.1, .inl p.2]) := rfl
theorem tp_le {ndr : Int → Int → Bool} {m : Int} (hm : m ≤ 12) {a b x : Int} (h0 : 0 ≤ a) (h3 : b ≤ m) (h1 : a ≤ x) (h2 : x < b) (k : Nat) : tp ndr m a b x k ≤ 479001600 := by
  have gen : ∀ (S : List Int), S.Nodup → x ∈ S → ∀ ok, tc ok S x k ≤ fct S.length := by
    intro S hS hx ok
    refine nodup_ind (P := fun S => x ∈ S → tc ok S x k ≤ fct S.length) ?_ hS hx
    intro S hn ih hx
    obtain ⟨n, hk⟩ : ∃ n, S.length = n + 1 := by cases S; cases hx; exact ⟨_, rfl⟩
    have l1 := rm_len hn hx
    rw [tc_step hn hx]
    split
    · split
      · have := ct_le (ok := ok) (rm_nodup (c := x) hn)
        exact Nat.le_trans this (fct_mono (by omega))
      · omega
    · refine Nat.le_trans (sg_le (g := fun _ => fct n) fun c hc => ?_) ?_
      · have hc' := mem_rm.mp hc
        have l2 := rm_len hn hc'.1
        have := ih c hc'.1 (mem_rm.mpr ⟨hx, Ne.symm hc'.2⟩)
        rw [show (rm c S).length = n by omega] at this
        split <;> omega
      · rw [sg_const, hk, fct]
        exact Nat.mul_le_mul_right _ (by omega)
  refine Nat.le_trans (gen _ (rI_nodup a b) (mem_rI.mpr ⟨h1, h2⟩) _) (Nat.le_trans (fct_mono (m := 12) ?_) (by decide +kernel))
  rw [rI_len]; omega
theorem times_table_T {ndr : Int → Int → Bool} {m : Int} (hm : m ≤ 12) (iv : Iv ndr) {y : D} {B : Int → Int × Int} (yl : kLen [y] = M.pure (.int m)) (ex : ∀ k : Int, 0 ≤ k → k < m → kIx y (.int k) = M.pure (pr (B k)))
    (hB : ∀ a k b, 0 ≤ a → a ≤ k → k < b → b ≤ m → ((a ≤ (B k).1 ∧ (B k).2 ≤ b) ↔ okW ndr (rI 0 m) (rI a b) k = true)) {kvs : List (List Key × D)} (hk : PT ndr m kvs fun _ _ => True) {x : Int} (h0 : 0 ≤ x) (h1 : x < m) {g : G} (hg : Gpur g = true) :
    T (d_times_table [y, .dT kvs, .int x]) g fun d g' => g' = g ∧ ∃ kv2, d = .dT kv2 ∧ ∀ a b, 0 ≤ a → a ≤ x → x < b → b ≤ m → valD kv2 [.inl a, .inl b] = some (.lst (nums (b - a).toNat (tp ndr m a b x))) := by
  refine runD_T ?_
  unfold b_times_table
  obtain ⟨ps, pw, pm, po, pl⟩ := parts_with_T (m := m) (lo := x) (hi := x) h0 (Int.le_refl _) h1 hm
  simp -implicitDefEqProofs [startD, yl, pw]
  refine forM_T (fun i σ g' => (∃ x4 x5 x6 x7 x8 x9 x10, ∃ kv2, σ = [some (.sh y), some (.sh (.dT kvs)), some (.sh (.int x)), some (.ow (.dT kv2)), x4, x5, x6, x7, x8, x9, x10] ∧ kv2.length ≤ i ∧ ∀ p ∈ ps.take i, valD kv2 [.inl p.1, .inl p.2] = some (.lst (nums (p.2 - p.1).toNat (tp ndr m p.1 p.2 x)))) ∧ g' = g) (n := 0) ?_ ⟨⟨_, _, _, _, _, _, _, [], rfl, by simp, by simp⟩, rfl⟩ ?_
  · rintro i d σ g' e ⟨⟨x4, x5, x6, x7, x8, x9, x10, kv2, rfl, kl, kp⟩, rfl⟩
    rw [List.getElem?_map] at e
    obtain ⟨⟨a, b⟩, ep, rfl⟩ := Option.map_eq_some_iff.mp e
    have hi := (List.getElem?_eq_some_iff.mp ep).1
    obtain ⟨⟨a0, a1⟩, b0, b1⟩ := (pm (a, b)).mp (List.mem_of_getElem? ep)
    simp only at a0 a1 b0 b1
    rw [Nat.zero_add] at kl kp
    have short : ∀ a' b', 0 ≤ a' → a' ≤ x → x < b' → b' ≤ m → b' - a' < b - a → valD kv2 [.inl a', .inl b'] = some (.lst (nums (b' - a').toNat (tp ndr m a' b' x))) := by
      intro a' b' h1 h2 h3 h4 h5
      obtain ⟨j, hj⟩ := List.getElem?_of_mem ((pm (a', b')).mpr ⟨⟨h1, h2⟩, h3, h4⟩)
      have hj' := (List.getElem?_eq_some_iff.mp hj).1
      refine kp (a', b') (List.mem_take_iff_getElem.mpr ⟨j, ?_, (List.getElem?_eq_some_iff.mp hj).2⟩)
      have : j < i := by
        apply Classical.byContradiction
        intro hh
        by_cases e : j = i
        · subst e
          rw [hj] at ep
          have := Option.some.inj ep
          simp only [Prod.mk.injEq] at this
          omega
        · have := List.pairwise_iff_getElem.mp po i j hi hj' (by omega)
          rw [(List.getElem?_eq_some_iff.mp hj).2, (List.getElem?_eq_some_iff.mp ep).2] at this
          simp only at this
          omega
      omega
    have ix0 : kIx (pr (a, b)) (.int 0) = M.pure (.int a) := rfl
    have ix1 : kIx (pr (a, b)) (.int 1) = M.pure (.int b) := rfl
    have lt := lasts_T (x := y) ex hB (a := a) (b := b) a0 (by omega) b1 hm
    have len1 : (b - a).toNat ≤ 12 := by omega
    simp -implicitDefEqProofs [ix0, ix1]
    refine ⟨by omega, by omega, ?_⟩
    rw [nums_zero, lt, T_pure, itD_lst, T_pure]
    generalize hLL : (rI a b).filter (fun l => okW ndr (rI 0 m) (rI a b) l) = L
    have mL : ∀ l ∈ L, a ≤ l ∧ l < b := fun l hl => by rw [← hLL] at hl; exact mem_rI.mp (List.mem_filter.mp hl).1
    have tsum := tp_sum (ndr := ndr) (m := m) (a := a) (b := b) (x := x) a1 b0
    rw [hLL] at tsum
    refine forM_T (fun q σ g2 => (∃ x6 x7 x8 x9 x10, σ = [some (.sh y), some (.sh (.dT kvs)), some (.sh (.int x)), some (.ow (.dT kv2)), some (.sh (pr (a, b))), some (.ow (.lst (nums (b - a).toNat fun k => sg (L.take q) fun l => cb ndr m a b x l k))), x6, x7, x8, x9, x10]) ∧ g2 = g') (n := 0) ?_ ⟨⟨_, _, _, _, _, rfl⟩, rfl⟩ ?_
    · rintro q d σ g2 e ⟨⟨x6, x7, x8, x9, x10, rfl⟩, rfl⟩
      rw [List.getElem?_map] at e
      obtain ⟨l, el, rfl⟩ := Option.map_eq_some_iff.mp e
      obtain ⟨l0, l1⟩ := mL l (List.mem_of_getElem? el)
      have tk : ∀ k, (sg (L.take (0 + q + 1)) fun l => cb ndr m a b x l k) = (sg (L.take (0 + q)) fun l => cb ndr m a b x l k) + cb ndr m a b x l k := fun k => by
        rw [List.take_add_one, Nat.zero_add, el, sg_app]; simp
      obtain ⟨F, hF⟩ : ∃ F : Nat → Nat, F = fun k => sg (L.take (0 + q)) fun l => cb ndr m a b x l k := ⟨_, rfl⟩
      have fin : (nums (b - a).toNat fun k => sg (L.take (0 + q + 1)) fun l => cb ndr m a b x l k) = nums (b - a).toNat fun k => F k + cb ndr m a b x l k := nums_congr fun k _ => by rw [hF]; exact tk k
      rw [fin, ← hF]
      clear fin tk hF
      have hk1 := hk a l a0 l0 (by omega) trivial
      have hk2 := hk (l + 1) b (by omega) (by omega) b1 trivial
      have p1 := pt_le (ndr := ndr) hm (a := a) (b := l) a0 (by omega)
      have p2 := pt_le (ndr := ndr) hm (a := l + 1) (b := b) (by omega) b1
      rw [gN_ap, T_pure]
      have cbl : ∀ k, l ≠ x → k + 1 = (b - a).toNat → cb ndr m a b x l k = 0 := fun k ne hk => by
        have := cb_zero (ndr := ndr) (m := m) (a := a) (b := b) (x := x) a1 b0 (mem_rI.mpr ⟨l0, l1⟩) ne
        rw [show k = (b - a).toNat - 1 by omega]; exact this
      have cbs : l = x → ∀ k, cb ndr m a b x l k = if k = (b - a).toNat - 1 then ch ((b - a).toNat - 1) (l - a).toNat * (pt ndr m a l * pt ndr m (l + 1) b) else 0 := fun e k => by
        subst e
        unfold cb
        rw [if_pos rfl, cb_self iv a0 a1 b0 b1]
        by_cases hk : k + 1 = (b - a).toNat
        · rw [if_pos hk, if_pos (by omega)]
        · rw [if_neg hk, if_neg (by omega)]
      have cL : x < l → ∀ k, cb ndr m a b x l k = spr (tp ndr m a l x) (l - a).toNat (b - (l + 1)).toNat (pt ndr m (l + 1) b) k := fun h k => cb_left iv a0 a1 l1 b1 h k
      have cR : l < x → ∀ k, cb ndr m a b x l k = spr (tp ndr m (l + 1) b x) (b - (l + 1)).toNat (l - a).toNat (pt ndr m a l) k := fun h k => cb_right iv a0 l0 b0 b1 h k
      have hn1 : 0 < (b - a).toNat := by omega
      have hnI : (((b - a).toNat : Nat) : Int) = b - a := by omega
      generalize hcb : cb ndr m a b x l = C at *
      have c1 := choose_T (n := (b - a).toNat - 1) (k := (l - a).toNat) (by omega) (by omega)
      rw [show (((b - a).toNat - 1 : Nat) : Int) = (((b - a).toNat : Nat) : Int) - 1 by omega, show (((l - a).toNat : Nat) : Int) = l - a by omega] at c1
      have b1' := ch_le12 (n := (b - a).toNat - 1) (by omega) (l - a).toNat
      generalize hn : (b - a).toNat = n at *
      refine T_sIf (b := l == x) (by simp) (fun hb => ?_) (fun hb => ?_)
      · have hlx : l = x := by simpa using hb
        have fin2 : (nums n fun k => F k + C k) = nums n fun k => F k + if k = n - 1 then ch (n - 1) (l - a).toNat * (pt ndr m a l * pt ndr m (l + 1) b) else 0 := nums_congr fun k _ => by rw [cbs hlx k]
        rw [fin2]
        generalize ch (n - 1) (l - a).toNat = Cn at *
        generalize pt ndr m a l = P1 at *
        generalize pt ndr m (l + 1) b = P2 at *
        refine sAugIx_T (ds := nums n F) rfl ?_
        have v1 : kMul (.int (Cn : Nat)) (.int (P1 : Nat)) = M.pure (.int ((Cn * P1 : Nat) : Int)) := by
          rw [kMul_int, mulI_ap, if_pos (by simp; left; omega)]; simp
        have v2 : kMul (.int ((Cn * P1 : Nat) : Int)) (.int (P2 : Nat)) = M.pure (.int ((Cn * (P1 * P2) : Nat) : Int)) := by
          rw [kMul_int, mulI_ap, if_pos (by simp; right; omega)]; simp [Int.mul_assoc]
        have ns := nums_set (f := F) (n := n) (m := n - 1) (v := Cn * (P1 * P2)) (by omega)
        have ng := nums_get (f := F) (n := n) (k := n - 1) (by omega)
        generalize Cn * (P1 * P2) = v at *
        generalize Cn * P1 = v0 at *
        simp -implicitDefEqProofs [ix0, ix1, c1.T hg, hk1, hk2, v1, v2]
        exact ⟨_, ixN_last hn1, _, ng, hg, by rw [ns]⟩
      · have hlx : l ≠ x := by simpa using hb
        have step : ∀ (mine its : Int × Int) (nA nB : Nat) (row : Nat → Nat) (w : Nat), d_sides [pr (a, b), .int l, .int x] = M.pure (.tup [pr mine, pr its]) → valD kv2 [.inl mine.1, .inl mine.2] = some (.lst (nums nA row)) → valD kvs [.inl its.1, .inl its.2] = some (.int (w : Nat)) → its.2 - its.1 = (nB : Nat) → nA + nB + 1 = n → (∀ t, row t ≤ 479001600) → w ≤ 479001600 → (∀ k, C k = spr row nA nB w k) →
            T (sSeq (sAsg (eArgs (callN 3 d_sides) (lCons (eVar 4) (lCons (eVar 6) (lCons (eVar 2) lNil)))) (gNs [7, 8])) (sSet true 5 (borOs [5, 3] (eComp (iArgs zipK2 (lCons (eVar 5) (lCons (eBin kAdd (eArgs (callN 3 d_spread) (lCons (eBin kIxD (eVar 3) (eVar 7)) (lCons (eBin kSub (eBin kIx (eVar 8) (eC (.int 1))) (eBin kIx (eVar 8) (eC (.int 0)))) (lCons (eBin kIxD (eVar 1) (eVar 8)) lNil)))) (eArgs mkL (lCons (eC (.int 0)) lNil))) lNil))) [9, 10] (gNs [9, 10]) tYesD (eBin kAdd (eVar 9) (eVar 10)))))
              [some (.sh y), some (.sh (.dT kvs)), some (.sh (.int x)), some (.ow (.dT kv2)), some (.sh (pr (a, b))), some (.ow (.lst (nums n F))), some (.sh (.int l)), x7, x8, x9, x10]) g2 fun fl g3 => ∃ x6 x7 x8 x9 x10, fl = .nx [some (.sh y), some (.sh (.dT kvs)), some (.sh (.int x)), some (.ow (.dT kv2)), some (.sh (pr (a, b))), some (.ow (.lst (nums n fun k => F k + C k))), x6, x7, x8, x9, x10] ∧ g3 = g2 := by
          intro mine its nA nB row w e1 e2 e3 e4 e5 e6 e7 e8
          have sp := spread_T (n := nA) (b := nB) (w := w) (row := row) (by omega) e6 e7
          have i0 : kIx (pr its) (.int 0) = M.pure (.int its.1) := rfl
          have i1 : kIx (pr its) (.int 1) = M.pure (.int its.2) := rfl
          have z0 : spr row nA nB w (nA + nB) = 0 := by rw [← e8]; exact cbl _ hlx (by omega)
          have sn := nums_snoc z0
          rw [e5] at sn
          have sc : nums n (spr row nA nB w) = nums n C := nums_congr fun k _ => (e8 k).symm
          rw [sc] at sn
          have kc : ∀ x6 x7 x8, compM (gNs [9, 10]) tYesD (eBin kAdd (eVar 9) (eVar 10)) [some (.sh y), some (.sh (.dT kvs)), some (.sh (.int x)), some (.sh (.dT kv2)), some (.sh (pr (a, b))), some (.sh (.lst (nums n F))), x6, x7, x8, none, none] (zipD (nums n F) (nums n C)) = M.pure (nums n fun k => F k + C k) := by
            intro x6 x7 x8
            rw [zipD_nums]
            exact compM_all (en := fun k => .tup [.int (F k : Nat), .int (C k : Nat)]) fun k hk => ⟨_, rfl, rfl, by simp⟩
          have zl : zipK2 [.lst (nums n F), .lst (nums n C)] = M.pure (zipD (nums n F) (nums n C)) := rfl
          have zlen : (zipD (nums n F) (nums n C)).length = n := by rw [zipD_nums]; simp
          have pu : D.purs (nums n fun k => F k + C k) = true := purs_map _ (fun _ => rfl) _
          simp -implicitDefEqProofs [e1, kIxD_pr, e2, e3, i0, i1, e4, sp.T hg]
          refine ⟨by omega, ?_⟩
          rw [sn]
          simp -implicitDefEqProofs [zl, zlen, kc, pu, hg]
          omega
        by_cases hx : x < l
        · have s1 := short a l a0 a1 hx (by omega) (by omega)
          refine (step (a, l) (l + 1, b) (l - a).toNat (b - (l + 1)).toNat (tp ndr m a l x) (pt ndr m (l + 1) b) (by rw [sides_T, if_pos hx]) s1 hk2 (by simp only; omega) (by omega) (fun t => tp_le hm a0 (by omega) a1 hx t) p2 (cL hx)).imp ?_
          rintro fl g3 ⟨x6, x7, x8, x9, x10, rfl, rfl⟩
          exact ⟨⟨x6, x7, x8, x9, x10, rfl⟩, rfl⟩
        · have hx' : l < x := by omega
          have s1 := short (l + 1) b (by omega) (by omega) b0 b1 (by omega)
          refine (step (l + 1, b) (a, l) (b - (l + 1)).toNat (l - a).toNat (tp ndr m (l + 1) b x) (pt ndr m a l) (by rw [sides_T, if_neg hx]) s1 hk1 (by simp only; omega) (by omega) (fun t => tp_le hm (by omega) b1 (by omega) b0 t) p1 (cR hx')).imp ?_
          rintro fl g3 ⟨x6, x7, x8, x9, x10, rfl, rfl⟩
          exact ⟨⟨x6, x7, x8, x9, x10, rfl⟩, rfl⟩
    · rintro σ g2 ⟨⟨x6, x7, x8, x9, x10, rfl⟩, rfl⟩
      rw [List.length_map, Nat.zero_add, List.take_of_length_le (Nat.le_refl _)]
      have fin : (nums (b - a).toNat fun k => sg L fun l => cb ndr m a b x l k) = nums (b - a).toNat (tp ndr m a b x) := nums_congr fun k _ => (tsum k).symm
      rw [fin]
      simp -implicitDefEqProofs [dPut_prL]
      refine ⟨by omega, Nat.le_trans (putD_len _ _ _) (by omega), fun a' b' hp => ?_⟩
      rw [valD_put]
      by_cases e : a = a' ∧ b = b'
      · obtain ⟨rfl, rfl⟩ := e
        rw [if_pos rfl]
      · rw [if_neg (by simp; exact fun h1 h2 => e ⟨h1, h2⟩)]
        rw [List.take_add_one, ep] at hp
        rcases List.mem_append.mp hp with hp | hp
        · exact kp (a', b') hp
        · simp at hp; exact absurd ⟨hp.1.symm, hp.2.symm⟩ e
  · rintro σ g' ⟨⟨x4, x5, x6, x7, x8, x9, x10, kv2, rfl, kl, kp⟩, rfl⟩
    rw [List.length_map, Nat.zero_add, List.take_of_length_le (Nat.le_refl _)] at kp
    simp -implicitDefEqProofs
    exact fun a b h1 h2 h3 h4 => kp (a, b) ((pm (a, b)).mpr ⟨⟨h1, h2⟩, h3, h4⟩)
end NS
namespace NS
open PySem PySem.Spec PyProof.Rows L2
theorem kIndex_ints {R : List Int} {c : Int} (hc : c ∈ R) (hl : R.length < 1000000) : ∃ j : Nat, R[j]? = some c ∧ kIndex (.lst (R.map .int)) [.int c] = M.pure (.int (j : Nat)) := by
  have h1 := pl_sh (n := 1) (pl_lst_ints 0 R hl) (by decide)
  have pk : plOk (R.map .int) (.int c) = true := by
    unfold plOk
    have a1 : D.pysOk (R.map .int) = true := h1.1
    have a2 : SeqAt.shaped (.list (D.pys (R.map .int))) = true := h1.2
    have a3 := pl_sh (n := 0) (pl_int 0 c) (by decide)
    rw [a1, a2, a3.1, a3.2]; rfl
  have find : ∀ R : List Int, c ∈ R → ∃ j : Nat, R[j]? = some c ∧ ((D.pys (R.map .int)).findIdx? fun y => PyData.eqv y (D.py (.int c))) = some j := by
    intro R hc
    induction R with
    | nil => cases hc
    | cons a R ih =>
      have e : PyData.eqv (D.py (.int a)) (D.py (.int c)) = (a == c) := eqD_int a c
      simp only [List.map_cons, D.pys, List.findIdx?_cons, e]
      by_cases h : a = c
      · subst h; exact ⟨0, rfl, by simp⟩
      · have hc' : c ∈ R := by rcases List.mem_cons.mp hc with rfl | h'; exact absurd rfl h; exact h'
        obtain ⟨j, h1, h2⟩ := ih hc'
        exact ⟨j + 1, by simpa using h1, by simp [h, h2]⟩
  obtain ⟨j, h2, h3⟩ := find R hc
  refine ⟨j, h2, ?_⟩
  show (if plOk (R.map .int) (.int c) = true then M.opt (((D.pys (R.map .int)).findIdx? fun y => PyData.eqv y (D.py (.int c))).map fun j => D.int (j : Nat)) else M.bad : M D) = _
  rw [if_pos pk, h3]; rfl
theorem looked_T {x : D} {t : Tab} (h : Tb x t) (ok : Tok t) (p : Pos t) {cs : List Int} (hc : ∀ c ∈ cs, c ∈ takenI t) : Is (d_looked [x, .lst (cs.map .int)]) (.lst ((takenI t).map .int)) := by
  refine Is.of_T fun g hg => runD_T ?_
  unfold b_looked
  simp -implicitDefEqProofs [startD, (possible_yes h ok p).T hg, taken_T h ok.len]
  refine forM_T (fun i σ g' => (∃ x3, σ = [some (.sh x), some (.sh (.lst (cs.map .int))), some (.sh (.lst ((takenI t).map .int))), x3]) ∧ g' = g) (n := 0) ?_ ⟨⟨_, rfl⟩, rfl⟩ ?_
  · rintro i d σ g' e ⟨⟨x3, rfl⟩, rfl⟩
    rw [List.getElem?_map] at e
    obtain ⟨c, ec, rfl⟩ := Option.map_eq_some_iff.mp e
    have ni := kNotIn_lst_ints c (takenI t)
    rw [List.contains_iff_mem.mpr (hc c (List.mem_of_getElem? ec))] at ni
    simp -implicitDefEqProofs [ni]
  · rintro σ g' ⟨⟨x3, rfl⟩, rfl⟩
    simp
theorem tc_map {f : Int → Int} {ok ok' : List Int → Int → Bool} {I : List Int} (hn : I.Nodup) (inj : ∀ x ∈ I, ∀ y ∈ I, f x = f y → x = y)
    (h : ∀ I' : List Int, (∀ x ∈ I', x ∈ I) → ∀ c ∈ I', ok (I'.map f) (f c) = ok' I' c) {x : Int} (hx : x ∈ I) (k : Nat) : tc ok (I.map f) (f x) k = tc ok' I x k := by
  refine nodup_ind (P := fun J => (∀ x ∈ J, x ∈ I) → x ∈ J → tc ok (J.map f) (f x) k = tc ok' J x k) ?_ hn (fun _ h => h) hx
  intro J hJ ih hs hx
  have hm : (J.map f).Nodup := by
    rw [List.nodup_iff_pairwise_ne, List.pairwise_map]
    refine (List.Pairwise.imp_of_mem ?_ (List.nodup_iff_pairwise_ne.mp hJ))
    intro a b ha hb ne e2
    exact ne (inj a (hs a ha) b (hs b hb) e2)
  have er : ∀ c ∈ J, rm (f c) (J.map f) = (rm c J).map f := by
    intro c hc
    unfold rm
    rw [List.filter_map]
    congr 1
    refine List.filter_congr fun y hy => ?_
    by_cases e2 : y = c
    · subst e2; simp
    · have e4 : f y ≠ f c := fun e3 => e2 (inj y (hs y hy) c (hs c hc) e3)
      show (f y != f c) = (y != c)
      rw [bne_iff_ne.mpr e4, bne_iff_ne.mpr e2]
  have hsub : ∀ c, ∀ y ∈ rm c J, y ∈ I := fun c y hy => hs y (rm_sub _ _ _ hy)
  rw [tc_step hm (List.mem_map.mpr ⟨x, hx, rfl⟩), tc_step hJ hx, List.length_map, er x hx, h J hs x hx]
  by_cases e : k + 1 = J.length
  · rw [if_pos e, if_pos e, ct_map (rm_nodup hJ) (fun a ha b hb => inj a (hsub x a ha) b (hsub x b hb)) fun I' hI => h I' fun y hy => hsub x y (hI y hy)]
  · rw [if_neg e, if_neg e, sg_map]
    refine sg_congr fun c hc => ?_
    obtain ⟨c1, c2⟩ := mem_rm.mp hc
    rw [h J hs c c1, er c c1, ih c c1 (hsub c) (mem_rm.mpr ⟨hx, Ne.symm c2⟩)]
/-- the times of the object in a cell -/
def tcT (t : Tab) (c : Int) (k : Nat) : Nat := tc (okW (nd t) (takenI t)) (takenI t) c k
theorem tp_tcT {t : Tab} {R : List Int} (hR : R.Nodup) {j : Nat} {c : Int} (hj : R[j]? = some c) (k : Nat) : tp (ndx t R) (R.length : Int) 0 (R.length : Int) (j : Int) k = tc (okW (nd t) R) R c k := by
  have inj : ∀ x ∈ rI 0 (R.length : Int), ∀ y ∈ rI 0 (R.length : Int), gI R x = gI R y → x = y := by
    intro x hx y hy e
    have hx := mem_rI.mp hx
    have hy := mem_rI.mp hy
    have e1 := gI_some (R := R) (k := x) (by omega) (by omega)
    have e2 := gI_some (R := R) (k := y) (by omega) (by omega)
    rw [e, ← e2] at e1
    have := (List.getElem?_inj (by omega) hR).mp e1
    omega
  have hjl := (List.getElem?_eq_some_iff.mp hj).1
  unfold tp
  have := tc_map (f := gI R) (ok := okW (nd t) R) (ok' := okW (ndx t R) (rI 0 (R.length : Int))) (rI_nodup 0 (R.length : Int)) inj (fun I' hI c hc => by
    refine bool_iff ?_
    rw [okW_iff, okW_iff]
    have hc' := mem_rI.mp (hI c hc)
    constructor
    · intro h d hd n
      have hd' := mem_rI.mp hd
      unfold ndx at n
      rw [Bool.and_eq_true] at n
      obtain ⟨y, hy, e⟩ := List.mem_map.mp (h (gI R d) (gI_mem (by omega) (by omega)) n.2)
      have := inj y (hI y hy) d hd e
      subst this; exact hy
    · intro h d hd n
      obtain ⟨i, hi⟩ := List.getElem?_of_mem hd
      have hil := (List.getElem?_eq_some_iff.mp hi).1
      have hg : gI R (i : Int) = d := gI_get hi
      refine List.mem_map.mpr ⟨(i : Int), h i (mem_rI.mpr ⟨by omega, by omega⟩) ?_, hg⟩
      unfold ndx
      rw [hg, n, decide_eq_true ⟨by omega, by omega, by omega, by omega⟩]; rfl) (x := (j : Int)) (mem_rI.mpr ⟨by omega, by omega⟩) k
  rw [map_gI, gI_get hj] at this
  exact this.symm
theorem time_counts_T {x : D} {t : Tab} (h : Tb x t) (ok : Tok t) (p : Pos t) {c : Int} (hc : c ∈ takenI t) : Is (d_time_counts [x, .int c]) (.lst (nums (takenI t).length (tcT t c))) := by
  refine Is.of_T fun g hg => runD_T ?_
  unfold b_time_counts
  have tl := tl_le ok
  have lk := looked_T h ok p (cs := [c]) (by simpa using hc)
  have lk : Is (d_looked [x, .lst [.int c]]) (.lst ((takenI t).map .int)) := lk
  have bt := bounds_T h ok (y := .lst ((takenI t).map .int)) (.inr rfl) (fun c hc => mem_taken.mp hc) tl
  obtain ⟨j, hj, kj⟩ := kIndex_ints hc (by omega)
  have jl := (List.getElem?_eq_some_iff.mp hj).1
  have hB : ∀ a k b, 0 ≤ a → a ≤ k → k < b → b ≤ ((takenI t).length : Int) → ((a ≤ (bd t (takenI t) k).1 ∧ (bd t (takenI t) k).2 ≤ b) ↔ okW (ndx t (takenI t)) (rI 0 ((takenI t).length : Int)) (rI a b) k = true) := fun a k b h0 h1 h2 h3 => in_bd h0 h1 h2 h3
  have pt' := part_table_T (ndr := ndx t (takenI t)) (m := ((takenI t).length : Int)) (by omega) (by omega) (ndx_iv (taken_sorted t)) (B := bd t (takenI t)) hB hg
  simp -implicitDefEqProofs [startD, lk.T hg, bt.T hg]
  refine pt'.imp fun d g' ⟨e, kvs, ed, hk⟩ => ?_
  subst e ed
  have kM : eMeth isL kIndex = eMeth isL kIndex := rfl
  have tt := times_table_T (m := ((takenI t).length : Int)) (by omega) (ndx_iv (taken_sorted t)) (y := .lst ((rI 0 ((takenI t).length : Int)).map fun k => pr (bd t (takenI t) k))) (B := bd t (takenI t)) (by simp) (fun k h1 h2 => by
    rw [kIx_lst]
    obtain ⟨i, rfl⟩ := Int.eq_ofNat_of_zero_le h1
    rw [atI_nat (v := pr (bd t (takenI t) i)) (by rw [List.getElem?_map, rI_get (by omega)]; simp)]; rfl) hB hk (x := (j : Int)) (by omega) (by omega) hg
  simp -implicitDefEqProofs [eMeth, isL, kj]
  refine tt.imp fun d g' ⟨e, kv2, ed, hv⟩ => ?_
  subst e ed
  have v := hv 0 ((takenI t).length : Int) (by omega) (by omega) (by omega) (by omega)
  have e2 : nums (((takenI t).length : Int) - 0).toNat (tp (ndx t (takenI t)) ((takenI t).length : Int) 0 ((takenI t).length : Int) (j : Int)) = nums (takenI t).length (tcT t c) := by
    rw [show (((takenI t).length : Int) - 0).toNat = (takenI t).length by omega]
    exact nums_congr fun k _ => tp_tcT (taken_nodup t) hj k
  rw [e2] at v
  simp -implicitDefEqProofs [v]
end NS
namespace NS
open PySem PySem.Spec PyProof.Rows L2
/-! ## objects taken out -/
def byI (t : Tab) (c : Int) : List Int := (takenI t).filter fun o => nd t o c
def canI (t : Tab) : List Int := (takenI t).filter fun c => okL (nd t) (takenI t) c
theorem mem_can {t : Tab} {c : Int} : c ∈ canI t ↔ c ∈ takenI t ∧ ∀ d, nd t d c = false := by
  unfold canI
  rw [List.mem_filter, okL_iff]
  refine and_congr_right fun _ => ⟨fun h d => ?_, fun h d _ => h d⟩
  cases n : nd t d c
  · rfl
  · have := h d (mem_taken.mpr (nd_taken n)); rw [n] at this; cases this
theorem by_nil {t : Tab} {c : Int} : byI t c = [] ↔ okL (nd t) (takenI t) c = true := by
  unfold byI
  rw [List.filter_eq_nil_iff, okL_iff]
  exact ⟨fun h d hd => by simpa using h d hd, fun h d hd => by simp [h d hd]⟩
theorem needed_by_T {x : D} {t : Tab} (h : Tb x t) (ok : Tok t) (c : Int) : d_needed_by [x, .int c] = M.pure (.tup ((byI t c).map .int)) := by
  have tl := tl_le ok
  have key : compM (gN 2) (eTst (eBin kIn (eVar 1) (eArgs (callN 2 d_need_of) (lCons (eVar 0) (lCons (eVar 2) lNil))))) (eVar 2) [some (.sh x), some (.sh (.int c)), none] ((takenI t).map .int) = M.pure ((byI t c).map .int) := by
    refine compM_pure (p := fun o => nd t o c) (f := .int) fun o ho => ⟨_, rfl, ?_, fun _ => rfl⟩
    have e := kIn_tup_ints c (needI t o)
    rw [contains_need] at e
    simp -implicitDefEqProofs [need_of_T h ok (mem_taken.mp ho), e]
  unfold d_needed_by runD b_needed_by
  simp -implicitDefEqProofs [startD, taken_T h ok.len, key]
  omega
theorem can_leave_T {x : D} {t : Tab} (h : Tb x t) (ok : Tok t) : d_can_leave [x] = M.pure (.lst ((canI t).map .int)) := by
  have tl := tl_le ok
  have key : compM (gN 1) (eTst (eBin kEq (eArgs (callN 2 d_needed_by) (lCons (eVar 0) (lCons (eVar 1) lNil))) (eArgs mkT lNil))) (eVar 1) [some (.sh x), none] ((takenI t).map .int) = M.pure ((canI t).map .int) := by
    refine compM_pure (p := fun c => okL (nd t) (takenI t) c) (f := .int) fun c hc => ⟨_, rfl, ?_, fun _ => rfl⟩
    have bl : (byI t c).length ≤ 12 := Nat.le_trans (List.length_filter_le _ _) tl
    have e := kEq_tup_ints (xs := byI t c) (ys := []) (by omega) (by simp)
    have e : kEq (.tup ((byI t c).map .int)) (.tup []) = M.pure (.bl (decide (byI t c = []))) := e
    have e2 : decide (byI t c = []) = okL (nd t) (takenI t) c := bool_iff (by rw [decide_eq_true_eq, by_nil])
    rw [e2] at e
    simp -implicitDefEqProofs [needed_by_T h ok, e]
  unfold d_can_leave runD b_can_leave
  simp -implicitDefEqProofs [startD, taken_T h ok.len, key]
  omega
theorem tab_eta (t : Tab) : t = (rI 0 (tn t)).map (ent t) := by
  apply List.ext_getElem?
  intro k
  by_cases hk : k < t.length
  · have h1 := ent_get (t := t) (c := k) (by omega) (by unfold tn; omega)
    simp at h1
    rw [h1, List.getElem?_map, rI_get (by unfold tn; omega)]; simp
  · rw [List.getElem?_eq_none (by omega), List.getElem?_eq_none (by simp [tn]; omega)]
theorem left_T {x : D} {t : Tab} (h : Tb x t) (ok : Tok t) {c : Int} (hc : c ∈ canI t) : d_left [x, .int c] = M.pure (.tup ((putT t c .e).map Ent.d)) := by
  obtain ⟨h1, h2⟩ := mem_can.mp hc
  have lc := ent_lt (mem_taken.mp h1)
  have hl := ok.len
  have ni := kNotIn_lst_ints c (takenI t)
  rw [List.contains_iff_mem.mpr h1] at ni
  have bn : byI t c = [] := by_nil.mpr (okL_iff.mpr fun d _ => h2 d)
  have ne : kNe (.tup []) (.tup []) = M.pure (.bl false) := kNe_self (n := 1) rfl
  have nb := needed_by_T h ok c
  rw [bn] at nb
  have en : enumK [x] = M.pure (enumD (t.map Ent.d)) := by rcases h with rfl | rfl <;> rfl
  have key : compM (gNs [2, 3]) tYesD (eIf (eTst (eBin kEq (eVar 2) (eVar 1))) (eC .non) (eVar 3)) [some (.sh x), some (.sh (.int c)), none, none] (enumD (t.map Ent.d)) = M.pure ((putT t c .e).map Ent.d) := by
    have e : (putT t c .e).map Ent.d = (rI 0 (tn t)).map fun a => (if a = c then Ent.e else ent t a).d := by
      rw [tab_eta (putT t c .e), tn_put, List.map_map]
      refine List.map_congr_left fun a _ => ?_
      show (ent (putT t c .e) a).d = _
      rw [ent_put lc.1 lc.2]
    rw [e, enumD_tab]
    refine compM_all (en := fun c => .tup [.int c, (ent t c).d]) fun a ha => ⟨_, rfl, rfl, ?_⟩
    by_cases h : a = c
    · subst h; simp -implicitDefEqProofs; rfl
    · simp -implicitDefEqProofs [h]
  unfold d_left runD b_left
  simp -implicitDefEqProofs [startD, taken_T h hl, ni, nb, ne, en, key, enumD_len]
  omega
theorem taken_del {t : Tab} {c : Int} (h0 : 0 ≤ c) (h1 : c < tn t) : takenI (putT t c .e) = rm c (takenI t) := by
  unfold takenI rm
  rw [tn_put, List.filter_filter]
  refine List.filter_congr fun d _ => ?_
  rw [ent_put h0 h1]
  by_cases e : d = c
  · subst e; simp
  · simp [e]
theorem del_tok {t : Tab} (ok : Tok t) {c : Int} (h0 : 0 ≤ c) (h1 : c < tn t) : Tok (putT t c .e) := ⟨by simpa using ok.len, fun d v e => by
  rw [ent_put h0 h1] at e
  rw [tn_put]
  split at e
  · cases e
  · exact ok.wish d v e⟩
theorem del_nd {t : Tab} {c : Int} (h0 : 0 ≤ c) (h1 : c < tn t) {a d : Int} (n : nd (putT t c .e) a d = true) : a ≠ c ∧ nd t a d = true := by
  have ne : a ≠ c := by
    rintro rfl
    have := nd_taken n
    rw [ent_put h0 h1, if_pos rfl] at this
    exact this rfl
  rw [nd_put h0 h1 ne] at n
  exact ⟨ne, n⟩
theorem del_pos {t : Tab} (p : Pos t) {c : Int} (hc : c ∈ takenI t) : Pos (putT t c .e) ↔ c ∈ canI t := by
  have lc := ent_lt (mem_taken.mp hc)
  constructor
  · intro q
    refine mem_can.mpr ⟨hc, fun d => ?_⟩
    cases n : nd t d c
    · rfl
    · have ne : d ≠ c := by rintro rfl; rw [nd_irr] at n; cases n
      have n2 : nd (putT t c .e) d c = true := by rw [nd_put lc.1 lc.2 ne]; exact n
      have := q.1 d c n2
      rw [ent_put lc.1 lc.2, if_pos rfl] at this
      exact absurd rfl this
  · intro hcan
    obtain ⟨_, h2⟩ := mem_can.mp hcan
    refine ⟨fun a d n => ?_, ?_⟩
    · obtain ⟨ne, n'⟩ := del_nd lc.1 lc.2 n
      have hd : d ≠ c := by rintro rfl; rw [h2 a] at n'; cases n'
      rw [ent_put lc.1 lc.2, if_neg hd]
      exact p.1 a d n'
    · rw [taken_del lc.1 lc.2]
      intro a ha d hd ⟨n1, n2⟩
      exact p.2 a (rm_sub _ _ _ ha) d (rm_sub _ _ _ hd) ⟨(del_nd lc.1 lc.2 n1).2, (del_nd lc.1 lc.2 n2).2⟩
theorem LE_same {n1 n2 : Int → Int → Bool} {S : List Int} (hn : S.Nodup) (h : ∀ c ∈ S, ∀ d, n1 c d = n2 c d) : LE n1 S = LE n2 S := by
  refine nodup_ind (P := fun S => (∀ c ∈ S, ∀ d, n1 c d = n2 c d) → LE n1 S = LE n2 S) ?_ hn h
  intro S hn ih h
  by_cases e : S = []
  · subst e; rfl
  rw [LE_first hn e, LE_first hn e]
  refine sg_congr fun c hc => ?_
  have : okF n1 S c = okF n2 S c := by
    unfold okF; congr 1; funext d; rw [h c hc]
  rw [this, ih c hc fun d hd => h d (rm_sub _ _ _ hd)]
/-- the orders without an object that can leave -/
def outI (t : Tab) (c : Int) : Nat := LE (nd t) (rm c (takenI t))
theorem del_orders {t : Tab} (p : Pos t) {c : Int} (hc : c ∈ canI t) : (if gapI (putT t c .e) = [] then LE (nd (putT t c .e)) (takenI (putT t c .e)) else 0) = outI t c := by
  have h1 := (mem_can.mp hc).1
  have lc := ent_lt (mem_taken.mp h1)
  rw [if_pos (ngap_iff.mpr ((del_pos p h1).mpr hc).1), taken_del lc.1 lc.2]
  refine LE_same (rm_nodup (taken_nodup t)) fun a ha d => ?_
  exact nd_put lc.1 lc.2 (mem_rm.mp ha).2
theorem out_pos {t : Tab} (p : Pos t) (c : Int) : 0 < outI t c := LE_pos (nd_irr t) (nd_iv t) (nd_os t) (rm_nodup (taken_nodup t)) (p.2.sub fun x hx => rm_sub _ _ _ hx)
theorem out_sum {t : Tab} (h : takenI t ≠ []) : LE (nd t) (takenI t) = sg (canI t) (outI t) := by
  rw [LE_last (nd_irr t) (taken_nodup t) h]
  unfold canI
  rw [sg_filter]; rfl
theorem can_ne {t : Tab} (p : Pos t) (h : takenI t ≠ []) : canI t ≠ [] := by
  intro e
  have := (pos_iff.mp p).2
  rw [out_sum h, e] at this
  simp at this
/-- the last time: as many as without it -/
theorem tcT_last {t : Tab} (p : Pos t) {c : Int} (hc : c ∈ canI t) : tcT t c ((takenI t).length - 1) = outI t c := by
  obtain ⟨h1, h2⟩ := mem_can.mp hc
  have l := List.length_pos_of_mem h1
  unfold tcT
  rw [tc_step (taken_nodup t) h1, if_pos (by omega), if_pos (okW_iff.mpr fun d hd _ => hd)]
  rw [okW_last (rm_nodup (taken_nodup t)) (fun x hx => rm_sub _ _ _ hx) (nd_irr t) fun d hd => okW_iff.mpr fun e he n => mem_rm.mpr ⟨he, by rintro rfl; rw [h2 d] at n; cases n⟩]
  unfold outI LE
  rw [first_last (nd_irr t) (rm_nodup (taken_nodup t))]
/-! ## batches -/
def Bat (t : Tab) (fs : List (List Int)) : Prop := ∀ i l, fs[i]? = some l → l = readyI t (fs.take i).flatten
theorem ready_more {t : Tab} {P Q : List Int} (h : ∀ c, c ∈ P ↔ c ∈ Q) : readyI t P = readyI t Q := by
  have e : ∀ d, P.contains d = Q.contains d := fun d => bool_iff (by rw [List.contains_iff_mem, List.contains_iff_mem, h])
  unfold readyI restI
  rw [List.filter_filter, List.filter_filter]
  refine List.filter_congr fun c _ => ?_
  rw [e c]
  congr 1
  congr 1; funext d; exact e d
/-- all that is ready, put in any order -/
theorem Good.lot {t : Tab} {P σ : List Int} (g : Good t P) (h : σ.Perm (readyI t P)) : Good t (P ++ σ) := by
  have nr : (readyI t P).Nodup := (rest_nodup t P).filter _
  have sub : ∀ c ∈ σ, c ∈ readyI t P := fun c hc => h.mem_iff.mp hc
  have nσ : σ.Nodup := h.nodup_iff.mpr nr
  refine ⟨List.nodup_append.mpr ⟨g.nodup, nσ, fun a ha b hb e => ?_⟩, fun c hc => ?_, fun k c e d n => ?_⟩
  · subst e; exact (mem_ready.mp (sub a hb)).2.1 ha
  · rcases List.mem_append.mp hc with hc | hc
    · exact g.sub c hc
    · exact (mem_ready.mp (sub c hc)).1
  · by_cases hk : k < P.length
    · rw [List.getElem?_append_left hk] at e
      rw [List.take_append_of_le_length (by omega)]
      exact g.ag k c e d n
    · rw [List.getElem?_append_right (by omega)] at e
      have := (mem_ready.mp (sub c (List.mem_of_getElem? e))).2.2 d n
      rw [List.take_append]
      exact List.mem_append_left _ (by rw [List.take_of_length_le (by omega)]; exact this)
end NS
namespace NS
open PySem PySem.Spec PyProof.Rows L2
/-! ## one wish replaced; what is a table -/
theorem ents_eq (t : Tab) : t.map Ent.d = (rI 0 (tn t)).map fun a => (ent t a).d := by
  conv => lhs; rw [tab_eta t, List.map_map]
  rfl
theorem with_wish_T {x : D} {t : Tab} (h : Tb x t) (ok : Tok t) {c : Int} (hc : c ∈ takenI t) (e : Ent) : d_with_wish [x, .int c, e.d] = M.pure (.tup ((putT t c e).map Ent.d)) := by
  have lc := ent_lt (mem_taken.mp hc)
  have hl := ok.len
  have ni := kNotIn_lst_ints c (takenI t)
  rw [List.contains_iff_mem.mpr hc] at ni
  have en : enumK [x] = M.pure (enumD (t.map Ent.d)) := by rcases h with rfl | rfl <;> rfl
  have key : compM (gNs [3, 4]) tYesD (eIf (eTst (eBin kEq (eVar 3) (eVar 1))) (eVar 2) (eVar 4)) [some (.sh x), some (.sh (.int c)), some (.sh e.d), none, none] (enumD (t.map Ent.d)) = M.pure ((putT t c e).map Ent.d) := by
    have e1 : (putT t c e).map Ent.d = (rI 0 (tn t)).map fun a => (if a = c then e else ent t a).d := by
      rw [tab_eta (putT t c e), tn_put, List.map_map]
      refine List.map_congr_left fun a _ => ?_
      show (ent (putT t c e) a).d = _
      rw [ent_put lc.1 lc.2]
    rw [e1, enumD_tab]
    refine compM_all (en := fun c => .tup [.int c, (ent t c).d]) fun a ha => ⟨_, rfl, rfl, ?_⟩
    by_cases h : a = c
    · subst h; simp -implicitDefEqProofs
    · simp -implicitDefEqProofs [h]
  unfold d_with_wish runD b_with_wish
  simp -implicitDefEqProofs [startD, taken_T h hl, ni, en, key, enumD_len]
  omega
theorem is_entry_T {t : Tab} (ok : Tok t) {a : Int} (ha : a ∈ rI 0 (tn t)) : d_is_entry [.int (tn t), (ent t a).d] = M.pure (.bl true) := by
  unfold d_is_entry runD b_is_entry
  cases e : ent t a with
  | e => simp -implicitDefEqProofs [startD, Ent.d]
  | u => 
    have : kEq (.str "?") (.str "?") = M.pure (.bl true) := kEq_self (n := 0) (by decide +kernel)
    simp -implicitDefEqProofs [startD, Ent.d, this]
  | w v =>
    have := ok.wish a v e
    simp -implicitDefEqProofs [startD, Ent.d, d_is_integer, runD, b_is_integer]
    simp [this]
theorem is_table_T {t : Tab} (ok : Tok t) (h1 : 1 ≤ tn t) : d_is_table [.tup (t.map Ent.d)] = M.pure (.bl true) := by
  have hl := ok.len
  have kl : kLen [.tup (t.map Ent.d)] = M.pure (.int (tn t)) := by simp [tn]
  have key : compM (gN 1) tYesD (eArgs (callN 2 d_is_entry) (lCons (eArgs kLen (lCons (eVar 0) lNil)) (lCons (eVar 1) lNil))) [some (.sh (.tup (t.map Ent.d))), none] (t.map Ent.d) = M.pure (((rI 0 (tn t)).map fun _ => true).map .bl) := by
    generalize hx : D.tup (t.map Ent.d) = x at kl
    rw [List.map_map, ents_eq t]
    refine compM_all (en := fun a => (ent t a).d) fun a ha => ⟨_, rfl, rfl, ?_⟩
    simp -implicitDefEqProofs [kl, is_entry_T ok ha]
  have hm : t.length < 1000000 := by omega
  have hp : (0 : Int) < tn t := by omega
  unfold d_is_table runD b_is_table
  simp -implicitDefEqProofs [startD, key, tn, hm]
  unfold tn at hp
  rw [if_pos (by omega), show (D.bl ∘ fun _ : Int => true) = D.bl ∘ (fun _ : Int => true) from rfl, ← List.map_map, kOfBls_map]
  simp
  rw [List.all_eq_true.mpr fun _ _ => rfl]
theorem pl_ent (n : Nat) (e : Ent) : D.pl n e.d = true := by cases e <;> simp [Ent.d] <;> decide +kernel
theorem put_tok {t : Tab} (ok : Tok t) {c : Int} {e : Ent} (h0 : 0 ≤ c) (h1 : c < tn t) (he : ∀ v, e = .w v → 0 ≤ v ∧ v < tn t) : Tok (putT t c e) := ⟨by simpa using ok.len, fun d v h => by
  rw [ent_put h0 h1] at h
  rw [tn_put]
  split at h
  · exact he v h
  · exact ok.wish d v h⟩
theorem put_cut {t : Tab} {c : Int} (h0 : 0 ≤ c) (h1 : c < tn t) (e : Ent) : cutD (t.map Ent.d) none (some c) ++ [e.d] ++ cutD (t.map Ent.d) (some (c + 1)) none = (putT t c e).map Ent.d := by
  unfold tn at h1
  rw [cutD_take _ _ h0, cutD_drop _ _ (by omega), putT, List.map_set, List.set_eq_take_append_cons_drop, if_pos (by simp; omega), show (c + 1).toNat = c.toNat + 1 by omega]
  simp
end NS
namespace NS
open PySem PySem.Spec PyProof.Rows L2
/-! ## all orders that agree, one by one -/
def fitN (t : Tab) : Nat → List (List Int)
  | 0 => [[]]
  | n + 1 => (fitN t n).flatMap fun P => (readyI t P).map fun c => P ++ [c]
def fitI (t : Tab) : List (List Int) := fitN t (takenI t).length
theorem mem_fit {t : Tab} : ∀ {n : Nat} {P : List Int}, P ∈ fitN t n ↔ Good t P ∧ P.length = n
  | 0, P => by
    simp only [fitN, List.mem_singleton]
    constructor
    · rintro rfl; exact ⟨Good.nil t, rfl⟩
    · rintro ⟨_, h⟩; exact List.length_eq_zero_iff.mp h
  | n + 1, P => by
    simp only [fitN, List.mem_flatMap, List.mem_map]
    constructor
    · rintro ⟨Q, hQ, c, hc, rfl⟩
      obtain ⟨g, l⟩ := mem_fit.mp hQ
      exact ⟨g.snoc hc, by simp [l]⟩
    · rintro ⟨g, l⟩
      have ne : P ≠ [] := by rintro rfl; simp at l
      rw [← List.dropLast_concat_getLast ne] at g
      obtain ⟨g1, h1⟩ := g.pre
      exact ⟨P.dropLast, mem_fit.mpr ⟨g1, by simp [l]⟩, P.getLast ne, h1, List.dropLast_concat_getLast ne⟩
theorem flatMap_le {α β : Type} {f : α → List β} {k : Nat} : ∀ {l : List α}, (∀ a ∈ l, (f a).length ≤ k) → (l.flatMap f).length ≤ l.length * k
  | [], _ => by simp
  | a :: l, h => by
    have h1 := h a List.mem_cons_self
    have h2 := flatMap_le (l := l) fun b hb => h b (List.mem_cons_of_mem _ hb)
    rw [List.flatMap_cons, List.length_append, List.length_cons, Nat.add_mul]; omega
theorem ready_le {t : Tab} (P : List Int) : (readyI t P).length ≤ (takenI t).length := Nat.le_trans (List.length_filter_le _ _) (List.length_filter_le _ _)
theorem fit_le6 {t : Tab} (h : (takenI t).length ≤ 6) : ∀ n, (fitN t n).length ≤ 6 ^ n
  | 0 => by simp [fitN]
  | n + 1 => by
    have := fit_le6 h n
    refine Nat.le_trans (flatMap_le (k := 6) fun P _ => ?_) ?_
    · rw [List.length_map]; exact Nat.le_trans (ready_le P) h
    · rw [Nat.pow_succ]; omega
theorem fit_lt {t : Tab} (h : (takenI t).length ≤ 6) {n : Nat} (hn : n ≤ 6) : (fitN t n).length ≤ 46656 := Nat.le_trans (fit_le6 h n) (Nat.pow_le_pow_right (by decide) hn)
def tupI (P : List Int) : D := .tup (P.map .int)
theorem pl_tupI (n : Nat) (P : List Int) (h : P.length < 1000000) : D.pl (n + 1) (tupI P) = true := by unfold tupI; simp; omega
/-! ### the wishes' dict -/
def wantD (t : Tab) : D := .dK (mergeP [] ((takenI t).map fun c => (.inl c, .lst ((needI t c).map .int))))
theorem pairsD_map (f : Int → D) : ∀ l : List Int, pairsD (l.map fun c => .tup [.int c, f c]) = some (l.map fun c => (.inl c, f c))
  | [] => rfl
  | c :: l => by
    rw [List.map_cons, List.map_cons, pairsD, pairsD_map f l]; rfl
theorem val_merge (f : Int → D) (c : Int) : ∀ (l : List Int) (acc : List (Key × D)), valD (mergeP acc (l.map fun c => (.inl c, f c))) (.inl c) = if c ∈ l then some (f c) else valD acc (.inl c)
  | [], acc => by simp [mergeP]
  | a :: l, acc => by
    show valD (mergeP (putD acc (.inl a) (f a)) (l.map fun c => (.inl c, f c))) (.inl c) = _
    rw [val_merge f c l, valD_put]
    by_cases h : c ∈ l
    · simp [h]
    · by_cases e : a = c
      · subst e; simp [h]
      · rw [if_neg h, if_neg (by intro z; injection z with z; exact e z), if_neg (by simp [h]; exact fun z => e z.symm)]
theorem dict_want (t : Tab) : kDictP [.lst ((takenI t).map fun c => .tup [.int c, .lst ((needI t c).map .int)])] = M.pure (wantD t) := by
  show M.opt ((pairsD _).map _) = _
  rw [pairsD_map fun c => .lst ((needI t c).map .int)]
  rfl
theorem want_ix {t : Tab} {c : Int} (hc : c ∈ takenI t) : kIxD (wantD t) (.int c) = M.pure (.lst ((needI t c).map .int)) := by
  show M.opt (valD _ (Sum.inl c : Key)) = _
  rw [val_merge (fun c => .lst ((needI t c).map .int)), if_pos hc]; rfl
theorem fitting_T {x : D} {t : Tab} (h : Tb x t) (ok : Tok t) (h6 : (takenI t).length ≤ 6) : Is (d_Lfitting [x]) (.lst ((fitI t).map tupI)) := by
  refine Is.of_T fun g hg => runD_T ?_
  unfold b_Lfitting
  have kw : compM (gN 4) tYesD (eArgs mkT (lCons (eVar 4) (lCons (eArgs (callN 2 d_Lwanted) (lCons (eVar 0) (lCons (eVar 4) lNil))) lNil))) [some (.sh x), some (.sh (.lst [.tup []])), some (.sh (.lst ((takenI t).map .int))), none, none, none, none, none, none, none] ((takenI t).map .int) = M.pure ((takenI t).map fun c => .tup [.int c, .lst ((needI t c).map .int)]) :=
    compM_all fun c hc => ⟨_, rfl, rfl, by simp -implicitDefEqProofs [Lwanted_T h ok (mem_taken.mp hc)]⟩
  have dw := dict_want t
  simp -implicitDefEqProofs [startD, Lfull_T h ok, kw, dw]
  refine ⟨by omega, ?_⟩
  generalize hW : wantD t = W
  have wx : ∀ c ∈ takenI t, kIxD W (.int c) = M.pure (.lst ((needI t c).map .int)) := fun c hc => by rw [← hW]; exact want_ix hc
  clear hW
  refine forM_T (fun i σ g' => (∃ x4 x5 x6 x7 x8 x9, σ = [some (.sh x), some (.sh (.lst ((fitN t i).map tupI))), some (.sh (.lst ((takenI t).map .int))), some (.sh W), x4, x5, x6, x7, x8, x9]) ∧ g' = g) (n := 0) ?_ ⟨⟨_, _, _, _, _, _, rfl⟩, rfl⟩ ?_
  · rintro i d σ g' e ⟨⟨x4, x5, x6, x7, x8, x9, rfl⟩, rfl⟩
    have hi := (List.getElem?_eq_some_iff.mp e).1
    rw [List.length_map] at hi
    rw [Nat.zero_add]
    simp -implicitDefEqProofs
    refine forM_T (fun j σ g2 => (∃ x4 x7 x8 x9, σ = [some (.sh x), some (.sh (.lst ((fitN t i).map tupI))), some (.sh (.lst ((takenI t).map .int))), some (.sh W), x4, some (.sh d), some (.ow (.lst ((((fitN t i).take j).flatMap fun P => (readyI t P).map fun c => P ++ [c]).map tupI))), x7, x8, x9]) ∧ g2 = g') (n := 0) ?_ ⟨⟨x4, x7, x8, x9, by simp⟩, rfl⟩ ?_
    · rintro j d2 σ g2 e2 ⟨⟨x4, x7, x8, x9, rfl⟩, rfl⟩
      rw [List.getElem?_map] at e2
      obtain ⟨P, eP, rfl⟩ := Option.map_eq_some_iff.mp e2
      have lP : P.length = i := (mem_fit.mp (List.mem_of_getElem? eP)).2
      rw [Nat.zero_add, List.take_add_one, eP, List.flatMap_append, List.map_append]
      have nin : ∀ c, kNotIn (.int c) (tupI P) = M.pure (.bl (!P.contains c)) := fun c => by unfold tupI; simp
      have kin : ∀ c, kIn (.int c) (tupI P) = M.pure (.bl (P.contains c)) := fun c => by unfold tupI; simp
      have tl := tl_le ok
      have c1 : compM (gN 4) (eAnd (eTst (eBin kNotIn (eVar 4) (eVar 7))) (eTst (eArgs (kOfBls fun bs => M.pure (.bl (bs.all id))) (lCons (eComp (iSeq (eBin kIxD (eVar 3) (eVar 4))) [9] (gN 9) tYesD (eBin kIn (eVar 9) (eVar 7))) lNil)))) (eVar 4) [some (.sh x), some (.sh (.lst ((fitN t i).map tupI))), some (.sh (.lst ((takenI t).map .int))), some (.sh W), none, some (.sh d), some (.ow (.lst ((((fitN t i).take j).flatMap fun P => (readyI t P).map fun c => P ++ [c]).map tupI))), some (.sh (tupI P)), x8, x9] ((takenI t).map .int) = M.pure ((readyI t P).map .int) := by
        have er : readyI t P = (takenI t).filter fun c => !P.contains c && (needI t c).all fun d => P.contains d := by
          unfold readyI restI; rw [List.filter_filter]; refine List.filter_congr fun c _ => Bool.and_comm _ _
        rw [er]
        refine compM_pure (p := fun c => !P.contains c && (needI t c).all fun d => P.contains d) (f := .int) fun c hc => ⟨_, rfl, ?_, fun _ => rfl⟩
        have nl := need_len ok c
        have c3 : compM (gN 9) tYesD (eBin kIn (eVar 9) (eVar 7)) [some (.sh x), some (.sh (.lst ((fitN t i).map tupI))), some (.sh (.lst ((takenI t).map .int))), some (.sh W), some (.sh (.int c)), some (.sh d), some (.ow (.lst ((((fitN t i).take j).flatMap fun P => (readyI t P).map fun c => P ++ [c]).map tupI))), some (.sh (tupI P)), x8, none] ((needI t c).map .int) = M.pure (((needI t c).map fun d => P.contains d).map .bl) := by
          rw [compM_all (f := fun d => .bl (P.contains d)) fun d hd => ⟨_, rfl, rfl, by simp [kin]⟩, List.map_map]
          rfl
        by_cases hp : c ∈ P
        · simp -implicitDefEqProofs [nin, hp]
        · simp -implicitDefEqProofs [nin, hp, wx c hc, c3, -List.map_map]
          intro h; omega
      have rl := ready_le (t := t) P
      have c2 : compM (gN 4) tYesD (eBin kAdd (eVar 7) (eArgs mkT (lCons (eVar 4) lNil))) [some (.sh x), some (.sh (.lst ((fitN t i).map tupI))), some (.sh (.lst ((takenI t).map .int))), some (.sh W), none, some (.sh d), some (.ow (.lst ((((fitN t i).take j).flatMap fun P => (readyI t P).map fun c => P ++ [c]).map tupI))), some (.sh (tupI P)), some (.sh (.lst ((readyI t P).map .int))), x9] ((readyI t P).map .int) = M.pure ((readyI t P).map fun c => tupI (P ++ [c])) := by
        refine compM_all (f := fun c => tupI (P ++ [c])) fun c hc => ⟨_, rfl, rfl, ?_⟩
        have ka : kAdd (tupI P) (.tup [.int c]) = M.pure (tupI (P ++ [c])) := by
          unfold tupI
          simp
          omega
        simp -implicitDefEqProofs [ka]
      have len1 : ((((fitN t i).take j).flatMap fun P => (readyI t P).map fun c => P ++ [c]).map tupI).length ≤ 46656 := by
        rw [List.length_map]
        have hsub : (((fitN t i).take j).flatMap fun P => (readyI t P).map fun c => P ++ [c]).length ≤ (fitN t (i + 1)).length := by
          conv => rhs; rw [fitN, ← List.take_append_drop j (fitN t i), List.flatMap_append, List.length_append]
          omega
        exact Nat.le_trans hsub (fit_lt h6 (by omega))
      simp -implicitDefEqProofs [c1, c2]
      have len2 : (List.take j (List.map (fun a => (readyI t a).length) (fitN t i))).sum ≤ 46656 := by simpa using len1
      exact ⟨by omega, by omega, by omega⟩
    · rintro σ g2 ⟨⟨x4, x7, x8, x9, rfl⟩, rfl⟩
      rw [Nat.zero_add, List.length_map, List.take_of_length_le (Nat.le_refl _)]
      simp -implicitDefEqProofs
      rfl
  · rintro σ g' ⟨⟨x4, x5, x6, x7, x8, x9, rfl⟩, rfl⟩
    rw [Nat.zero_add, List.length_map]
    simp -implicitDefEqProofs [fitI]
end NS
namespace NS
open PySem PySem.Spec PyProof.Rows L2
/-! ## the law's own reason -/
def reaD (t : Tab) : D := match gapI t with
  | p :: _ => .tup [.str "gap", .int p.1, .int p.2]
  | [] => match bothI t with
    | p :: _ => .tup [.str "both", .int p.1, .int p.2]
    | [] => .non
theorem both_first {t : Tab} (ok : Tok t) {a b : Int} {i j : Nat} (ga : (takenI t)[i]? = some a) (gb : (takenI t)[j]? = some b) (m1 : nd t a b = true) (m2 : nd t b a = true)
    (hno : ∀ x ∈ (takenI t).take i, ∀ y, x < y → ¬ (nd t x y = true ∧ nd t y x = true)) (hno2 : ∀ y ∈ (takenI t).take j, a < y → ¬ (nd t a y = true ∧ nd t y a = true)) : ∃ r, bothI t = (a, b) :: r := by
  have mab : (a, b) ∈ bothI t := (mem_both ok).mpr ⟨m1, m2⟩
  cases hb2 : bothI t with
  | nil => rw [hb2] at mab; cases mab
  | cons p r =>
    obtain ⟨⟨p1, p2⟩, hf⟩ := head_first ok hb2
    have tp1 := mem_taken.mpr (nd_taken p1)
    have tp2 := mem_taken.mpr (nd_taken p2)
    have ne : p.1 ≠ p.2 := fun e => by rw [e, nd_irr] at p1; cases p1
    have low : ∀ x y, x ∈ takenI t → nd t x y = true → nd t y x = true → x < y → a ≤ x := by
      intro x y hx n1 n2 hxy
      apply Classical.byContradiction
      intro hh
      exact hno x (sorted_take (taken_sorted t) ga hx (by omega)) y hxy ⟨n1, n2⟩
    refine ⟨r, ?_⟩
    rcases hf (a, b) m1 m2 with h1 | h1
    · rw [h1]
    · exfalso
      rcases h1 with h1 | ⟨h1, h2⟩
      · have h1 : p.1 < a := h1
        rcases Int.lt_trichotomy p.1 p.2 with l | l | l
        · have := low _ _ tp1 p1 p2 l; omega
        · exact ne l
        · have := low _ _ tp2 p2 p1 l; omega
      · have h1 : p.1 = a := h1
        have h2 : p.2 < b := h2
        rcases Int.lt_trichotomy p.1 p.2 with l | l | l
        · exact hno2 p.2 (sorted_take (taken_sorted t) gb tp2 h2) (by omega) (by rw [← h1]; exact ⟨p1, p2⟩)
        · exact ne l
        · have := low _ _ tp2 p2 p1 l; omega
theorem reason_T {x : D} {t : Tab} (h : Tb x t) (ok : Tok t) : Is (d_Lreason [x]) (reaD t) := by
  refine Is.of_T fun g hg => runD_T ?_
  unfold b_Lreason
  have tl := tl_le ok
  have ix : ∀ c, 0 ≤ c → c < tn t → kIx x (.int c) = M.pure (ent t c).d := fun c h0 h1 => by
    have := atI_tab h0 h1
    rcases h with rfl | rfl <;> simp [this, M.opt]
  have kd : ∀ e : Ent, kIs e.d .non = M.pure (.bl (e == .e)) := fun e => by cases e <;> rfl
  simp -implicitDefEqProofs [startD, Lfull_T h ok]
  refine forM_T (fun i σ g' => (∃ x2 x3 x4, σ = [some (.sh x), some (.sh (.lst ((takenI t).map .int))), x2, x3, x4]) ∧ g' = g ∧ ∀ a ∈ (takenI t).take i, gapOf t a = []) (n := 0) ?_ ⟨⟨_, _, _, rfl⟩, rfl, by simp⟩ ?_
  · rintro i d σ g' e ⟨⟨x2, x3, x4, rfl⟩, rfl, hno⟩
    rw [List.getElem?_map] at e
    obtain ⟨c, ec, rfl⟩ := Option.map_eq_some_iff.mp e
    have hc : c ∈ takenI t := List.mem_of_getElem? ec
    have nl := need_len ok c
    rw [Nat.zero_add] at hno
    simp -implicitDefEqProofs [Lwanted_T h ok (mem_taken.mp hc)]
    refine forM_T (fun j σ g2 => (∃ x3, σ = [some (.sh x), some (.sh (.lst ((takenI t).map .int))), some (.sh (.int c)), x3, x4]) ∧ g2 = g' ∧ ∀ a ∈ (needI t c).take j, ent t a ≠ .e) (n := 0) ?_ ⟨⟨_, rfl⟩, rfl, by simp⟩ ?_
    · rintro j d2 σ g2 e2 ⟨⟨x3, rfl⟩, rfl, hn2⟩
      rw [List.getElem?_map] at e2
      obtain ⟨d, ed, rfl⟩ := Option.map_eq_some_iff.mp e2
      rw [Nat.zero_add] at hn2
      have hd := nd_lt ok (mem_need.mp (List.mem_of_getElem? ed))
      simp -implicitDefEqProofs [ix d hd.1 hd.2, kd]
      refine ⟨fun he => ?_, fun he => ?_⟩
      · have g1 : ((takenI t).take i).flatMap (fun c => (gapOf t c).map fun d => (c, d)) = [] := List.flatMap_eq_nil_iff.mpr fun a ha => by rw [hno a ha]; rfl
        have g2 : ((needI t c).take j).filter (fun d => ent t d == .e) = [] := List.filter_eq_nil_iff.mpr fun a ha => by simpa using hn2 a ha
        have : ∃ r, gapI t = (c, d) :: r := by
          unfold gapI
          rw [← List.take_append_drop i (takenI t), List.flatMap_append, g1, List.nil_append, List.drop_eq_getElem_cons (List.getElem?_eq_some_iff.mp ec).1, (List.getElem?_eq_some_iff.mp ec).2, List.flatMap_cons]
          have : ∃ r, gapOf t c = d :: r := by
            unfold gapOf
            rw [← List.take_append_drop j (needI t c), List.filter_append, g2, List.nil_append, List.drop_eq_getElem_cons (List.getElem?_eq_some_iff.mp ed).1, (List.getElem?_eq_some_iff.mp ed).2, List.filter_cons, if_pos (by simp [he])]
            exact ⟨_, rfl⟩
          obtain ⟨r, hr⟩ := this
          rw [hr]; exact ⟨_, rfl⟩
        obtain ⟨r, hr⟩ := this
        unfold reaD
        rw [hr]
      · intro a ha
        rw [List.take_add_one, ed] at ha
        rcases List.mem_append.mp ha with ha | ha
        · exact hn2 a ha
        · have : a = d := by simpa using ha
          subst this; exact he
    · rintro σ g2 ⟨⟨x3, rfl⟩, rfl, hn2⟩
      rw [Nat.zero_add, List.length_map, List.take_of_length_le (Nat.le_refl _)] at hn2
      refine ⟨⟨_, _, _, rfl⟩, rfl, ?_⟩
      intro a ha
      rw [List.take_add_one, ec] at ha
      rcases List.mem_append.mp ha with ha | ha
      · exact hno a ha
      · have : a = c := by simpa using ha
        subst this
        unfold gapOf
        exact List.filter_eq_nil_iff.mpr fun d hd => by simpa using hn2 d hd
  · rintro σ g' ⟨⟨x2, x3, x4, rfl⟩, rfl, hno⟩
    rw [Nat.zero_add, List.length_map, List.take_of_length_le (Nat.le_refl _)] at hno
    have ge : gapI t = [] := by unfold gapI; exact List.flatMap_eq_nil_iff.mpr fun a ha => by rw [hno a ha]; rfl
    have ng := ngap_iff.mp ge
    simp -implicitDefEqProofs
    refine forM_T (fun i σ g2 => (∃ x2 x3 x4, σ = [some (.sh x), some (.sh (.lst ((takenI t).map .int))), x2, x3, x4]) ∧ g2 = g' ∧ ∀ a ∈ (takenI t).take i, ∀ b, a < b → ¬ (nd t a b = true ∧ nd t b a = true)) (n := 0) ?_ ⟨⟨_, _, _, rfl⟩, rfl, by simp⟩ ?_
    · rintro i d σ g2 e ⟨⟨x2, x3, x4, rfl⟩, rfl, hno⟩
      rw [List.getElem?_map] at e
      obtain ⟨a, ea, rfl⟩ := Option.map_eq_some_iff.mp e
      have ha : a ∈ takenI t := List.mem_of_getElem? ea
      rw [Nat.zero_add] at hno
      simp -implicitDefEqProofs
      refine forM_T (fun j σ g3 => (∃ x4, σ = [some (.sh x), some (.sh (.lst ((takenI t).map .int))), some (.sh (.int a)), x3, x4]) ∧ g3 = g2 ∧ ∀ b ∈ (takenI t).take j, a < b → ¬ (nd t a b = true ∧ nd t b a = true)) (n := 0) ?_ ⟨⟨_, rfl⟩, rfl, by simp⟩ ?_
      · rintro j d σ g3 e ⟨⟨x4, rfl⟩, rfl, hn2⟩
        rw [List.getElem?_map] at e
        obtain ⟨b, eb, rfl⟩ := Option.map_eq_some_iff.mp e
        have hb : b ∈ takenI t := List.mem_of_getElem? eb
        rw [Nat.zero_add] at hn2
        have e1 := kIn_lst_ints b (needI t a)
        have e2 := kIn_lst_ints a (needI t b)
        rw [contains_need] at e1 e2
        simp -implicitDefEqProofs [Lwanted_T h ok (mem_taken.mp ha), Lwanted_T h ok (mem_taken.mp hb), e1, e2]
        have go : ¬ (a < b ∧ nd t a b = true ∧ nd t b a = true) → ∀ y ∈ (takenI t).take (j + 1), a < y → ¬ (nd t a y = true ∧ nd t y a = true) := by
          intro hh y hy hay
          rw [List.take_add_one, eb] at hy
          rcases List.mem_append.mp hy with hy | hy
          · exact hn2 y hy hay
          · have : y = b := by simpa using hy
            subst this
            exact fun z => hh ⟨hay, z⟩
        have go2 : ¬ (a < b ∧ nd t a b = true ∧ nd t b a = true) → ∀ y ∈ (takenI t).take (j + 1), a < y → nd t a y = true → nd t y a = false := fun hh y hy hay n1 => by
          cases n2 : nd t y a
          · rfl
          · exact absurd ⟨n1, n2⟩ (go hh y hy hay)
        refine ⟨fun hlt => ⟨fun m1 => ⟨fun m2 => ?_, fun m2 => go2 (by simp [m2])⟩, fun m1 => go2 (by simp [m1])⟩, fun hge => go2 (by omega)⟩
        obtain ⟨r, hr⟩ := both_first ok ea eb m1 m2 hno hn2
        unfold reaD
        rw [ge, hr]
      · rintro σ g3 ⟨⟨x4, rfl⟩, rfl, hn2⟩
        rw [Nat.zero_add, List.length_map, List.take_of_length_le (Nat.le_refl _)] at hn2
        refine ⟨⟨_, _, _, rfl⟩, rfl, ?_⟩
        have go : ∀ c ∈ (takenI t).take (0 + i + 1), ∀ b, c < b → ¬ (nd t c b = true ∧ nd t b c = true) := by
          intro c hc b hb
          rw [Nat.zero_add, List.take_add_one, ea] at hc
          rcases List.mem_append.mp hc with hc | hc
          · exact hno c hc b hb
          · have : c = a := by simpa using hc
            subst this
            intro z
            exact hn2 b (mem_taken.mpr (ng _ _ z.1)) hb z
        simpa using go
    · rintro σ g2 ⟨⟨x2, x3, x4, rfl⟩, rfl, hno⟩
      rw [Nat.zero_add, List.length_map, List.take_of_length_le (Nat.le_refl _)] at hno
      have nm : Nm (nd t) (takenI t) := by
        intro c hc d hd hh
        rcases Int.lt_trichotomy c d with l | l | l
        · exact hno c hc d l hh
        · subst l; rw [nd_irr] at hh; exact absurd hh.1 (by simp)
        · exact hno d hd c l ⟨hh.2, hh.1⟩
      have be := (nm_both ok).mpr nm
      unfold reaD
      rw [ge, be]
      simp -implicitDefEqProofs
/-! ## orders there are, the first one -/
theorem Good.pos {t : Tab} {σ : List Int} (g : Good t σ) (l : σ.length = (takenI t).length) : Pos t := by
  have all : ∀ c, ent t c ≠ .e → ∃ k, σ[k]? = some c := fun c hc => List.getElem?_of_mem ((perm_of g.nodup (taken_nodup t) g.sub (by omega)).mem_iff.mpr (mem_taken.mpr hc))
  refine ⟨fun c d n => ?_, fun c hc d hd ⟨n1, n2⟩ => ?_⟩
  · obtain ⟨k, hk⟩ := all c (nd_taken n)
    exact mem_taken.mp (g.sub d (List.mem_of_mem_take (g.ag k c hk d n)))
  · obtain ⟨i, hi⟩ := all c (nd_taken n1)
    obtain ⟨j, hj⟩ := all d (nd_taken n2)
    obtain ⟨i2, l2, e2⟩ := List.mem_take_iff_getElem.mp (g.ag i c hi d n1)
    obtain ⟨j2, l3, e3⟩ := List.mem_take_iff_getElem.mp (g.ag j d hj c n2)
    have a1 : j = i2 := (List.getElem?_inj (List.getElem?_eq_some_iff.mp hj).1 g.nodup).mp (hj.trans (by rw [List.getElem?_eq_getElem (by omega), e2]))
    have a2 : i = j2 := (List.getElem?_inj (List.getElem?_eq_some_iff.mp hi).1 g.nodup).mp (hi.trans (by rw [List.getElem?_eq_getElem (by omega), e3]))
    omega
theorem fit_pos {t : Tab} : fitI t ≠ [] ↔ Pos t := by
  constructor
  · intro h
    obtain ⟨P, hP⟩ := List.exists_mem_of_ne_nil _ h
    obtain ⟨g, l⟩ := mem_fit.mp hP
    exact g.pos l
  · intro h e
    have := mem_fit.mpr (foI_good h.1 h.2)
    unfold fitI at e
    rw [e] at this; cases this
theorem foN_pre (t : Tab) : ∀ (n : Nat) (P : List Int), ∃ R, foN t n P = P ++ R
  | 0, P => ⟨[], by simp [foN]⟩
  | n + 1, P => by
    unfold foN
    cases readyI t P with
    | nil => exact ⟨[], by simp⟩
    | cons c r => obtain ⟨R, h⟩ := foN_pre t n (P ++ [c]); exact ⟨c :: R, by simp [h]⟩
theorem foN_at {t : Tab} (p : Pos t) : ∀ (n k : Nat) (P : List Int), Good t P → P.length + n = (takenI t).length → k < n → ∃ c r, readyI t ((foN t n P).take (P.length + k)) = c :: r ∧ (foN t n P).take (P.length + k + 1) = (foN t n P).take (P.length + k) ++ [c]
  | 0, k, P, _, _, hk => by omega
  | n + 1, k, P, g, l, hk => by
    have ne := ready_ne p.1 p.2 g (by omega)
    unfold foN
    cases hr : readyI t P with
    | nil => exact absurd hr ne
    | cons c r =>
      obtain ⟨R, hR⟩ := foN_pre t n (P ++ [c])
      cases k with
      | zero =>
        refine ⟨c, r, ?_, ?_⟩
        · show readyI t ((foN t n (P ++ [c])).take P.length) = _
          rw [hR, List.append_assoc, List.take_left' rfl, hr]
        · show (foN t n (P ++ [c])).take (P.length + 1) = (foN t n (P ++ [c])).take P.length ++ [c]
          rw [hR, List.take_left' (by simp), List.append_assoc, List.take_left' rfl]
      | succ k =>
        have := foN_at p n k (P ++ [c]) (g.snoc (by rw [hr]; exact List.mem_cons_self)) (by simp; omega) (by omega)
        rw [show (P ++ [c]).length + k = P.length + (k + 1) by simp; omega] at this
        exact this
theorem fit_head {t : Tab} (p : Pos t) : ∀ n, n ≤ (takenI t).length → ∃ r, fitN t n = (foI t).take n :: r
  | 0, _ => ⟨[], by simp [fitN]⟩
  | n + 1, h => by
    obtain ⟨r, hr⟩ := fit_head p n (by omega)
    obtain ⟨c, r2, h1, h2⟩ := foN_at p (takenI t).length n [] (Good.nil t) (by simp) (by omega)
    simp only [List.length_nil, Nat.zero_add] at h1 h2
    have h1 : readyI t ((foI t).take n) = c :: r2 := h1
    have h2 : (foI t).take (n + 1) = (foI t).take n ++ [c] := h2
    rw [fitN, hr, List.flatMap_cons, h1, h2]
    exact ⟨_, rfl⟩
theorem fit_first {t : Tab} (p : Pos t) : ∃ r, fitI t = foI t :: r := by
  obtain ⟨r, hr⟩ := fit_head p _ (Nat.le_refl _)
  rw [List.take_of_length_le (Nat.le_of_eq (foI_good p.1 p.2).2)] at hr
  exact ⟨r, hr⟩
end NS
namespace NS
open PySem PySem.Spec PyProof.Rows L2
/-! ## all orders, listed one after the other, and their numbers -/
def lsN (t : Tab) : Nat → List Int → List (List Int)
  | 0, P => [P]
  | n + 1, P => (readyI t P).flatMap fun c => lsN t n (P ++ [c])
theorem fit_add (t : Tab) : ∀ (n a : Nat), fitN t (a + n) = (fitN t a).flatMap (lsN t n)
  | 0, a => by
    show fitN t a = (fitN t a).flatMap fun P => [P]
    simp
  | n + 1, a => by
    rw [show a + (n + 1) = a + 1 + n by omega, fit_add t n (a + 1), fitN, List.flatMap_assoc]
    congr 1; funext P
    rw [List.flatMap_map]; rfl
theorem fit_ls (t : Tab) : fitI t = lsN t (takenI t).length [] := by
  have := fit_add t (takenI t).length 0
  rw [Nat.zero_add] at this
  unfold fitI
  rw [this]; simp [fitN]
theorem flatF_len {α : Type} {f : Int → Nat} {F : Int → List α} : ∀ {L : List Int}, (∀ c ∈ L, (F c).length = f c) → (L.flatMap F).length = sg L f
  | [], _ => rfl
  | c :: L, h => by
    rw [List.flatMap_cons, List.length_append, h c List.mem_cons_self, flatF_len fun d hd => h d (List.mem_cons_of_mem _ hd), sg_cons]
theorem flat_at {α : Type} {f : Int → Nat} {F : Int → List α} : ∀ {L : List Int} {r : Nat}, (∀ c ∈ L, (F c).length = f c) → r < sg L f → (L.flatMap F)[r]? = (F (pick f L r).1)[(pick f L r).2]?
  | [], r, _, h => by simp at h
  | c :: L, r, hl, h => by
    have h1 := hl c List.mem_cons_self
    rw [List.flatMap_cons]
    unfold pick
    by_cases hc : r < f c
    · rw [if_pos hc, List.getElem?_append_left (by omega)]
    · rw [if_neg hc, List.getElem?_append_right (by omega), h1]
      rw [sg_cons] at h
      exact flat_at (fun d hd => hl d (List.mem_cons_of_mem _ hd)) (by omega)
theorem cI_full {t : Tab} {P : List Int} (h : Good t P) (e : P.length = (takenI t).length) : cI t P = 1 := by
  have := h.rest_len
  unfold cI
  rw [List.length_eq_zero_iff.mp (show (restI t P).length = 0 by omega)]
  rfl
theorem ls_len {t : Tab} (ng : Ngap t) : ∀ {n : Nat} {P : List Int}, Good t P → P.length + n = (takenI t).length → (lsN t n P).length = cI t P
  | 0, P, h, e => by rw [cI_full h (by omega)]; rfl
  | n + 1, P, h, e => by
    rw [cI_step ng (h.rest_ne (by omega)), lsN]
    exact flatF_len fun c hc => ls_len ng (h.snoc hc) (by simp; omega)
theorem ls_at {t : Tab} (ng : Ngap t) : ∀ {n : Nat} {P : List Int} {r : Nat}, Good t P → P.length + n = (takenI t).length → r < cI t P → (lsN t n P)[r]? = some (atN t n P r)
  | 0, P, r, h, e, hr => by
    rw [cI_full h (by omega)] at hr
    obtain rfl : r = 0 := by omega
    rfl
  | n + 1, P, r, h, e, hr => by
    rw [cI_step ng (h.rest_ne (by omega))] at hr
    rw [lsN, flat_at (f := fun c => cI t (P ++ [c])) (fun c hc => ls_len ng (h.snoc hc) (by simp; omega)) hr]
    obtain ⟨h1, h2⟩ := pick_spec _ _ _ hr
    exact ls_at ng (h.snoc h1) (by simp; omega) h2
theorem fit_len {t : Tab} (ng : Ngap t) : (fitI t).length = LE (nd t) (takenI t) := by
  rw [fit_ls, ls_len ng (Good.nil t) (by simp)]; unfold cI; rw [rest_nil]
theorem fit_at {t : Tab} (ng : Ngap t) {r : Nat} (h : r < (fitI t).length) : (fitI t)[r]? = some (NS.atI t r) := by
  rw [fit_len ng] at h
  rw [fit_ls]
  exact ls_at ng (Good.nil t) (by simp) (by unfold cI; rw [rest_nil]; exact h)
theorem fit_count (t : Tab) : (fitI t).length = if gapI t = [] then LE (nd t) (takenI t) else 0 := by
  by_cases h : gapI t = []
  · rw [if_pos h, fit_len (ngap_iff.mp h)]
  · rw [if_neg h, List.length_eq_zero_iff]
    apply Classical.byContradiction
    intro z
    exact h (ngap_iff.mpr (fit_pos.mp z).1)
/-- the number of an order that goes on with R after P -/
def numN (t : Tab) : List Int → List Int → Nat
  | _, [] => 0
  | P, c :: R => sg ((readyI t P).filter fun d => decide (d < c)) (fun d => cI t (P ++ [d])) + numN t (P ++ [c]) R
theorem pick_val (f : Int → Nat) : ∀ {L : List Int} {r : Nat}, L.Pairwise (· < ·) → r < sg L f → r = sg (L.filter fun d => decide (d < (pick f L r).1)) f + (pick f L r).2
  | [], r, _, h => by simp at h
  | c :: L, r, hs, h => by
    have hs2 := List.pairwise_cons.mp hs
    by_cases hc : r < f c
    · have e : pick f (c :: L) r = (c, r) := by unfold pick; rw [if_pos hc]
      rw [e]
      have : (c :: L).filter (fun d => decide (d < c)) = [] := by
        rw [List.filter_eq_nil_iff]
        intro d hd
        rcases List.mem_cons.mp hd with rfl | hd
        · simp
        · have := hs2.1 d hd; simp; omega
      rw [this]; simp
    · have e : pick f (c :: L) r = pick f L (r - f c) := by conv => lhs; unfold pick; rw [if_neg hc]
      rw [e]
      rw [sg_cons] at h
      have hr : r - f c < sg L f := by omega
      have := pick_val f hs2.2 hr
      have hm := (pick_spec f L _ hr).1
      have hlt := hs2.1 _ hm
      rw [List.filter_cons_of_pos (by simpa using hlt), sg_cons]
      omega
theorem ready_sorted (t : Tab) (P : List Int) : (readyI t P).Pairwise (· < ·) := (rest_sorted t P).filter _
theorem num_at {t : Tab} (ng : Ngap t) : ∀ {n : Nat} {P : List Int} {r : Nat}, Good t P → P.length + n = (takenI t).length → r < cI t P → ∃ R, atN t n P r = P ++ R ∧ R.length = n ∧ numN t P R = r
  | 0, P, r, h, e, hr => by
    rw [cI_full h (by omega)] at hr
    exact ⟨[], by simp [atN], rfl, by simp [numN]; omega⟩
  | n + 1, P, r, h, e, hr => by
    rw [cI_step ng (h.rest_ne (by omega))] at hr
    have hv := pick_val _ (ready_sorted t P) hr
    obtain ⟨h1, h2⟩ := pick_spec _ _ _ hr
    obtain ⟨R, e1, e2, e3⟩ := num_at ng (n := n) (h.snoc h1) (by simp; omega) h2
    refine ⟨(pick (fun c => cI t (P ++ [c])) (readyI t P) r).1 :: R, by unfold atN; rw [e1]; simp, by simp [e2], ?_⟩
    rw [numN, e3]; exact hv.symm
theorem num_atI {t : Tab} (ng : Ngap t) {r : Nat} (h : r < LE (nd t) (takenI t)) : numN t [] (NS.atI t r) = r := by
  obtain ⟨R, e1, e2, e3⟩ := num_at ng (r := r) (Good.nil t) (n := (takenI t).length) (by simp) (by unfold cI; rw [rest_nil]; exact h)
  unfold NS.atI
  rw [e1]; exact e3
theorem sg_ge {α : Type} {l : List α} {a : α} (f : α → Nat) (h : a ∈ l) : f a ≤ sg l f := by
  induction l with
  | nil => cases h
  | cons b l ih =>
    rw [sg_cons]
    rcases List.mem_cons.mp h with rfl | h
    · omega
    · have := ih h; omega
theorem num_lt {t : Tab} (ng : Ngap t) : ∀ {R P : List Int}, Good t (P ++ R) → P.length + R.length = (takenI t).length → numN t P R < cI t P
  | [], P, h, e => by
    rw [List.append_nil] at h
    rw [cI_full h (by simpa using e)]; simp [numN]
  | c :: R, P, h, e => by
    have h2 : Good t ((P ++ [c]) ++ R) := by simpa using h
    have hp : ∀ {A B : List Int}, Good t (A ++ B) → Good t A := by
      intro A B
      induction B generalizing A with
      | nil => intro h; simpa using h
      | cons b B ih => intro h; exact (ih (A := A ++ [b]) (by simpa using h)).pre.1
    obtain ⟨g1, hc⟩ := (hp h2).pre
    have lt := num_lt ng h2 (by simp at e ⊢; omega)
    rw [cI_step ng (g1.rest_ne (by simp at e; omega)), numN]
    have s1 := sg_split (readyI t P) (fun d => decide (d < c)) fun d => cI t (P ++ [d])
    have : cI t (P ++ [c]) ≤ sg ((readyI t P).filter fun d => !decide (d < c)) fun d => cI t (P ++ [d]) := by
      have hm : c ∈ (readyI t P).filter fun d => !decide (d < c) := List.mem_filter.mpr ⟨hc, by simp⟩
      exact sg_ge (fun d => cI t (P ++ [d])) hm
    omega
theorem listed_T {x : D} {t : Tab} (h : Tb x t) (ok : Tok t) : ∀ (n k : Nat) {P : List Int}, Good t P → P.length + n = (takenI t).length → n < k → (lsN t n P).length < 1000000 → Is (d_listed k [x, .lst (P.map .int)]) (.lst ((lsN t n P).map tupI))
  | n, 0, _, _, _, hk, _ => by omega
  | n, k + 1, P, gp, e, hk, hl => by
    have tl := tl_le ok
    refine Is.of_T fun g hg => runD_T ?_
    unfold b_listed
    simp -implicitDefEqProofs [startD, taken_T h ok.len]
    refine ⟨fun he => ?_, fun he => ?_⟩
    · obtain rfl : n = 0 := by omega
      simp [lsN, tupI]
    · obtain ⟨n, rfl⟩ : ∃ m, n = m + 1 := ⟨n - 1, by omega⟩
      simp -implicitDefEqProofs [ready_T h ok (y := .lst (P.map .int)) (P := P) (.inr rfl)]
      have hL : (lsN t (n + 1) P) = (readyI t P).flatMap fun c => lsN t n (P ++ [c]) := rfl
      refine forM_T (fun i σ g' => (∃ x3, σ = [some (.sh x), some (.sh (.lst (P.map .int))), some (.ow (.lst ((((readyI t P).take i).flatMap fun c => lsN t n (P ++ [c])).map tupI))), x3]) ∧ g' = g) (n := 0) ?_ ⟨⟨_, rfl⟩, rfl⟩ ?_
      · rintro i d σ g' e2 ⟨⟨x3, rfl⟩, rfl⟩
        rw [List.getElem?_map] at e2
        obtain ⟨c, ec, rfl⟩ := Option.map_eq_some_iff.mp e2
        have hc := List.mem_of_getElem? ec
        have gc := gp.snoc hc
        have hle : ((((readyI t P).take i).flatMap fun c => lsN t n (P ++ [c]))).length + (lsN t n (P ++ [c])).length ≤ (lsN t (n + 1) P).length := by
          rw [hL]
          conv => rhs; rw [← List.take_append_drop (i + 1) (readyI t P), List.take_add_one, ec, List.flatMap_append, List.length_append, List.flatMap_append, List.length_append]
          simp
        have ih := listed_T h ok n k gc (by simp; omega) (by omega) (by omega)
        rw [Nat.zero_add, List.take_add_one, ec, List.flatMap_append, List.map_append]
        have ka : kAdd (.lst (P.map .int)) (.lst [.int c]) = M.pure (.lst ((P ++ [c]).map .int)) := by
          have := gp.len
          simp; omega
        have hle2 : ((((readyI t P).take i).flatMap fun c => lsN t n (P ++ [c])).map tupI).length + (lsN t n (P ++ [c])).length < 1000000 := by rw [List.length_map]; omega
        generalize ((((readyI t P).take i).flatMap fun c => lsN t n (P ++ [c])).map tupI) = acc at *
        simp -implicitDefEqProofs [ka, ih.T hg, -List.map_append]
        exact hle2
      · rintro σ g' ⟨⟨x3, rfl⟩, rfl⟩
        rw [List.length_map, Nat.zero_add, List.take_of_length_le (Nat.le_refl _)]
        simp -implicitDefEqProofs [hL]
theorem sum_nat {α : Type} (f : α → Nat) : ∀ L : List α, (L.map fun a => ((f a : Nat) : Int)).sum = (sg L f : Nat)
  | [] => rfl
  | a :: L => by rw [List.map_cons, List.sum_cons, sum_nat f L, sg_cons]; omega
theorem number_of_T {x y : D} {t : Tab} {P : List Int} (h : Tb x t) (ok : Tok t) (hy : Sq y P) (gp : Good t P) (lp : P.length = (takenI t).length) : Is (d_number_of [x, y]) (.int (numN t [] P : Nat)) := by
  have pp := gp.pos lp
  have ng := pp.1
  have tl := tl_le ok
  refine Is.of_T fun g hg => runD_T ?_
  unfold b_number_of
  have en : enumK [y] = M.pure (enumD (P.map .int)) := by rcases hy with rfl | rfl <;> rfl
  simp -implicitDefEqProofs [startD, (possible_yes h ok pp).T hg, en]
  refine forM_T (fun i σ g' => (∃ x5 x6 x7 x8 x9, ∃ q : Nat, σ = [some (.sh x), some (.sh y), some (.ow (.lst ((P.take i).map .int))), some (.sh (.int (q : Nat))), some (.sh (.bl true)), x5, x6, x7, x8, x9] ∧ q + numN t (P.take i) (P.drop i) = numN t [] P) ∧ g' = g) (n := 0) ?_ ⟨⟨none, none, none, none, none, 0, by simp, by simp⟩, rfl⟩ ?_
  · rintro i d σ g' e ⟨⟨x5, x6, x7, x8, x9, q, rfl, hq⟩, rfl⟩
    have hi := (List.getElem?_eq_some_iff.mp e).1
    rw [enumD_len, List.length_map] at hi
    obtain ⟨c, ec⟩ : ∃ c, P[i]? = some c := ⟨P[i], List.getElem?_eq_getElem hi⟩
    have e2 := enumD_get (xs := P.map .int) (i := i) (d := .int c) (by rw [List.getElem?_map, ec]; rfl)
    rw [e] at e2
    cases e2
    rw [Nat.zero_add]
    have gt := gp.take i
    have hc := gp.next ec
    have nx := nexts_T h ok (y := .lst ((P.take i).map .int)) (P := P.take i) (.inr rfl)
    have rl : (readyI t (P.take i)).length ≤ 12 := Nat.le_trans (List.length_filter_le _ _) (Nat.le_trans (List.length_filter_le _ _) tl)
    have nin : ∀ S : List Int, kNotIn (.int c) (.lst (S.map .int)) = M.pure (.bl (!S.contains c)) := fun S => by simp
    have k1 : ∀ x2 x3 x8 x9, compM (gNs [8, 9]) tYesD (eVar 8) [some (.sh x), some (.sh y), x2, some (.sh (.int (q : Nat))), some (.sh (.bl true)), some (.sh (.int (i : Nat))), some (.sh (.int c)), x3, x8, x9] ((readyI t (P.take i)).map fun c => pr (c, (cI t (P.take i ++ [c]) : Nat))) = M.pure ((readyI t (P.take i)).map .int) := fun x2 x3 x8 x9 => compM_all (f := D.int) fun d hd => ⟨_, rfl, rfl, rfl⟩
    have k2 : ∀ x2 x3 x8 x9, compM (gNs [8, 9]) (eTst (eBin kLt (eVar 8) (eVar 6))) (eVar 9) [some (.sh x), some (.sh y), x2, some (.sh (.int (q : Nat))), some (.sh (.bl true)), some (.sh (.int (i : Nat))), some (.sh (.int c)), x3, x8, x9] ((readyI t (P.take i)).map fun c => pr (c, (cI t (P.take i ++ [c]) : Nat))) = M.pure ((((readyI t (P.take i)).filter fun d => decide (d < c)).map fun d => ((cI t (P.take i ++ [d]) : Nat) : Int)).map .int) := fun x2 x3 x8 x9 => by
      rw [List.map_map]
      exact compM_pure (p := fun d => decide (d < c)) (f := D.int ∘ fun d => ((cI t (P.take i ++ [d]) : Nat) : Int)) fun d hd => ⟨_, rfl, by simp, fun _ => rfl⟩
    have fl : ((readyI t (P.take i)).filter fun d => decide (d < c)).length ≤ 12 := Nat.le_trans (List.length_filter_le _ _) rl
    have hne : (!(readyI t (P.take i)).contains c) = false := by simpa using hc
    have ks := fun f => kOfInts_map f (((readyI t (P.take i)).filter fun d => decide (d < c)).map fun d => ((cI t (P.take i ++ [d]) : Nat) : Int))
    have pu : D.purs ((readyI t (P.take i)).map fun c => pr (c, (cI t (P.take i ++ [c]) : Nat))) = true := purs_map _ (fun _ => rfl) _
    have tk : (P.take (i + 1)).map D.int = (P.take i).map D.int ++ [.int c] := by rw [List.take_add_one, ec]; simp
    simp -implicitDefEqProofs [nx.T hg, k1, k2, nin, hne, ks, sum_nat, pu, hg, tk, -List.map_take, -List.map_map]
    refine ⟨by omega, hc, fun _ => ⟨by omega, by omega, _, _, _, _, _, q + sg ((readyI t (P.take i)).filter fun d => decide (d < c)) (fun d => cI t (P.take i ++ [d])), by omega, rfl, rfl, rfl, rfl, rfl, ?_⟩⟩
    have ed : P.drop i = c :: P.drop (i + 1) := by rw [List.drop_eq_getElem_cons hi]; congr 1; exact (List.getElem?_eq_some_iff.mp ec).2
    have et : P.take (i + 1) = P.take i ++ [c] := by rw [List.take_add_one, ec]; rfl
    rw [Nat.zero_add, ed, numN, ← et] at hq
    omega
  · rintro σ g' ⟨⟨x5, x6, x7, x8, x9, q, rfl, hq⟩, rfl⟩
    rw [enumD_len, List.length_map, Nat.zero_add, List.take_of_length_le (Nat.le_refl _), List.drop_length] at hq
    simp -implicitDefEqProofs
    simp [numN] at hq
    omega
theorem all_orders_T {x : D} {t : Tab} (h : Tb x t) (ok : Tok t) (hl : (fitI t).length ≤ 300) : Is (d_all_orders [x]) (.lst ((fitI t).map tupI)) := by
  refine Is.of_T fun g hg => runD_T ?_
  unfold b_all_orders
  have co := count_orders_T h ok
  rw [← fit_count] at co
  have tl := tl_le ok
  simp -implicitDefEqProofs [startD, co.T hg]
  have ls := fun hp : 0 < (fitI t).length => listed_T h ok (takenI t).length 14 (P := []) (Good.nil t) (by simp) (by omega) (by rw [← fit_ls]; omega)
  have ls : 0 < (fitI t).length → Is (d_listed 14 [x, .lst []]) (.lst ((lsN t (takenI t).length []).map tupI)) := ls
  rw [← fit_ls] at ls
  refine ⟨by omega, fun _ hp => ?_⟩
  rw [(ls hp).T hg]; exact ⟨rfl, rfl⟩
end NS
namespace NS
open PySem PySem.Spec PyProof.Rows L2
/-! ## beginnings of orders -/
theorem good_ready {t : Tab} {P : List Int} : Good t P ↔ ∀ i c, P[i]? = some c → c ∈ readyI t (P.take i) := by
  constructor
  · intro h i c e; exact h.next e
  · intro h
    have : ∀ n, n ≤ P.length → Good t (P.take n) := by
      intro n
      induction n with
      | zero => intro _; rw [List.take_zero]; exact Good.nil t
      | succ n ih =>
        intro hn
        have e : P[n]? = some P[n] := List.getElem?_eq_getElem (by omega)
        rw [List.take_add_one, e]
        exact (ih (by omega)).snoc (h n _ e)
    have := this P.length (Nat.le_refl _)
    rwa [List.take_length] at this
theorem fitN_nodup (t : Tab) : ∀ n, (fitN t n).Nodup
  | 0 => by simp [fitN]
  | n + 1 => by
    have ih := fitN_nodup t n
    rw [List.nodup_iff_pairwise_ne] at *
    rw [fitN, List.pairwise_flatMap]
    refine ⟨fun P hP => ?_, ?_⟩
    · rw [List.pairwise_map]
      exact (ready_sorted t P).imp fun h e => by
        have := (List.append_inj' e rfl).2
        simp at this; omega
    · refine ih.imp fun {P Q} hne => ?_
      intro x hx y hy e
      obtain ⟨c, _, rfl⟩ := List.mem_map.mp hx
      obtain ⟨d, _, rfl⟩ := List.mem_map.mp hy
      exact hne (List.append_inj' e rfl).1
theorem ls_pre {t : Tab} : ∀ {n : Nat} {P Q : List Int}, Q ∈ lsN t n P → ∃ R, Q = P ++ R
  | 0, P, Q, h => ⟨[], by simpa [lsN] using h⟩
  | n + 1, P, Q, h => by
    obtain ⟨c, _, hc⟩ := List.mem_flatMap.mp h
    obtain ⟨R, rfl⟩ := ls_pre hc
    exact ⟨c :: R, by simp⟩
/-- the orders that begin so -/
def begL (t : Tab) (P : List Int) : List (List Int) := (fitI t).filter fun q => decide (q.take P.length = P)
theorem beg_no {t : Tab} {P : List Int} (h : ¬Good t P) : begL t P = [] := by
  unfold begL
  rw [List.filter_eq_nil_iff]
  intro q hq e
  have := (mem_fit.mp hq).1.take P.length
  rw [of_decide_eq_true e] at this
  exact h this
theorem filter_one {α β : Type} [DecidableEq α] (F : α → List β) (p : β → Bool) {a : α} : ∀ {l : List α}, l.Nodup → a ∈ l → (∀ x ∈ F a, p x = true) → (∀ b ∈ l, b ≠ a → ∀ x ∈ F b, p x = false) → (l.flatMap F).filter p = F a
  | [], _, h, _, _ => by cases h
  | b :: l, hn, h, h1, h2 => by
    have hn2 := List.nodup_cons.mp hn
    rw [List.flatMap_cons, List.filter_append]
    by_cases e : b = a
    · subst e
      rw [List.filter_eq_self.mpr h1, List.filter_eq_nil_iff.mpr, List.append_nil]
      intro x hx
      obtain ⟨c, hc, hx⟩ := List.mem_flatMap.mp hx
      rw [h2 c (List.mem_cons_of_mem _ hc) (fun e => by subst e; exact hn2.1 hc) x hx]; simp
    · rw [List.filter_eq_nil_iff.mpr, List.nil_append]
      · exact filter_one F p hn2.2 (by rcases List.mem_cons.mp h with h | h; exact absurd h.symm e; exact h) h1 fun c hc => h2 c (List.mem_cons_of_mem _ hc)
      · intro x hx
        rw [h2 b List.mem_cons_self e x hx]; simp
theorem beg_ls {t : Tab} {P : List Int} (h : Good t P) : begL t P = lsN t ((takenI t).length - P.length) P := by
  have hl := h.len
  unfold begL
  have e := fit_add t ((takenI t).length - P.length) P.length
  rw [show P.length + ((takenI t).length - P.length) = (takenI t).length by omega] at e
  show (fitN t (takenI t).length).filter _ = _
  rw [e]
  refine filter_one (a := P) _ _ (fitN_nodup t _) (mem_fit.mpr ⟨h, rfl⟩) ?_ ?_
  · intro x hx
    obtain ⟨R, rfl⟩ := ls_pre hx
    simp
  · intro Q hQ hne x hx
    obtain ⟨R, rfl⟩ := ls_pre hx
    have := (mem_fit.mp hQ).2
    rw [← this, List.take_left']
    · exact decide_eq_false hne
    · rfl
theorem beg_len {t : Tab} (ng : Ngap t) {P : List Int} (h : Good t P) : (begL t P).length = cI t P := by
  rw [beg_ls h]
  exact ls_len ng h (by have := h.len; omega)
theorem beg_gap {t : Tab} (h : ¬Ngap t) (P : List Int) : begL t P = [] := by
  have : fitI t = [] := Classical.byContradiction fun z => h (fit_pos.mp z).1
  unfold begL; rw [this]; rfl
theorem count_after_T' {x y : D} {t : Tab} (h : Tb x t) (ok : Tok t) {P : List Int} (hy : Sq y P) (hP : P.length ≤ 1000) : Is (d_count_after [x, y]) (.int ((begL t P).length : Nat)) := by
  refine Is.of_T fun g hg => runD_T ?_
  unfold b_count_after
  have tl := tl_le ok
  have en : enumK [y] = M.pure (enumD (P.map .int)) := by rcases hy with rfl | rfl <;> rfl
  simp -implicitDefEqProofs [startD, en]
  refine forM_T (fun i σ g' => (∃ x2 x3, σ = [some (.sh x), some (.sh y), x2, x3]) ∧ Good t (P.take i) ∧ g' = g) (n := 0) ?_ ⟨⟨_, _, rfl⟩, by rw [List.take_zero]; exact Good.nil t, rfl⟩ ?_
  · rintro i d σ g' e ⟨⟨x2, x3, rfl⟩, gp, rfl⟩
    have hi : i < P.length := by have := (List.getElem?_eq_some_iff.mp e).1; rw [enumD_len] at this; simpa using this
    obtain ⟨c, ec⟩ : ∃ c, P[i]? = some c := ⟨P[i], List.getElem?_eq_getElem hi⟩
    have e2 := enumD_get (xs := P.map .int) (i := i) (d := .int c) (by rw [List.getElem?_map, ec]; rfl)
    rw [e] at e2
    cases e2
    rw [Nat.zero_add] at gp ⊢
    have c1 : ∃ z, kSl none (some (i : Int)) y = M.pure z ∧ Sq z (P.take i) := by
      have c1 := cutD_take (P.map .int) (i : Int) (by omega)
      rw [← List.map_take, Int.toNat_natCast] at c1
      rcases hy with rfl | rfl
      · exact ⟨_, by rw [kSl_tup, c1], .inl rfl⟩
      · exact ⟨_, by rw [kSl_lst, c1], .inr rfl⟩
    obtain ⟨z, c1, hz⟩ := c1
    have rt := ready_T h ok hz
    have ni := kNotIn_lst_ints c (readyI t (P.take i))
    by_cases hc : c ∈ readyI t (P.take i)
    · rw [List.contains_iff_mem.mpr hc] at ni
      simp -implicitDefEqProofs [c1, rt, ni, -List.map_take]
      rw [List.take_add_one, ec]
      exact gp.snoc hc
    · rw [show (readyI t (P.take i)).contains c = false by simpa using hc] at ni
      have := beg_no (t := t) (P := P) fun gg => hc (gg.next ec)
      simp -implicitDefEqProofs [c1, rt, ni, this, -List.map_take]
  · rintro σ g' ⟨⟨x2, x3, rfl⟩, gp, rfl⟩
    rw [enumD_len, List.length_map, Nat.zero_add, List.take_length] at gp
    by_cases ng : Ngap t
    · have ge := ngap_iff.mpr ng
      have kn : kNe (.lst ((gapI t).map pr)) (.lst []) = M.pure (.bl false) := by rw [kNe_prs_nil (gap_lt ok), ge]; rfl
      have nin : ∀ c, kNotIn (.int c) y = M.pure (.bl (!P.contains c)) := by intro c; rcases hy with rfl | rfl <;> simp
      have e1 : compM (gN 3) (eTst (eBin kNotIn (eVar 3) (eVar 1))) (eVar 3) [some (.sh x), some (.sh y), x2, none] ((takenI t).map .int) = M.pure ((restI t P).map .int) :=
        compM_pure (p := fun c => !P.contains c) (f := .int) fun c hc => ⟨_, rfl, by simp -implicitDefEqProofs [nin], fun _ => rfl⟩
      have cc := count_of_T h ok (y := .lst ((restI t P).map .int)) (.inr rfl) (rest_sorted t P) (fun c hc => mem_taken.mp (mem_rest.mp hc).1) (Nat.le_trans (List.length_filter_le _ _) tl)
      simp -implicitDefEqProofs [gaps_T h ok, kn, taken_T h ok.len, e1, cc.T hg, beg_len ng gp, cI]
      omega
    · have ge : gapI t ≠ [] := fun z => ng (ngap_iff.mp z)
      have kn : kNe (.lst ((gapI t).map pr)) (.lst []) = M.pure (.bl true) := by rw [kNe_prs_nil (gap_lt ok)]; simp [ge]
      simp -implicitDefEqProofs [gaps_T h ok, kn, beg_gap ng]
theorem next_cells_T' {x y : D} {t : Tab} (h : Tb x t) (ok : Tok t) {P : List Int} (hy : Sq y P) (hP : P.length ≤ 1000) : Is (d_next_cells [x, y]) (.lst ((if begL t P = [] then [] else readyI t P).map .int)) := by
  refine Is.of_T fun g hg => runD_T ?_
  unfold b_next_cells
  have rt := ready_T h ok hy
  simp -implicitDefEqProofs [startD, (count_after_T' h ok hy hP).T hg, rt]
  exact ⟨fun h1 h2 => absurd h1 h2, fun h => by rw [if_neg h]⟩
theorem due_next {t : Tab} {P : List Int} : setI (((begL t P).filter fun q => decide (P.length < q.length)).map fun q => gI q P.length) = if begL t P = [] then [] else readyI t P := by
  by_cases hb : begL t P = []
  · rw [if_pos hb, hb]; rfl
  · rw [if_neg hb]
    have gp : Good t P := Classical.byContradiction fun z => hb (beg_no z)
    have ng : Ngap t := Classical.byContradiction fun z => hb (beg_gap z P)
    have nm : Pos t := by
      obtain ⟨q, hq⟩ := List.exists_mem_of_ne_nil _ hb
      obtain ⟨g, l⟩ := mem_fit.mp (List.mem_filter.mp hq).1
      exact g.pos l
    refine (setI_only (ready_sorted t P) fun c => ?_).symm
    simp only [List.mem_map, List.mem_filter, decide_eq_true_eq]
    constructor
    · intro hc
      have g2 := gp.snoc hc
      obtain ⟨gf, lf⟩ := foN_good nm.1 nm.2 g2 (n := (takenI t).length - (P.length + 1)) (by have := g2.len; simp at this ⊢; omega)
      obtain ⟨R, hR⟩ := foN_pre t ((takenI t).length - (P.length + 1)) (P ++ [c])
      refine ⟨foN t ((takenI t).length - (P.length + 1)) (P ++ [c]), ⟨List.mem_filter.mpr ⟨mem_fit.mpr ⟨gf, lf⟩, ?_⟩, ?_⟩, ?_⟩
      · rw [hR, List.append_assoc]; simp
      · rw [hR]; simp
      · rw [hR]; unfold gI; simp
    · rintro ⟨q, ⟨hq, hl⟩, rfl⟩
      obtain ⟨hq, he⟩ := List.mem_filter.mp hq
      have e := of_decide_eq_true he
      have gq := (mem_fit.mp hq).1
      have es : q[P.length]? = some (gI q P.length) := by unfold gI; simp [hl]
      have := gq.next es
      rwa [e] at this
end NS
namespace NS
open PySem PySem.Spec PyProof.Rows L2
theorem kNe_fits {t : Tab} (ok : Tok t) (h : (fitI t).length < 1000000) : kNe (.lst ((fitI t).map tupI)) (.lst []) = M.pure (.bl (!decide (fitI t = []))) := by
  have hp : D.pl 2 (.lst ((fitI t).map tupI)) = true := by
    rw [pl_lst, List.length_map, List.all_map, Bool.and_eq_true]
    refine ⟨decide_eq_true h, List.all_eq_true.mpr fun P hP => pl_tupI 0 P ?_⟩
    have := (mem_fit.mp hP).1.len
    have := tl_le ok
    omega
  rw [kNe_pl 2 1 hp (by simp)]
  cases e : fitI t with
  | nil => rfl
  | cons a l => rfl
theorem cut_t {P : List Int} {n : Int} (h0 : 0 ≤ n) : kSl none (some n) (tupI P) = M.pure (tupI (P.take n.toNat)) := by
  have c1 := cutD_take (P.map .int) n h0
  rw [← List.map_take] at c1
  show M.pure (D.tup _) = _
  rw [c1]; rfl
theorem holds_k11 (k m : Nat) (g : G) (hs : Src k (m + 100000000) g) : T (d_Lholds_k11 [.hdl k]) g fun d g' => d = .bl true ∧ Src k m g' := by
  refine runD_T ?_
  unfold b_Lholds_k11
  simp -implicitDefEqProofs [startD]
  refine Lany_T (m := m + 10000) (hs.mono (by omega)) (by decide) (by decide) fun t g1 ok t1 t2 o1 => ?_
  have tb : Tb (.tup (t.map Ent.d)) t := .inl rfl
  have tl : Tb (.lst (t.map Ent.d)) t := .inr rfl
  have hln := ok.len
  have h6 : (takenI t).length ≤ 6 := by
    have : (takenI t).length ≤ (rI 0 (tn t)).length := List.length_filter_le _ _
    rw [rI_len] at this; omega
  have fl : (fitI t).length ≤ 720 := by
    rw [fit_count]
    split
    · exact Nat.le_trans (LE_le (taken_nodup t) h6) (by decide +kernel)
    · omega
  have hp := o1.1.pur
  have lf := Lfull_T tb ok
  simp -implicitDefEqProofs [(fitting_T tb ok h6).T hp, lf]
  have kr : kRev (.lst ((takenI t).map .int)) = M.pure (.lst ((takenI t).reverse.map .int)) := by rw [List.map_reverse]; rfl
  have kt : ∀ S : List Int, kTuple [.lst (S.map .int)] = M.pure (tupI S) := fun S => rfl
  have kt2 : ∀ S : List Int, kTuple [tupI S] = M.pure (tupI S) := fun S => rfl
  have kn := kNe_fits ok (by omega)
  simp -implicitDefEqProofs [kr, kt, -List.map_reverse]
  refine forM_T (fun i σ g' => (∃ x5 x6, ∃ L : List (List Int), σ = [some (.sh (.hdl k)), some (.sh (.tup (t.map Ent.d))), some (.sh (.lst ((fitI t).map tupI))), some (.sh (.lst ((takenI t).map .int))), some (.ow (.lst (L.map tupI))), x5, x6, none, none, none, none, none, none] ∧ L.length = 3 + i ∧ ∀ P ∈ L, P.length ≤ 6) ∧ Src k (m + 10000 - 100 * i) g') (n := 0) ?_ ⟨⟨_, _, [[], takenI t, (takenI t).reverse], rfl, rfl, by simp [h6]⟩, o1.1.mono (by omega)⟩ ?_
  · rintro i d σ g2 e ⟨⟨x5, x6, L, rfl, lL, hL⟩, go⟩
    have hi := (rngD_get e).2
    simp -implicitDefEqProofs
    refine Lshuffled_T (m := m + 10000 - 100 * i - 40) (R := takenI t) (go.mono (by omega)) (.inr rfl) (by omega) fun σ1 g4 pσ o4 => ?_
    simp -implicitDefEqProofs [kn]
    have cc : ∀ n : Int, 0 ≤ n → D.tup (cutD (σ1.map .int) none (some n)) = tupI (σ1.take n.toNat) := fun n h0 => by
      have c1 := cutD_take (σ1.map .int) n h0
      rw [← List.map_take] at c1
      rw [c1]; rfl
    have l1 : σ1.length ≤ 6 := by rw [pσ.length_eq]; exact h6
    have nl : ∀ R : List Int, R.length ≤ 6 → ∀ n, ∀ P ∈ L ++ [R.take n], P.length ≤ 6 := by
      intro R hR n P hP
      rcases List.mem_append.mp hP with h | h
      · exact hL P h
      · rw [List.mem_singleton.mp h, List.length_take]; omega
    refine ⟨fun hne => ?_, fun _ => ?_⟩
    · refine draw_G (m := m + 10000 - 100 * i - 42) (o4.1.mono (by omega)) (by omega) (by omega) fun r g5 a5 b5 o5 => ?_
      simp -implicitDefEqProofs
      refine ⟨fun _ => ?_, fun _ => ?_⟩
      · refine choice_T (m := m + 10000 - 100 * i - 44) (o5.1.mono (by omega)) (by simpa using hne) (by rw [List.length_map]; omega) fun z hz g6 o6 => ?_
        obtain ⟨P, hP, rfl⟩ := List.mem_map.mp hz
        have lP : P.length ≤ 6 := by have := (mem_fit.mp hP).2; omega
        simp -implicitDefEqProofs [kt2]
        refine draw_G (m := m + 10000 - 100 * i - 46) (o6.1.mono (by omega)) (by omega) (by omega) fun n g7 a7 b7 o7 => ?_
        simp -implicitDefEqProofs [cut_t a7]
        exact ⟨by omega, ⟨_, _, L ++ [P.take n.toNat], by simp, rfl, rfl, by simp; omega, nl P lP _⟩, o7.1.mono (by omega)⟩
      · refine draw_G (m := m + 10000 - 100 * i - 46) (o5.1.mono (by omega)) (by omega) (by omega) fun n g7 a7 b7 o7 => ?_
        simp -implicitDefEqProofs [cc n a7]
        exact ⟨by omega, ⟨_, _, L ++ [σ1.take n.toNat], by simp, rfl, rfl, by simp; omega, nl σ1 l1 _⟩, o7.1.mono (by omega)⟩
    · refine draw_G (m := m + 10000 - 100 * i - 46) (o4.1.mono (by omega)) (by omega) (by omega) fun n g7 a7 b7 o7 => ?_
      simp -implicitDefEqProofs [cc n a7]
      exact ⟨by omega, ⟨_, _, L ++ [σ1.take n.toNat], by simp, rfl, rfl, by simp; omega, nl σ1 l1 _⟩, o7.1.mono (by omega)⟩
  · rintro σ g2 ⟨⟨x5, x6, L, rfl, lL, hL⟩, go⟩
    have lL : L.length = 17 := by rw [lL]; simp
    have fin : Src k m g2 := go.mono (by omega)
    have hp2 := go.pur
    clear go
    simp -implicitDefEqProofs [-List.map_map]
    refine forM_T (fun i σ g' => (∃ x6 x7 x8 x9 x10 x11 x12, σ = [some (.sh (.hdl k)), some (.sh (.tup (t.map Ent.d))), some (.sh (.lst ((fitI t).map tupI))), some (.sh (.lst ((takenI t).map .int))), some (.sh (.lst (L.map tupI))), x5, x6, x7, x8, x9, x10, x11, x12]) ∧ g' = g2) (n := 0) ?_ ⟨⟨_, _, _, _, _, _, _, rfl⟩, rfl⟩ ?_
    · rintro i d σ g' e ⟨⟨x6, x7, x8, x9, x10, x11, x12, rfl⟩, rfl⟩
      rw [List.getElem?_map] at e
      obtain ⟨P, eP, rfl⟩ := Option.map_eq_some_iff.mp e
      have lP := hL P (List.mem_of_getElem? eP)
      have c1 : ∀ x8 x9 x10 x11 x12, compM (gN 6) (eTst (eBin kEq (eSl kSl (eVar 6) oNone (oSome (eArgs kLen (lCons (eVar 7) lNil)))) (eVar 7))) (eVar 6) [some (.sh (.hdl k)), some (.sh (.tup (t.map Ent.d))), some (.sh (.lst ((fitI t).map tupI))), some (.sh (.lst ((takenI t).map .int))), some (.sh (.lst (L.map tupI))), x5, none, some (.sh (tupI P)), x8, x9, x10, x11, x12] ((fitI t).map tupI) = M.pure ((begL t P).map tupI) := fun x8 x9 x10 x11 x12 => by
        refine compM_pure (p := fun q : List Int => decide (q.take P.length = P)) (f := tupI) fun q hq => ⟨_, rfl, ?_, fun _ => rfl⟩
        have lq := (mem_fit.mp hq).2
        have c0 := cut_t (P := q) (n := (P.length : Int)) (by omega)
        have kl : kLen [tupI P] = M.pure (.int (P.length : Nat)) := by unfold tupI; simp
        have ke : kEq (tupI (q.take P.length)) (tupI P) = M.pure (.bl (decide (q.take P.length = P))) := kEq_tup_ints (by simp; omega) (by omega)
        rw [Int.toNat_natCast] at c0
        simp -implicitDefEqProofs [kl, c0, ke]
      have lb : (begL t P).length ≤ 720 := Nat.le_trans (List.length_filter_le _ _) fl
      have c2 : ∀ x9 x10 x11 x12, compM (gN 6) (eTst (eBin kGt (eArgs kLen (lCons (eVar 6) lNil)) (eArgs kLen (lCons (eVar 7) lNil)))) (eBin kIx (eVar 6) (eArgs kLen (lCons (eVar 7) lNil))) [some (.sh (.hdl k)), some (.sh (.tup (t.map Ent.d))), some (.sh (.lst ((fitI t).map tupI))), some (.sh (.lst ((takenI t).map .int))), some (.sh (.lst (L.map tupI))), x5, none, some (.sh (tupI P)), some (.sh (.lst ((begL t P).map tupI))), x9, x10, x11, x12] ((begL t P).map tupI) = M.pure ((((begL t P).filter fun q => decide (P.length < q.length)).map fun q => gI q P.length).map .int) := fun x9 x10 x11 x12 => by
        rw [List.map_map]
        refine compM_pure (p := fun q : List Int => decide (P.length < q.length)) (f := D.int ∘ fun q : List Int => gI q P.length) fun q hq => ⟨_, rfl, ?_, fun hl => ?_⟩
        · have kl : ∀ P : List Int, kLen [tupI P] = M.pure (.int (P.length : Nat)) := fun P => by unfold tupI; simp
          simp -implicitDefEqProofs [kl]
        · have hl := of_decide_eq_true hl
          have kl : ∀ P : List Int, kLen [tupI P] = M.pure (.int (P.length : Nat)) := fun P => by unfold tupI; simp
          have ki : kIx (tupI q) (.int (P.length : Nat)) = M.pure (.int (gI q P.length)) := by
            have := gI_some (R := q) (k := (P.length : Int)) (by omega) (by omega)
            rw [Int.toNat_natCast] at this
            show M.opt (L2.atI (q.map D.int) (P.length : Int)) = _
            rw [atI_nat (show (q.map D.int)[P.length]? = some (.int (gI q P.length)) by rw [List.getElem?_map, this]; rfl)]
            rfl
          simp -implicitDefEqProofs [kl, ki]
      have c3 : kSortSetL [.lst ((((begL t P).filter fun q => decide (P.length < q.length)).map fun q => gI q P.length).map .int)] = M.pure (.lst ((if begL t P = [] then [] else readyI t P).map .int)) := by
        have sl : (setI (((begL t P).filter fun q => decide (P.length < q.length)).map fun q => gI q P.length)).length < 60 := by
          rw [due_next]
          split
          · simp
          · have := ready_le (t := t) P; omega
        rw [← due_next]
        generalize hN : ((begL t P).filter fun q => decide (P.length < q.length)).map (fun q => gI q P.length) = N at *
        have lN : N.length ≤ 4000 := by rw [← hN, List.length_map]; exact Nat.le_trans (List.length_filter_le _ _) (by omega)
        show (match D.ints (N.map D.int) with
          | some ns => if ns.length ≤ 4000 ∧ (setI ns).length < 60 then M.pure (.lst ((setI ns).map .int)) else M.bad
          | none => M.bad : M D) = _
        rw [show D.ints (N.map D.int) = some N from by simp]
        exact if_pos ⟨lN, sl⟩
      have ca1 := count_after_T' tb ok (y := tupI P) (.inl rfl) (by omega)
      have ca2 := count_after_T' tl ok (y := .lst (P.map .int)) (.inr rfl) (by omega)
      have nc1 := next_cells_T' tb ok (y := tupI P) (.inl rfl) (by omega)
      have nc2 := next_cells_T' tl ok (y := .lst (P.map .int)) (.inr rfl) (by omega)
      have nl : (if begL t P = [] then [] else readyI t P).length ≤ 6 := by
        split
        · simp
        · have := ready_le (t := t) P; omega
      generalize (if begL t P = [] then [] else readyI t P) = N at *
      have kl : kList [tupI P] = M.pure (.lst (P.map .int)) := rfl
      have knP : kNe (.lst (P.map .int)) (.lst (P.map .int)) = M.pure (.bl false) := kNe_self (n := 1) (pl_lst_ints 0 _ (by omega))
      generalize begL t P = B at *
      simp -implicitDefEqProofs [c1, c2, c3, kl, ca1.T hp2, ca2.T hp2, -List.map_map]
      refine ⟨by omega, by omega, equal_T rfl (by simp) ?_⟩
      simp -implicitDefEqProofs [nc1.T hp2]
      refine equal_T rfl (by simp; omega) ?_
      simp -implicitDefEqProofs [hp2, nc2.T hp2]
      refine ⟨by omega, ?_⟩
      refine equal_T rfl (by simp; omega) ?_
      simp -implicitDefEqProofs [knP]
    · rintro σ g' ⟨⟨x6, x7, x8, x9, x10, x11, x12, rfl⟩, rfl⟩
      simp -implicitDefEqProofs
      exact fin
theorem law_k11 : ∀ ns : List Int, ns.length ≤ 63 → ∃ g', d_law_k11 [.slst (ns.map .int)] [] = .ok (.bl true) g' := law_B (N := 3) (n := 2) holds_k11
end NS
open PySem PySem.W PyProof.Rows
set_option maxHeartbeats 0 in
theorem PySem.Challenge.cw_nearslot_k11_beginnings_of_orders_holds : PySem.Challenge.rw_nearslot_k11_beginnings_of_orders.Holds := by
  w_on; o_law; k_head; (case hw => w_witness2)
  k_fill
  refine NS.walk_E (l := PySem.Challenge.rw_nearslot_k11_beginnings_of_orders) (n := 63) (k := 11) (x := "_law_script") (d := _) (K := _) (m := false) (f := NS.d_law_k11) rfl (by decide) rfl ⟨⟨rfl, by decide, by decide⟩, rfl⟩ (fun w h Y => PySem.W.kIn_of Y) ?F NS.law_k11
  case F =>
    intro w mg fa h KX G hmg
    refine' NS.all_mk KX G hmg ?a0 ?l0 ?c0 ?k0 ?a1 ?l1 ?c1 ?k1 ?a2 ?l2 ?c2 ?k2 ?a3 ?l3 ?c3 ?k3 ?a4 ?l4 ?c4 ?k4 ?a5 ?l5 ?c5 ?k5 ?a6 ?l6 ?c6 ?k6 ?a7 ?l7 ?c7 ?k7 ?a8 ?l8 ?c8 ?k8 ?a9 ?l9 ?c9 ?k9 ?a10 ?l10 ?c10 ?k10 ?a11 ?l11 ?c11 ?k11 ?a12 ?l12 ?c12 ?k12 ?a13 ?l13 ?c13 ?k13 ?a14 ?l14 ?c14 ?k14 ?a15 ?l15 ?c15 ?k15 ?a16 ?l16 ?c16 ?k16 ?a17 ?l17 ?c17 ?k17 ?a18 ?l18 ?c18 ?k18 ?a19 ?l19 ?c19 ?k19 ?a20 ?l20 ?c20 ?k20 ?a21 ?l21 ?c21 ?k21 ?a22 ?l22 ?c22 ?k22 ?a23 ?l23 ?c23 ?k23 ?a24 ?l24 ?c24 ?k24 ?a25 ?l25 ?c25 ?k25 ?a26 ?l26 ?c26 ?k26 ?a27 ?l27 ?c27 ?k27 ?a28 ?l28 ?c28 ?k28 ?z_abs ?z_all ?z_bool ?z_dict ?z_enumerate ?z_int ?z_isinstance ?z_len ?z_list ?z_max ?z_min ?z_range ?z_set ?z_sorted ?z_str ?z_tuple ?z_zip ?y_UNKNOWN
    (case a0 => k_is)
    (case l0 => k_is)
    (case c0 => k_is)
    (case k0 => k_is)
    (case a1 => k_is)
    (case l1 => k_is)
    (case c1 => k_is)
    (case k1 => k_is)
    (case a2 => k_is)
    (case l2 => k_is)
    (case c2 => k_is)
    (case k2 => k_is)
    (case a3 => k_is)
    (case l3 => k_is)
    (case c3 => k_is)
    (case k3 => k_is)
    (case a4 => k_is)
    (case l4 => k_is)
    (case c4 => k_is)
    (case k4 => k_is)
    (case a5 => k_is)
    (case l5 => k_is)
    (case c5 => k_is)
    (case k5 => k_is)
    (case a6 => k_is)
    (case l6 => k_is)
    (case c6 => k_is)
    (case k6 => k_is)
    (case a7 => k_is)
    (case l7 => k_is)
    (case c7 => k_is)
    (case k7 => k_is)
    (case a8 => k_is)
    (case l8 => k_is)
    (case c8 => k_is)
    (case k8 => k_is)
    (case a9 => k_is)
    (case l9 => k_is)
    (case c9 => k_is)
    (case k9 => k_is)
    (case a10 => k_is)
    (case l10 => k_is)
    (case c10 => k_is)
    (case k10 => k_is)
    (case a11 => k_is)
    (case l11 => k_is)
    (case c11 => k_is)
    (case k11 => k_is)
    (case a12 => k_is)
    (case l12 => k_is)
    (case c12 => k_is)
    (case k12 => k_is)
    (case a13 => k_is)
    (case l13 => k_is)
    (case c13 => k_is)
    (case k13 => k_is)
    (case a14 => k_is)
    (case l14 => k_is)
    (case c14 => k_is)
    (case k14 => k_is)
    (case a15 => k_is)
    (case l15 => k_is)
    (case c15 => k_is)
    (case k15 => k_is)
    (case a16 => k_is)
    (case l16 => k_is)
    (case c16 => k_is)
    (case k16 => k_is)
    (case a17 => k_is)
    (case l17 => k_is)
    (case c17 => k_is)
    (case k17 => k_is)
    (case a18 => k_is)
    (case l18 => k_is)
    (case c18 => k_is)
    (case k18 => k_is)
    (case a19 => k_is)
    (case l19 => k_is)
    (case c19 => k_is)
    (case k19 => k_is)
    (case a20 => k_is)
    (case l20 => k_is)
    (case c20 => k_is)
    (case k20 => k_is)
    (case a21 => k_is)
    (case l21 => k_is)
    (case c21 => k_is)
    (case k21 => k_is)
    (case a22 => k_is)
    (case l22 => k_is)
    (case c22 => k_is)
    (case k22 => k_is)
    (case a23 => k_is)
    (case l23 => k_is)
    (case c23 => k_is)
    (case k23 => k_is)
    (case a24 => k_is)
    (case l24 => k_is)
    (case c24 => k_is)
    (case k24 => k_is)
    (case a25 => k_is)
    (case l25 => k_is)
    (case c25 => k_is)
    (case k25 => k_is)
    (case a26 => k_is)
    (case l26 => k_is)
    (case c26 => k_is)
    (case k26 => k_is)
    (case a27 => k_is)
    (case l27 => k_is)
    (case c27 => k_is)
    (case k27 => k_is)
    (case a28 => k_is)
    (case l28 => k_is)
    (case c28 => k_is)
    (case k28 => k_is)
    (case z_abs => k_is)
    (case z_all => k_is)
    (case z_bool => k_is)
    (case z_dict => k_is)
    (case z_enumerate => k_is)
    (case z_int => k_is)
    (case z_isinstance => k_is)
    (case z_len => k_is)
    (case z_list => k_is)
    (case z_max => k_is)
    (case z_min => k_is)
    (case z_range => k_is)
    (case z_set => k_is)
    (case z_sorted => k_is)
    (case z_str => k_is)
    (case z_tuple => k_is)
    (case z_zip => k_is)
    (case y_UNKNOWN => k_is)
