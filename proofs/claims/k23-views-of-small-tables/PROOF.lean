import PyProof.Rows.All
import Wide.All
import OpenK.AllK
import Wide.FinOn
import HandS.ForMost
import HandS.ForExc
import HandS.Lambda
import HandS.Style
import HandS.TupAny
import HandS.TupMul
import HandS.Deep
import HandS.TupLe
import HandS.IsInst
import HandS.SortInts
import HandS.Conv
import HandS.Walk
import HandS.Zip
import KE.GoesMore
import KE.SortData
import KE.DataMinMax
import HandS.RevTup
import KE.DataFind
import HandS.SetFor
import HandS.More
import HandS.Dict
import KE.GoesZip
import HandS.Set
import KE.KDictZip
import PyProof.ListNew
import HandS.ExcValue
import KE.KIndexOf
import HandS.ExcInit
import HandS.ExcIs
import HandS.ExcField
import KE.KTryMore
import PyProof.Rows.IntBool
import PyProof.Rows.LemmasIntBool
import HandS.Finally
import HandS.FStr
import PyProof.InstNe
import HandS.TupSets
import HandS.EndTab
import PySem.Challenge.RW_nearslot_k23_views_of_small_tables
set_option Elab.async false
set_option linter.all false
set_option maxRecDepth 100000
namespace NS
open PySem PySem.Spec PyProof.Rows L2

inductive D where
  | non | bl (b : Bool) | int (i : Int) | str (x : Str)
  | tup (xs : List D) | lst (xs : List D)
  | dT (kvs : List (List Key × D)) | dK (kvs : List (Key × D))
  | hdl (k : Nat)
  | slst (xs : List D)
  | ftup (xs : List D)
  | fT (kvs : List (List Key × D))
  | exc0 (cls : Str)
  | exc1 (cls f : Str) (d : D)

inductive GCell where
  | src (a b c : Int)
  | sto (sts jr : List D)
  | tab (x : Str)
abbrev G := List GCell
inductive GAdr where
  | src (a : Addr)
  | sto (a C dx ps pj : Addr)
  | tab (p : Addr)
def GAdr.a : GAdr → Addr
  | .src a => a
  | .sto a _ _ _ _ => a
  | .tab p => p
def GAdr.fp : GAdr → List Addr
  | .src a => [a]
  | .sto a _ dx ps pj => [a, dx, ps, pj]
  | .tab p => [p]
def gfp (A : List GAdr) : List Addr := A.flatMap GAdr.fp
theorem gfp_append (A B : List GAdr) : gfp (A ++ B) = gfp A ++ gfp B := by simp [gfp]

structure Exn where
  cls : Str
  fld : Option (Str × D)

inductive Res (α : Type) where
  | ok (a : α) (g : G)
  | err (x : Exn) (g : G)
  | bad
abbrev M (α : Type) := G → Res α
def M.pure {α : Type} (a : α) : M α := fun g => .ok a g
def M.bind {α β : Type} (x : M α) (f : α → M β) : M β := fun g => match x g with
  | .ok a g' => f a g'
  | .err e g' => .err e g'
  | .bad => .bad
def M.bad {α : Type} : M α := fun _ => .bad
def M.opt {α : Type} : Option α → M α
  | some a => .pure a
  | none => .bad
instance : Monad M where
  pure := M.pure
  bind := M.bind

def ExV (C : Addr) (dd : Option Addr) (a : Addr) : HO := .ext fun h => ∃ (oe : Obj) (vs : Array Value), h.get? a = some oe ∧ Zc (.ref C) dd oe ∧ oe.data = .fields vs
def FzT (S : Hp) (a : Addr) (xs : List V) : Prop := ∃ o, S a = some (.frz o (.tup xs)) ∧ o.dict = none
section
variable (K : PySem.W.Frag) (A : List GAdr) (S : Hp)
mutual
inductive Rep : V → D → Prop where
  | non : Rep .non .non
  | bl (b : Bool) : Rep (.bl b) (.bl b)
  | int (i : Int) : Rep (.int i) (.int i)
  | str (x : Str) : Rep (.str x) (.str x)
  | tup {a : Addr} {xs : List V} {ds : List D} : S a = some (.tup xs) → RepL xs ds → Rep (.ref a) (.tup ds)
  | ftup {a : Addr} {xs : List V} {ds : List D} : FzT S a xs → RepL xs ds → Rep (.ref a) (.ftup ds)
  | lst {a : Addr} {xs : List V} {ds : List D} : S a = some (.lst xs) → RepL xs ds → Rep (.ref a) (.lst ds)
  | dT {a : Addr} {xs : List (List Key × V)} {ds : List (List Key × D)} : S a = some (.dT xs) → RepT xs ds → Rep (.ref a) (.dT ds)
  | dK {a : Addr} {xs : List (Key × V)} {ds : List (Key × D)} : S a = some (.dK xs) → RepK xs ds → Rep (.ref a) (.dK ds)
  | hdl {k : Nat} {ga : GAdr} : A[k]? = some ga → Rep (.ref ga.a) (.hdl k)
  | slst {a : Addr} {xs : List V} {ds : List D} : SqL K S a xs → RepL xs ds → Rep (.ref a) (.slst ds)
  | fT {a : Addr} {ob : Obj} {xs : List (List Key × V)} {ds : List (List Key × D)} : S a = some (.frz ob (.dT xs)) → RepT xs ds → Rep (.ref a) (.fT ds)
  | exc0 {a C : Addr} {cls : Str} : PySem.W.nsIn K mainGlobals cls = some (some (.ref C)) → S a = some (ExV C none a) → Rep (.ref a) (.exc0 cls)
  | exc1 {a C dx : Addr} {cls f : Str} {v : V} {d : D} : PySem.W.nsIn K mainGlobals cls = some (some (.ref C)) → S a = some (ExV C (some dx) a) → S dx = some (.xd [(f, v)]) → Rep v d → Rep (.ref a) (.exc1 cls f d)
inductive RepL : List V → List D → Prop where
  | nil : RepL [] []
  | cons {v : V} {d : D} {vs : List V} {ds : List D} : Rep v d → RepL vs ds → RepL (v :: vs) (d :: ds)
inductive RepT : List (List Key × V) → List (List Key × D) → Prop where
  | nil : RepT [] []
  | cons {k : List Key} {v : V} {d : D} {vs : List (List Key × V)} {ds : List (List Key × D)} : Rep v d → RepT vs ds → RepT ((k, v) :: vs) ((k, d) :: ds)
inductive RepK : List (Key × V) → List (Key × D) → Prop where
  | nil : RepK [] []
  | cons {k : Key} {v : V} {d : D} {vs : List (Key × V)} {ds : List (Key × D)} : Rep v d → RepK vs ds → RepK ((k, v) :: vs) ((k, d) :: ds)
end
end

section
variable {K : PySem.W.Frag} {A A' : List GAdr} {S S' H H' : Hp}
theorem SqT.mono (e : Same S S') {a : Addr} {xs : List V} (h : SqT K S a xs) : SqT K S' a xs := by
  rcases h with (h | ⟨o, h⟩) | h
  · exact .inl (.inl (e _ _ h))
  · exact .inl (.inr ⟨o, e _ _ h⟩)
  · exact .inr h
theorem tq {K : PySem.W.Frag} (e : Same S S') {a : Addr} {xs : List V} (h : S a = some (.tup xs)) : SqT K S' a xs := .inl (.inl (e _ _ h))
theorem FzT.mono (e : Same S S') {a : Addr} {xs : List V} (h : FzT S a xs) : FzT S' a xs := by
  obtain ⟨o, h, d⟩ := h; exact ⟨o, e _ _ h, d⟩
theorem FzT.sq {K : PySem.W.Frag} (e : Same S S') {a : Addr} {xs : List V} (h : FzT S a xs) : SqT K S' a xs := by
  obtain ⟨o, h, d⟩ := h; exact .inl (.inr ⟨o, e _ _ h⟩)
theorem SqL.mono (e : Same S S') {a : Addr} {xs : List V} (h : SqL K S a xs) : SqL K S' a xs := e.seq h
theorem prefix_get (h : A <+: A') {k : Nat} {ga : GAdr} (e : A[k]? = some ga) : A'[k]? = some ga := by
  obtain ⟨t, rfl⟩ := h
  rw [List.getElem?_append_left (List.getElem?_eq_some_iff.mp e).1]
  exact e
mutual
theorem Rep.mono (hA : A <+: A') (hS : Same S S') : ∀ {v : V} {d : D}, Rep K A S v d → Rep K A' S' v d
  | _, _, .non => .non
  | _, _, .bl b => .bl b
  | _, _, .int i => .int i
  | _, _, .str x => .str x
  | _, _, .tup h r => .tup (hS _ _ h) (RepL.mono hA hS r)
  | _, _, .ftup h r => .ftup (h.mono hS) (RepL.mono hA hS r)
  | _, _, .lst h r => .lst (hS _ _ h) (RepL.mono hA hS r)
  | _, _, .dT h r => .dT (hS _ _ h) (RepT.mono hA hS r)
  | _, _, .dK h r => .dK (hS _ _ h) (RepK.mono hA hS r)
  | _, _, .hdl h => .hdl (prefix_get hA h)
  | _, _, .slst h r => .slst (SqL.mono hS h) (RepL.mono hA hS r)
  | _, _, .fT h r => .fT (hS _ _ h) (RepT.mono hA hS r)
  | _, _, .exc0 c h => .exc0 c (hS _ _ h)
  | _, _, .exc1 c h x r => .exc1 c (hS _ _ h) (hS _ _ x) (Rep.mono hA hS r)
theorem RepL.mono (hA : A <+: A') (hS : Same S S') : ∀ {vs : List V} {ds : List D}, RepL K A S vs ds → RepL K A' S' vs ds
  | _, _, .nil => .nil
  | _, _, .cons h r => .cons (Rep.mono hA hS h) (RepL.mono hA hS r)
theorem RepT.mono (hA : A <+: A') (hS : Same S S') : ∀ {vs : List (List Key × V)} {ds : List (List Key × D)}, RepT K A S vs ds → RepT K A' S' vs ds
  | _, _, .nil => .nil
  | _, _, .cons h r => .cons (Rep.mono hA hS h) (RepT.mono hA hS r)
theorem RepK.mono (hA : A <+: A') (hS : Same S S') : ∀ {vs : List (Key × V)} {ds : List (Key × D)}, RepK K A S vs ds → RepK K A' S' vs ds
  | _, _, .nil => .nil
  | _, _, .cons h r => .cons (Rep.mono hA hS h) (RepK.mono hA hS r)
end
theorem RepL.length : ∀ {vs : List V} {ds : List D}, RepL K A S vs ds → vs.length = ds.length
  | _, _, .nil => rfl
  | _, _, .cons _ r => congrArg (· + 1) (RepL.length r)
theorem RepL.get : ∀ {vs : List V} {ds : List D} {i : Nat} {v : V}, RepL K A S vs ds → vs[i]? = some v → ∃ d, ds[i]? = some d ∧ Rep K A S v d
  | _, _, _, _, .nil, e => by simp at e
  | _, _, 0, _, .cons h r, e => by simp at e; subst e; exact ⟨_, rfl, h⟩
  | _, _, i + 1, _, .cons h r, e => by
    obtain ⟨d, e1, e2⟩ := RepL.get (i := i) r (by simpa using e)
    exact ⟨d, by simpa using e1, e2⟩
theorem RepL.getD : ∀ {vs : List V} {ds : List D} {i : Nat} {d : D}, RepL K A S vs ds → ds[i]? = some d → ∃ v, vs[i]? = some v ∧ Rep K A S v d
  | _, _, _, _, .nil, e => by simp at e
  | _, _, 0, _, .cons h r, e => by simp at e; subst e; exact ⟨_, rfl, h⟩
  | _, _, i + 1, _, .cons h r, e => by
    obtain ⟨d, e1, e2⟩ := RepL.getD (i := i) r (by simpa using e)
    exact ⟨d, by simpa using e1, e2⟩
theorem RepL.append : ∀ {vs ws : List V} {ds es : List D}, RepL K A S vs ds → RepL K A S ws es → RepL K A S (vs ++ ws) (ds ++ es)
  | _, _, _, _, .nil, s => s
  | _, _, _, _, .cons h r, s => .cons h (RepL.append r s)
theorem RepL.take : ∀ {vs : List V} {ds : List D} (n : Nat), RepL K A S vs ds → RepL K A S (vs.take n) (ds.take n)
  | _, _, 0, _ => by simp only [List.take_zero]; exact .nil
  | _, _, _ + 1, .nil => .nil
  | _, _, n + 1, .cons h r => .cons h (RepL.take n r)
theorem RepL.drop : ∀ {vs : List V} {ds : List D} (n : Nat), RepL K A S vs ds → RepL K A S (vs.drop n) (ds.drop n)
  | _, _, 0, r => r
  | _, _, _ + 1, .nil => .nil
  | _, _, n + 1, .cons _ r => RepL.drop n r
theorem RepL.set {v : V} {d : D} (h : Rep K A S v d) : ∀ {vs : List V} {ds : List D} (i : Nat), RepL K A S vs ds → RepL K A S (vs.set i v) (ds.set i d)
  | _, _, _, .nil => .nil
  | _, _, 0, .cons _ r => .cons h r
  | _, _, i + 1, .cons h' r => .cons h' (RepL.set h i r)
theorem RepL.eraseIdx : ∀ {vs : List V} {ds : List D} (i : Nat), RepL K A S vs ds → RepL K A S (vs.eraseIdx i) (ds.eraseIdx i)
  | _, _, _, .nil => .nil
  | _, _, 0, .cons _ r => r
  | _, _, i + 1, .cons h' r => .cons h' (RepL.eraseIdx i r)
theorem RepL.reverse : ∀ {vs : List V} {ds : List D}, RepL K A S vs ds → RepL K A S vs.reverse ds.reverse
  | _, _, .nil => .nil
  | _, _, .cons h r => by simp only [List.reverse_cons]; exact RepL.append (RepL.reverse r) (.cons h .nil)
theorem RepL.rep {vs : List V} {ds : List D} (r : RepL K A S vs ds) : ∀ k : Nat, RepL K A S (List.replicate k vs).flatten (List.replicate k ds).flatten
  | 0 => .nil
  | k + 1 => by simp only [List.replicate_succ, List.flatten_cons]; exact RepL.append r (RepL.rep r k)

def Top (K : PySem.W.Frag) (A : List GAdr) (S H : Hp) (p : Addr) : D → Prop
  | .lst ds => ∃ vs, H p = some (.lst vs) ∧ RepL K A S vs ds
  | .dT kvs => ∃ vs, H p = some (.dT vs) ∧ RepT K A S vs kvs
  | .dK kvs => ∃ vs, H p = some (.dK vs) ∧ RepK K A S vs kvs
  | _ => False
theorem Top.mono {H' : Hp} (hA : A <+: A') (hS : Same S S') {p : Addr} {d : D} (h : Top K A S H p d) (e : H' p = H p) : Top K A' S' H' p d := by
  cases d <;> first
    | exact h.elim
    | (obtain ⟨vs, h1, h2⟩ := h; exact ⟨vs, e.trans h1, h2.mono hA hS⟩)
theorem Top.some {p : Addr} {d : D} (h : Top K A S H p d) : ∃ o, H p = some o := by
  cases d <;> first
    | exact h.elim
    | (obtain ⟨vs, h1, h2⟩ := h; exact ⟨_, h1⟩)
theorem Top.nt {p : Addr} {d : D} (h : Top K A S H p d) (xs : List V) : H p ≠ Option.some (.tup xs) := by
  intro e
  cases d <;> first
    | exact h.elim
    | (obtain ⟨vs, h1, h2⟩ := h; rw [h1] at e; cases e)
theorem Top.frozen {p : Addr} {d : D} (h : Top K A S H p d) (hp : S p = none) : ∃ o, H p = Option.some o ∧ Rep K A (upd S p o) (.ref p) d := by
  have sm : ∀ o, Same S (upd S p o) := fun o b x e => by rw [upd_ne (ne_of_none e hp)]; exact e
  cases d <;> first
    | exact h.elim
    | (obtain ⟨vs, h1, h2⟩ := h
       refine ⟨_, h1, ?_⟩
       first
         | exact .lst upd_same (h2.mono (List.prefix_refl _) (sm _))
         | exact .dT upd_same (h2.mono (List.prefix_refl _) (sm _))
         | exact .dK upd_same (h2.mono (List.prefix_refl _) (sm _)))

@[irreducible] def lamQ (x : Str) : Str := x ++ ".<locals>." ++ "<lambda>"
def TabC (K : PySem.W.Frag) (S H : Hp) (p : Addr) (x : Str) : Prop := (∃ c, PySem.W.tabIn K x = some (c, p)) ∧ ∃ ps : Array Value, H p = some (.tbl ps) ∧ TriplesOk ps.toList ∧
  ∀ (pos : Pos) (cv : Value), codeAmong pos ps.toList = some cv → ∃ c, cv = .ref c ∧ S c = some (LamX.CodeO c (lamQ x))
theorem TabC.mono {K : PySem.W.Frag} {S S' H H' : Hp} {p : Addr} {x : Str} (hS : Same S S') (h : TabC K S H p x) (e : H' p = H p) : TabC K S' H' p x := by
  obtain ⟨h1, ps, h2, h3, h4⟩ := h
  refine ⟨h1, ps, e.trans h2, h3, fun pos cv z => ?_⟩
  obtain ⟨c, e1, e2⟩ := h4 pos cv z
  exact ⟨c, e1, hS _ _ e2⟩
def stoC (K : PySem.W.Frag) (C : Addr) : Prop := PySem.W.nsIn K mainGlobals "Store" = some (some (.ref C))
def CellOk (K : PySem.W.Frag) (A : List GAdr) (S H : Hp) : GAdr → GCell → Prop
  | .src a, .src x y z => H a = some (.lst [.int x, .int y, .int z])
  | .sto a C dx ps pj, .sto sts jr => stoC K C ∧ H a = some (.ins C dx [("own_states", .ref ps), ("own_journal", .ref pj)]) ∧ H dx = some (.own a) ∧
      (∃ vs, H ps = some (.lst vs) ∧ RepL K A S vs sts) ∧ ∃ vs, H pj = some (.lst vs) ∧ RepL K A S vs jr
  | .tab p, .tab x => TabC K S H p x
  | _, _ => False
theorem CellOk.mono {H' : Hp} (hA : A <+: A') (hS : Same S S') {ga : GAdr} {c : GCell} (h : CellOk K A S H ga c) (e : ∀ x ∈ ga.fp, H' x = H x) : CellOk K A' S' H' ga c := by
  cases ga <;> cases c <;> first
    | exact h.elim
    | (show H' _ = _; exact (e _ (by simp [GAdr.fp])).trans h)
    | exact TabC.mono hS h (e _ (by simp [GAdr.fp]))
    | (obtain ⟨h0, h1, h2, ⟨vs, h3, h4⟩, ws, h5, h6⟩ := h
       exact ⟨h0, (e _ (by simp [GAdr.fp])).trans h1, (e _ (by simp [GAdr.fp])).trans h2, ⟨vs, (e _ (by simp [GAdr.fp])).trans h3, h4.mono hA hS⟩, ws, (e _ (by simp [GAdr.fp])).trans h5, h6.mono hA hS⟩)
theorem CellOk.some {ga : GAdr} {c : GCell} (h : CellOk K A S H ga c) : ∀ x ∈ ga.fp, ∃ o, H x = Option.some o := by
  cases ga <;> cases c <;> first
    | exact h.elim
    | (intro x hx; simp only [GAdr.fp, List.mem_singleton] at hx; subst hx; exact ⟨_, h⟩)
    | (intro x hx; simp only [GAdr.fp, List.mem_singleton] at hx; subst hx; obtain ⟨_, ps, h2, _⟩ := h; exact ⟨_, h2⟩)
    | (obtain ⟨h0, h1, h2, ⟨vs, h3, h4⟩, ws, h5, h6⟩ := h
       intro x hx; simp only [GAdr.fp, List.mem_cons, List.not_mem_nil, or_false] at hx
       rcases hx with rfl | rfl | rfl | rfl
       · exact ⟨_, h1⟩
       · exact ⟨_, h2⟩
       · exact ⟨_, h3⟩
       · exact ⟨_, h5⟩)

structure Ok (K : PySem.W.Frag) (A : List GAdr) (S H : Hp) (g : G) : Prop where
  ext : Same S H
  len : A.length = g.length
  cel : ∀ (k : Nat) (ga : GAdr) (c : GCell), A[k]? = some ga → g[k]? = some c → CellOk K A S H ga c
  nd : (gfp A).Nodup
  out : ∀ x ∈ gfp A, S x = none
theorem Ok.there {g : G} (h : Ok K A S H g) : ∀ x ∈ gfp A, ∃ o, H x = some o := fun x hx => by
  obtain ⟨ga, hg, hx⟩ := List.mem_flatMap.mp hx
  obtain ⟨k, hk, e⟩ := List.getElem_of_mem hg
  have e1 : A[k]? = some ga := by rw [List.getElem?_eq_getElem hk, e]
  have hk2 : k < g.length := by rw [← h.len]; exact hk
  exact (h.cel k ga _ e1 (List.getElem?_eq_getElem hk2)).some x hx

structure Post (A : List GAdr) (S H : Hp) (A' : List GAdr) (S' H' : Hp) : Prop where
  a : A <+: A'
  s : Same S S'
  snew : ∀ x o, S' x = some o → S x = some o ∨ H x = none ∨ (x ∉ gfp A ∧ ∃ xs, H x = some (.tup xs))
  keep : ∀ x o, H x = some o → x ∉ gfp A → H' x = some o
  dom : ∀ x o, H x = some o → ∃ o', H' x = some o'
  anew : ∀ x ∈ gfp A', x ∈ gfp A ∨ H x = none
theorem Post.refl (A : List GAdr) (S H : Hp) : Post A S H A S H := ⟨List.prefix_refl _, Same.refl _, fun _ _ h => .inl h, fun _ _ h _ => h, fun _ o h => ⟨o, h⟩, fun _ h => .inl h⟩
theorem none_back {H H1 : Hp} (d : ∀ x o, H x = some o → ∃ o', H1 x = some o') {x : Addr} (h : H1 x = none) : H x = none := by
  cases e : H x with
  | none => rfl
  | some o => obtain ⟨o', e'⟩ := d x o e; rw [h] at e'; cases e'
theorem Post.trans {A1 A2 : List GAdr} {S1 S2 H1 H2 : Hp} (p : Post A S H A1 S1 H1) (q : Post A1 S1 H1 A2 S2 H2) : Post A S H A2 S2 H2 where
  a := p.a.trans q.a
  s := p.s.trans q.s
  snew := fun x o h => by
    rcases q.snew x o h with h | h | ⟨h, xs, h2⟩
    · exact p.snew x o h
    · exact .inr (.inl (none_back p.dom h))
    · have hx : x ∉ gfp A := fun z => h (by
        obtain ⟨B, hB⟩ := p.a
        rw [← hB, gfp_append]
        exact List.mem_append_left _ z)
      cases e : H x with
      | none => exact .inr (.inl rfl)
      | some u =>
        have := p.keep x u e hx
        rw [h2] at this
        cases this
        exact .inr (.inr ⟨hx, xs, rfl⟩)
  keep := fun x o h n => q.keep x o (p.keep x o h n) fun z => by
    rcases p.anew x z with z | z
    · exact n z
    · rw [h] at z; cases z
  dom := fun x o h => by
    obtain ⟨o1, h1⟩ := p.dom x o h
    exact q.dom x o1 h1
  anew := fun x h => by
    rcases q.anew x h with h | h
    · exact p.anew x h
    · exact .inr (none_back p.dom h)
theorem Post.lay {p : Addr} {o : HO} (hp : H p = none) (hS : Same S H) : Post A S H A (upd S p o) (upd H p o) := by
  have sp : S p = none := Same.free hS hp
  refine ⟨List.prefix_refl _, fun b x e => by rw [upd_ne (ne_of_none e sp)]; exact e, fun x u h => ?_, fun x u h _ => by rw [upd_ne (ne_of_none h hp)]; exact h, fun x u h => ⟨u, by rw [upd_ne (ne_of_none h hp)]; exact h⟩, fun _ h => .inl h⟩
  by_cases e : x = p
  · subst e; exact .inr (.inl hp)
  · rw [upd_ne e] at h; exact .inl h
theorem Post.layO {p : Addr} {o : HO} (hp : H p = none) : Post A S H A S (upd H p o) :=
  ⟨List.prefix_refl _, Same.refl _, fun _ _ h => .inl h, fun x u h _ => by rw [upd_ne (ne_of_none h hp)]; exact h, fun x u h => ⟨u, by rw [upd_ne (ne_of_none h hp)]; exact h⟩, fun _ h => .inl h⟩
theorem Ok.lay {g : G} (h : Ok K A S H g) {p : Addr} {o : HO} (hp : H p = none) : Ok K A (upd S p o) (upd H p o) g := by
  have sp : S p = none := Same.free h.ext hp
  have sm : Same S (upd S p o) := fun b x e => by rw [upd_ne (ne_of_none e sp)]; exact e
  have np : ∀ x ∈ gfp A, x ≠ p := fun x hx e => by
    obtain ⟨u, hu⟩ := h.there x hx
    rw [e, hp] at hu; cases hu
  refine ⟨fun b x e => ?_, h.len, fun k ga c e1 e2 => (h.cel k ga c e1 e2).mono (List.prefix_refl _) sm fun x hx => ?_, h.nd, fun x hx => ?_⟩
  · by_cases q : b = p
    · subst q; rw [upd_same] at e ⊢; exact e
    · rw [upd_ne q] at e ⊢; exact h.ext _ _ e
  · exact upd_ne (np x (List.mem_flatMap.mpr ⟨ga, List.mem_of_getElem? e1, hx⟩))
  · rw [upd_ne (np x hx)]; exact h.out x hx
theorem Ok.layO {g : G} (h : Ok K A S H g) {p : Addr} {o : HO} (hp : H p = none) : Ok K A S (upd H p o) g := by
  have np : ∀ x ∈ gfp A, x ≠ p := fun x hx e => by
    obtain ⟨u, hu⟩ := h.there x hx
    rw [e, hp] at hu; cases hu
  refine ⟨fun b x e => ?_, h.len, fun k ga c e1 e2 => (h.cel k ga c e1 e2).mono (List.prefix_refl _) (Same.refl _) fun x hx => ?_, h.nd, h.out⟩
  · have e' := h.ext _ _ e
    rw [upd_ne (ne_of_none e' hp)]; exact e'
  · exact upd_ne (np x (List.mem_flatMap.mpr ⟨ga, List.mem_of_getElem? e1, hx⟩))
theorem Ok.freeze {g : G} (h : Ok K A S H g) {p : Addr} {o : HO} (hp : S p = none) (hH : H p = some o) (hg : p ∉ gfp A) : Ok K A (upd S p o) H g := by
  have sm : Same S (upd S p o) := fun b x e => by rw [upd_ne (ne_of_none e hp)]; exact e
  refine ⟨fun b x e => ?_, h.len, fun k ga c e1 e2 => (h.cel k ga c e1 e2).mono (List.prefix_refl _) sm fun x hx => rfl, h.nd, fun x hx => ?_⟩
  · by_cases q : b = p
    · subst q; rw [upd_same] at e; rw [hH]; exact e
    · rw [upd_ne q] at e; exact h.ext _ _ e
  · rw [upd_ne (fun (e : x = p) => hg (by rw [← e]; exact hx))]; exact h.out x hx
theorem Ok.writeO {g : G} (h : Ok K A S H g) {p : Addr} {o : HO} (hp : S p = none) (hg : p ∉ gfp A) : Ok K A S (upd H p o) g := by
  refine ⟨fun b x e => ?_, h.len, fun k ga c e1 e2 => (h.cel k ga c e1 e2).mono (List.prefix_refl _) (Same.refl _) fun x hx => ?_, h.nd, h.out⟩
  · rw [upd_ne (ne_of_none e hp)]; exact h.ext _ _ e
  · exact upd_ne (fun (e : x = p) => hg (by rw [← e]; exact List.mem_flatMap.mpr ⟨ga, List.mem_of_getElem? e1, hx⟩))
end

inductive DV where
  | sh (d : D)
  | ow (d : D)
abbrev DS := List (Option DV)
def mkV (m : Bool) (d : D) : DV := if m then .ow d else .sh d
section
variable (K : PySem.W.Frag) (A : List GAdr) (S H : Hp)
def SlotOk : Option V → DV → Prop
  | some v, .sh d => Rep K A S v d
  | some (.ref p), .ow d => S p = none ∧ p ∉ gfp A ∧ Top K A S H p d
  | _, _ => False
structure SRep (σ : L2.St) (σd : DS) : Prop where
  len : σ.length = σd.length
  at_ : ∀ (i : Nat) (x : DV), σd[i]? = some (some x) → ∃ v, σ[i]? = some v ∧ SlotOk K A S H v x
  sep : ∀ (i j : Nat) (d e : D) (p : Addr), i ≠ j → σd[i]? = some (some (.ow d)) → σd[j]? = some (some (.ow e)) → σ[i]? = some (some (.ref p)) → σ[j]? = some (some (.ref p)) → False
end
section
variable {K : PySem.W.Frag} {A A' : List GAdr} {S S' H H' : Hp} {σ : L2.St} {σd : DS}
theorem SlotOk.post (p : Post A S H A' S' H') {v : Option V} {x : DV} (h : SlotOk K A S H v x) : SlotOk K A' S' H' v x := by
  cases v with
  | none => cases x <;> exact h.elim
  | some v =>
    cases x with
    | sh d => exact Rep.mono p.a p.s h
    | ow d =>
      cases v with
      | ref q =>
        obtain ⟨h1, h2, h3⟩ := h
        obtain ⟨o, ho⟩ := h3.some
        have hk := p.keep q o ho h2
        refine ⟨?_, fun z => ?_, h3.mono p.a p.s (hk.trans ho.symm)⟩
        · cases e : S' q with
          | none => rfl
          | some u =>
            rcases p.snew q u e with z | z | ⟨_, xs, z⟩
            · rw [h1] at z; cases z
            · rw [ho] at z; cases z
            · exact absurd z (h3.nt xs)
        · rcases p.anew q z with z | z
          · exact h2 z
          · rw [ho] at z; cases z
      | _ => exact h.elim
theorem SRep.post (h : SRep K A S H σ σd) (p : Post A S H A' S' H') : SRep K A' S' H' σ σd :=
  ⟨h.len, fun i x e => let ⟨v, e1, e2⟩ := h.at_ i x e; ⟨v, e1, e2.post p⟩, h.sep⟩
theorem SRep.sh (h : SRep K A S H σ σd) {i : Nat} {d : D} (e : σd[i]? = some (some (.sh d))) : ∃ v, σ[i]? = some (some v) ∧ Rep K A S v d := by
  obtain ⟨v, e1, e2⟩ := h.at_ i _ e
  cases v with
  | none => exact e2.elim
  | some v => exact ⟨v, e1, e2⟩
theorem SRep.ow (h : SRep K A S H σ σd) {i : Nat} {d : D} (e : σd[i]? = some (some (.ow d))) : ∃ p, σ[i]? = some (some (.ref p)) ∧ S p = none ∧ p ∉ gfp A ∧ Top K A S H p d := by
  obtain ⟨v, e1, e2⟩ := h.at_ i _ e
  cases v with
  | none => exact e2.elim
  | some v =>
    cases v with
    | ref q => exact ⟨q, e1, e2⟩
    | _ => exact e2.elim
theorem set_get {α : Type} {l : List α} {i j : Nat} {x y : α} (h : (l.set i x)[j]? = some y) : (i = j ∧ y = x ∧ i < l.length) ∨ (i ≠ j ∧ l[j]? = some y) := by
  by_cases e : i = j
  · subst e
    have hl : i < l.length := by
      have := (List.getElem?_eq_some_iff.mp h).1
      simpa using this
    rw [List.getElem?_set_self hl] at h
    exact .inl ⟨rfl, (Option.some.inj h).symm, hl⟩
  · rw [List.getElem?_set_ne e] at h
    exact .inr ⟨e, h⟩
theorem SRep.setSh (h : SRep K A S H σ σd) {v : V} {d : D} (r : Rep K A S v d) (i : Nat) : SRep K A S H (σ.set i (some v)) (σd.set i (some (.sh d))) := by
  refine ⟨by simp [h.len], fun j x e => ?_, fun a b d e p ne ea eb sa sb => ?_⟩
  · rcases set_get e with ⟨rfl, z, hl⟩ | ⟨ne, e⟩
    · cases z
      exact ⟨_, List.getElem?_set_self (by rw [h.len]; exact hl), r⟩
    · obtain ⟨w, e1, e2⟩ := h.at_ j x e
      exact ⟨w, by rw [List.getElem?_set_ne ne]; exact e1, e2⟩
  · rcases set_get ea with ⟨rfl, z, hl⟩ | ⟨na, ea⟩
    · cases z
    · rcases set_get eb with ⟨rfl, z, hl⟩ | ⟨nb, eb⟩
      · cases z
      · rw [List.getElem?_set_ne na] at sa
        rw [List.getElem?_set_ne nb] at sb
        exact h.sep a b d e p ne ea eb sa sb
theorem SRep.setOw (h : SRep K A S H σ σd) {p : Addr} {d : D} (h1 : S p = none) (h2 : p ∉ gfp A) (r : Top K A S H p d) (i : Nat)
    (nw : ∀ (j : Nat) (e : D), i ≠ j → σd[j]? = some (some (.ow e)) → σ[j]? = some (some (.ref p)) → False) : SRep K A S H (σ.set i (some (.ref p))) (σd.set i (some (.ow d))) := by
  refine ⟨by simp [h.len], fun j x e => ?_, fun a b d e q ne ea eb sa sb => ?_⟩
  · rcases set_get e with ⟨rfl, z, hl⟩ | ⟨ne, e⟩
    · cases z
      exact ⟨_, List.getElem?_set_self (by rw [h.len]; exact hl), h1, h2, r⟩
    · obtain ⟨w, e1, e2⟩ := h.at_ j x e
      exact ⟨w, by rw [List.getElem?_set_ne ne]; exact e1, e2⟩
  · rcases set_get ea with ⟨rfl, z, hl⟩ | ⟨na, ea⟩
    · rw [List.getElem?_set_self (by rw [h.len]; exact hl)] at sa
      cases sa
      rcases set_get eb with ⟨rfl, z, hl⟩ | ⟨nb, eb⟩
      · exact ne rfl
      · rw [List.getElem?_set_ne nb] at sb
        exact nw _ _ nb eb sb
    · rw [List.getElem?_set_ne na] at sa
      rcases set_get eb with ⟨rfl, z, hl⟩ | ⟨nb, eb⟩
      · rw [List.getElem?_set_self (by rw [h.len]; exact hl)] at sb
        cases sb
        exact nw _ _ na ea sa
      · rw [List.getElem?_set_ne nb] at sb
        exact h.sep a b d e q ne ea eb sa sb
theorem SRep.freeze (h : SRep K A S H σ σd) {i : Nat} {d : D} {p : Addr} {o : HO} (e : σd[i]? = some (some (.ow d))) (es : σ[i]? = some (some (.ref p))) (hp : S p = none) (hH : H p = some o) (r : Rep K A (upd S p o) (.ref p) d) :
    SRep K A (upd S p o) H σ (σd.set i (some (.sh d))) := by
  have sm : Same S (upd S p o) := fun b x e => by rw [upd_ne (ne_of_none e hp)]; exact e
  refine ⟨by simp [h.len], fun j x e' => ?_, fun a b d1 d2 q ne ea eb sa sb => ?_⟩
  · rcases set_get e' with ⟨rfl, z, hl⟩ | ⟨ne, e'⟩
    · cases z
      exact ⟨_, es, r⟩
    · obtain ⟨w, e1, e2⟩ := h.at_ j x e'
      refine ⟨w, e1, ?_⟩
      cases w with
      | none => cases x <;> exact e2.elim
      | some w =>
        cases x with
        | sh d2 => exact Rep.mono (List.prefix_refl _) sm e2
        | ow d2 =>
          cases w with
          | ref q =>
            obtain ⟨q1, q2, q3⟩ := e2
            have nq : q ≠ p := fun z => by subst z; exact h.sep i j d d2 q ne e e' es e1
            exact ⟨by rw [upd_ne nq]; exact q1, q2, q3.mono (List.prefix_refl _) sm rfl⟩
          | _ => exact e2.elim
  · rcases set_get ea with ⟨rfl, z, hl⟩ | ⟨na, ea⟩
    · cases z
    · rcases set_get eb with ⟨rfl, z, hl⟩ | ⟨nb, eb⟩
      · cases z
      · exact h.sep a b d1 d2 q ne ea eb sa sb
theorem SRep.write (h : SRep K A S H σ σd) {i : Nat} {d d' : D} {p : Addr} {o : HO} (e : σd[i]? = some (some (.ow d))) (es : σ[i]? = some (some (.ref p))) (r : Top K A S (upd H p o) p d') :
    SRep K A S (upd H p o) σ (σd.set i (some (.ow d'))) := by
  refine ⟨by simp [h.len], fun j x e' => ?_, fun a b d1 d2 q ne ea eb sa sb => ?_⟩
  · rcases set_get e' with ⟨rfl, z, hl⟩ | ⟨ne, e'⟩
    · cases z
      obtain ⟨q, e1, q1, q2, q3⟩ := h.ow e
      rw [es] at e1; cases e1
      exact ⟨_, es, q1, q2, r⟩
    · obtain ⟨w, e1, e2⟩ := h.at_ j x e'
      refine ⟨w, e1, ?_⟩
      cases w with
      | none => cases x <;> exact e2.elim
      | some w =>
        cases x with
        | sh d2 => exact e2
        | ow d2 =>
          cases w with
          | ref q =>
            obtain ⟨q1, q2, q3⟩ := e2
            have nq : q ≠ p := fun z => by subst z; exact h.sep i j d d2 q ne e e' es e1
            exact ⟨q1, q2, q3.mono (List.prefix_refl _) (Same.refl _) (upd_ne nq)⟩
          | _ => exact e2.elim
  · have get : ∀ (k : Nat) (c : D), (σd.set i (some (.ow d')))[k]? = some (some (.ow c)) → ∃ c', σd[k]? = some (some (.ow c')) := fun k c hk => by
      rcases set_get hk with ⟨rfl, z, hl⟩ | ⟨nk, hk⟩
      · exact ⟨_, e⟩
      · exact ⟨_, hk⟩
    obtain ⟨c1, g1⟩ := get a d1 ea
    obtain ⟨c2, g2⟩ := get b d2 eb
    exact h.sep a b c1 c2 q ne g1 g2 sa sb
theorem SRep.forget2 (h : SRep K A S H σ σd) (i : Nat) : SRep K A S H (σ.set i none) (σd.set i none) := by
  refine ⟨by simp [h.len], fun j x e => ?_, fun a b d e p ne ea eb sa sb => ?_⟩
  · rcases set_get e with ⟨rfl, z, hl⟩ | ⟨ne, e⟩
    · cases z
    · obtain ⟨w, e1, e2⟩ := h.at_ j x e
      exact ⟨w, by rw [List.getElem?_set_ne ne]; exact e1, e2⟩
  · rcases set_get ea with ⟨rfl, z, hl⟩ | ⟨na, ea⟩
    · cases z
    · rcases set_get eb with ⟨rfl, z, hl⟩ | ⟨nb, eb⟩
      · cases z
      · rw [List.getElem?_set_ne na] at sa
        rw [List.getElem?_set_ne nb] at sb
        exact h.sep a b d e p ne ea eb sa sb
end
def wipeD (σd : DS) : List Nat → DS
  | [] => σd
  | v :: vs => (wipeD σd vs).set v none
theorem SRep.wipe {K : PySem.W.Frag} {A : List GAdr} {S H : Hp} {σ : L2.St} {σd : DS} (h : SRep K A S H σ σd) : ∀ vs : List Nat, SRep K A S H (L2.wipe σ vs) (wipeD σd vs)
  | [] => h
  | v :: vs => (SRep.wipe h vs).forget2 v
end NS
namespace NS
open PySem PySem.Spec PyProof.Rows L2

def RepM (K : PySem.W.Frag) (H : Hp) (A' : List GAdr) (S' H' : Hp) (v : V) (d : D) : Bool → Prop
  | false => Rep K A' S' v d
  | true => ∃ p, v = .ref p ∧ H p = none ∧ S' p = none ∧ p ∉ gfp A' ∧ Top K A' S' H' p d
def XRep (mg : Str → Option Value) (K : PySem.W.Frag) (A : List GAdr) (S H : Hp) (x : Exn) (c : Value) (dd : Option Addr) : Prop :=
  mg x.cls = some c ∧ (x.fld = none → dd = none) ∧ ∀ f d, x.fld = some (f, d) → ∃ a v, dd = some a ∧ S a = some (.xd [(f, v)]) ∧ Rep K A S v d
structure Sur where
  mg : Str → Option Value
  K : PySem.W.Frag
  E : XK
def KE (U : Sur) (m : Bool) (A : List GAdr) (S H : Hp) (r : Res D) (Q : VK) : Prop :=
  match r with
  | .ok d g' => ∀ A' S' H' v, Post A S H A' S' H' → Ok U.K A' S' H' g' → RepM U.K H A' S' H' v d m → Q v H'
  | .err x g' => ∀ A' S' H' c dd, Post A S H A' S' H' → Ok U.K A' S' H' g' → XRep U.mg U.K A' S' H' x c dd → U.E c dd H'
  | .bad => False
def KL (U : Sur) (A : List GAdr) (S H : Hp) (r : Res (List D)) (Q : List V → Hp → Prop) : Prop :=
  match r with
  | .ok ds g' => ∀ A' S' H' vs, Post A S H A' S' H' → Ok U.K A' S' H' g' → RepL U.K A' S' vs ds → Q vs H'
  | .err x g' => ∀ A' S' H' c dd, Post A S H A' S' H' → Ok U.K A' S' H' g' → XRep U.mg U.K A' S' H' x c dd → U.E c dd H'
  | .bad => False
def KT (U : Sur) (A : List GAdr) (S H : Hp) (r : Res Bool) (Q : Bool → Hp → Prop) : Prop :=
  match r with
  | .ok b g' => ∀ A' S' H', Post A S H A' S' H' → Ok U.K A' S' H' g' → Q b H'
  | .err x g' => ∀ A' S' H' c dd, Post A S H A' S' H' → Ok U.K A' S' H' g' → XRep U.mg U.K A' S' H' x c dd → U.E c dd H'
  | .bad => False
section
variable {U : Sur} {A A1 : List GAdr} {S S1 H H1 : Hp}
theorem RepM.back {K : PySem.W.Frag} {A' : List GAdr} {S' H' : Hp} {v : V} {d : D} {m : Bool} (p : Post A S H A1 S1 H1) (h : RepM K H1 A' S' H' v d m) : RepM K H A' S' H' v d m := by
  cases m with
  | false => exact h
  | true => obtain ⟨q, e, h1, h2⟩ := h; exact ⟨q, e, none_back p.dom h1, h2⟩
theorem KE.shift {m : Bool} {r : Res D} {Q : VK} (p : Post A S H A1 S1 H1) (h : KE U m A S H r Q) : KE U m A1 S1 H1 r Q := by
  cases r with
  | ok d g => exact fun A' S' H' v q o rr => h A' S' H' v (p.trans q) o (rr.back p)
  | err x g => exact fun A' S' H' c dd q o rr => h A' S' H' c dd (p.trans q) o rr
  | bad => exact h
theorem KL.shift {r : Res (List D)} {Q : List V → Hp → Prop} (p : Post A S H A1 S1 H1) (h : KL U A S H r Q) : KL U A1 S1 H1 r Q := by
  cases r with
  | ok d g => exact fun A' S' H' v q o rr => h A' S' H' v (p.trans q) o rr
  | err x g => exact fun A' S' H' c dd q o rr => h A' S' H' c dd (p.trans q) o rr
  | bad => exact h
theorem KT.shift {r : Res Bool} {Q : Bool → Hp → Prop} (p : Post A S H A1 S1 H1) (h : KT U A S H r Q) : KT U A1 S1 H1 r Q := by
  cases r with
  | ok d g => exact fun A' S' H' q o => h A' S' H' (p.trans q) o
  | err x g => exact fun A' S' H' c dd q o rr => h A' S' H' c dd (p.trans q) o rr
  | bad => exact h
theorem KE.bindE {m m1 : Bool} {x : M D} {k : D → M D} {g : G} {Q : VK} (h : KE U m A S H (M.bind x k g) Q) :
    KE U m1 A S H (x g) fun v H1 => ∃ A1 S1 g1 d, Post A S H A1 S1 H1 ∧ Ok U.K A1 S1 H1 g1 ∧ RepM U.K H A1 S1 H1 v d m1 ∧ KE U m A1 S1 H1 (k d g1) Q := by
  unfold M.bind at h
  cases e : x g with
  | ok d g1 => rw [e] at h; exact fun A' S' H' v p o r => ⟨A', S', g1, d, p, o, r, h.shift p⟩
  | err e1 g1 => rw [e] at h; exact h
  | bad => rw [e] at h; exact h
theorem KE.bindL {m : Bool} {x : M (List D)} {k : List D → M D} {g : G} {Q : VK} (h : KE U m A S H (M.bind x k g) Q) :
    KL U A S H (x g) fun v H1 => ∃ A1 S1 g1 d, Post A S H A1 S1 H1 ∧ Ok U.K A1 S1 H1 g1 ∧ RepL U.K A1 S1 v d ∧ KE U m A1 S1 H1 (k d g1) Q := by
  unfold M.bind at h
  cases e : x g with
  | ok d g1 => rw [e] at h; exact fun A' S' H' v p o r => ⟨A', S', g1, d, p, o, r, h.shift p⟩
  | err e1 g1 => rw [e] at h; exact h
  | bad => rw [e] at h; exact h
theorem KE.bindT {m : Bool} {x : M Bool} {k : Bool → M D} {g : G} {Q : VK} (h : KE U m A S H (M.bind x k g) Q) :
    KT U A S H (x g) fun b H1 => ∃ A1 S1 g1, Post A S H A1 S1 H1 ∧ Ok U.K A1 S1 H1 g1 ∧ KE U m A1 S1 H1 (k b g1) Q := by
  unfold M.bind at h
  cases e : x g with
  | ok d g1 => rw [e] at h; exact fun A' S' H' p o => ⟨A', S', g1, p, o, h.shift p⟩
  | err e1 g1 => rw [e] at h; exact h
  | bad => rw [e] at h; exact h
theorem KL.bindE {x : M D} {k : D → M (List D)} {g : G} {Q : List V → Hp → Prop} (h : KL U A S H (M.bind x k g) Q) :
    KE U false A S H (x g) fun v H1 => ∃ A1 S1 g1 d, Post A S H A1 S1 H1 ∧ Ok U.K A1 S1 H1 g1 ∧ Rep U.K A1 S1 v d ∧ KL U A1 S1 H1 (k d g1) Q := by
  unfold M.bind at h
  cases e : x g with
  | ok d g1 => rw [e] at h; exact fun A' S' H' v p o r => ⟨A', S', g1, d, p, o, r, h.shift p⟩
  | err e1 g1 => rw [e] at h; exact h
  | bad => rw [e] at h; exact h
theorem KL.bindL {x : M (List D)} {k : List D → M (List D)} {g : G} {Q : List V → Hp → Prop} (h : KL U A S H (M.bind x k g) Q) :
    KL U A S H (x g) fun v H1 => ∃ A1 S1 g1 d, Post A S H A1 S1 H1 ∧ Ok U.K A1 S1 H1 g1 ∧ RepL U.K A1 S1 v d ∧ KL U A1 S1 H1 (k d g1) Q := by
  unfold M.bind at h
  cases e : x g with
  | ok d g1 => rw [e] at h; exact fun A' S' H' v p o r => ⟨A', S', g1, d, p, o, r, h.shift p⟩
  | err e1 g1 => rw [e] at h; exact h
  | bad => rw [e] at h; exact h
theorem KT.bindE {x : M D} {k : D → M Bool} {g : G} {Q : Bool → Hp → Prop} (h : KT U A S H (M.bind x k g) Q) :
    KE U false A S H (x g) fun v H1 => ∃ A1 S1 g1 d, Post A S H A1 S1 H1 ∧ Ok U.K A1 S1 H1 g1 ∧ Rep U.K A1 S1 v d ∧ KT U A1 S1 H1 (k d g1) Q := by
  unfold M.bind at h
  cases e : x g with
  | ok d g1 => rw [e] at h; exact fun A' S' H' v p o r => ⟨A', S', g1, d, p, o, r, h.shift p⟩
  | err e1 g1 => rw [e] at h; exact h
  | bad => rw [e] at h; exact h
theorem KT.bindT {x : M Bool} {k : Bool → M Bool} {g : G} {Q : Bool → Hp → Prop} (h : KT U A S H (M.bind x k g) Q) :
    KT U A S H (x g) fun b H1 => ∃ A1 S1 g1, Post A S H A1 S1 H1 ∧ Ok U.K A1 S1 H1 g1 ∧ KT U A1 S1 H1 (k b g1) Q := by
  unfold M.bind at h
  cases e : x g with
  | ok d g1 => rw [e] at h; exact fun A' S' H' p o => ⟨A', S', g1, p, o, h.shift p⟩
  | err e1 g1 => rw [e] at h; exact h
  | bad => rw [e] at h; exact h
theorem KE.imp {m : Bool} {r : Res D} {Q Q' : VK} (h : KE U m A S H r Q) (i : ∀ v H', Q v H' → Q' v H') : KE U m A S H r Q' := by
  cases r with
  | ok d g => exact fun A' S' H' v q o rr => i _ _ (h A' S' H' v q o rr)
  | err x g => exact h
  | bad => exact h
theorem KE.now {m : Bool} {d : D} {g : G} {Q : VK} (h : KE U m A S H (.ok d g) Q) {A' : List GAdr} {S' H' : Hp} {v : V} (p : Post A S H A' S' H') (o : Ok U.K A' S' H' g) (r : RepM U.K H A' S' H' v d m) : Q v H' := h A' S' H' v p o r
theorem KE.val {d : D} {g : G} {Q : VK} {v : V} (h : KE U false A S H (.ok d g) Q) (o : Ok U.K A S H g) (r : Rep U.K A S v d) : Q v H := h A S H v (Post.refl _ _ _) o r
theorem KT.now {b : Bool} {g : G} {Q : Bool → Hp → Prop} (h : KT U A S H (.ok b g) Q) (o : Ok U.K A S H g) : Q b H := h A S H (Post.refl _ _ _) o
theorem KE.newL {m : Bool} {ds : List D} {vs : List V} {g : G} {Q : VK} (h : KE U m A S H (.ok (.lst ds) g) Q) (o : Ok U.K A S H g) (r : RepL U.K A S vs ds) {p : Addr} (hp : H p = none) : Q (.ref p) (upd H p (.lst vs)) := by
  have sp : S p = none := Same.free o.ext hp
  have pg : p ∉ gfp A := fun z => by obtain ⟨u, hu⟩ := o.there p z; rw [hp] at hu; cases hu
  cases m with
  | false =>
    have P := Post.lay (A := A) (o := .lst vs) hp o.ext
    exact h A (upd S p (.lst vs)) _ _ P (o.lay hp) (.lst upd_same (r.mono P.a P.s))
  | true => exact h A S _ _ (Post.layO hp) (o.layO hp) ⟨p, rfl, hp, sp, pg, vs, upd_same, r⟩
theorem KE.newT {ds : List D} {vs : List V} {g : G} {Q : VK} (h : KE U false A S H (.ok (.tup ds) g) Q) (o : Ok U.K A S H g) (r : RepL U.K A S vs ds) {p : Addr} (hp : H p = none) : Q (.ref p) (upd H p (.tup vs)) := by
  have P := Post.lay (A := A) (o := .tup vs) hp o.ext
  exact h A (upd S p (.tup vs)) _ _ P (o.lay hp) (.tup upd_same (r.mono P.a P.s))
theorem KE.frozen {r : Res D} {Q : VK} (h : KE U false A S H r Q) (oS : Same S H) : KE U true A S H r Q := by
  cases r with
  | ok d g =>
    rintro A' S' H' v p o ⟨q, rfl, h1, h2, h3, h4⟩
    obtain ⟨u, hu, hr⟩ := h4.frozen h2
    refine h A' (upd S' q u) H' _ ⟨p.a, fun b x e => ?_, fun x z e => ?_, p.keep, p.dom, p.anew⟩ (o.freeze h2 hu h3) hr
    · rw [upd_ne (ne_of_none (p.s _ _ e) h2)]; exact p.s _ _ e
    · by_cases e' : x = q
      · subst e'; exact .inr (.inl h1)
      · rw [upd_ne e'] at e; exact p.snew x z e
  | err x g => exact h
  | bad => exact h
end

def tE (U : Sur) (m : Bool) (f : DS → M D) : TE := fun σ H Q => ∃ A S g σd, Ok U.K A S H g ∧ SRep U.K A S H σ σd ∧ KE U m A S H (f σd g) Q
def tL (U : Sur) (f : DS → M (List D)) : TA := fun σ H Q => ∃ A S g σd, Ok U.K A S H g ∧ SRep U.K A S H σ σd ∧ KL U A S H (f σd g) Q
def tT (U : Sur) (f : DS → M Bool) : TT := fun σ H Q => ∃ A S g σd, Ok U.K A S H g ∧ SRep U.K A S H σ σd ∧ KT U A S H (f σd g) Q
abbrev Cx.sur (X : Cx) (E : XK) : Sur := ⟨X.mg, X.K, E⟩
def DE (X : Cx) (E : XK) (m : Bool) (e : Expr) (f : DS → M D) : Prop := PE X e (tE (Cx.sur X E) m f)
def DL (X : Cx) (E : XK) (es : List Expr) (f : DS → M (List D)) : Prop := PA X es (tL (Cx.sur X E) f)
def DT (X : Cx) (E : XK) (e : Expr) (f : DS → M Bool) : Prop := PT X e (tT (Cx.sur X E) f)
def DW (X : Cx) (E : XK) (e : Expr) (f : DS → M Bool) : Prop := PW X e (tT (Cx.sur X E) f)

theorem _root_.L2.PE.impD {X : Cx} {e : Expr} {t t' : TE} (h : PE X e t) (i : ∀ σ H Q, t' σ H Q → t σ H Q) : PE X e t' := ⟨fun pins s σ H Q I q => h.run pins s σ H Q I (i σ H Q q)⟩
theorem _root_.L2.PA.impD {X : Cx} {e : List Expr} {t t' : TA} (h : PA X e t) (i : ∀ σ H Q, t' σ H Q → t σ H Q) : PA X e t' := ⟨fun pos pins s σ H Q I q => h.run pos pins s σ H Q I (i σ H Q q)⟩
theorem _root_.L2.PT.impD {X : Cx} {e : Expr} {t t' : TT} (h : PT X e t) (i : ∀ σ H Q, t' σ H Q → t σ H Q) : PT X e t' := ⟨fun pins s σ H Q I q => h.run pins s σ H Q I (i σ H Q q)⟩
theorem _root_.L2.PW.impD {X : Cx} {e : Expr} {t t' : TT} (h : PW X e t) (i : ∀ σ H Q, t' σ H Q → t σ H Q) : PW X e t' := ⟨fun w pins s σ H Q I q => h.run w pins s σ H Q I (i σ H Q q)⟩
theorem _root_.L2.PS.impD {X : Cx} {e : Stmt} {t t' : TS} (h : PS X e t) (i : ∀ D σ H, t' D σ H → t D σ H) : PS X e t' := ⟨fun pins s σ H D I q => h.run pins s σ H D I (i D σ H q)⟩
theorem _root_.L2.PSs.impD {X : Cx} {e : List Stmt} {t t' : TS} (h : PSs X e t) (i : ∀ D σ H, t' D σ H → t D σ H) : PSs X e t' := ⟨fun pins s σ H D I q => h.run pins s σ H D I (i D σ H q)⟩
theorem _root_.L2.PI.impD {X : Cx} {tg e : Expr} {t t' : TI} (h : PI X tg e t) (i : ∀ σ H R, t' σ H R → t σ H R) : PI X tg e t' := ⟨fun pins s σ H R I q => h.run pins s σ H R I (i σ H R q)⟩
theorem _root_.L2.PG.impD {X : Cx} {e : Expr} {t t' : TG} (h : PG X e t) (i : ∀ v σ H Q, t' v σ H Q → t v σ H Q) : PG X e t' := ⟨fun pins s σ H v u Q I r q => h.run pins s σ H v u Q I r (i v σ H Q q)⟩

section
variable {X : Cx} {E : XK} {pos : Pos}
def eVar (i : Nat) : DS → M D := fun σ => match σ[i]? with
  | some (some (.sh d)) => M.pure d
  | _ => M.bad
def eC (d : D) : DS → M D := fun _ => M.pure d
theorem de_of (h : PE X e (tVar i)) : DE X E false e (eVar i) := h.impD fun σ H Q ⟨A, S, g, σd, o, r, k⟩ => by
  unfold eVar at k
  match q : σd[i]? with
  | some (some (.sh d)) =>
    rw [q] at k
    obtain ⟨v, e1, e2⟩ := r.sh q
    exact ⟨v, e1, KE.val k o e2⟩
  | some (some (.ow d)) => rw [q] at k; exact k.elim
  | some none => rw [q] at k; exact k.elim
  | none => rw [q] at k; exact k.elim
theorem de_var (i : Nat) {x : Str} (hN : X.N[i]? = some x := by rfl) (hv : Vis X.env.scope x := by first | exact Or.inl rfl | exact Or.inr (Or.inl rfl) | exact Or.inr (Or.inr rfl)) (hd : (x == ("__debug__" : Str)) = false := by decide)
    (hcd : (x == ("__classdict__" : Str)) = false := by decide) : DE X E false (.Name x pos) (eVar i) := de_of (pe_var hN hv hd hcd)
theorem de_const {e : Expr} {v : V} {d : D} (h : PE X e (tC v)) (r : ∀ A S, Rep X.K A S v d) : DE X E false e (eC d) := h.impD fun σ H Q ⟨A, S, g, σd, o, _, k⟩ => k.val o (r A S)
theorem de_int {i j} : DE X E false (.Constant (.int i) j pos) (eC (.int i)) := de_const pe_int fun _ _ => .int i
theorem de_bl {b j} : DE X E false (.Constant (.bool b) j pos) (eC (.bl b)) := de_const pe_bl fun _ _ => .bl b
theorem de_non {j} : DE X E false (.Constant .none j pos) (eC .non) := de_const pe_non fun _ _ => .non
theorem de_str {x j} : DE X E false (.Constant (.str x) j pos) (eC (.str x)) := de_const pe_str fun _ _ => .str x
theorem de_glob {x : Str} {v : V} {u : Value} {d : D} (hm : X.mg x = some u) (r : RelV v u) (rr : ∀ A S, Rep X.K A S v d) (hg : Gl X x := by rfl) (hd : (x == ("__debug__" : Str)) = false := by decide) : DE X E false (.Name x pos) (eC d) :=
  de_const (pe_glob hg hm r hd) rr
theorem DE.sh {e : Expr} {f : DS → M D} (h : DE X E true e f) : DE X E false e f := PE.impD h fun σ H Q ⟨A, S, g, σd, o, r, k⟩ => ⟨A, S, g, σd, o, r, k.frozen o.ext⟩

def eBin (k : D → D → M D) (fa fb : DS → M D) : DS → M D := fun σ => M.bind (fa σ) fun x => M.bind (fb σ) fun y => k x y
def rD (U : Sur) (m : Bool) (k : D → D → M D) : R2 := fun x y H Q => ∃ A S g dx dy, Ok U.K A S H g ∧ Rep U.K A S x dx ∧ Rep U.K A S y dy ∧ KE U m A S H (k dx dy g) Q
theorem bin_read {U : Sur} {m : Bool} {k : D → D → M D} {fa fb : DS → M D} {σ : L2.St} {H : Hp} {Q : VK} (h : tE U m (eBin k fa fb) σ H Q) : tOp (rD U m k) (tE U false fa) (tE U false fb) σ H Q := by
  obtain ⟨A, S, g, σd, o, r, q⟩ := h
  refine ⟨A, S, g, σd, o, r, (KE.bindE q).imp fun v H1 ⟨A1, S1, g1, d, p1, o1, r1, q1⟩ => ?_⟩
  refine ⟨A1, S1, g1, σd, o1, r.post p1, (KE.bindE q1).imp fun u H2 ⟨A2, S2, g2, d2, p2, o2, r2, q2⟩ => ?_⟩
  exact ⟨A2, S2, g2, d, d2, o2, Rep.mono p2.a p2.s r1, r2, q2⟩
variable {a b c : Expr} {fa fb fc : DS → M D} {m : Bool} {k : D → D → M D}
def OpD (X : Cx) (E : XK) (f : Value → Value → Sem Value) (m : Bool) (k : D → D → M D) : Prop := OpR X f (rD (Cx.sur X E) m k)
theorem OpR.imp {f : Value → Value → Sem Value} {r r' : R2} (h : OpR X f r) (i : ∀ x y H Q, r' x y H Q → r x y H Q) : OpR X f r' := fun pins s σ H x y v u Q I rx ry q => h pins s σ H x y v u Q I rx ry (i x y H Q q)
theorem de_bin {op : Operator} (ho : OpD X E (binaryOp op) m k) (ha : DE X E false a fa) (hb : DE X E false b fb) : DE X E m (.BinOp a op b pos) (eBin k fa fb) :=
  (pe_op ho ha hb).impD fun _ _ _ h => bin_read h
theorem de_cmp {op : CmpOp} (ho : OpD X E (compareOp op) false k) (ha : DE X E false a fa) (hb : DE X E false b fb) (hm : behindInMarks op b = false := by with_unfolding_all rfl) : DE X E false (.Compare a [op] [b] pos) (eBin k fa fb) :=
  (pe_cmpR ho ha hb hm).impD fun _ _ _ h => bin_read h
def asB : D → M Bool
  | .bl b => M.pure b
  | _ => M.bad
def eTst (f : DS → M D) : DS → M Bool := fun σ => M.bind (f σ) asB
theorem tst_read {U : Sur} {f : DS → M D} {σ : L2.St} {H : Hp} {Q : Bool → Hp → Prop} (h : tT U (eTst f) σ H Q) : tTest (tE U false f) σ H Q := by
  obtain ⟨A, S, g, σd, o, r, q⟩ := h
  refine ⟨A, S, g, σd, o, r, (KT.bindE q).imp fun v H1 ⟨A1, S1, g1, d, p1, o1, r1, q1⟩ => ?_⟩
  cases r1 <;> first
    | exact q1.elim
    | exact ⟨_, rfl, KT.now q1 o1⟩
theorem dt_cmp {op : CmpOp} (ho : OpD X E (compareOp op) false k) (ha : DE X E false a fa) (hb : DE X E false b fb) (hm : behindInMarks op b = false := by with_unfolding_all rfl) : DT X E (.Compare a [op] [b] pos) (eTst (eBin k fa fb)) :=
  (pt_cmpR ho ha hb hm).impD fun σ H Q h => by
    obtain ⟨A, S, g, σd, o, r, q⟩ := tst_read h
    exact bin_read ⟨A, S, g, σd, o, r, q⟩
def eChain (k k' : D → D → M D) (fa fb fc : DS → M D) : DS → M D := fun σ => M.bind (fa σ) fun x => M.bind (fb σ) fun y => M.bind (M.bind (k x y) asB) fun t =>
  if t = true then M.bind (fc σ) fun z => k' y z else M.pure (.bl false)
variable {ta tb : DS → M Bool} {rest : List Expr}
def eAnd (f h : DS → M Bool) : DS → M Bool := fun σ => M.bind (f σ) fun t => if t = true then h σ else M.pure false
def eOr (f h : DS → M Bool) : DS → M Bool := fun σ => M.bind (f σ) fun t => if t = true then M.pure true else h σ
def eNot (f : DS → M Bool) : DS → M Bool := fun σ => M.bind (f σ) fun t => M.pure !t
theorem dw_and1 (ha : DT X E a ta) : DW X E (.BoolOp .And [a] pos) ta := pw_and1 ha
theorem dw_or1 (ha : DT X E a ta) : DW X E (.BoolOp .Or [a] pos) ta := pw_or1 ha
theorem KT.imp {U : Sur} {A : List GAdr} {S H : Hp} {r : Res Bool} {Q Q' : Bool → Hp → Prop} (h : KT U A S H r Q) (i : ∀ v H', Q v H' → Q' v H') : KT U A S H r Q' := by
  cases r with
  | ok d g => exact fun A' S' H' q o => i _ _ (h A' S' H' q o)
  | err x g => exact h
  | bad => exact h
theorem dw_and (ha : DT X E a ta) (hb : DW X E (.BoolOp .And (b :: rest) pos) tb) : DW X E (.BoolOp .And (a :: b :: rest) pos) (eAnd ta tb) :=
  (pw_and ha hb).impD fun σ H Q ⟨A, S, g, σd, o, r, q⟩ => ⟨A, S, g, σd, o, r, (KT.bindT q).imp fun t H1 ⟨A1, S1, g1, p1, o1, q1⟩ => by
    cases t with
    | true => exact ⟨A1, S1, g1, σd, o1, r.post p1, q1⟩
    | false => exact KT.now q1 o1⟩
theorem dw_or (ha : DT X E a ta) (hb : DW X E (.BoolOp .Or (b :: rest) pos) tb) : DW X E (.BoolOp .Or (a :: b :: rest) pos) (eOr ta tb) :=
  (pw_or ha hb).impD fun σ H Q ⟨A, S, g, σd, o, r, q⟩ => ⟨A, S, g, σd, o, r, (KT.bindT q).imp fun t H1 ⟨A1, S1, g1, p1, o1, q1⟩ => by
    cases t with
    | false => exact ⟨A1, S1, g1, σd, o1, r.post p1, q1⟩
    | true => exact KT.now q1 o1⟩
theorem dt_w (h : DW X E a ta) : DT X E a ta := h.pt
theorem dt_not (h : DT X E a ta) : DT X E (.UnaryOp .Not a pos) (eNot ta) :=
  (pt_not h).impD fun σ H Q ⟨A, S, g, σd, o, r, q⟩ => ⟨A, S, g, σd, o, r, (KT.bindT q).imp fun t H1 ⟨A1, S1, g1, p1, o1, q1⟩ => KT.now q1 o1⟩
def eB (f : DS → M Bool) : DS → M D := fun σ => M.bind (f σ) fun t => M.pure (.bl t)
def eIf (t : DS → M Bool) (fa fb : DS → M D) : DS → M D := fun σ => M.bind (t σ) fun b => if b = true then fa σ else fb σ
theorem de_if (hc : DT X E c ta) (ha : DE X E m a fa) (hb : DE X E m b fb) : DE X E m (.IfExp c a b pos) (eIf ta fa fb) :=
  (pe_ifExp hc ha hb).impD fun σ H Q ⟨A, S, g, σd, o, r, q⟩ => ⟨A, S, g, σd, o, r, (KE.bindT q).imp fun t H1 ⟨A1, S1, g1, p1, o1, q1⟩ => by
    show if t = true then _ else _
    cases t with
    | true =>
      rw [if_pos rfl] at q1 ⊢
      exact ⟨A1, S1, g1, σd, o1, r.post p1, q1⟩
    | false =>
      rw [if_neg (by decide)] at q1 ⊢
      exact ⟨A1, S1, g1, σd, o1, r.post p1, q1⟩⟩
def eAndV (fa fb : DS → M D) : DS → M D := fun σ => M.bind (M.bind (fa σ) asB) fun t => if t = true then fb σ else M.pure (.bl false)
def eOrV (fa fb : DS → M D) : DS → M D := fun σ => M.bind (M.bind (fa σ) asB) fun t => if t = true then M.pure (.bl true) else fb σ
def eNotV (fa : DS → M D) : DS → M D := fun σ => M.bind (M.bind (fa σ) asB) fun t => M.pure (.bl !t)
theorem asb_read {U : Sur} {A : List GAdr} {S H : Hp} {f : M D} {k : Bool → M D} {g : G} {Q : VK} (q : KE U m A S H (M.bind (M.bind f asB) k g) Q) :
    KE U false A S H (f g) fun v H1 => ∃ t, v = .bl t ∧ ∃ A1 S1 g1, Post A S H A1 S1 H1 ∧ Ok U.K A1 S1 H1 g1 ∧ KE U m A1 S1 H1 (k t g1) Q :=
  (KT.bindE (KE.bindT q)).imp fun w H3 ⟨A3, S3, g3, d3, p3, o3, r3, q3⟩ => by
    obtain ⟨t, rfl, rfl⟩ : ∃ t, w = .bl t ∧ d3 = .bl t := by
      cases r3 <;> first
        | exact q3.elim
        | exact ⟨_, rfl, rfl⟩
    refine ⟨t, rfl, ?_⟩
    obtain ⟨A4, S4, g4, p4, o4, q4⟩ := KT.now q3 o3
    exact ⟨A4, S4, g4, p4, o4, q4⟩
theorem de_and1 (ha : DE X E m a fa) : DE X E m (.BoolOp .And [a] pos) fa := pe_one ha
theorem de_and (ha : DE X E false a fa) (hb : DE X E false (.BoolOp .And (b :: rest) pos) fb) : DE X E false (.BoolOp .And (a :: b :: rest) pos) (eAndV fa fb) :=
  (pe_and ha hb).impD fun σ H Q ⟨A, S, g, σd, o, r, q⟩ => ⟨A, S, g, σd, o, r, (asb_read q).imp fun v H1 ⟨t, e, A1, S1, g1, p1, o1, q1⟩ => by
    refine ⟨t, e, ?_⟩
    cases t with
    | true => rw [if_pos rfl] at q1 ⊢; exact ⟨A1, S1, g1, σd, o1, r.post p1, q1⟩
    | false => rw [if_neg (by decide)] at q1 ⊢; exact q1.val o1 (.bl _)⟩
theorem de_not (ha : DE X E false a fa) : DE X E false (.UnaryOp .Not a pos) (eNotV fa) :=
  (pe_not ha).impD fun σ H Q ⟨A, S, g, σd, o, r, q⟩ => ⟨A, S, g, σd, o, r, (asb_read q).imp fun v H1 ⟨t, e, A1, S1, g1, p1, o1, q1⟩ => ⟨t, e, q1.val o1 (.bl _)⟩⟩
end
end NS
namespace NS
open PySem PySem.Spec PyProof.Rows L2
structure RoomG (k : Nat) (A : Around) : Prop where
  r : Room k A
  g : A.guards = some []
theorem RoomG.mono {j k : Nat} {A : Around} (h : RoomG k A) (hk : j ≤ k) : RoomG j A := ⟨h.r.mono hk, h.g⟩
theorem RoomG.deeper {k : Nat} {A : Around} (h : RoomG (k + 1) A) (env : Env) : RoomG k (A.deeper env) := ⟨h.r.deeper env, h.g⟩
structure FnOkG (P : Program) (w : World) (K : PySem.W.Frag) (mg : Str → Option Value) (base : Heap) (CX : CXT) (k : Nat) (f : Addr) (fd : FuncData) (ps : List Str) (sp : Sp) : Prop where
  len : ∀ vs H Q E, sp vs H Q E → vs.length = ps.length
  run : ∀ (A : Around) (outer : List Env) (s : Shared) (H : Hp) (args : Args) (us : List Value) (vs : List V) (Q : VK) (E : XK), RoomG k A → Env0 P w K mg base A outer s H → BindsTo s fd args (ps.zip us) → Vals vs us → sp vs H Q E →
    codeAny (model P w) A (.call (.ref f) args) (CR CX outer P w H s Q E) s
theorem FnOkG.mono {P : Program} {w : World} {K : PySem.W.Frag} {mg : Str → Option Value} {base : Heap} {CX : CXT} {j k : Nat} {f : Addr} {fd : FuncData} {ps : List Str} {sp : Sp} (F : FnOkG P w K mg base CX j f fd ps sp) (h : j ≤ k) : FnOkG P w K mg base CX k f fd ps sp :=
  ⟨F.len, fun A outer s H args us vs Q E hr => F.run A outer s H args us vs Q E (hr.mono h)⟩
section
variable {P : Program} {w : World} {K : PySem.W.Frag} {mg : Str → Option Value} {base : Heap}
theorem fnG {CX : CXT} {x qual : Str} {st : Stmt} {f : Addr} {fd : FuncData} {N ps : List Str} {k : Nat} {sp : Sp} (F : Fun K x qual st f fd) (S : FnScope N ps (defScope st)) (len : ∀ vs H Q E, sp vs H Q E → vs.length = ps.length)
    (hb : ∀ (cdv : Value) (A : Around) (outer : List Env) (s : Shared) (H : Hp) (vs : List V) (Q : VK) (E : XK), RoomG k (A.deeper (envOfC qual (defScope st) s.heap.objs.size f cdv)) → sp vs H Q E →
      ∃ t, PSs (cxOf CX P w K mg base N qual (defScope st) f cdv A outer s H E) (defBody st) t ∧ t { nx := fun _ H' => Q .non H', rt := Q } (start N vs) H) : FnOkG P w K mg base CX (k + 1) f fd ps sp := by
  obtain ⟨oc, od, kV, doc, pm, an, cdv, ct, osl, rfl, lk, hcd⟩ := F.ex
  refine ⟨len, fun A outer s H args us vs Q E hr e0 hB r hs => ?_⟩
  have hl := len _ _ _ _ hs
  obtain ⟨t, ht, hq⟩ := hb cdv A outer s H vs Q E (hr.deeper _) hs
  have up := fun b o e => (e0.bs b o e).1
  have KX : K.In s.heap := e0.mod.kin.keeps up
  have kinds : ∀ y ∈ ps.zip us, (defScope st).names.lookup y.1 = some .local ∨ ((defScope st).names.lookup y.1 = some .cell ∧ ((cellsFrom (s.heap.objs.size + 1) (defScope st).names []).lookup y.1).isSome = true) := by
    intro y hy
    cases S.par y.1 (List.of_mem_zip hy).1 with
    | inl q => exact .inl q
    | inr q => exact .inr ⟨q, PySem.W.cellsFrom_some _ _ _ (.inl q)⟩
  refine codeAny_call_function hr.r.depth (KX _ _ lk) rfl S.co S.gen rfl (PySem.W.codeRec_of KX hcd) (hB _ _ _ _ (wpAny_newFunctionEnv_cells S.kind kinds fun env he s1 x => ?_))
  subst he
  refine ⟨e0.mod.nolimit.keeps fun b o e => x.toInCall.keep b o (up b o e), codeAny_func (wpAny_mono (ht.run [] s1 (start N vs) H _ (inv_start S hr.r.hd e0 hl r x) hq) (fun fl s' hs => ?_) fun e s' hs => hs)⟩
  cases fl with
  | ret u => obtain ⟨v, σ', H', J, rv, q⟩ := hs; exact ⟨v, H', J.os, J.bare, J.base, J.hok, rv, q⟩
  | next => obtain ⟨σ', H', J, q⟩ := hs; exact ⟨.non, H', J.os, J.bare, J.base, J.hok, rfl, q⟩
  | brk => obtain ⟨_, _, _, q⟩ := hs; exact q.elim
  | cont => obtain ⟨_, _, _, q⟩ := hs; exact q.elim
end
section
variable {X : Cx} {CX : CXT} {k : Nat} {f : Addr} {fd : FuncData} {ps : List Str} {sp : Sp} {E : XK} {x : Str} {p pos : Pos} {e : Expr} {es : List Expr} {t : TA}
theorem goG {pins : List (Addr × Obj)} {σ : L2.St} {H : Hp} {s : Shared} {Q : VK} {us : List Value} {args : Args} {vs : List V} (F : FnOkG X.prog X.w X.K X.mg X.base CX k f fd ps sp) (hr : RoomG k X.A) (hx : Passes CX X E)
    (I : Inv X pins σ H s) (hb : BindsTo s fd args (ps.zip us)) (r : Vals vs us) (h : sp vs H Q E) : codeAny (model X.prog X.w) X.A (.call (.ref f) args) (fun r s' => match r with
      | .ok (.ret u) => EP X pins σ Q u s'
      | .ok _ => False
      | .error e => X.xe e s') s := by
  refine codeAny_mono (F.run X.A X.stack s H args us vs Q E hr I.env0 hb r h) fun r s' hq => ?_
  cases r with
  | error e => exact hx pins σ H s e s' I hq
  | ok fl => cases fl with
    | ret u => exact I.after hq
    | _ => exact hq.elim
theorem callG {pins : List (Addr × Obj)} {σ : L2.St} {H : Hp} {s : Shared} {Q : VK} {us ws : List Value} {ks : List Str} {kw : List (Str × Value)} {vs : List V} (F : FnOkG X.prog X.w X.K X.mg X.base CX k f fd ps sp) (hr : RoomG k X.A) (hx : Passes CX X E)
    (I : Inv X pins σ H s) (hb : BindsTo s fd ⟨ws, kw⟩ (ps.zip us)) (r : Vals vs us) (h : sp vs H Q E) : wpAny (model X.prog X.w) X.A (call (.ref f) ws kw) (EP X pins σ Q) X.xe s := by
  refine wpAny_call (codeAny_mono (goG F hr hx I hb r h) fun r s' hq => ?_)
  cases r with
  | error e => exact hq
  | ok fl => cases fl with
    | ret u => exact hq
    | _ => exact hq.elim
theorem pe_callG (F : FnOkG X.prog X.w X.K X.mg X.base CX k f fd ps sp) (hr : RoomG k X.A) (hg : Gl X x) (hm : X.mg x = some (.ref f)) (hk : PySem.W.keepIn X.K (.ref f) = true) (hb : Binds X.K fd ps []) (hx : Passes CX X E)
    (ha : PA X (e :: es) t) (hdb : (x == ("__debug__" : Str)) = false := by decide) (he : starEach (e :: es) X.env = (false, eval e X.env) :: starEach es X.env := by rfl) (hpl : (backTo pos (starEach es X.env)).any (·.1) = false := by rfl) :
    PE X (.Call (.Name x p) (e :: es) [] pos) (tCall sp [] E t) :=
  ⟨fun pins s σ H Q I h => wpAny_Call_Name_kw (ld_glob I hg hm (PySem.W.callWith_K (h₀ := X.base) I.ok.mod.kin hk (thn (ha.run pos pins s σ H _ I h) fun us s1 ⟨vs, H1, I1, r, q⟩ => ⟨I1.kIn, by
    have q : sp (vs ++ []) H1 Q E := q
    rw [List.append_nil] at q
    have hl : (us ++ []).length = ps.length := by rw [List.append_nil, ← r.length]; exact F.len _ _ _ _ q
    exact callG (ks := []) F hr hx I1 (by have := hb s1 us I1.kIn hl; rw [List.append_nil] at this; exact this) r q⟩) he hpl) hdb)⟩
theorem run_fnkG {pins : List (Addr × Obj)} {σ : L2.St} {H : Hp} {s : Shared} {Q : VK} {us ws : List Value} {ks : List Str} {vs zs : List V} {g : List Value → List Value → List Value} {gV : List V → List V → List V} (F : FnOkG X.prog X.w X.K X.mg X.base CX k f fd ps sp) (hr : RoomG k X.A) (hb : KBinds X.K fd ps ks g gV) (hx : Passes CX X E)
    (I : Inv X pins σ H s) (r : Vals vs us) (rz : Vals zs ws) (h : sp (gV vs zs) H Q E) : wpAny (model X.prog X.w) X.A (call (.ref f) us (ks.zip ws)) (EP X pins σ Q) X.xe s := by
  have r2 := hb.rel r rz
  exact callG (ks := ks) F hr hx I (hb.to s us ws I.kIn (by rw [← r2.length]; exact F.len _ _ _ _ h)) r2 h
end
end NS
namespace NS
open PySem PySem.Spec PyProof.Rows L2

def fit (n : Nat) : Bool := decide (n < 1000000)
theorem fit_le {n : Nat} (h : fit n = true) : n < sizeLine := Nat.lt_of_lt_of_le (of_decide_eq_true h) (by rw [sizeLine_eq]; decide)
theorem KL.imp {U : Sur} {A : List GAdr} {S H : Hp} {r : Res (List D)} {Q Q' : List V → Hp → Prop} (h : KL U A S H r Q) (i : ∀ v H', Q v H' → Q' v H') : KL U A S H r Q' := by
  cases r with
  | ok d g => exact fun A' S' H' vs q o r => i _ _ (h A' S' H' vs q o r)
  | err x g => exact h
  | bad => exact h
section
variable {X : Cx} {E : XK} {pos : Pos} {e : Expr} {es : List Expr} {f : DS → M D} {fl : DS → M (List D)} {m : Bool}
def lNil : DS → M (List D) := fun _ => M.pure []
def lCons (f : DS → M D) (fl : DS → M (List D)) : DS → M (List D) := fun σ => M.bind (f σ) fun x => M.bind (fl σ) fun xs => M.pure (x :: xs)
theorem dl_nil : DL X E [] lNil := PA.impD pa_nil fun σ H Q ⟨A, S, g, σd, o, r, q⟩ => q A S H [] (Post.refl _ _ _) o .nil
theorem dl_cons (ha : DE X E false e f) (hr : DL X E es fl) (hs : starEach (e :: es) X.env = (false, eval e X.env) :: starEach es X.env := by rfl) : DL X E (e :: es) (lCons f fl) :=
  (pa_cons ha hr hs).impD fun σ H Q ⟨A, S, g, σd, o, r, q⟩ => ⟨A, S, g, σd, o, r, (KL.bindE q).imp fun v H1 ⟨A1, S1, g1, d, p1, o1, r1, q1⟩ =>
    ⟨A1, S1, g1, σd, o1, r.post p1, (KL.bindL q1).imp fun vs H2 ⟨A2, S2, g2, ds, p2, o2, r2, q2⟩ => q2 A2 S2 H2 _ (Post.refl _ _ _) o2 (.cons (Rep.mono p2.a p2.s r1) r2)⟩⟩
def mkT (ds : List D) : M D := if fit ds.length = true then M.pure (.tup ds) else M.bad
def mkL (ds : List D) : M D := if fit ds.length = true then M.pure (.lst ds) else M.bad
def eArgs (k : List D → M D) (fl : DS → M (List D)) : DS → M D := fun σ => M.bind (fl σ) k
theorem de_tup {x1} (h : DL X E es fl) : DE X E false (.Tuple es x1 pos) (eArgs mkT fl) :=
  (pe_tup h).impD fun σ H Q ⟨A, S, g, σd, o, r, q⟩ => ⟨A, S, g, σd, o, r, (KE.bindL q).imp fun vs H1 ⟨A1, S1, g1, ds, p1, o1, r1, q1⟩ => by
    unfold mkT at q1
    by_cases hf : fit ds.length = true
    · rw [if_pos hf] at q1
      exact ⟨by rw [r1.length]; exact Nat.le_of_lt (fit_le hf), fun p hp => q1.newT o1 r1 hp⟩
    · rw [if_neg hf] at q1; exact q1.elim⟩
theorem de_lst (h : DL X E es fl) : DE X E m (.List es pos) (eArgs mkL fl) :=
  (pe_lst h).impD fun σ H Q ⟨A, S, g, σd, o, r, q⟩ => ⟨A, S, g, σd, o, r, (KE.bindL q).imp fun vs H1 ⟨A1, S1, g1, ds, p1, o1, r1, q1⟩ => by
    unfold mkL at q1
    by_cases hf : fit ds.length = true
    · rw [if_pos hf] at q1
      exact ⟨by rw [r1.length]; exact Nat.le_of_lt (fit_le hf), fun p hp => q1.newL o1 r1 hp⟩
    · rw [if_neg hf] at q1; exact q1.elim⟩

def rDL (U : Sur) (m : Bool) (k : List D → M D) : List V → Hp → VK → Prop := fun vs H Q => ∃ A S g ds, Ok U.K A S H g ∧ RepL U.K A S vs ds ∧ KE U m A S H (k ds g) Q
def CallD (X : Cx) (E : XK) (f : Value) (m : Bool) (k : List D → M D) : Prop := CallR X f (rDL (Cx.sur X E) m k)
theorem args_read {U : Sur} {k : List D → M D} {σ : L2.St} {H : Hp} {Q : VK} (h : tE U m (eArgs k fl) σ H Q) : tL U fl σ H fun vs H1 => rDL U m k vs H1 Q := by
  obtain ⟨A, S, g, σd, o, r, q⟩ := h
  exact ⟨A, S, g, σd, o, r, (KE.bindL q).imp fun vs H1 ⟨A1, S1, g1, ds, p1, o1, r1, q1⟩ => ⟨A1, S1, g1, ds, o1, r1, q1⟩⟩
variable {k : List D → M D} {x : Str} {p : Pos} {id T : String}
theorem de_callB (hc : CallD X E (.builtin id) m k) (hm : X.mg x = none) (ha : DL X E (e :: es) fl) (hg : Gl X x := by rfl) (hv : bootBuiltins x = some (.builtin id) := by decide +kernel) (hn : x ≠ "__name__" := by decide) (hdb : (x == ("__debug__" : Str)) = false := by decide)
    (he : starEach (e :: es) X.env = (false, eval e X.env) :: starEach es X.env := by rfl) (hpl : (backTo pos (starEach es X.env)).any (·.1) = false := by rfl) : DE X E m (.Call (.Name x p) (e :: es) [] pos) (eArgs k fl) :=
  PE.impD (pe_callB hc hg hm hv ha hn hdb he hpl) fun _ _ _ h => args_read h
theorem de_callTy (hc : CallD X E (.type T) m k) (hm : X.mg x = none) (ha : DL X E (e :: es) fl) (hg : Gl X x := by rfl) (hv : bootBuiltins x = some (.type T) := by decide +kernel) (hn : x ≠ "__name__" := by decide) (hdb : (x == ("__debug__" : Str)) = false := by decide)
    (he : starEach (e :: es) X.env = (false, eval e X.env) :: starEach es X.env := by rfl) (hpl : (backTo pos (starEach es X.env)).any (·.1) = false := by rfl) : DE X E m (.Call (.Name x p) (e :: es) [] pos) (eArgs k fl) :=
  PE.impD (pe_callTy hc hg hm hv ha hn hdb he hpl) fun _ _ _ h => args_read h

def spD (mg : Str → Option Value) (K : PySem.W.Frag) (n : Nat) (m : Bool) (f : List D → M D) : Sp := fun vs H Q E => vs.length = n ∧ rDL ⟨mg, K, E⟩ m f vs H Q
abbrev FnD (P : Program) (w : World) (K : PySem.W.Frag) (mg : Str → Option Value) (base : Heap) (CX : CXT) (k : Nat) (f : Addr) (fd : FuncData) (ps : List Str) (m : Bool) (d : List D → M D) : Prop :=
  FnOkG P w K mg base CX k f fd ps (spD mg K ps.length m d)
def callN (n : Nat) (d : List D → M D) : List D → M D := fun ds => if ds.length = n then d ds else M.bad
variable {CX : CXT} {kk : Nat} {fa : Addr} {fd : FuncData} {ps : List Str} {d : List D → M D}
theorem de_call (F : FnD X.prog X.w X.K X.mg X.base CX kk fa fd ps m d) (hr : RoomG kk X.A) (hm : X.mg x = some (.ref fa)) (hk : PySem.W.keepIn X.K (.ref fa) = true) (hb : Binds X.K fd ps []) (hx : Passes CX X E)
    (ha : DL X E (e :: es) fl) (hg : Gl X x := by rfl) (hdb : (x == ("__debug__" : Str)) = false := by decide) (he : starEach (e :: es) X.env = (false, eval e X.env) :: starEach es X.env := by rfl) (hpl : (backTo pos (starEach es X.env)).any (·.1) = false := by rfl) :
    DE X E m (.Call (.Name x p) (e :: es) [] pos) (eArgs (callN ps.length d) fl) :=
  PE.impD (pe_callG F hr hg hm hk hb hx ha hdb he hpl) fun σ H Q ⟨A, S, g, σd, o, r, q⟩ => ⟨A, S, g, σd, o, r, (KE.bindL q).imp fun vs H1 ⟨A1, S1, g1, ds, p1, o1, r1, q1⟩ => by
    unfold callN at q1
    by_cases hl : ds.length = ps.length
    · rw [if_pos hl] at q1
      refine ⟨by simp [r1.length, hl], A1, S1, g1, ds, o1, by simpa using r1, q1⟩
    · rw [if_neg hl] at q1; exact q1.elim⟩
def DK (X : Cx) (E : XK) (kws : List Keyword) (f : DS → M (List D)) : Prop := PK X kws (tL (Cx.sur X E) f)
theorem _root_.L2.PK.impD {X : Cx} {e : List Keyword} {t t' : TA} (h : PK X e t) (i : ∀ σ H Q, t' σ H Q → t σ H Q) : PK X e t' := ⟨fun pos pins s σ H Q I q => h.run pos pins s σ H Q I (i σ H Q q)⟩
variable {kws : List Keyword} {nm : Option Str} {kpos : Pos}
theorem dk_nil : DK X E [] lNil := PK.impD pk_nil fun σ H Q ⟨A, S, g, σd, o, r, q⟩ => q A S H [] (Post.refl _ _ _) o .nil
theorem dk_cons (ha : DE X E false e f) (hr : DK X E kws fl) : DK X E (⟨nm, e, kpos⟩ :: kws) (lCons f fl) :=
  (pk_cons ha hr).impD fun σ H Q ⟨A, S, g, σd, o, r, q⟩ => ⟨A, S, g, σd, o, r, (KL.bindE q).imp fun v H1 ⟨A1, S1, g1, d, p1, o1, r1, q1⟩ =>
    ⟨A1, S1, g1, σd, o1, r.post p1, (KL.bindL q1).imp fun vs H2 ⟨A2, S2, g2, ds, p2, o2, r2, q2⟩ => q2 A2 S2 H2 _ (Post.refl _ _ _) o2 (.cons (Rep.mono p2.a p2.s r1) r2)⟩⟩

structure DIt (K : PySem.W.Frag) (A : List GAdr) (S : Hp) (J : It) (ds : List D) : Prop where
  go : ∀ i H, i < ds.length → Same S H → J.go i H
  stop : ∀ i H, ds.length ≤ i → Same S H → J.stop i H
  yld : ∀ i H x H', i < ds.length → Same S H → J.yld i H x H' → ∃ d, ds[i]? = some d ∧ ((H' = H ∧ Rep K A S x d) ∨ ∃ T vs es, x = .ref T ∧ d = .tup es ∧ ((H T = none ∧ H' = upd H T (.tup vs)) ∨ (H' = H ∧ H T = some (.tup vs))) ∧ RepL K A S vs es)
theorem DIt.mono {K : PySem.W.Frag} {A A' : List GAdr} {S S' : Hp} {J : It} {ds : List D} (hA : A <+: A') (hS : Same S S') (h : DIt K A S J ds) : DIt K A' S' J ds :=
  ⟨fun i H hi e => h.go i H hi (hS.trans e), fun i H hi e => h.stop i H hi (hS.trans e), fun i H x H' hi e y => by
    obtain ⟨d, e1, e2⟩ := h.yld i H x H' hi (hS.trans e) y
    refine ⟨d, e1, ?_⟩
    rcases e2 with ⟨e2, e3⟩ | ⟨T, vs, es, a1, a2, a3, a5⟩
    · exact .inl ⟨e2, e3.mono hA hS⟩
    · exact .inr ⟨T, vs, es, a1, a2, a3, a5.mono hA hS⟩⟩
theorem cell_notup {K : PySem.W.Frag} {A : List GAdr} {S H : Hp} {ga : GAdr} {c : GCell} (h : CellOk K A S H ga c) {q : Addr} {vs : List V} (e : H q = some (.tup vs)) : q ∉ ga.fp := by
  intro hq
  cases ga <;> cases c <;> first
    | exact h.elim
    | (simp only [GAdr.fp, List.mem_singleton] at hq; subst hq
       have z := e.symm.trans h
       injection z with z; injection z)
    | (obtain ⟨_, ps, h2, _⟩ := h
       simp only [GAdr.fp, List.mem_singleton] at hq; subst hq
       rw [e] at h2; cases h2)
    | (obtain ⟨h0, h1, h2, ⟨vs1, h3, h4⟩, ws, h5, h6⟩ := h
       simp only [GAdr.fp, List.mem_cons, List.not_mem_nil, or_false] at hq
       rcases hq with rfl | rfl | rfl | rfl
       · rw [e] at h1; cases h1
       · rw [e] at h2; cases h2
       · rw [e] at h3; cases h3
       · rw [e] at h5; cases h5)
theorem ok_notup {K : PySem.W.Frag} {A : List GAdr} {S H : Hp} {g : G} (o : Ok K A S H g) {q : Addr} {vs : List V} (e : H q = some (.tup vs)) : q ∉ gfp A := fun z => by
  obtain ⟨ga, hg, hx⟩ := List.mem_flatMap.mp z
  obtain ⟨k, hk, ek⟩ := List.getElem_of_mem hg
  have e1 : A[k]? = some ga := by rw [List.getElem?_eq_getElem hk, ek]
  have hk2 : k < g.length := by rw [← o.len]; exact hk
  exact cell_notup (o.cel k ga _ e1 (List.getElem?_eq_getElem hk2)) e hx
theorem ok_share {K : PySem.W.Frag} {A : List GAdr} {S H : Hp} {g : G} (o : Ok K A S H g) {q : Addr} {vs : List V} (e : H q = some (.tup vs)) : ∃ S3, Post A S H A S3 H ∧ Ok K A S3 H g ∧ S3 q = some (.tup vs) := by
  cases es : S q with
  | some u =>
    have := o.ext _ _ es
    rw [e] at this; cases this
    exact ⟨S, Post.refl _ _ _, o, es⟩
  | none =>
    have nq := ok_notup o e
    refine ⟨upd S q (.tup vs), ⟨List.prefix_refl _, fun b x h => by rw [upd_ne (ne_of_none h es)]; exact h, fun x u h => ?_, fun _ _ h _ => h, fun _ u h => ⟨u, h⟩, fun _ h => .inl h⟩, o.freeze es e nq, upd_same⟩
    by_cases z : x = q
    · subst z; exact .inr (.inr ⟨nq, vs, e⟩)
    · rw [upd_ne z] at h; exact .inl h
theorem yld_rep {K : PySem.W.Frag} {A A2 : List GAdr} {S S2 H H' : Hp} {g : G} {x : V} {d : D} (o : Ok K A2 S2 H g) (pf : A <+: A2) (sm : Same S S2)
    (yy : (H' = H ∧ Rep K A S x d) ∨ ∃ T vs es, x = .ref T ∧ d = .tup es ∧ ((H T = none ∧ H' = upd H T (.tup vs)) ∨ (H' = H ∧ H T = some (.tup vs))) ∧ RepL K A S vs es) : ∃ S3, Post A2 S2 H A2 S3 H' ∧ Ok K A2 S3 H' g ∧ Rep K A2 S3 x d := by
  rcases yy with ⟨rfl, rx⟩ | ⟨T, ws, es, rfl, rfl, ⟨hT, rfl⟩ | ⟨rfl, hT⟩, rr⟩
  · exact ⟨S2, Post.refl _ _ _, o, rx.mono pf sm⟩
  · have PT := Post.lay (A := A2) (o := .tup ws) hT o.ext
    exact ⟨_, PT, o.lay hT, .tup upd_same (rr.mono pf (sm.trans PT.s))⟩
  · obtain ⟨S3, P3, o3, e3⟩ := ok_share o hT
    exact ⟨S3, P3, o3, .tup e3 (rr.mono pf (sm.trans P3.s))⟩
def KI (U : Sur) (A : List GAdr) (S H : Hp) (r : Res (List D)) (R : It → Hp → Prop) : Prop :=
  match r with
  | .ok ds g' => ∀ A' S' H' J, Post A S H A' S' H' → Ok U.K A' S' H' g' → DIt U.K A' S' J ds → R J H'
  | .err x g' => ∀ A' S' H' c dd, Post A S H A' S' H' → Ok U.K A' S' H' g' → XRep U.mg U.K A' S' H' x c dd → U.E c dd H'
  | .bad => False
def tI (U : Sur) (f : DS → M (List D)) : TI := fun σ H R => ∃ A S g σd, Ok U.K A S H g ∧ SRep U.K A S H σ σd ∧ KI U A S H (f σd g) R
def DI (X : Cx) (E : XK) (tg iter : Expr) (f : DS → M (List D)) : Prop := PI X tg iter (tI (Cx.sur X E) f)
theorem KI.shift {U : Sur} {A A1 : List GAdr} {S S1 H H1 : Hp} {r : Res (List D)} {R : It → Hp → Prop} (p : Post A S H A1 S1 H1) (h : KI U A S H r R) : KI U A1 S1 H1 r R := by
  cases r with
  | ok d g => exact fun A' S' H' v q o rr => h A' S' H' v (p.trans q) o rr
  | err x g => exact fun A' S' H' c dd q o rr => h A' S' H' c dd (p.trans q) o rr
  | bad => exact h
theorem KI.imp {U : Sur} {A : List GAdr} {S H : Hp} {r : Res (List D)} {R R' : It → Hp → Prop} (h : KI U A S H r R) (i : ∀ J H', R J H' → R' J H') : KI U A S H r R' := by
  cases r with
  | ok d g => exact fun A' S' H' vs q o r => i _ _ (h A' S' H' vs q o r)
  | err x g => exact h
  | bad => exact h
theorem KI.bindE {U : Sur} {A : List GAdr} {S H : Hp} {x : M D} {k : D → M (List D)} {g : G} {R : It → Hp → Prop} (h : KI U A S H (M.bind x k g) R) :
    KE U false A S H (x g) fun v H1 => ∃ A1 S1 g1 d, Post A S H A1 S1 H1 ∧ Ok U.K A1 S1 H1 g1 ∧ Rep U.K A1 S1 v d ∧ KI U A1 S1 H1 (k d g1) R := by
  unfold M.bind at h
  cases e : x g with
  | ok d g1 => rw [e] at h; exact fun A' S' H' v p o r => ⟨A', S', g1, d, p, o, r, h.shift p⟩
  | err e1 g1 => rw [e] at h; exact h
  | bad => rw [e] at h; exact h
theorem KI.bindL {U : Sur} {A : List GAdr} {S H : Hp} {x : M (List D)} {k : List D → M (List D)} {g : G} {R : It → Hp → Prop} (h : KI U A S H (M.bind x k g) R) :
    KL U A S H (x g) fun v H1 => ∃ A1 S1 g1 d, Post A S H A1 S1 H1 ∧ Ok U.K A1 S1 H1 g1 ∧ RepL U.K A1 S1 v d ∧ KI U A1 S1 H1 (k d g1) R := by
  unfold M.bind at h
  cases e : x g with
  | ok d g1 => rw [e] at h; exact fun A' S' H' v p o r => ⟨A', S', g1, d, p, o, r, h.shift p⟩
  | err e1 g1 => rw [e] at h; exact h
  | bad => rw [e] at h; exact h

def KG (U : Sur) (vs : List Nat) (A : List GAdr) (S H : Hp) (σ : L2.St) (r : Res DS) (Q : L2.St → Hp → Prop) : Prop :=
  match r with
  | .ok σd' g' => ∀ A' S' H' σ', Post A S H A' S' H' → Ok U.K A' S' H' g' → SRep U.K A' S' H' σ' σd' → L2.wipe σ' vs = L2.wipe σ vs → Q σ' H'
  | _ => False
def tG (U : Sur) (vs : List Nat) (f : D → DS → M DS) : TG := fun v σ H Q => ∃ A S g σd d, Ok U.K A S H g ∧ SRep U.K A S H σ σd ∧ Rep U.K A S v d ∧ KG U vs A S H σ (f d σd g) Q
def DG (X : Cx) (E : XK) (vs : List Nat) (tg : Expr) (f : D → DS → M DS) : Prop := PG X tg (tG (Cx.sur X E) vs f)
def gN (i : Nat) : D → DS → M DS := fun d σ => M.pure (σ.set i (some (.sh d)))
def gNs (is : List Nat) : D → DS → M DS := fun d σ => match d with
  | .tup ds => if ds.length = is.length then M.pure ((is.zip ds).foldl (fun s p => s.set p.1 (some (.sh p.2))) σ) else M.bad
  | _ => M.bad
theorem wipe_set {σ : L2.St} {i : Nat} {x : Option V} : ∀ {vs : List Nat}, i ∈ vs → L2.wipe (σ.set i x) vs = L2.wipe σ vs
  | v :: vs, h => by
    show (L2.wipe (σ.set i x) vs).set v none = (L2.wipe σ vs).set v none
    by_cases e : i = v
    · subst e
      by_cases h2 : i ∈ vs
      · rw [wipe_set h2]
      · have : ∀ (us : List Nat), i ∉ us → L2.wipe (σ.set i x) us = (L2.wipe σ us).set i x := by
          intro us
          induction us with
          | nil => intro _; rfl
          | cons u us ih =>
            intro hu
            show (L2.wipe (σ.set i x) us).set u none = ((L2.wipe σ us).set u none).set i x
            rw [ih fun z => hu (List.mem_cons_of_mem _ z), List.set_comm _ _ (fun z => hu (by rw [z]; exact List.mem_cons_self))]
        rw [this vs h2, List.set_set]
    · have h2 : i ∈ vs := by
        rcases List.mem_cons.mp h with z | z
        · exact absurd z e
        · exact z
      rw [wipe_set h2]
theorem dg_name {i : Nat} {vs : List Nat} {x : Str} (hN : X.N.Nodup) (hi : X.N[i]? = some x := by rfl) (hv : i ∈ vs := by decide) (hx : Loc X.env.scope x := by first | exact Or.inl rfl | exact Or.inr rfl) (hf : X.fn x = true ∨ X.env.scope.names.lookup x = some .local := by first | exact .inl rfl | exact .inr rfl | assumption) : DG X E vs (.Name x pos) (gN i) :=
  (pg_name hN hi hx hf).impD fun v σ H Q ⟨A, S, g, σd, d, o, r, rv, q⟩ => q A S H _ (Post.refl _ _ _) o (r.setSh rv i) (wipe_set hv)
def gNames (is : List Nat) : TGs := fun vs σ H Q => vs.length = is.length ∧ Q ((is.zip vs).foldl (fun s p => s.set p.1 (some p.2)) σ) H
theorem pgs_nilN : PGs X [] (gNames []) := ⟨fun pins s σ H vs us Q I r h => by
  obtain ⟨e, q⟩ := h
  have e' : vs = [] := List.length_eq_zero_iff.mp e
  subst e'
  exact pgs_nil.run pins s σ H [] us Q I r ⟨rfl, q⟩⟩
theorem pgs_consN {i : Nat} {is : List Nat} {x : Str} {es : List Expr} (hN : X.N.Nodup) (h2 : PGs X es (gNames is)) (hi : X.N[i]? = some x := by rfl) (hx : Loc X.env.scope x := by first | exact Or.inl rfl | exact Or.inr rfl) (hf : X.fn x = true ∨ X.env.scope.names.lookup x = some .local := by first | exact .inl rfl | exact .inr rfl | assumption)
    (hs : (assignEach (.Name x pos :: es) X.env).map (·.2) = assign (.Name x pos) X.env :: (assignEach es X.env).map (·.2) := by rfl) : PGs X (.Name x pos :: es) (gNames (i :: is)) := ⟨fun pins s σ H vs us Q I r h => by
  obtain ⟨e, q⟩ := h
  cases vs with
  | nil => cases e
  | cons v vs =>
    refine (pgs_cons (pg_name (pos := pos) hN hi hx hf) h2 hs).run pins s σ H (v :: vs) us Q I r ⟨v, vs, rfl, ?_⟩
    exact ⟨Nat.succ.inj e, q⟩⟩
theorem SRep.setAll {K : PySem.W.Frag} {A : List GAdr} {S H : Hp} : ∀ {is : List Nat} {vs : List V} {ds : List D} {σ : L2.St} {σd : DS}, SRep K A S H σ σd → RepL K A S vs ds →
    SRep K A S H ((is.zip vs).foldl (fun s p => s.set p.1 (some p.2)) σ) ((is.zip ds).foldl (fun s p => s.set p.1 (some (.sh p.2))) σd)
  | [], _, _, _, _, h, _ => h
  | _ :: _, _, _, _, _, h, .nil => h
  | i :: is, _, _, _, _, h, .cons r rr => SRep.setAll (is := is) (h.setSh r i) rr
theorem wipe_all {vs : List Nat} : ∀ {is : List Nat} {xs : List V} {σ : L2.St}, (∀ i ∈ is, i ∈ vs) → L2.wipe ((is.zip xs).foldl (fun s p => s.set p.1 (some p.2)) σ) vs = L2.wipe σ vs
  | [], _, _, _ => rfl
  | _ :: _, [], _, _ => rfl
  | i :: is, x :: xs, σ, h => by
    show L2.wipe ((is.zip xs).foldl _ (σ.set i (some x))) vs = _
    rw [wipe_all fun j hj => h j (List.mem_cons_of_mem _ hj), wipe_set (h i List.mem_cons_self)]
theorem dg_tup {is vs : List Nat} {es : List Expr} {j : Nat} (h : PGs X es (gNames is)) (hc : X.calm = true := by rfl) (hv : ∀ i ∈ is, i ∈ vs := by decide)
    (hn : (assignEach es X.env).length = is.length := by rfl) (hst : (assignEach es X.env).findIdx? (·.1) = none := by rfl) : DG X E vs (.Tuple es j pos) (gNs is) :=
  (pg_tup hc h hn hst).impD fun v σ H Q ⟨A, S, g, σd, d, o, r, rv, q⟩ => by
    cases rv with
    | @tup a xs ds ht hr =>
      have q' : KG (Cx.sur X E) vs A S H σ ((if ds.length = is.length then M.pure ((is.zip ds).foldl (fun s p => s.set p.1 (some (.sh p.2))) σd) else M.bad) g) Q := q
      by_cases hl : ds.length = is.length
      · rw [if_pos hl] at q'
        exact ⟨a, xs, rfl, tq o.ext ht, by rw [hr.length, hl], by rw [hr.length, hl], q' A S H _ (Post.refl _ _ _) o (r.setAll hr) (wipe_all hv)⟩
      · rw [if_neg hl] at q'; exact q'.elim
    | _ => exact q.elim

def DTs (X : Cx) (E : XK) (ifs : List Expr) (f : DS → M Bool) : Prop := PTs X ifs (tT (Cx.sur X E) f)
theorem _root_.L2.PTs.impD {X : Cx} {e : List Expr} {t t' : TT} (h : PTs X e t) (i : ∀ σ H Q, t' σ H Q → t σ H Q) : PTs X e t' := ⟨fun pins s σ H Q I q => h.run pins s σ H Q I (i σ H Q q)⟩
def tYesD : DS → M Bool := fun _ => M.pure true
theorem dts_nil : DTs X E [] tYesD := PTs.impD pts_nil fun σ H Q ⟨A, S, g, σd, o, r, q⟩ => KT.now q o
theorem dts_one {c : Expr} {t : DS → M Bool} (h : DT X E c t) : DTs X E [c] t := pts_one h
def M.noerr {α : Type} (x : M α) : M α := fun g => match x g with
  | .ok a g' => .ok a g'
  | _ => .bad
def compM (fg : D → DS → M DS) (ft : DS → M Bool) (fe : DS → M D) (σ : DS) : List D → M (List D)
  | [] => M.pure []
  | d :: ds => M.bind (fg d σ) fun σ1 => M.bind (M.noerr (ft σ1)) fun b => if b = true then M.bind (M.noerr (fe σ1)) fun y => M.bind (compM fg ft fe σ ds) fun r => M.pure (y :: r) else compM fg ft fe σ ds
def eComp (fi : DS → M (List D)) (vs : List Nat) (fg : D → DS → M DS) (ft : DS → M Bool) (fe : DS → M D) : DS → M D := fun σ => M.bind (fi σ) fun ds => if fit ds.length = true then M.bind (compM fg ft fe (wipeD σ vs) ds) fun r => M.pure (.lst r) else M.bad
end

section
variable {U : Sur} {vs : List Nat} {fg : D → DS → M DS} {ft : DS → M Bool} {fe : DS → M D}
def Loose (A : List GAdr) (S H : Hp) (p : Addr) (vs : List V) : Prop := S p = none ∧ p ∉ gfp A ∧ H p = some (.lst vs)
theorem Loose.post {A A1 : List GAdr} {S S1 H H1 : Hp} {p : Addr} {vs : List V} (h : Loose A S H p vs) (q : Post A S H A1 S1 H1) : Loose A1 S1 H1 p vs := by
  obtain ⟨h1, h2, h3⟩ := h
  refine ⟨?_, fun z => ?_, q.keep p _ h3 h2⟩
  · cases e : S1 p with
    | none => rfl
    | some u =>
      rcases q.snew p u e with z | z | ⟨_, xs, z⟩
      · rw [h1] at z; cases z
      · rw [h3] at z; cases z
      · rw [h3] at z; cases z
  · rcases q.anew p z with z | z
    · exact h2 z
    · rw [h3] at z; cases z
end
section
variable {X : Cx} {E : XK} {pos : Pos}
theorem bind_ok {α β : Type} {x : M α} {k : α → M β} {g g' : G} {a : α} (h : x g = .ok a g') : M.bind x k g = k a g' := by unfold M.bind; rw [h]
theorem bind_err {α β : Type} {x : M α} {k : α → M β} {g g' : G} {e : Exn} (h : x g = .err e g') : M.bind x k g = .err e g' := by unfold M.bind; rw [h]
theorem bind_bad {α β : Type} {x : M α} {k : α → M β} {g : G} (h : x g = .bad) : M.bind x k g = .bad := by unfold M.bind; rw [h]
theorem noerr_ok {α : Type} {x : M α} {g g' : G} {a : α} (h : x g = .ok a g') : M.noerr x g = .ok a g' := by unfold M.noerr; rw [h]
theorem noerr_err {α : Type} {x : M α} {g g' : G} {e : Exn} (h : x g = .err e g') : M.noerr x g = .bad := by unfold M.noerr; rw [h]
theorem noerr_bad {α : Type} {x : M α} {g : G} (h : x g = .bad) : M.noerr x g = .bad := by unfold M.noerr; rw [h]
def CQ (U : Sur) (m : Bool) (A1 : List GAdr) (S1 H1 : Hp) (Q : VK) (es : List D) (r : Res (List D)) : Prop :=
  match r with
  | .ok rs g => KE U m A1 S1 H1 (.ok (.lst (es ++ rs)) g) Q
  | .err x g => KE U m A1 S1 H1 (.err x g) Q
  | .bad => False
theorem Post.writeNew {A A1 : List GAdr} {S S1 H H1 : Hp} {p : Addr} {o : HO} (q : Post A S H A1 S1 H1) (hp : H p = none) : Post A S H A1 S1 (upd H1 p o) where
  a := q.a
  s := q.s
  snew := q.snew
  keep := fun x u h n => by rw [upd_ne (ne_of_none h hp)]; exact q.keep x u h n
  dom := fun x u h => by rw [upd_ne (ne_of_none h hp)]; exact q.dom x u h
  anew := q.anew
theorem wipe_wipe {σ : L2.St} : ∀ {vs : List Nat}, L2.wipe (L2.wipe σ vs) vs = L2.wipe σ vs := by
  have gen : ∀ (us vs : List Nat) (σ : L2.St), (∀ u ∈ us, u ∈ vs) → L2.wipe (L2.wipe σ vs) us = L2.wipe σ vs := by
    intro us
    induction us with
    | nil => intros; rfl
    | cons u us ih =>
      intro vs σ h
      show (L2.wipe (L2.wipe σ vs) us).set u none = _
      rw [ih vs σ fun x hx => h x (List.mem_cons_of_mem _ hx)]
      have hu := h u List.mem_cons_self
      clear ih h
      induction vs with
      | nil => cases hu
      | cons v vs ih2 =>
        show ((L2.wipe σ vs).set v none).set u none = (L2.wipe σ vs).set v none
        by_cases e : u = v
        · subst e; rw [List.set_set]
        · rw [List.set_comm _ _ (Ne.symm e), ih2]
          rcases List.mem_cons.mp hu with z | z
          · exact absurd z e
          · exact z
  intro vs
  exact gen vs vs σ fun _ h => h
theorem SRep.loose {K : PySem.W.Frag} {A : List GAdr} {S H : Hp} {σ : L2.St} {σd : DS} {p : Addr} {o : HO} (h : SRep K A S H σ σd) (hp : S p = none)
    (no : ∀ (j : Nat) (d : D), σd[j]? = some (some (.ow d)) → σ[j]? = some (some (.ref p)) → False) : SRep K A S (upd H p o) σ σd :=
  ⟨h.len, fun i x e => by
    obtain ⟨v, e1, e2⟩ := h.at_ i x e
    refine ⟨v, e1, ?_⟩
    cases v with
    | none => cases x <;> exact e2.elim
    | some v =>
      cases x with
      | sh d => exact e2
      | ow d =>
        cases v with
        | ref q =>
          obtain ⟨q1, q2, q3⟩ := e2
          have nq : q ≠ p := fun z => by subst z; exact no i d e e1
          exact ⟨q1, q2, q3.mono (List.prefix_refl _) (Same.refl _) (upd_ne nq)⟩
        | _ => exact e2.elim, h.sep⟩
theorem wipeD_some {σd : DS} {i : Nat} {x : DV} : ∀ {vs : List Nat}, (wipeD σd vs)[i]? = some (some x) → σd[i]? = some (some x)
  | [], h => h
  | v :: vs, h => by
    rcases set_get (l := wipeD σd vs) h with ⟨rfl, z, _⟩ | ⟨_, h⟩
    · cases z
    · exact wipeD_some h
theorem nown {K : PySem.W.Frag} {A A1 A2 : List GAdr} {S S1 S2 H H1 H2 : Hp} {σ : L2.St} {σd : DS} {vs : List Nat} {p : Addr} (P : Post A1 S1 H1 A2 S2 H2) (r : SRep K A S H σ σd) (hp : H1 p = none) (p1 : Post A S H A1 S1 H1) {j : Nat} {d : D}
    (es : (L2.wipe σ vs)[j]? = some (some (.ref p))) (e : (wipeD σd vs)[j]? = some (some (.ow d))) : False := by
  obtain ⟨q, e1, q1, q2, q3⟩ := r.ow (wipeD_some e)
  have e2 := (L2.wipe_some es).1
  rw [e1] at e2
  cases e2
  obtain ⟨o, ho⟩ := q3.some
  obtain ⟨o', ho'⟩ := p1.dom _ _ ho
  rw [hp] at ho'; cases ho'
theorem KE.atLoose {U : Sur} {m : Bool} {A A1 : List GAdr} {S S1 H H1 : Hp} {p : Addr} {vs : List V} {ds : List D} {g : G} {Q : VK} (h : KE U m A S H (.ok (.lst ds) g) Q) (P : Post A S H A1 S1 H1) (o : Ok U.K A1 S1 H1 g) (hp : H p = none)
    (l1 : S1 p = none) (l2 : p ∉ gfp A1) (l3 : H1 p = some (.lst vs)) (r : RepL U.K A1 S1 vs ds) : Q (.ref p) H1 := by
  cases m with
  | true => exact h A1 S1 H1 _ P o ⟨p, rfl, hp, l1, l2, vs, l3, r⟩
  | false =>
    have sm : Same S1 (upd S1 p (.lst vs)) := fun b x e => by rw [upd_ne (ne_of_none e l1)]; exact e
    refine h A1 (upd S1 p (.lst vs)) H1 _ ⟨P.a, P.s.trans sm, fun x u e => ?_, P.keep, P.dom, P.anew⟩ (o.freeze l1 l3 l2) (.lst upd_same (r.mono (List.prefix_refl _) sm))
    by_cases e' : x = p
    · subst e'; exact .inr (.inl hp)
    · rw [upd_ne e'] at e; exact P.snew x u e
theorem comp_read {m : Bool} {fi : DS → M (List D)} {vs : List Nat} {fg : D → DS → M DS} {ft : DS → M Bool} {fe : DS → M D} (hx : ∀ d σ g e g', fg d σ g ≠ .err e g') {U : Sur} {E' : XK} {σ : L2.St} {H : Hp} {Q : VK}
    (h : tE U m (eComp fi vs fg ft fe) σ H Q) : tLc (tI U fi) (tG ⟨U.mg, U.K, E'⟩ vs fg) (tT ⟨U.mg, U.K, E'⟩ ft) (tE ⟨U.mg, U.K, E'⟩ false fe) vs σ H Q := by
  obtain ⟨A, S, g, σd, o, r, q⟩ := h
  refine ⟨A, S, g, σd, o, r, ?_⟩
  have q0 : KI U A S H (fi σd g) fun J H1 => ∃ A1 S1 g1 ds, Post A S H A1 S1 H1 ∧ Ok U.K A1 S1 H1 g1 ∧ DIt U.K A1 S1 J ds ∧ KE U m A1 S1 H1 ((if fit ds.length = true then M.bind (compM fg ft fe (wipeD σd vs) ds) fun r => M.pure (.lst r) else M.bad) g1) Q := by
    unfold eComp M.bind at q
    cases e : fi σd g with
    | ok d g1 => rw [e] at q; exact fun A' S' H' v p o r => ⟨A', S', g1, d, p, o, r, KE.shift p q⟩
    | err e1 g1 => rw [e] at q; exact q
    | bad => rw [e] at q; exact q
  refine q0.imp fun J H1 ⟨A1, S1, g1, ds, p1, o1, it, q1⟩ => ?_
  intro p hp
  by_cases hf : fit ds.length = true
  · rw [if_pos hf] at q1
    have sp : S1 p = none := Same.free o1.ext hp
    have pg : p ∉ gfp A1 := fun z => by obtain ⟨u, hu⟩ := o1.there p z; rw [hp] at hu; cases hu
    have P0 : Post A1 S1 H1 A1 S1 (upd H1 p (.lst [])) := Post.layO hp
    refine ⟨fun i mm H2 => mm = ds.length - i ∧ i ≤ ds.length ∧ ∃ A2 S2 g2 vs2 es2, Post A1 S1 H1 A2 S2 H2 ∧ Ok U.K A2 S2 H2 g2 ∧ SRep U.K A2 S2 H2 (L2.wipe σ vs) (wipeD σd vs) ∧ Loose A2 S2 H2 p vs2 ∧ RepL U.K A2 S2 vs2 es2 ∧ vs2.length ≤ i ∧
        CQ U m A1 S1 H1 Q es2 (compM fg ft fe (wipeD σd vs) (ds.drop i) g2), ⟨_, rfl, Nat.zero_le _, A1, S1, g1, [], [], P0, o1.layO hp, ((r.post p1).wipe vs).post P0, ⟨sp, pg, upd_same⟩, .nil, Nat.zero_le _, ?_⟩, ?_⟩
    · rw [List.drop_zero]
      unfold M.bind at q1
      unfold CQ
      cases e : compM fg ft fe (wipeD σd vs) ds g1 with
      | ok rs g3 => rw [e] at q1; exact q1
      | err x g3 => rw [e] at q1; exact q1
      | bad => rw [e] at q1; exact q1
    · rintro i mm H2 ⟨rfl, hi, A2, S2, g2, vs2, es2, P2, o2, r2, lo, rl, hlen, cq⟩
      by_cases hlt : i < ds.length
      · refine .inr ⟨it.go i H2 hlt (P2.s.trans o2.ext), fun H3 => i + 1 ≤ ds.length ∧ ∃ A3 S3 g3 vs3 es3, Post A1 S1 H1 A3 S3 H3 ∧ Ok U.K A3 S3 H3 g3 ∧ SRep U.K A3 S3 H3 (L2.wipe σ vs) (wipeD σd vs) ∧ Loose A3 S3 H3 p vs3 ∧ RepL U.K A3 S3 vs3 es3 ∧ vs3.length ≤ i + 1 ∧
          CQ U m A1 S1 H1 Q es3 (compM fg ft fe (wipeD σd vs) (ds.drop (i + 1)) g3), fun H3 h3 => ⟨ds.length - (i + 1), by omega, rfl, h3⟩, fun x H3 y => ?_⟩
        obtain ⟨d, ed, yy⟩ := it.yld i H2 x H3 hlt (P2.s.trans o2.ext) y
        have edrop : ds.drop i = d :: ds.drop (i + 1) := by
          obtain ⟨hl2, e2⟩ := List.getElem?_eq_some_iff.mp ed
          rw [List.drop_eq_getElem_cons hl2, e2]
        rw [edrop] at cq
        -- the item is there
        obtain ⟨S3, PX, oX, rX⟩ : ∃ S3, Post A2 S2 H2 A2 S3 H3 ∧ Ok U.K A2 S3 H3 g2 ∧ Rep U.K A2 S3 x d := yld_rep o2 P2.a P2.s yy
        refine ⟨A2, S3, g2, wipeD σd vs, d, oX, r2.post PX, rX, ?_⟩
        have cq1 : CQ U m A1 S1 H1 Q es2 (M.bind (fg d (wipeD σd vs)) (fun σ1 => M.bind (M.noerr (ft σ1)) fun b => if b = true then M.bind (M.noerr (fe σ1)) fun y => M.bind (compM fg ft fe (wipeD σd vs) (ds.drop (i + 1))) fun r => M.pure (y :: r) else compM fg ft fe (wipeD σd vs) (ds.drop (i + 1))) g2) := cq
        unfold M.bind at cq1
        cases e1 : fg d (wipeD σd vs) g2 with
        | err z g' => exact (hx _ _ _ _ _ e1).elim
        | bad => rw [e1] at cq1; exact cq1.elim
        | ok σ1 g3 =>
          rw [e1] at cq1
          intro A4 S4 H4 σ4 P4 o4 r4 w4
          refine ⟨by rw [w4, wipe_wipe], A4, S4, g3, σ1, o4, r4, ?_⟩
          have cq2 : CQ U m A1 S1 H1 Q es2 (M.bind (M.noerr (ft σ1)) (fun b => if b = true then M.bind (M.noerr (fe σ1)) fun y => M.bind (compM fg ft fe (wipeD σd vs) (ds.drop (i + 1))) fun r => M.pure (y :: r) else compM fg ft fe (wipeD σd vs) (ds.drop (i + 1))) g3) := cq1
          cases e2 : ft σ1 g3 with
          | err z g' => rw [bind_bad (noerr_err e2)] at cq2; exact cq2.elim
          | bad => rw [bind_bad (noerr_bad e2)] at cq2; exact cq2.elim
          | ok b g4 =>
            rw [bind_ok (noerr_ok e2)] at cq2
            intro A5 S5 H5 P5 o5
            have PA : Post A2 S2 H2 A5 S5 H5 := PX.trans (P4.trans P5)
            cases b with
            | false =>
              rw [if_neg (by decide)] at cq2 ⊢
              exact ⟨hlt, A5, S5, g4, vs2, es2, P2.trans PA, o5, r2.post PA, lo.post PA, rl.mono PA.a PA.s, by omega, cq2⟩
            | true =>
              rw [if_pos rfl] at cq2 ⊢
              refine ⟨A5, S5, g4, σ1, o5, r4.post P5, ?_⟩
              cases e3 : fe σ1 g4 with
              | err z g' => rw [bind_bad (noerr_err e3)] at cq2; exact cq2.elim
              | bad => rw [bind_bad (noerr_bad e3)] at cq2; exact cq2.elim
              | ok yd g5 =>
                rw [bind_ok (noerr_ok e3)] at cq2
                intro A6 S6 H6 v P6 o6 r6
                have PB : Post A2 S2 H2 A6 S6 H6 := PA.trans P6
                obtain ⟨l1, l2, l3⟩ := lo.post PB
                refine ⟨vs2, l3, Nat.lt_of_le_of_lt hlen (Nat.lt_trans hlt (fit_le hf)), hlt, A6, S6, g5, vs2 ++ [v], es2 ++ [yd], (P2.trans PB).writeNew hp, o6.writeO l1 l2, ?_, ⟨l1, l2, upd_same⟩, (rl.mono PB.a PB.s).append (.cons r6 .nil), by simp; omega, ?_⟩
                · exact (r2.post PB).loose l1 fun j dd q0 es' => nown P2 r hp p1 es' q0
                · cases e4 : compM fg ft fe (wipeD σd vs) (ds.drop (i + 1)) g5 with
                  | ok rs g6 =>
                    rw [bind_ok e4] at cq2
                    have cq3 : KE U m A1 S1 H1 (.ok (.lst (es2 ++ yd :: rs)) g6) Q := cq2
                    show KE U m A1 S1 H1 (.ok (.lst (es2 ++ [yd] ++ rs)) g6) Q
                    rw [List.append_assoc]
                    exact cq3
                  | err z g6 => rw [bind_err e4] at cq2; exact cq2
                  | bad => rw [bind_bad e4] at cq2; exact cq2
      · have ei : i = ds.length := by omega
        subst ei
        refine .inl ⟨it.stop _ H2 (Nat.le_refl _) (P2.s.trans o2.ext), ?_⟩
        rw [List.drop_length] at cq
        have cq1 : KE U m A1 S1 H1 (.ok (.lst (es2 ++ [])) g2) Q := cq
        rw [List.append_nil] at cq1
        obtain ⟨l1, l2, l3⟩ := lo
        exact cq1.atLoose P2 o2 hp l1 l2 l3 rl
  · rw [if_neg hf] at q1; exact q1.elim
end
end NS
namespace NS
open PySem PySem.Spec PyProof.Rows L2
section
variable {X : Cx} {E : XK} {pos : Pos}
abbrev Blk (X : Cx) (scope : Scope) : Shared → Hp → Addr → List (Str × Addr) → List Addr → Cx := fun s H C cl fp => X.blk s H scope (compEnvC scope cl C X.env) fp
abbrev E0 : XK := fun _ _ _ => False
theorem de_comp {m : Bool} {elt tg iter : Expr} {ifs : List Expr} {scope : Scope} {own : List (Str × Nat)} {fi : DS → M (List D)} {fg : D → DS → M DS} {ft : DS → M Bool} {fe : DS → M D} (hN : X.N.Nodup) (hi : DI X E tg iter fi) (ok : BlkOk X.N X.env.scope scope own)
    (hx : ∀ d σ g e g', fg d σ g ≠ .err e g')
    (hg : ∀ s H C cl fp, DG (Blk X scope s H C cl fp) E0 (own.map (·.2)) tg fg) (ht : ∀ s H C cl fp, DTs (Blk X scope s H C cl fp) E0 ifs ft)
    (he : ∀ s H C cl fp, DE (Blk X scope s H C cl fp) E0 false elt fe) (hc : X.calm = true := by rfl) (hs : ∀ x, foldedSetIterable iter X.env x = pure x := by intro _; rfl) :
    DE X E m (.ListComp elt [⟨tg, iter, ifs, 0⟩] scope pos) (eComp fi (own.map (·.2)) fg ft fe) :=
  PE.impD (pe_lc (own := own) (g := tG ⟨X.mg, X.K, E0⟩ (own.map fun (p : Str × Nat) => p.2) fg) (tt := tT ⟨X.mg, X.K, E0⟩ ft) (te := tE ⟨X.mg, X.K, E0⟩ false fe) hc hN hi ok hg ht he hs) fun σ H Q h => comp_read hx h
theorem gN_noerr (i : Nat) : ∀ d σ g e g', gN i d σ g ≠ .err e g' := fun _ _ _ _ _ h => by cases h
theorem gNs_noerr (is : List Nat) : ∀ d σ g e g', gNs is d σ g ≠ .err e g' := fun d σ g e g' h => by
  cases d <;> first
    | cases h
    | (have h' : ((if _ then M.pure _ else M.bad : M DS) g) = .err e g' := h
       split at h' <;> cases h')

structure En where
  A : List GAdr
  S : Hp
  H : Hp
structure Stt (K : PySem.W.Frag) (e0 : En) (A : List GAdr) (S : Hp) (g : G) (σd : DS) (σ : L2.St) (H : Hp) : Prop where
  ok : Ok K A S H g
  rep : SRep K A S H σ σd
  post : Post e0.A e0.S e0.H A S H
  own : ∀ (i : Nat) (d : D) (p : Addr), σd[i]? = some (some (.ow d)) → σ[i]? = some (some (.ref p)) → e0.H p = none
inductive Fl where
  | nx (σ : DS) | rt (d : D) | bk (σ : DS) | ct (σ : DS)
def KS (U : Sur) (m : Bool) (e0 : En) (A : List GAdr) (S : Hp) (r : Res Fl) (Z : Ends) : Prop :=
  match r with
  | .ok (.nx σd') g' => ∀ A' S' H' σ', A <+: A' → Same S S' → Stt U.K e0 A' S' g' σd' σ' H' → Z.nx σ' H'
  | .ok (.rt d) g' => ∀ A' S' H' v, Ok U.K A' S' H' g' → Post e0.A e0.S e0.H A' S' H' → RepM U.K e0.H A' S' H' v d m → Z.rt v H'
  | .ok (.bk σd') g' => ∀ A' S' H' σ', A <+: A' → Same S S' → Stt U.K e0 A' S' g' σd' σ' H' → Z.bk σ' H'
  | .ok (.ct σd') g' => ∀ A' S' H' σ', A <+: A' → Same S S' → Stt U.K e0 A' S' g' σd' σ' H' → Z.ct σ' H'
  | .err x g' => ∀ A' S' H' c dd, Post e0.A e0.S e0.H A' S' H' → Ok U.K A' S' H' g' → XRep U.mg U.K A' S' H' x c dd → U.E c dd H'
  | .bad => False
def tS (U : Sur) (m : Bool) (e0 : En) (f : DS → M Fl) : TS := fun Z σ H => ∃ A S g σd, Stt U.K e0 A S g σd σ H ∧ KS U m e0 A S (f σd g) Z
theorem KS.floor {U : Sur} {m : Bool} {e0 : En} {A A1 : List GAdr} {S S1 : Hp} {r : Res Fl} {Z : Ends} (a : A <+: A1) (b : Same S S1) (h : KS U m e0 A S r Z) : KS U m e0 A1 S1 r Z := by
  cases r with
  | ok fl g =>
    cases fl with
    | nx σ => exact fun A' S' H' σ' p q s => h A' S' H' σ' (a.trans p) (b.trans q) s
    | bk σ => exact fun A' S' H' σ' p q s => h A' S' H' σ' (a.trans p) (b.trans q) s
    | ct σ => exact fun A' S' H' σ' p q s => h A' S' H' σ' (a.trans p) (b.trans q) s
    | rt d => exact h
  | err x g => exact h
  | bad => exact h
def DS1 (X : Cx) (E : XK) (m : Bool) (e0 : En) (st : Stmt) (f : DS → M Fl) : Prop := PS X st (tS (Cx.sur X E) m e0 f)
def DSs (X : Cx) (E : XK) (m : Bool) (e0 : En) (st : List Stmt) (f : DS → M Fl) : Prop := PSs X st (tS (Cx.sur X E) m e0 f)
variable {m : Bool} {e0 : En}
theorem Stt.post' {K : PySem.W.Frag} {A A1 : List GAdr} {S S1 H H1 : Hp} {g g1 : G} {σd : DS} {σ : L2.St} (h : Stt K e0 A S g σd σ H) (p : Post A S H A1 S1 H1) (o : Ok K A1 S1 H1 g1) : Stt K e0 A1 S1 g1 σd σ H1 :=
  ⟨o, h.rep.post p, h.post.trans p, h.own⟩
theorem KS.bindE {U : Sur} {m1 : Bool} {A : List GAdr} {S H : Hp} {x : M D} {k : D → M Fl} {g : G} {Z : Ends} (p : Post e0.A e0.S e0.H A S H) (h : KS U m e0 A S (M.bind x k g) Z) :
    KE U m1 A S H (x g) fun v H1 => ∃ A1 S1 g1 d, Post A S H A1 S1 H1 ∧ Ok U.K A1 S1 H1 g1 ∧ RepM U.K H A1 S1 H1 v d m1 ∧ KS U m e0 A1 S1 (k d g1) Z := by
  cases e : x g with
  | ok d g1 => rw [bind_ok e] at h; exact fun A' S' H' v q o r => ⟨A', S', g1, d, q, o, r, h.floor q.a q.s⟩
  | err e1 g1 => rw [bind_err e] at h; exact fun A' S' H' c dd q o r => h A' S' H' c dd (p.trans q) o r
  | bad => rw [bind_bad e] at h; exact h
theorem KS.bindL {U : Sur} {A : List GAdr} {S H : Hp} {x : M (List D)} {k : List D → M Fl} {g : G} {Z : Ends} (p : Post e0.A e0.S e0.H A S H) (h : KS U m e0 A S (M.bind x k g) Z) :
    KL U A S H (x g) fun v H1 => ∃ A1 S1 g1 d, Post A S H A1 S1 H1 ∧ Ok U.K A1 S1 H1 g1 ∧ RepL U.K A1 S1 v d ∧ KS U m e0 A1 S1 (k d g1) Z := by
  cases e : x g with
  | ok d g1 => rw [bind_ok e] at h; exact fun A' S' H' v q o r => ⟨A', S', g1, d, q, o, r, h.floor q.a q.s⟩
  | err e1 g1 => rw [bind_err e] at h; exact fun A' S' H' c dd q o r => h A' S' H' c dd (p.trans q) o r
  | bad => rw [bind_bad e] at h; exact h
theorem KS.bindT {U : Sur} {A : List GAdr} {S H : Hp} {x : M Bool} {k : Bool → M Fl} {g : G} {Z : Ends} (p : Post e0.A e0.S e0.H A S H) (h : KS U m e0 A S (M.bind x k g) Z) :
    KT U A S H (x g) fun v H1 => ∃ A1 S1 g1, Post A S H A1 S1 H1 ∧ Ok U.K A1 S1 H1 g1 ∧ KS U m e0 A1 S1 (k v g1) Z := by
  cases e : x g with
  | ok d g1 => rw [bind_ok e] at h; exact fun A' S' H' q o => ⟨A', S', g1, q, o, h.floor q.a q.s⟩
  | err e1 g1 => rw [bind_err e] at h; exact fun A' S' H' c dd q o r => h A' S' H' c dd (p.trans q) o r
  | bad => rw [bind_bad e] at h; exact h
theorem KS.bindI {U : Sur} {A : List GAdr} {S H : Hp} {x : M (List D)} {k : List D → M Fl} {g : G} {Z : Ends} (p : Post e0.A e0.S e0.H A S H) (h : KS U m e0 A S (M.bind x k g) Z) :
    KI U A S H (x g) fun J H1 => ∃ A1 S1 g1 ds, Post A S H A1 S1 H1 ∧ Ok U.K A1 S1 H1 g1 ∧ DIt U.K A1 S1 J ds ∧ KS U m e0 A1 S1 (k ds g1) Z := by
  cases e : x g with
  | ok d g1 => rw [bind_ok e] at h; exact fun A' S' H' v q o r => ⟨A', S', g1, d, q, o, r, h.floor q.a q.s⟩
  | err e1 g1 => rw [bind_err e] at h; exact fun A' S' H' c dd q o r => h A' S' H' c dd (p.trans q) o r
  | bad => rw [bind_bad e] at h; exact h

def sNil : DS → M Fl := fun σ => M.pure (.nx σ)
def sSeq (f h : DS → M Fl) : DS → M Fl := fun σ => M.bind (f σ) fun x => match x with
  | .nx σ' => h σ'
  | y => M.pure y
variable {st : Stmt} {rest : List Stmt} {f h : DS → M Fl} {e : Expr} {fe : DS → M D}
theorem ds_nil : DSs X E m e0 [] sNil := PSs.impD pss_nil fun Z σ H ⟨A, S, g, σd, s, q⟩ => q A S H σ (List.prefix_refl _) (Same.refl _) s
theorem ds_one (h1 : DS1 X E m e0 st f) : DSs X E m e0 [st] f := pss_one h1
theorem ds_cons (h1 : DS1 X E m e0 st f) (h2 : DSs X E m e0 rest h) : DSs X E m e0 (st :: rest) (sSeq f h) :=
  (pss_cons h1 h2).impD fun Z σ H ⟨A, S, g, σd, s, q⟩ => by
    refine ⟨A, S, g, σd, s, ?_⟩
    have q' : KS (Cx.sur X E) m e0 A S (M.bind (f σd) (fun x => match x with | .nx σ' => h σ' | y => M.pure y) g) Z := q
    cases e : f σd g with
    | ok fl g1 =>
      rw [bind_ok e] at q'
      cases fl with
      | nx σ1 => exact fun A' S' H' σ' a b s' => ⟨A', S', g1, σ1, s', q'.floor a b⟩
      | rt d => exact q'
      | bk d => exact q'
      | ct d => exact q'
    | err x g1 => rw [bind_err e] at q'; exact q'
    | bad => rw [bind_bad e] at q'; exact q'
def sNever : DS → M Fl := fun _ => M.bad
def sBrk : DS → M Fl := fun σ => M.pure (.bk σ)
def sCnt : DS → M Fl := fun σ => M.pure (.ct σ)
def sRet (fe : DS → M D) : DS → M Fl := fun σ => M.bind (fe σ) fun d => M.pure (.rt d)
theorem ds_ret (he : DE X E m e fe) : DS1 X E m e0 (.Return (some e) pos) (sRet fe) :=
  PS.impD (ps_ret he) fun Z σ H ⟨A, S, g, σd, s, q⟩ => ⟨A, S, g, σd, s.ok, s.rep, (KS.bindE (m1 := m) s.post q).imp fun v H1 ⟨A1, S1, g1, d, p1, o1, r1, q1⟩ => by
    exact q1 A1 S1 H1 v o1 (s.post.trans p1) (RepM.back s.post r1)⟩
def sRetO (i : Nat) : DS → M Fl := fun σ => match σ[i]? with
  | some (some (.ow d)) => M.pure (.rt d)
  | _ => M.bad
theorem ds_retO (i : Nat) {x : Str} {p : Pos} (hN : X.N[i]? = some x := by rfl) (hv : Vis X.env.scope x := by first | exact Or.inl rfl | exact Or.inr (Or.inl rfl) | exact Or.inr (Or.inr rfl)) (hd : (x == ("__debug__" : Str)) = false := by decide)
    (hcd : (x == ("__classdict__" : Str)) = false := by decide) : DS1 X E true e0 (.Return (some (.Name x p)) pos) (sRetO i) :=
  PS.impD (ps_ret (pe_var hN hv hd hcd)) fun Z σ H ⟨A, S, g, σd, s, q⟩ => by
    unfold sRetO at q
    match e : σd[i]? with
    | some (some (.ow d)) =>
      rw [e] at q
      obtain ⟨p, e1, e2, e3, e4⟩ := s.rep.ow e
      exact ⟨.ref p, e1, q A S H (.ref p) s.ok s.post ⟨p, rfl, s.own i d p e e1, e2, e3, e4⟩⟩
    | some (some (.sh d)) => rw [e] at q; exact q.elim
    | some none => rw [e] at q; exact q.elim
    | none => rw [e] at q; exact q.elim
def sExpr (fe : DS → M D) : DS → M Fl := fun σ => M.bind (fe σ) fun _ => M.pure (.nx σ)
def sIf (t : DS → M Bool) (f h : DS → M Fl) : DS → M Fl := fun σ => M.bind (t σ) fun b => if b = true then f σ else h σ
theorem ds_if {c : Expr} {a b : List Stmt} {tc : DS → M Bool} (hc : DT X E c tc) (ha : DSs X E m e0 a f) (hb : DSs X E m e0 b h) : DS1 X E m e0 (.If c a b pos) (sIf tc f h) :=
  PS.impD (ps_if hc ha hb) fun Z σ H ⟨A, S, g, σd, s, q⟩ => ⟨A, S, g, σd, s.ok, s.rep, (KS.bindT s.post q).imp fun t H1 ⟨A1, S1, g1, p1, o1, q1⟩ => by
    show if t = true then _ else _
    cases t with
    | true => rw [if_pos rfl] at q1 ⊢; exact ⟨A1, S1, g1, σd, s.post' p1 o1, q1⟩
    | false => rw [if_neg (by decide)] at q1 ⊢; exact ⟨A1, S1, g1, σd, s.post' p1 o1, q1⟩⟩

theorem Stt.setSh {K : PySem.W.Frag} {A : List GAdr} {S H : Hp} {g : G} {σd : DS} {σ : L2.St} (s : Stt K e0 A S g σd σ H) {v : V} {d : D} (r : Rep K A S v d) (i : Nat) : Stt K e0 A S g (σd.set i (some (.sh d))) (σ.set i (some v)) H :=
  ⟨s.ok, s.rep.setSh r i, s.post, fun j d' p e1 e2 => by
    rcases set_get e1 with ⟨rfl, z, _⟩ | ⟨ne, e1⟩
    · cases z
    · rw [List.getElem?_set_ne ne] at e2; exact s.own j d' p e1 e2⟩
theorem Stt.setM {K : PySem.W.Frag} {A A1 : List GAdr} {S S1 H H1 : Hp} {g g1 : G} {σd : DS} {σ : L2.St} {m1 : Bool} (s : Stt K e0 A S g σd σ H) (p : Post A S H A1 S1 H1) (o : Ok K A1 S1 H1 g1) {v : V} {d : D} (r : RepM K H A1 S1 H1 v d m1) (i : Nat) : Stt K e0 A1 S1 g1 (σd.set i (some (mkV m1 d))) (σ.set i (some v)) H1 := by
  cases m1 with
  | false => exact (s.post' p o).setSh r i
  | true =>
    obtain ⟨q, rfl, h1, h2, h3, h4⟩ := r
    have s1 := s.post' p o
    refine ⟨o, s1.rep.setOw h2 h3 h4 i fun j e ne ej es => ?_, s1.post, fun j d' p' e1 e2 => ?_⟩
    · obtain ⟨p', e1, _, _, e4⟩ := s.rep.ow ej
      rw [es] at e1; cases e1
      obtain ⟨u, hu⟩ := e4.some
      rw [h1] at hu; cases hu
    · rcases set_get e1 with ⟨rfl, z, hl⟩ | ⟨ne, e1⟩
      · rw [List.getElem?_set_self (by rw [s.rep.len]; exact hl)] at e2
        cases e2
        exact none_back s.post.dom h1
      · rw [List.getElem?_set_ne ne] at e2; exact s.own j d' p' e1 e2
def sSet (m1 : Bool) (i : Nat) (fe : DS → M D) : DS → M Fl := fun σ => M.bind (fe σ) fun d => M.pure (.nx (σ.set i (some (mkV m1 d))))
theorem set_read {U : Sur} {m1 : Bool} {i : Nat} {Z : Ends} {σ : L2.St} {H : Hp} (h : tS U m e0 (sSet m1 i fe) Z σ H) : tAsg (tE U m1 fe) (gName i) Z σ H := by
  obtain ⟨A, S, g, σd, s, q⟩ := h
  exact ⟨A, S, g, σd, s.ok, s.rep, (KS.bindE (m1 := m1) s.post q).imp fun v H1 ⟨A1, S1, g1, d, p1, o1, r1, q1⟩ => q1 A1 S1 H1 _ (List.prefix_refl _) (Same.refl _) (s.setM p1 o1 r1 i)⟩
theorem ds_set {m1 : Bool} {i : Nat} {x : Str} {pos' : Pos} (hN : X.N.Nodup) (he : DE X E m1 e fe) (hi : X.N[i]? = some x := by rfl) (hx : Loc X.env.scope x := by first | exact Or.inl rfl | exact Or.inr rfl) (hs : swapsWith e (some (.Name x pos')) pos.line X.env = pure false := by rfl)
    (hf : X.fn x = true ∨ X.env.scope.names.lookup x = some .local := by first | exact .inl rfl | exact .inr rfl | assumption) : DS1 X E m e0 (.Assign [.Name x pos'] e pos) (sSet m1 i fe) :=
  PS.impD (ps_set hN hi hx he hs hf) fun Z σ H h => set_read h
theorem ds_setComp {m1 : Bool} {i : Nat} {y : Str} {py spos : Pos} {elt tg iter : Expr} {ifs : List Expr} {scope : Scope} {own : List (Str × Nat)} {fi : DS → M (List D)} {fg : D → DS → M DS} {ft : DS → M Bool} {fe : DS → M D} (hN : X.N.Nodup) (hi : DI X E tg iter fi) (ok : BlkOk X.N X.env.scope scope own)
    (hx : ∀ d σ g e g', fg d σ g ≠ .err e g')
    (hg : ∀ s H C cl fp, DG (Blk X scope s H C cl fp) E0 (own.map (·.2)) tg fg) (ht : ∀ s H C cl fp, DTs (Blk X scope s H C cl fp) E0 ifs ft)
    (he : ∀ s H C cl fp, DE (Blk X scope s H C cl fp) E0 false elt fe)
    (hy : X.N[i]? = some y := by rfl) (hyl : X.env.scope.names.lookup y = some .local := by rfl)
    (hsw : swapsWith (.ListComp elt [⟨tg, iter, ifs, 0⟩] scope pos) (some (.Name y py)) spos.line X.env = pure true := by exact sw_true rfl rfl rfl (by decide +kernel)) (hc : X.calm = true := by rfl) (hs : ∀ x, foldedSetIterable iter X.env x = pure x := by intro _; rfl) :
    DS1 X E m e0 (.Assign [.Name y py] (.ListComp elt [⟨tg, iter, ifs, 0⟩] scope pos) spos) (sSet m1 i (eComp fi (own.map (·.2)) fg ft fe)) :=
  PS.impD (ps_setLc (own := own) (g := tG ⟨X.mg, X.K, E0⟩ (own.map fun (p : Str × Nat) => p.2) fg) (tt := tT ⟨X.mg, X.K, E0⟩ ft) (te := tE ⟨X.mg, X.K, E0⟩ false fe) hc hN hy hyl hsw hi ok hg ht he hs) fun Z σ H h => by
    obtain ⟨A, S, g, σd, s, q⟩ := h
    exact comp_read hx ⟨A, S, g, σd, s.ok, s.rep, (KS.bindE (m1 := m1) s.post q).imp fun v H1 ⟨A1, S1, g1, d, p1, o1, r1, q1⟩ => q1 A1 S1 H1 _ (List.prefix_refl _) (Same.refl _) (s.setM p1 o1 r1 i)⟩
def sAsg (fe : DS → M D) (fg : D → DS → M DS) : DS → M Fl := fun σ => M.bind (fe σ) fun d => M.bind (fg d σ) fun σ' => M.pure (.nx σ')
def Own2 (σd σd' : DS) (vs : List Nat) : Prop := ∀ i d, σd'[i]? = some (some (.ow d)) → σd[i]? = some (some (.ow d)) ∧ i ∉ vs
structure TgOk (vs : List Nat) (fg : D → DS → M DS) : Prop where
  ne : ∀ d σ g e g', fg d σ g ≠ .err e g'
  ow : ∀ d σ g σ' g', fg d σ g = .ok σ' g' → g' = g ∧ Own2 σ σ' vs
theorem tg_name (i : Nat) : TgOk [i] (gN i) := ⟨gN_noerr i, fun d σ g σ' g' h => by
  cases h
  refine ⟨rfl, fun j x e => ?_⟩
  rcases set_get e with ⟨rfl, z, _⟩ | ⟨ne, e⟩
  · cases z
  · exact ⟨e, by simp; exact Ne.symm ne⟩⟩
theorem tg_names (is : List Nat) : TgOk is (gNs is) := ⟨gNs_noerr is, fun d σ g σ' g' h => by
  cases d <;> first
    | cases h
    | skip
  rename_i ds
  have h' : ((if ds.length = is.length then M.pure ((is.zip ds).foldl (fun s p => s.set p.1 (some (.sh p.2))) σ) else M.bad : M DS) g) = .ok σ' g' := h
  split at h'
  · rename_i hl
    have e1 : σ' = (is.zip ds).foldl (fun s p => s.set p.1 (some (.sh p.2))) σ := by cases h'; rfl
    have e2 : g' = g := by cases h'; rfl
    refine ⟨e2, fun j x e => ?_⟩
    rw [e1] at e
    clear h h' e1 e2
    induction is generalizing ds σ with
    | nil => exact ⟨e, by simp⟩
    | cons i is ih =>
      cases ds with
      | nil => cases hl
      | cons y ys =>
        have q := ih (σ.set i (some (.sh y))) ys (Nat.succ.inj hl) e
        rcases set_get q.1 with ⟨rfl, z, _⟩ | ⟨ne, e'⟩
        · cases z
        · exact ⟨e', by simp; exact ⟨Ne.symm ne, q.2⟩⟩
  · cases h'⟩
theorem wipe_get {σ σ' : L2.St} {vs : List Nat} {i : Nat} (h : L2.wipe σ' vs = L2.wipe σ vs) (hi : i ∉ vs) : σ'[i]? = σ[i]? := by
  have gen : ∀ (σ : L2.St) (us : List Nat), i ∉ us → (L2.wipe σ us)[i]? = σ[i]? := by
    intro σ us
    induction us with
    | nil => intro _; rfl
    | cons u us ih =>
      intro hu
      show ((L2.wipe σ us).set u none)[i]? = _
      rw [List.getElem?_set_ne (fun z => hu (by rw [z]; exact List.mem_cons_self)), ih fun z => hu (List.mem_cons_of_mem _ z)]
  rw [← gen σ vs hi, ← gen σ' vs hi, h]
theorem Stt.tg {K : PySem.W.Frag} {A A1 : List GAdr} {S S1 H H1 : Hp} {g g1 : G} {σd σd' : DS} {σ σ' : L2.St} {vs : List Nat} (s : Stt K e0 A S g σd σ H) (ow : Own2 σd σd' vs) (p : Post A S H A1 S1 H1) (o : Ok K A1 S1 H1 g1) (r : SRep K A1 S1 H1 σ' σd') (w : L2.wipe σ' vs = L2.wipe σ vs) : Stt K e0 A1 S1 g1 σd' σ' H1 :=
  ⟨o, r, s.post.trans p, fun i d q e1 e2 => by
    obtain ⟨e3, ni⟩ := ow i d e1
    rw [wipe_get w ni] at e2
    exact s.own i d q e3 e2⟩
theorem ds_asg {tg : Expr} {vs : List Nat} {fg : D → DS → M DS} (he : DE X E false e fe) (hg : DG X E vs tg fg) (tk : TgOk vs fg) (hs : swapsWithSole [tg] e pos.line X.env = pure false := by rfl) (hw : swappedStores [tg] e X.env = pure none := by rfl)
    (h1 : (assignEach [tg] X.env).map (·.2) = [assign tg X.env] := by rfl) : DS1 X E m e0 (.Assign [tg] e pos) (sAsg fe fg) :=
  PS.impD (ps_asg he hg hs hw h1) fun Z σ H ⟨A, S, g, σd, s, q⟩ => ⟨A, S, g, σd, s.ok, s.rep, (KS.bindE (m1 := false) s.post q).imp fun v H1 ⟨A1, S1, g1, d, p1, o1, r1, q1⟩ => by
    have s1 := s.post' p1 o1
    refine ⟨A1, S1, g1, σd, d, o1, s1.rep, r1, ?_⟩
    cases e : fg d σd g1 with
    | err x g2 => exact (tk.ne _ _ _ _ _ e).elim
    | bad => rw [bind_bad e] at q1; exact q1.elim
    | ok σ2 g2 =>
      rw [bind_ok e] at q1
      exact fun A' S' H' σ' p o r w => q1 A' S' H' σ' p.a p.s (s1.tg (tk.ow _ _ _ _ _ e).2 p o r w)⟩
end
end NS
namespace NS
open PySem PySem.Spec PyProof.Rows L2
section
variable {X : Cx} {E : XK} {pos : Pos} {m : Bool} {e0 : En}

def forM (fg : D → DS → M DS) (b : DS → M Fl) : List D → DS → M Fl
  | [], σ => M.pure (.nx σ)
  | d :: ds, σ => M.bind (fg d σ) fun σ1 => M.bind (b σ1) fun fl => match fl with
    | .nx σ' => forM fg b ds σ'
    | .ct σ' => forM fg b ds σ'
    | .bk σ' => M.pure (.nx σ')
    | .rt d => M.pure (.rt d)
def sFor (fi : DS → M (List D)) (fg : D → DS → M DS) (b : DS → M Fl) : DS → M Fl := fun σ => M.bind (fi σ) fun ds => forM fg b ds σ
theorem ds_for {tg iter : Expr} {body : List Stmt} {fi : DS → M (List D)} {fg : D → DS → M DS} {b : DS → M Fl} {vs : List Nat} (hp : PassesOwn (model X.prog X.w) X.A X.env X.xe) (hi : DI X E tg iter fi) (hg : DG X E vs tg fg) (tk : TgOk vs fg) (hb : DSs X E m e0 body b)
    (hc : X.calm = true := by rfl) (hs : ∀ x, foldedSetIterable iter X.env x = pure x := by intro _; rfl) : DS1 X E m e0 (.For tg iter body [] pos) (sFor fi fg b) :=
  PS.impD (ps_for hp hc hi hg hb hs) fun Z σ H ⟨A, S, g, σd, s, q⟩ => ⟨A, S, g, σd, s.ok, s.rep, (KS.bindI s.post q).imp fun J H1 ⟨A1, S1, g1, ds, p1, o1, it, q1⟩ => by
    refine ⟨fun i mm σ2 H2 => mm = ds.length - i ∧ i ≤ ds.length ∧ ∃ A2 S2 g2 σd2, Stt X.K e0 A2 S2 g2 σd2 σ2 H2 ∧ Same S1 S2 ∧ A1 <+: A2 ∧ KS (Cx.sur X E) m e0 A2 S2 (forM fg b (ds.drop i) σd2 g2) Z, ⟨_, rfl, Nat.zero_le _, A1, S1, g1, σd, s.post' p1 o1, Same.refl _, List.prefix_refl _, by rw [List.drop_zero]; exact q1⟩, ?_⟩
    rintro i mm σ2 H2 ⟨rfl, hi, A2, S2, g2, σd2, s2, sm, pf, q2⟩
    by_cases hlt : i < ds.length
    · refine .inr ⟨it.go i H2 hlt (sm.trans s2.ok.ext), fun σ3 H3 => i + 1 ≤ ds.length ∧ ∃ A3 S3 g3 σd3, Stt X.K e0 A3 S3 g3 σd3 σ3 H3 ∧ Same S1 S3 ∧ A1 <+: A3 ∧ KS (Cx.sur X E) m e0 A3 S3 (forM fg b (ds.drop (i + 1)) σd3 g3) Z, fun σ3 H3 h3 => ⟨ds.length - (i + 1), by omega, rfl, h3⟩, fun x H3 y => ?_⟩
      obtain ⟨d, ed, yy⟩ := it.yld i H2 x H3 hlt (sm.trans s2.ok.ext) y
      have edrop : ds.drop i = d :: ds.drop (i + 1) := by
        obtain ⟨hl2, e2⟩ := List.getElem?_eq_some_iff.mp ed
        rw [List.drop_eq_getElem_cons hl2, e2]
      rw [edrop] at q2
      obtain ⟨S3, PX, oX, rX⟩ : ∃ S3, Post A2 S2 H2 A2 S3 H3 ∧ Ok X.K A2 S3 H3 g2 ∧ Rep X.K A2 S3 x d := yld_rep s2.ok pf sm yy
      have s3 := s2.post' PX oX
      refine ⟨A2, S3, g2, σd2, d, oX, s3.rep, rX, ?_⟩
      have q3 : KS (Cx.sur X E) m e0 A2 S2 (M.bind (fg d σd2) (fun σ1 => M.bind (b σ1) fun fl => match fl with
        | .nx σ' => forM fg b (ds.drop (i + 1)) σ'
        | .ct σ' => forM fg b (ds.drop (i + 1)) σ'
        | .bk σ' => M.pure (.nx σ')
        | .rt d => M.pure (.rt d)) g2) Z := q2
      cases e1 : fg d σd2 g2 with
      | err z g' => exact (tk.ne _ _ _ _ _ e1).elim
      | bad => rw [bind_bad e1] at q3; exact q3.elim
      | ok σd3 g3 =>
        rw [bind_ok e1] at q3
        intro A4 S4 H4 σ4 P4 o4 r4 w4
        have s4 := s3.tg (tk.ow _ _ _ _ _ e1).2 P4 o4 r4 w4
        have sm4 : Same S1 S4 := (sm.trans PX.s).trans P4.s
        have pf4 : A1 <+: A4 := (pf.trans PX.a).trans P4.a
        refine ⟨A4, S4, g3, σd3, s4, ?_⟩
        cases e2 : b σd3 g3 with
        | err z g' => rw [bind_err e2] at q3; exact q3
        | bad => rw [bind_bad e2] at q3; exact q3.elim
        | ok fl g4 =>
          rw [bind_ok e2] at q3
          have gi := (tk.ow _ _ _ _ _ e1).1
          cases fl with
          | nx σ5 => exact fun A5 S5 H5 σ6 a b s5 => ⟨hlt, A5, S5, g4, σ5, s5, sm4.trans b, pf4.trans a, q3.floor ((PX.a.trans P4.a).trans a) ((PX.s.trans P4.s).trans b)⟩
          | ct σ5 => exact fun A5 S5 H5 σ6 a b s5 => ⟨hlt, A5, S5, g4, σ5, s5, sm4.trans b, pf4.trans a, q3.floor ((PX.a.trans P4.a).trans a) ((PX.s.trans P4.s).trans b)⟩
          | bk σ5 => exact fun A5 S5 H5 σ6 a b s5 => q3 A5 S5 H5 σ6 ((PX.a.trans P4.a).trans a) ((PX.s.trans P4.s).trans b) s5
          | rt dd => exact q3
    · have ei : i = ds.length := by omega
      subst ei
      refine .inl ⟨it.stop _ H2 (Nat.le_refl _) (sm.trans s2.ok.ext), ?_⟩
      rw [List.drop_length] at q2
      exact q2 A2 S2 H2 σ2 (List.prefix_refl _) (Same.refl _) s2⟩

def whileM (c : DS → M Bool) (b : DS → M Fl) : Nat → DS → M Fl
  | 0, _ => M.bad
  | n + 1, σ => M.bind (c σ) fun t => if t = true then M.bind (b σ) fun fl => match fl with
    | .nx σ' => whileM c b n σ'
    | .ct σ' => whileM c b n σ'
    | .bk σ' => M.pure (.nx σ')
    | .rt d => M.pure (.rt d) else M.pure (.nx σ)
theorem ds_while (n : Nat) {c : Expr} {body : List Stmt} {tc : DS → M Bool} {b : DS → M Fl} (hp : PassesOwn (model X.prog X.w) X.A X.env X.xe) (hc : DT X E c tc) (hb : DSs X E m e0 body b) : DS1 X E m e0 (.While c body [] pos) (whileM tc b n) :=
  PS.impD (ps_while hp hc hb) fun Z σ H ⟨A, S, g, σd, s, q⟩ => by
    refine ⟨fun k σ2 H2 => ∃ A2 S2 g2 σd2, Stt X.K e0 A2 S2 g2 σd2 σ2 H2 ∧ KS (Cx.sur X E) m e0 A2 S2 (whileM tc b k σd2 g2) Z, ⟨n, A, S, g, σd, s, q⟩, ?_⟩
    rintro k σ2 H2 ⟨A2, S2, g2, σd2, s2, q2⟩
    cases k with
    | zero => exact q2.elim
    | succ k =>
      refine ⟨A2, S2, g2, σd2, s2.ok, s2.rep, (KS.bindT s2.post q2).imp fun t H3 ⟨A3, S3, g3, p3, o3, q3⟩ => ?_⟩
      have s3 := s2.post' p3 o3
      cases t with
      | false =>
        rw [if_neg (by decide)] at q3 ⊢
        exact q3 A3 S3 H3 σ2 (List.prefix_refl _) (Same.refl _) s3
      | true =>
        rw [if_pos rfl] at q3 ⊢
        refine ⟨fun σ' H' => ∃ A2 S2 g2 σd2, Stt X.K e0 A2 S2 g2 σd2 σ' H' ∧ KS (Cx.sur X E) m e0 A2 S2 (whileM tc b k σd2 g2) Z, fun σ' H' h => ⟨k, Nat.lt_succ_self k, h⟩, A3, S3, g3, σd2, s3, ?_⟩
        cases e2 : b σd2 g3 with
        | err z g' => rw [bind_err e2] at q3; exact q3
        | bad => rw [bind_bad e2] at q3; exact q3.elim
        | ok fl g4 =>
          rw [bind_ok e2] at q3
          cases fl with
          | nx σ5 => exact fun A5 S5 H5 σ6 a b s5 => ⟨A5, S5, g4, σ5, s5, q3.floor a b⟩
          | ct σ5 => exact fun A5 S5 H5 σ6 a b s5 => ⟨A5, S5, g4, σ5, s5, q3.floor a b⟩
          | bk σ5 => exact fun A5 S5 H5 σ6 a b s5 => q3 A5 S5 H5 σ6 a b s5
          | rt dd => exact q3

theorem Stt.write {K : PySem.W.Frag} {A : List GAdr} {S H : Hp} {g : G} {σd : DS} {σ : L2.St} (s : Stt K e0 A S g σd σ H) {i : Nat} {d d' : D} {p : Addr} {o : HO} (e : σd[i]? = some (some (.ow d))) (es : σ[i]? = some (some (.ref p))) (r : Top K A S (upd H p o) p d') :
    Stt K e0 A S g (σd.set i (some (.ow d'))) σ (upd H p o) := by
  obtain ⟨q, e1, q1, q2, q3⟩ := s.rep.ow e
  rw [es] at e1; cases e1
  have hp := s.own i d p e es
  refine ⟨s.ok.writeO q1 q2, s.rep.write e es r, s.post.writeNew hp, fun j d2 p2 e1 e2 => ?_⟩
  rcases set_get e1 with ⟨rfl, z, _⟩ | ⟨ne, e1⟩
  · exact s.own i d p2 e e2
  · exact s.own j d2 p2 e1 e2
def ownL : Option (Option DV) → Option (List D)
  | some (some (.ow (.lst ds))) => some ds
  | _ => none
theorem ownL_eq {o : Option (Option DV)} {ds : List D} (h : ownL o = some ds) : o = some (some (.ow (.lst ds))) := by
  unfold ownL at h
  split at h
  · cases h; rfl
  · cases h
def sOwn (i : Nat) (k : List D → D → Option (List D)) (fe : DS → M D) : DS → M Fl := fun σ => match ownL σ[i]? with
  | some ds => M.bind (fe σ) fun d => match k ds d with
    | some ds' => M.pure (.nx (σ.set i (some (.ow (.lst ds')))))
    | none => M.bad
  | none => M.bad
theorem own_read {U : Sur} {i : Nat} {k : List D → D → Option (List D)} {fe : DS → M D} {Z : Ends} {A : List GAdr} {S H : Hp} {g : G} {σd : DS} {σ : L2.St} (s : Stt U.K e0 A S g σd σ H) (q : KS U m e0 A S (sOwn i k fe σd g) Z) :
    ∃ p vs ds, σ[i]? = some (some (.ref p)) ∧ H p = some (.lst vs) ∧ KE U false A S H (fe σd g) fun v H1 => ∃ A1 S1 g1 d ds', Post A S H A1 S1 H1 ∧ Ok U.K A1 S1 H1 g1 ∧ Rep U.K A1 S1 v d ∧ H1 p = some (.lst vs) ∧ RepL U.K A1 S1 vs ds ∧ k ds d = some ds' ∧
      S1 p = none ∧ ∀ vs', RepL U.K A1 S1 vs' ds' → Z.nx σ (upd H1 p (.lst vs')) := by
  cases eo : ownL σd[i]? with
  | none =>
    have q' : KS U m e0 A S ((match ownL σd[i]? with | some ds => M.bind (fe σd) (fun d => match k ds d with | some ds' => M.pure (.nx (σd.set i (some (.ow (.lst ds'))))) | none => M.bad) | none => M.bad : M Fl) g) Z := q
    rw [eo] at q'; exact q'.elim
  | some ds =>
    have q' : KS U m e0 A S ((match ownL σd[i]? with | some ds => M.bind (fe σd) (fun d => match k ds d with | some ds' => M.pure (.nx (σd.set i (some (.ow (.lst ds'))))) | none => M.bad) | none => M.bad : M Fl) g) Z := q
    rw [eo] at q'
    have e := ownL_eq eo
    obtain ⟨p, e1, h1, h2, vs, h3, h4⟩ := s.rep.ow e
    refine ⟨p, vs, ds, e1, h3, (KS.bindE (m1 := false) s.post q').imp fun v H1 ⟨A1, S1, g1, d, p1, o1, r1, q1⟩ => ?_⟩
    have s1 := s.post' p1 o1
    have k1 : H1 p = some (.lst vs) := p1.keep p _ h3 h2
    have r2 : RepL U.K A1 S1 vs ds := h4.mono p1.a p1.s
    obtain ⟨p', e1', h1', _⟩ := s1.rep.ow e
    rw [e1] at e1'; cases e1'
    cases ek : k ds d with
    | none => rw [ek] at q1; exact q1.elim
    | some ds' =>
      rw [ek] at q1
      exact ⟨A1, S1, g1, d, ds', p1, o1, r1, k1, r2, ek, h1', fun vs' r' => q1 A1 S1 _ σ (List.prefix_refl _) (Same.refl _) (s1.write e e1 ⟨vs', upd_same, r'⟩)⟩
variable {e : Expr} {fe : DS → M D}
theorem tyV_lst {K : PySem.W.Frag} {H : Hp} {p : Addr} {vs : List V} (h : H p = some (.lst vs)) : tyV K "list" (.ref p) H := .inl ⟨rfl, _, .inl (.inl h)⟩
def kApp (ds : List D) (d : D) : Option (List D) := if fit ds.length = true then some (ds ++ [d]) else none
theorem ds_append (i : Nat) {x : Str} {px apos cpos : Pos} (he : DE X E false e fe) (hN : X.N[i]? = some x := by rfl) (hv : Vis X.env.scope x := by first | exact Or.inl rfl | exact Or.inr (Or.inl rfl) | exact Or.inr (Or.inr rfl)) (hd : (x == ("__debug__" : Str)) = false := by decide)
    (hcd : (x == ("__classdict__" : Str)) = false := by decide) (hbase : attributeBase (.Name x px) "append" X.env (eval (.Name x px) X.env) = eval (.Name x px) X.env := by rfl)
    (hfew : ((backTo cpos (starEach [e] X.env)).all (fun x => !x.1) && (backToKw cpos (keywordEach [] X.env)).all (fun x => x.1.isSome)
      && decide (([e] : List Expr).length + ([] : List Keyword).length + (if ([] : List Keyword).isEmpty then 0 else 1) < 30)) = true := by rfl)
    (hline : (apos.endLine == cpos.line) = true := by rfl) (hs : starEach [e] X.env = (false, eval e X.env) :: starEach [] X.env := by rfl) (hplain : (backTo cpos (starEach [] X.env)).any (·.1) = false := by rfl)
    (hsw : swapsWith (.Call (.Attribute (.Name x px) "append" apos) [e] [] cpos) none pos.line X.env = pure false := by rfl) :
    DS1 X E m e0 (.Expr (.Call (.Attribute (.Name x px) "append" apos) [e] [] cpos) pos) (sOwn i kApp fe) :=
  PS.impD (ps_expr (pe_bm PySem.F.plainAttrs_list PySem.F.slot_list_append PySem.F.type_list_append mt_append (pe_var hN hv hd hcd) (pa_cons he pa_nil hs) hbase hfew hline hs hplain) hsw) fun Z σ H ⟨A, S, g, σd, s, q⟩ => by
    obtain ⟨p, vs, ds, e1, h1, q'⟩ := own_read s q
    refine ⟨.ref p, e1, tyV_lst h1, A, S, g, σd, s.ok, s.rep, q'.imp fun v H1 ⟨A1, S1, g1, d, ds', p1, o1, r1, k1, r2, ek, sp, z⟩ => ?_⟩
    unfold kApp at ek
    by_cases hf : fit ds.length = true
    · rw [if_pos hf] at ek; cases ek
      exact ⟨p, vs, v, rfl, rfl, k1, by rw [r2.length]; exact fit_le hf, z _ (r2.append (.cons r1 .nil))⟩
    · rw [if_neg hf] at ek; cases ek
def kExt (ds : List D) (d : D) : Option (List D) := match d with
  | .lst es => if fit (ds.length + es.length) = true then some (ds ++ es) else none
  | _ => none
theorem ds_extend (i : Nat) {x : Str} {px apos cpos : Pos} (he : DE X E false e fe) (hN : X.N[i]? = some x := by rfl) (hv : Vis X.env.scope x := by first | exact Or.inl rfl | exact Or.inr (Or.inl rfl) | exact Or.inr (Or.inr rfl)) (hd : (x == ("__debug__" : Str)) = false := by decide)
    (hcd : (x == ("__classdict__" : Str)) = false := by decide) (hbase : attributeBase (.Name x px) "extend" X.env (eval (.Name x px) X.env) = eval (.Name x px) X.env := by rfl)
    (hfew : ((backTo cpos (starEach [e] X.env)).all (fun x => !x.1) && (backToKw cpos (keywordEach [] X.env)).all (fun x => x.1.isSome)
      && decide (([e] : List Expr).length + ([] : List Keyword).length + (if ([] : List Keyword).isEmpty then 0 else 1) < 30)) = true := by rfl)
    (hline : (apos.endLine == cpos.line) = true := by rfl) (hs : starEach [e] X.env = (false, eval e X.env) :: starEach [] X.env := by rfl) (hplain : (backTo cpos (starEach [] X.env)).any (·.1) = false := by rfl)
    (hsw : swapsWith (.Call (.Attribute (.Name x px) "extend" apos) [e] [] cpos) none pos.line X.env = pure false := by rfl) :
    DS1 X E m e0 (.Expr (.Call (.Attribute (.Name x px) "extend" apos) [e] [] cpos) pos) (sOwn i kExt fe) :=
  PS.impD (ps_expr (pe_bm PySem.F.plainAttrs_list PySem.F.slot_list_extend PySem.F.type_list_extend mt_extend (pe_var hN hv hd hcd) (pa_cons he pa_nil hs) hbase hfew hline hs hplain) hsw) fun Z σ H ⟨A, S, g, σd, s, q⟩ => by
    obtain ⟨p, vs, ds, e1, h1, q'⟩ := own_read s q
    refine ⟨.ref p, e1, tyV_lst h1, A, S, g, σd, s.ok, s.rep, q'.imp fun v H1 ⟨A1, S1, g1, d, ds', p1, o1, r1, k1, r2, ek, sp, z⟩ => ?_⟩
    cases r1 with
    | @lst b ws es hb rr =>
      have ek' : (if fit (ds.length + es.length) = true then some (ds ++ es) else none) = some ds' := ek
      by_cases hf : fit (ds.length + es.length) = true
      · rw [if_pos hf] at ek'; cases ek'
        exact ⟨p, b, vs, ws, rfl, rfl, k1, o1.ext _ _ hb, by rw [r2.length, rr.length]; exact Nat.le_of_lt (fit_le hf), z _ (r2.append rr)⟩
      · rw [if_neg hf] at ek'; cases ek'
    | _ => simp [kExt] at ek

def sSetIx (j : Nat) (fe fi : DS → M D) : DS → M Fl := fun σ => M.bind (fe σ) fun d => match ownL σ[j]? with
  | some ds => M.bind (fi σ) fun i => match i with
    | .int k => (match ixN ds.length k with
      | some n => M.pure (.nx (σ.set j (some (.ow (.lst (ds.set n d))))))
      | none => M.bad)
    | _ => M.bad
  | none => M.bad
variable {ei : Expr} {fi : DS → M D}
theorem ds_setIx (j : Nat) {x : Str} {px tpos : Pos} (he : DE X E false e fe) (hi : DE X E false ei fi) (hN : X.N[j]? = some x := by rfl) (hv : Vis X.env.scope x := by first | exact Or.inl rfl | exact Or.inr (Or.inl rfl) | exact Or.inr (Or.inr rfl)) (hd : (x == ("__debug__" : Str)) = false := by decide)
    (hcd : (x == ("__classdict__" : Str)) = false := by decide)
    (ha : ∀ v, assign (.Subscript (.Name x px) ei tpos) X.env v = (do
      let ov ← holding [v] (eval (.Name x px) X.env)
      let iv ← holding [v, ov] (eval ei X.env)
      standAt tpos
      holding [v, ov, iv] (setItem ov iv v)
      release [v, ov, iv] []) := by intro _; rfl)
    (hs : swapsWithSole [.Subscript (.Name x px) ei tpos] e pos.line X.env = pure false := by rfl) (hw : swappedStores [.Subscript (.Name x px) ei tpos] e X.env = pure none := by rfl)
    (h1 : (assignEach [.Subscript (.Name x px) ei tpos] X.env).map (·.2) = [assign (.Subscript (.Name x px) ei tpos) X.env] := by rfl) :
    DS1 X E m e0 (.Assign [.Subscript (.Name x px) ei tpos] e pos) (sSetIx j fe fi) :=
  PS.impD (ps_asg he (pg_sub (pe_var hN hv hd hcd) hi set_list ha) hs hw h1) fun Z σ H ⟨A, S, g, σd, s, q⟩ => ⟨A, S, g, σd, s.ok, s.rep, (KS.bindE (m1 := false) s.post q).imp fun v H1 ⟨A1, S1, g1, d, p1, o1, r1, q1⟩ => by
    have s1 := s.post' p1 o1
    cases eo : ownL σd[j]? with
    | none => rw [eo] at q1; exact q1.elim
    | some ds =>
      rw [eo] at q1
      have e1 := ownL_eq eo
      obtain ⟨p, e2, h1, h2, vs, h3, h4⟩ := s1.rep.ow e1
      refine ⟨.ref p, e2, A1, S1, g1, σd, o1, s1.rep, (KS.bindE (m1 := false) s1.post q1).imp fun w H2 ⟨A2, S2, g2, d2, p2, o2, r2, q2⟩ => ?_⟩
      have s2 := s1.post' p2 o2
      have k1 : H2 p = some (.lst vs) := p2.keep p _ h3 h2
      have rr : RepL X.K A2 S2 vs ds := h4.mono p2.a p2.s
      cases r2 with
      | int k =>
        cases en : ixN ds.length k with
        | none =>
          have q2' : KS (Cx.sur X E) m e0 A2 S2 ((match ixN ds.length k with | some n => M.pure (.nx (σd.set j (some (.ow (.lst (ds.set n d)))))) | none => M.bad : M Fl) g2) Z := q2
          rw [en] at q2'; exact q2'.elim
        | some n =>
          have q2' : KS (Cx.sur X E) m e0 A2 S2 ((match ixN ds.length k with | some n => M.pure (.nx (σd.set j (some (.ow (.lst (ds.set n d)))))) | none => M.bad : M Fl) g2) Z := q2
          rw [en] at q2'
          exact ⟨p, vs, k, n, rfl, rfl, k1, by rw [rr.length]; exact en, q2' A2 S2 _ σ (List.prefix_refl _) (Same.refl _) (s2.write e1 e2 ⟨_, upd_same, rr.set (Rep.mono p2.a p2.s r1) n⟩)⟩
      | _ => exact q2.elim⟩

def sAug (k : D → D → M D) (i : Nat) (fe : DS → M D) : DS → M Fl := fun σ => M.bind (eVar i σ) fun x => M.bind (fe σ) fun y => M.bind (k x y) fun z => M.pure (.nx (σ.set i (some (.sh z))))
theorem eVar_get {U : Sur} {i : Nat} {A : List GAdr} {S H : Hp} {σ : L2.St} {σd : DS} {g : G} {m2 : Bool} {k : D → M Fl} {Z : Ends} (r : SRep U.K A S H σ σd) (q : KS U m2 e0 A S (M.bind (eVar i σd) k g) Z) :
    ∃ d v, σd[i]? = some (some (.sh d)) ∧ σ[i]? = some (some v) ∧ Rep U.K A S v d ∧ KS U m2 e0 A S (k d g) Z := by
  unfold eVar at q
  match e : σd[i]? with
  | some (some (.sh d)) =>
    rw [e] at q
    obtain ⟨v, e1, e2⟩ := r.sh e
    exact ⟨d, v, rfl, e1, e2, q⟩
  | some (some (.ow d)) => rw [e] at q; exact q.elim
  | some none => rw [e] at q; exact q.elim
  | none => rw [e] at q; exact q.elim
theorem ds_aug (i : Nat) {x : Str} {op : Operator} {k : D → D → M D} {pos' : Pos} (hN : X.N.Nodup) (ho : OpD X E (inplaceOp op) false k) (he : DE X E false e fe) (hi : X.N[i]? = some x := by rfl) (hx : Loc X.env.scope x := by first | exact Or.inl rfl | exact Or.inr rfl)
    (hf : X.fn x = true ∨ X.env.scope.names.lookup x = some .local := by first | exact .inl rfl | exact .inr rfl | assumption) : DS1 X E m e0 (.AugAssign (.Name x pos') op e pos) (sAug k i fe) :=
  PS.impD (ps_aug hN hi hx he ho hf) fun Z σ H ⟨A, S, g, σd, s, q⟩ => by
    obtain ⟨d, v, e1, e2, r, q1⟩ := eVar_get s.rep q
    refine ⟨v, e2, A, S, g, σd, s.ok, s.rep, (KS.bindE (m1 := false) s.post q1).imp fun w H1 ⟨A1, S1, g1, d1, p1, o1, r1, q2⟩ => ?_⟩
    have s1 := s.post' p1 o1
    refine ⟨A1, S1, g1, d, d1, o1, r.mono p1.a p1.s, r1, (KS.bindE (m1 := false) s1.post q2).imp fun u H2 ⟨A2, S2, g2, d2, p2, o2, r2, q3⟩ => ?_⟩
    exact q3 A2 S2 H2 _ (List.prefix_refl _) (Same.refl _) ((s1.post' p2 o2).setSh r2 i)

inductive RepMs (K : PySem.W.Frag) (H : Hp) (A' : List GAdr) (S' H' : Hp) : List V → List D → List Bool → Prop where
  | nil : RepMs K H A' S' H' [] [] []
  | cons {v : V} {d : D} {b : Bool} {vs : List V} {ds : List D} {bs : List Bool} : RepM K H A' S' H' v d b → RepMs K H A' S' H' vs ds bs → (b = true → ∀ (j : Nat) w, vs[j]? = some w → bs[j]? = some true → w ≠ v) → RepMs K H A' S' H' (v :: vs) (d :: ds) (b :: bs)
theorem RepM.post {K : PySem.W.Frag} {H : Hp} {A1 A2 : List GAdr} {S1 S2 H1 H2 : Hp} {v : V} {d : D} {b : Bool} (p : Post A1 S1 H1 A2 S2 H2) (r : RepM K H A1 S1 H1 v d b) : RepM K H A2 S2 H2 v d b := by
  cases b with
  | false => exact Rep.mono p.a p.s r
  | true =>
    obtain ⟨q, e, h0, h1, h2, h3⟩ := r
    have := SlotOk.post (v := some (.ref q)) (x := .ow d) p ⟨h1, h2, h3⟩
    exact ⟨q, e, h0, this⟩
theorem RepMs.back {K : PySem.W.Frag} {A A1 : List GAdr} {S S1 H H1 : Hp} {A' : List GAdr} {S' H' : Hp} (p : Post A S H A1 S1 H1) : ∀ {vs : List V} {ds : List D} {bs : List Bool}, RepMs K H1 A' S' H' vs ds bs → RepMs K H A' S' H' vs ds bs
  | _, _, _, .nil => .nil
  | _, _, _, .cons h r n => .cons (h.back p) (RepMs.back p r) n
theorem RepMs.own {K : PySem.W.Frag} {H : Hp} {A' : List GAdr} {S' H' : Hp} : ∀ {vs : List V} {ds : List D} {bs : List Bool} {j : Nat} {w : V}, RepMs K H A' S' H' vs ds bs → vs[j]? = some w → bs[j]? = some true → ∃ p, w = .ref p ∧ H p = none
  | _, _, _, 0, w, .cons h r n, e1, e2 => by
    simp at e1 e2; subst e1; subst e2
    obtain ⟨p, e, h0, _⟩ := h
    exact ⟨p, e, h0⟩
  | _, _, _, j + 1, w, .cons h r n, e1, e2 => RepMs.own (j := j) r (by simpa using e1) (by simpa using e2)
def KMs (U : Sur) (bs : List Bool) (A : List GAdr) (S H : Hp) (r : Res (List D)) (Q : List V → Hp → Prop) : Prop :=
  match r with
  | .ok ds g' => ∀ A' S' H' vs, Post A S H A' S' H' → Ok U.K A' S' H' g' → RepMs U.K H A' S' H' vs ds bs → Q vs H'
  | .err x g' => ∀ A' S' H' c dd, Post A S H A' S' H' → Ok U.K A' S' H' g' → XRep U.mg U.K A' S' H' x c dd → U.E c dd H'
  | .bad => False
def tMs (U : Sur) (bs : List Bool) (f : DS → M (List D)) : TA := fun σ H Q => ∃ A S g σd, Ok U.K A S H g ∧ SRep U.K A S H σ σd ∧ KMs U bs A S H (f σd g) Q
def DMs (X : Cx) (E : XK) (es : List Expr) (bs : List Bool) (f : DS → M (List D)) : Prop := PA X es (tMs (Cx.sur X E) bs f)
theorem dms_nil : DMs X E [] [] lNil := PA.impD pa_nil fun σ H Q ⟨A, S, g, σd, o, r, q⟩ => q A S H [] (Post.refl _ _ _) o .nil
theorem KMs.imp {U : Sur} {bs : List Bool} {A : List GAdr} {S H : Hp} {r : Res (List D)} {Q Q' : List V → Hp → Prop} (h : KMs U bs A S H r Q) (i : ∀ v H', Q v H' → Q' v H') : KMs U bs A S H r Q' := by
  cases r with
  | ok d g => exact fun A' S' H' vs q o r => i _ _ (h A' S' H' vs q o r)
  | err x g => exact h
  | bad => exact h
variable {es : List Expr} {bs : List Bool} {fl : DS → M (List D)} {b : Bool}
theorem dms_cons (ha : DE X E b e fe) (hr : DMs X E es bs fl) (hs : starEach (e :: es) X.env = (false, eval e X.env) :: starEach es X.env := by rfl) : DMs X E (e :: es) (b :: bs) (lCons fe fl) :=
  PA.impD (pa_cons ha hr hs) fun σ H Q ⟨A, S, g, σd, o, r, q⟩ => ⟨A, S, g, σd, o, r, by
    have q' : KMs (Cx.sur X E) (b :: bs) A S H (M.bind (fe σd) (fun x => M.bind (fl σd) fun xs => M.pure (x :: xs)) g) Q := q
    cases e1 : fe σd g with
    | err z g' => rw [bind_err e1] at q'; exact q'
    | bad => rw [bind_bad e1] at q'; exact q'
    | ok d g1 =>
      rw [bind_ok e1] at q'
      intro A1 S1 H1 v p1 o1 r1
      refine ⟨A1, S1, g1, σd, o1, r.post p1, ?_⟩
      cases e2 : fl σd g1 with
      | err z g' => rw [bind_err e2] at q'; exact fun A' S' H' c dd p o x => q' A' S' H' c dd (p1.trans p) o x
      | bad => rw [bind_bad e2] at q'; exact q'
      | ok ds g2 =>
        rw [bind_ok e2] at q'
        intro A2 S2 H2 vs p2 o2 r2
        refine q' A2 S2 H2 (v :: vs) (p1.trans p2) o2 (.cons (RepM.post p2 r1) (r2.back p1) fun hb j w ej eb => ?_)
        subst hb
        obtain ⟨p, rfl, hp⟩ := r2.own ej eb
        obtain ⟨p', rfl, h0, h1, h2, h3⟩ := r1
        rintro ⟨⟩
        obtain ⟨u, hu⟩ := h3.some
        rw [hp] at hu; cases hu⟩
def setMs : List Nat → List Bool → List D → DS → DS
  | i :: is, b :: bs, d :: ds, σ => setMs is bs ds (σ.set i (some (mkV b d)))
  | _, _, _, σ => σ
theorem Stt.setMs {K : PySem.W.Frag} {A : List GAdr} {S H : Hp} {g : G} {A1 : List GAdr} {S1 H1 : Hp} {g1 : G} {σd : DS} {σ : L2.St} (s : Stt K e0 A S g σd σ H) (p : Post A S H A1 S1 H1) (o : Ok K A1 S1 H1 g1) {vs : List V} {ds : List D} (r : RepMs K H A1 S1 H1 vs ds bs) (is : List Nat) :
    Stt K e0 A1 S1 g1 (NS.setMs is bs ds σd) ((is.zip vs).foldl (fun s p => s.set p.1 (some p.2)) σ) H1 := by
  -- no own slot holds one of the new own values
  have gen : ∀ {vs : List V} {ds : List D} {bs : List Bool} (is : List Nat) (σd : DS) (σ : L2.St), Stt K e0 A1 S1 g1 σd σ H1 → RepMs K H A1 S1 H1 vs ds bs →
      (∀ (j : Nat) (e : D) (k : Nat) (q : Addr), σd[j]? = some (some (.ow e)) → σ[j]? = some (some (.ref q)) → vs[k]? = some (.ref q) → bs[k]? = some true → False) →
      Stt K e0 A1 S1 g1 (NS.setMs is bs ds σd) ((is.zip vs).foldl (fun s p => s.set p.1 (some p.2)) σ) H1 := by
    intro vs
    induction vs with
    | nil =>
      intro ds bs is σd σ s1 r _
      cases r
      cases is <;> exact s1
    | cons v vs ih =>
      intro ds bs is σd σ s1 r no
      cases r with
      | @cons _ d b _ ds bs h r n =>
        cases is with
        | nil => exact s1
        | cons i is =>
          show Stt K e0 A1 S1 g1 (NS.setMs is bs ds (σd.set i (some (mkV b d)))) ((is.zip vs).foldl (fun s p => s.set p.1 (some p.2)) (σ.set i (some v))) H1
          have s2 : Stt K e0 A1 S1 g1 (σd.set i (some (mkV b d))) (σ.set i (some v)) H1 := by
            cases b with
            | false => exact s1.setSh h i
            | true =>
              obtain ⟨q, rfl, h0, h1, h2, h3⟩ := h
              refine ⟨o, s1.rep.setOw h1 h2 h3 i fun j e ne ej es => no j e 0 q ej es rfl rfl, s1.post, fun j d' p' e1 e2 => ?_⟩
              rcases set_get e1 with ⟨rfl, z, hl⟩ | ⟨ne, e1⟩
              · rw [List.getElem?_set_self (by rw [s1.rep.len]; exact hl)] at e2
                cases e2
                exact none_back s.post.dom h0
              · rw [List.getElem?_set_ne ne] at e2; exact s1.own j d' p' e1 e2
          refine ih is _ _ s2 r fun j e k q e1 e2 e3 e4 => ?_
          rcases set_get e1 with ⟨rfl, z, hl⟩ | ⟨ne, e1⟩
          · rw [List.getElem?_set_self (by rw [s1.rep.len]; exact hl)] at e2
            cases e2
            cases b with
            | false => cases z
            | true => exact n rfl k _ e3 e4 rfl
          · rw [List.getElem?_set_ne ne] at e2
            exact no j e (k + 1) q e1 e2 (by simpa using e3) (by simpa using e4)
  refine gen is σd σ (s.post' p o) r fun j e k q e1 e2 e3 e4 => ?_
  obtain ⟨q', e5, _, _, h4⟩ := s.rep.ow e1
  rw [e2] at e5; cases e5
  obtain ⟨u, hu⟩ := h4.some
  obtain ⟨q2, z, hq⟩ := r.own e3 e4
  cases z
  rw [hq] at hu; cases hu
def sPar (is : List Nat) (bs : List Bool) (fl : DS → M (List D)) : DS → M Fl := fun σ => M.bind (fl σ) fun ds => if ds.length = is.length then M.pure (.nx (setMs is bs ds σ)) else M.bad
theorem RepMs.length {K : PySem.W.Frag} {H : Hp} {A' : List GAdr} {S' H' : Hp} : ∀ {vs : List V} {ds : List D} {bs : List Bool}, RepMs K H A' S' H' vs ds bs → vs.length = ds.length ∧ ds.length = bs.length
  | _, _, _, .nil => ⟨rfl, rfl⟩
  | _, _, _, .cons _ r _ => ⟨congrArg (· + 1) r.length.1, congrArg (· + 1) r.length.2⟩
theorem par_read {U : Sur} {is : List Nat} {Z : Ends} {A : List GAdr} {S H : Hp} {g : G} {σd : DS} {σ : L2.St} (s : Stt U.K e0 A S g σd σ H) (q : KS U m e0 A S (sPar is bs fl σd g) Z) :
    KMs U bs A S H (fl σd g) fun vs H1 => vs.length = is.length ∧ Z.nx ((is.zip vs).foldl (fun s p => s.set p.1 (some p.2)) σ) H1 ∧ (∀ p T, H1 p = none → Z.nx ((is.zip vs).foldl (fun s p => s.set p.1 (some p.2)) σ) (upd H1 p (.tup T))) := by
  have q' : KS U m e0 A S (M.bind (fl σd) (fun ds => if ds.length = is.length then M.pure (.nx (setMs is bs ds σd)) else M.bad) g) Z := q
  cases e1 : fl σd g with
  | err z g' => rw [bind_err e1] at q'; exact fun A' S' H' c dd p o r => q' A' S' H' c dd (s.post.trans p) o r
  | bad => rw [bind_bad e1] at q'; exact q'
  | ok ds g1 =>
    rw [bind_ok e1] at q'
    intro A1 S1 H1 vs p1 o1 r1
    by_cases hl : ds.length = is.length
    · rw [if_pos hl] at q'
      have s1 := s.setMs p1 o1 r1 is
      exact ⟨by rw [r1.length.1, hl], q' A1 S1 H1 _ p1.a p1.s s1, fun p T hp => q' A1 S1 _ _ p1.a p1.s (s1.post' (Post.layO hp) (o1.layO hp))⟩
    · rw [if_neg hl] at q'; exact q'.elim
theorem ds_par2 {i j : Nat} {x y : Str} {a b : Expr} {b1 b2 : Bool} {px py pt : Pos} {kt k2 pt2} (hN : X.N.Nodup) (ha : DMs X E [a, b] [b1, b2] fl) (hij : i ≠ j := by decide) (hi : X.N[i]? = some x := by rfl) (hj : X.N[j]? = some y := by rfl)
    (hx : X.env.scope.names.lookup x = some .local := by rfl) (hy : X.env.scope.names.lookup y = some .local := by rfl)
    (hw : swappedStores [.Tuple [.Name x px, .Name y py] kt pt] (.Tuple [a, b] k2 pt2) X.env = pure (some [x, y]) := by rfl)
    (hs : swapsWithSole [.Tuple [.Name x px, .Name y py] kt pt] (.Tuple [a, b] k2 pt2) pos.line X.env = pure false := by rfl) (hc : X.calm = true := by rfl) :
    DS1 X E m e0 (.Assign [.Tuple [.Name x px, .Name y py] kt pt] (.Tuple [a, b] k2 pt2) pos) (sPar [i, j] [b1, b2] fl) :=
  PS.impD (ps_par hc hN hi hj hij hx hy ha hw hs) fun Z σ H ⟨A, S, g, σd, s, q⟩ => ⟨A, S, g, σd, s.ok, s.rep, (par_read s q).imp fun vs H1 ⟨hl, z, _⟩ => by
    match vs, hl, z with
    | [v, w], _, z => exact ⟨v, w, rfl, z⟩⟩
theorem ds_par3 {i j l : Nat} {x y z : Str} {a b c : Expr} {b1 b2 b3 : Bool} {px py pz pt : Pos} {kt k2 pt2} (hN : X.N.Nodup) (ha : DMs X E [a, b, c] [b1, b2, b3] fl) (hij : i ≠ j := by decide) (hil : i ≠ l := by decide) (hjl : j ≠ l := by decide) (hi : X.N[i]? = some x := by rfl) (hj : X.N[j]? = some y := by rfl) (hl : X.N[l]? = some z := by rfl)
    (hx : X.env.scope.names.lookup x = some .local := by rfl) (hy : X.env.scope.names.lookup y = some .local := by rfl) (hz : X.env.scope.names.lookup z = some .local := by rfl)
    (hw : swappedStores [.Tuple [.Name x px, .Name y py, .Name z pz] kt pt] (.Tuple [a, b, c] k2 pt2) X.env = pure (some [x, y, z]) := by rfl)
    (hs : swapsWithSole [.Tuple [.Name x px, .Name y py, .Name z pz] kt pt] (.Tuple [a, b, c] k2 pt2) pos.line X.env = pure false := by rfl) (hc : X.calm = true := by rfl) :
    DS1 X E m e0 (.Assign [.Tuple [.Name x px, .Name y py, .Name z pz] kt pt] (.Tuple [a, b, c] k2 pt2) pos) (sPar [i, j, l] [b1, b2, b3] fl) :=
  PS.impD (ps_par3 hc hN hi hj hl hij hil hjl hx hy hz ha hw hs) fun Z σ H ⟨A, S, g, σd, s, q⟩ => ⟨A, S, g, σd, s.ok, s.rep, (par_read s q).imp fun vs H1 ⟨hl, z, _⟩ => by
    match vs, hl, z with
    | [v, w, u], _, z => exact ⟨v, w, u, rfl, z⟩⟩
theorem ds_parT {is : List Nat} {tg ev : List Expr} {kt k2 : Nat} {pt pt2 : Pos} (ha : DMs X E ev bs fl) (h : PGs X tg (gNames is)) (hln : fit is.length = true := by rfl) (hc : X.calm = true := by rfl)
    (hn : (assignEach tg X.env).length = is.length := by rfl) (hst : (assignEach tg X.env).findIdx? (·.1) = none := by rfl)
    (hs : swapsWithSole [.Tuple tg kt pt] (.Tuple ev k2 pt2) pos.line X.env = pure false := by rfl) (hw : swappedStores [.Tuple tg kt pt] (.Tuple ev k2 pt2) X.env = pure none := by rfl)
    (h1 : (assignEach [.Tuple tg kt pt] X.env).map (·.2) = [assign (.Tuple tg kt pt) X.env] := by rfl) :
    DS1 X E m e0 (.Assign [.Tuple tg kt pt] (.Tuple ev k2 pt2) pos) (sPar is bs fl) :=
  PS.impD (ps_asg (pe_tup ha) (pg_tup hc h hn hst) hs hw h1) fun Z σ H ⟨A, S, g, σd, s, q⟩ => ⟨A, S, g, σd, s.ok, s.rep, (par_read s q).imp fun vs H1 ⟨hl, _, z⟩ => by
    refine ⟨by rw [hl]; exact Nat.le_of_lt (fit_le hln), fun p hp => ⟨p, vs, rfl, .inl (.inl upd_same), by rw [hl], by rw [hl], z p vs hp⟩⟩⟩
end
end NS
namespace NS
open PySem PySem.Spec PyProof.Rows L2

def startD (n : Nat) (ds : List D) : DS := ds.map (fun d => some (.sh d)) ++ List.replicate (n - ds.length) none
def runD (n : Nat) (m : Bool) (b : DS → M Fl) (ds : List D) : M D := M.bind (b (startD n ds)) fun fl => match fl with
  | .rt d => M.pure d
  | .nx _ => if m = true then M.bad else M.pure .non
  | _ => M.bad
theorem start_rep {K : PySem.W.Frag} {A : List GAdr} {S H : Hp} {N : List Str} {vs : List V} {ds : List D} (r : RepL K A S vs ds) : SRep K A S H (L2.start N vs) (startD N.length ds) := by
  have hl := r.length
  refine ⟨by simp [L2.start, startD, hl], fun i x e => ?_, fun i j d e p ne ea eb sa sb => ?_⟩
  · by_cases hi : i < ds.length
    · have e' : (ds.map (fun d => some (DV.sh d)))[i]? = some (some x) := by
        unfold startD at e
        rw [List.getElem?_append_left (by simpa using hi)] at e
        exact e
      rw [List.getElem?_map] at e'
      cases ed : ds[i]? with
      | none => rw [ed] at e'; cases e'
      | some d =>
        rw [ed] at e'
        cases e'
        obtain ⟨v, e1, e2⟩ := r.getD ed
        refine ⟨some v, ?_, e2⟩
        unfold L2.start
        rw [List.getElem?_append_left (by simp [hl]; exact hi), List.getElem?_map, e1]
        rfl
    · unfold startD at e
      rw [List.getElem?_append_right (by simpa using Nat.le_of_not_lt hi)] at e
      rw [List.getElem?_replicate] at e
      split at e <;> cases e
  · exfalso
    by_cases hi : i < ds.length
    · unfold startD at ea
      rw [List.getElem?_append_left (by simpa using hi), List.getElem?_map] at ea
      cases ed : ds[i]? with
      | none => rw [ed] at ea; cases ea
      | some d => rw [ed] at ea; cases ea
    · unfold startD at ea
      rw [List.getElem?_append_right (by simpa using Nat.le_of_not_lt hi), List.getElem?_replicate] at ea
      split at ea <;> cases ea
theorem start_noown {n : Nat} {ds : List D} {i : Nat} {d : D} (ea : (startD n ds)[i]? = some (some (.ow d))) : False := by
  by_cases hi : i < ds.length
  · unfold startD at ea
    rw [List.getElem?_append_left (by simpa using hi), List.getElem?_map] at ea
    cases ed : ds[i]? with
    | none => rw [ed] at ea; cases ea
    | some d => rw [ed] at ea; cases ea
  · unfold startD at ea
    rw [List.getElem?_append_right (by simpa using Nat.le_of_not_lt hi), List.getElem?_replicate] at ea
    split at ea <;> cases ea
abbrev XC (P : Program) (w : World) : CXT := L2.CX P w
theorem run_read {U : Sur} {m : Bool} {N : List Str} {b : DS → M Fl} {vs : List V} {ds : List D} {A : List GAdr} {S H : Hp} {g : G} {Q : VK} (o : Ok U.K A S H g) (r : RepL U.K A S vs ds) (q : KE U m A S H (runD N.length m b ds g) Q) :
    tS U m ⟨A, S, H⟩ b { nx := fun _ H' => Q .non H', rt := Q } (L2.start N vs) H := by
  refine ⟨A, S, g, startD N.length ds, ⟨o, start_rep r, Post.refl _ _ _, fun i d p e => (start_noown e).elim⟩, ?_⟩
  unfold runD at q
  cases e : b (startD N.length ds) g with
  | err z g' => rw [bind_err e] at q; exact q
  | bad => rw [bind_bad e] at q; exact q
  | ok fl g1 =>
    rw [bind_ok e] at q
    cases fl with
    | nx σ =>
      intro A' S' H' σ' _ _ s
      cases m with
      | true => exact q.elim
      | false => exact q A' S' H' .non s.post s.ok .non
    | rt d => exact fun A' S' H' v o' p rr => q A' S' H' v p o' rr
    | bk σ => exact q.elim
    | ct σ => exact q.elim
section
variable {P : Program} {w : World} {K : PySem.W.Frag} {mg : Str → Option Value} {base : Heap}
abbrev XOf (P : Program) (w : World) (K : PySem.W.Frag) (mg : Str → Option Value) (base : Heap) (N : List Str) (qual : Str) (sc : Scope) (f : Addr) (cdv : Value) (A : Around) (outer : List Env) (s : Shared) (H : Hp) (E : XK) : Cx :=
  cxOf (XC P w) P w K mg base N qual sc f cdv A outer s H E
theorem ok_def {x qual : Str} {st : Stmt} {f : Addr} {fd : FuncData} {N ps : List Str} {k : Nat} {m : Bool} {b : DS → M Fl} (F : Fun K x qual st f fd) (Sc : FnScope N ps (defScope st))
    (hbody : ∀ (cdv : Value) (A : Around) (outer : List Env) (s : Shared) (H : Hp) (E : XK) (e0 : En), RoomG k (XOf P w K mg base N qual (defScope st) f cdv A outer s H E).A →
      Passes (XC P w) (XOf P w K mg base N qual (defScope st) f cdv A outer s H E) E → PassesOwn (model P w) (XOf P w K mg base N qual (defScope st) f cdv A outer s H E).A (XOf P w K mg base N qual (defScope st) f cdv A outer s H E).env (XOf P w K mg base N qual (defScope st) f cdv A outer s H E).xe →
      DSs (XOf P w K mg base N qual (defScope st) f cdv A outer s H E) E m e0 (defBody st) b) :
    FnD P w K mg base (XC P w) (k + 1) f fd ps m (runD N.length m b) := by
  refine fnG F Sc (fun vs H Q E h => h.1) (fun cdv A outer s H vs Q E hr h => ?_)
  obtain ⟨hl, A0, S, g, ds, o, r, q⟩ := h
  have tk : Takes (XOf P w K mg base N qual (defScope st) f cdv A outer s H E) (fun cls d _ H => E cls d H) := takes_of rfl rfl rfl rfl
  exact ⟨_, hbody cdv A outer s H E ⟨A0, S, H⟩ hr (passes_call tk fun _ _ _ _ h => h) PassesOwn.leaving, run_read o r q⟩
end
theorem passD {X : Cx} : Passes (XC X.prog X.w) X E0 := passL
end NS
namespace NS
open PySem PySem.Spec PyProof.Rows L2

mutual
def D.py : D → PyData
  | .non => .none | .bl b => .bool b | .int i => .int i | .str x => .str x
  | .tup xs => .tuple (D.pys xs) | .lst xs => .list (D.pys xs) | .slst xs => .list (D.pys xs)
  | .dT _ => .none | .dK _ => .none | .hdl _ => .none | .ftup xs => .tuple (D.pys xs) | .fT _ => .none | .exc0 _ => .none | .exc1 _ _ _ => .none
def D.pys : List D → List PyData
  | [] => []
  | x :: xs => D.py x :: D.pys xs
end
mutual
def D.pyOk : D → Bool
  | .non => true | .bl _ => true | .int _ => true | .str _ => true
  | .tup xs => D.pysOk xs | .lst xs => D.pysOk xs | .slst xs => D.pysOk xs
  | .dT _ => false | .dK _ => false | .hdl _ => false | .ftup xs => D.pysOk xs | .fT _ => false | .exc0 _ => false | .exc1 _ _ _ => false
def D.pysOk : List D → Bool
  | [] => true
  | x :: xs => D.pyOk x && D.pysOk xs
end
section
variable {K : PySem.W.Frag} {A : List GAdr} {S H : Hp}
mutual
theorem Rep.dp (e : Same S H) : ∀ {v : V} {d : D}, Rep K A S v d → D.pyOk d = true → Dp K H v (D.py d)
  | _, _, .non, _ => .non
  | _, _, .bl b, _ => .bl b
  | _, _, .int i, _ => .int i
  | _, _, .str x, _ => .str x
  | _, _, .tup h r, p => .tup (tq e h) (RepL.dp e r p)
  | _, _, .ftup h r, p => .tup (h.sq e) (RepL.dp e r p)
  | _, _, .lst h r, p => .lst (.inl (.inl (e _ _ h))) (RepL.dp e r p)
  | _, _, .slst h r, p => .lst (SqL.mono e h) (RepL.dp e r p)
  | _, _, .dT _ _, p => nomatch p
  | _, _, .dK _ _, p => nomatch p
  | _, _, .hdl _, p => nomatch p
  | _, _, .fT _ _, p => nomatch p
  | _, _, .exc0 _ _, p => nomatch p
  | _, _, .exc1 _ _ _ _, p => nomatch p
theorem RepL.dp (e : Same S H) : ∀ {vs : List V} {ds : List D}, RepL K A S vs ds → D.pysOk ds = true → DpAll K H vs (D.pys ds)
  | _, _, .nil, _ => .nil
  | _, _, .cons h r, p => .cons (Rep.dp e h (Bool.and_eq_true_iff.mp p).1) (RepL.dp e r (Bool.and_eq_true_iff.mp p).2)
end
theorem Rep.sq (o : Same S H) {a : Addr} {xs : List D} (r : Rep K A S (.ref a) (.lst xs)) : ∃ vs, H a = some (.lst vs) ∧ RepL K A S vs xs := by
  cases r with | lst h r => exact ⟨_, o _ _ h, r⟩
end
def kEq (x y : D) : M D := if D.pyOk x = true ∧ D.pyOk y = true ∧ SeqAt.shaped (D.py x) = true ∧ SeqAt.shaped (D.py y) = true then M.pure (.bl (PyData.eqv (D.py x) (D.py y))) else M.bad
def kNe (x y : D) : M D := if D.pyOk x = true ∧ D.pyOk y = true ∧ SeqAt.shaped (D.py x) = true ∧ SeqAt.shaped (D.py y) = true then M.pure (.bl (!PyData.eqv (D.py x) (D.py y))) else M.bad
section
variable {X : Cx} {E : XK} {m : Bool}
theorem op_eqDD (hu : X.A.units + 64 < cLine) : OpD X E (compareOp .Eq) false kEq := OpR.imp (op_eqD hu) fun x y H Q ⟨A, S, g, dx, dy, o, r1, r2, q⟩ => by
  unfold kEq at q
  by_cases c : D.pyOk dx = true ∧ D.pyOk dy = true ∧ SeqAt.shaped (D.py dx) = true ∧ SeqAt.shaped (D.py dy) = true
  · rw [if_pos c] at q
    exact ⟨_, _, r1.dp o.ext c.1, r2.dp o.ext c.2.1, c.2.2.1, c.2.2.2, KE.val q o (.bl _)⟩
  · rw [if_neg c] at q; exact q.elim
theorem op_neDD (hu : X.A.units + 64 < cLine) : OpD X E (compareOp .NotEq) false kNe := OpR.imp (op_neD hu) fun x y H Q ⟨A, S, g, dx, dy, o, r1, r2, q⟩ => by
  unfold kNe at q
  by_cases c : D.pyOk dx = true ∧ D.pyOk dy = true ∧ SeqAt.shaped (D.py dx) = true ∧ SeqAt.shaped (D.py dy) = true
  · rw [if_pos c] at q
    exact ⟨_, _, r1.dp o.ext c.1, r2.dp o.ext c.2.1, c.2.2.1, c.2.2.2, KE.val q o (.bl _)⟩
  · rw [if_neg c] at q; exact q.elim
def kII (f : Int → Int → Option D) : D → D → M D
  | .int i, .int j => M.opt (f i j)
  | _, _ => M.bad
theorem op_II {fn : Value → Value → Sem Value} {r : R2} {f : Int → Int → Option D} (h : OpR X fn r)
    (hf : ∀ i j d, f i j = some d → ∃ v, (∀ A S, Rep X.K A S v d) ∧ ∀ (H : Hp) (Q : VK), Q v H → r (.int i) (.int j) H Q) : OpD X E fn false (kII f) := OpR.imp h fun x y H Q ⟨A, S, g, dx, dy, o, r1, r2, q⟩ => by
  cases r1 with
  | int i =>
    cases r2 with
    | int j =>
      have q' : KE (Cx.sur X E) false A S H (M.opt (f i j) g) Q := q
      cases e : f i j with
      | none => rw [e] at q'; exact q'.elim
      | some d =>
        rw [e] at q'
        obtain ⟨v, rv, k⟩ := hf i j d e
        exact k H Q (KE.val q' o (rv A S))
    | _ => exact q.elim
  | _ => cases r2 <;> exact q.elim
theorem op_int (f : Int → Int → Int) {fn : Value → Value → Sem Value} (h : OpR X fn (rI0 fun i j => .int (f i j))) : OpD X E fn false (kII fun i j => some (.int (f i j))) :=
  op_II h fun i j d e => by cases e; exact ⟨_, fun _ _ => .int _, fun H Q q => ⟨i, j, rfl, rfl, q⟩⟩
theorem op_cond (C : Int → Int → Prop) [∀ i j, Decidable (C i j)] (f : Int → Int → Int) {C' : Int → Int → Prop} (hc : ∀ i j, C i j → C' i j) {fn : Value → Value → Sem Value} (h : OpR X fn (rI C' fun i j => .int (f i j))) :
    OpD X E fn false (kII fun i j => if C i j then some (.int (f i j)) else none) :=
  op_II h fun i j d e => by
    by_cases c : C i j
    · rw [if_pos c] at e; cases e; exact ⟨_, fun _ _ => .int _, fun H Q q => ⟨i, j, rfl, rfl, hc i j c, q⟩⟩
    · rw [if_neg c] at e; cases e
theorem op_bool (f : Int → Int → Bool) {fn : Value → Value → Sem Value} (h : OpR X fn (rI0 fun i j => .bl (f i j))) : OpD X E fn false (kII fun i j => some (.bl (f i j))) :=
  op_II h fun i j d e => by cases e; exact ⟨_, fun _ _ => .bl _, fun H Q q => ⟨i, j, rfl, rfl, q⟩⟩
def sm (i : Int) : Bool := decide (-(2 ^ 64) < i) && decide (i < 2 ^ 64)
abbrev kSub := kII fun i j => some (.int (i - j))
abbrev kFdiv := kII fun i j => if 0 < j ∧ j < 1073741824 then some (.int (i / j)) else none
abbrev kMod := kII fun i j => if 0 < j then some (.int (i % j)) else none
abbrev kPow := kII fun i j => if 0 ≤ j ∧ j ≤ 1000000 ∧ i.natAbs < 2 ^ 64 then some (.int (i ^ j.toNat)) else none
theorem op_subD : OpD X E (binaryOp .Sub) false kSub := op_int (fun i j => i - j) op_sub
theorem op_fdivD : OpD X E (binaryOp .FloorDiv) false kFdiv := op_cond (fun i j => 0 < j ∧ j < 1073741824) (fun i j => i / j) (fun _ _ h => h) op_fdiv
theorem op_modD : OpD X E (binaryOp .Mod) false kMod := op_cond (fun i j => 0 < j) (fun i j => i % j) (fun _ _ h => h) op_mod
theorem op_powD : OpD X E (binaryOp .Pow) false kPow := op_cond (fun i j => 0 ≤ j ∧ j ≤ 1000000 ∧ i.natAbs < 2 ^ 64) (fun i j => i ^ j.toNat) (fun _ _ h => h) op_pow
def D.ints : List D → Option (List Int)
  | [] => some []
  | .int i :: r => (D.ints r).map (i :: ·)
  | _ => none
theorem ints_rep {K : PySem.W.Frag} {A : List GAdr} {S : Hp} : ∀ {vs : List V} {ds : List D} {ns : List Int}, RepL K A S vs ds → D.ints ds = some ns → vs = ns.map V.int
  | _, _, _, .nil, e => by cases e; rfl
  | _, _, _, .cons h r, e => by
    cases h with
    | int i =>
      unfold D.ints at e
      cases ei : D.ints _ with
      | none => rw [ei] at e; cases e
      | some ms => rw [ei] at e; cases e; rw [ints_rep r ei]; rfl
    | _ => cases e
def kLt : D → D → M D
  | .int i, .int j => M.pure (.bl (decide (i < j)))
  | .tup a, .tup b => (match D.ints a, D.ints b with
    | some ns, some ms => M.pure (.bl (HT.lexLt ns ms))
    | _, _ => M.bad)
  | _, _ => M.bad
theorem op_ltD (hu : X.A.units < cLine) : OpD X E (compareOp .Lt) false kLt := OpR.imp (OpR.or op_lt (op_ltT hu)) fun x y H Q ⟨A, S, g, dx, dy, o, r1, r2, q⟩ => by
  cases r1 with
  | int i =>
    cases r2 with
    | int j => exact .inl ⟨_, _, rfl, rfl, KE.val q o (.bl _)⟩
    | _ => exact q.elim
  | @tup a xs ds h1 r1 =>
    cases r2 with
    | @tup b ys es h2 r2 =>
      have q' : KE (Cx.sur X E) false A S H ((match D.ints ds, D.ints es with | some ns, some ms => M.pure (.bl (HT.lexLt ns ms)) | _, _ => M.bad : M D) g) Q := q
      cases e1 : D.ints ds with
      | none => rw [e1] at q'; exact q'.elim
      | some ns =>
        cases e2 : D.ints es with
        | none => rw [e1, e2] at q'; exact q'.elim
        | some ms =>
          rw [e1, e2] at q'
          have z1 := ints_rep r1 e1
          have z2 := ints_rep r2 e2
          subst z1 z2
          exact .inr ⟨a, b, ns, ms, rfl, rfl, tq o.ext h1, tq o.ext h2, KE.val q' o (.bl _)⟩
    | _ => exact q.elim
  | _ => cases r2 <;> exact q.elim
abbrev kLe := kII fun i j => some (.bl (decide (i ≤ j)))
abbrev kGt := kII fun i j => some (.bl (decide (j < i)))
abbrev kGe := kII fun i j => some (.bl (decide (j ≤ i)))
theorem op_leD : OpD X E (compareOp .LtE) false kLe := op_bool (fun i j => decide (i ≤ j)) op_le
theorem op_gtD : OpD X E (compareOp .Gt) false kGt := op_bool (fun i j => decide (j < i)) op_gt
theorem op_geD : OpD X E (compareOp .GtE) false kGe := op_bool (fun i j => decide (j ≤ i)) op_ge
def kAdd : D → D → M D
  | .int i, .int j => M.pure (.int (i + j))
  | .str a, .str b => if fit (a.length + b.length) = true then M.pure (.str (a ++ b)) else M.bad
  | .lst a, .lst b => if fit (a.length + b.length) = true then M.pure (.lst (a ++ b)) else M.bad
  | .tup a, .tup b => if fit (a.length + b.length) = true then M.pure (.tup (a ++ b)) else M.bad
  | _, _ => M.bad
def kCat : D → D → M D
  | .lst a, .lst b => if fit (a.length + b.length) = true then M.pure (.lst (a ++ b)) else M.bad
  | _, _ => M.bad
theorem cat_rd {U : Sur} {A : List GAdr} {S H : Hp} {g : G} {a b : Addr} {xs ys : List V} {ds es : List D} {Q : VK} (o : Ok U.K A S H g) (h1 : S a = some (.lst xs)) (r1 : RepL U.K A S xs ds) (h2 : S b = some (.lst ys)) (r2 : RepL U.K A S ys es)
    (q : KE U m A S H ((if fit (ds.length + es.length) = true then M.pure (.lst (ds ++ es)) else M.bad : M D) g) Q) : rCat (.ref a) (.ref b) H Q := by
  by_cases hf : fit (ds.length + es.length) = true
  · rw [if_pos hf] at q
    exact ⟨a, b, xs, ys, rfl, rfl, o.ext _ _ h1, o.ext _ _ h2, by rw [r1.length, r2.length]; exact Nat.le_of_lt (fit_le hf), fun p hp => KE.newL q o (r1.append r2) hp⟩
  · rw [if_neg hf] at q; exact q.elim
theorem op_catD : OpD X E (binaryOp .Add) m kCat := OpR.imp op_cat fun x y H Q ⟨A, S, g, dx, dy, o, r1, r2, q⟩ => by
  cases r1 with
  | lst h1 r1 =>
    cases r2 with
    | lst h2 r2 => exact cat_rd o h1 r1 h2 r2 q
    | _ => exact q.elim
  | _ => cases r2 <;> exact q.elim
theorem op_addD : OpD X E (binaryOp .Add) false kAdd := OpR.imp (OpR.or op_add (OpR.or op_add_str (OpR.or op_cat op_catA))) fun x y H Q ⟨A, S, g, dx, dy, o, r1, r2, q⟩ => by
  cases r1 with
  | int i =>
    cases r2 with
    | int j => exact .inl ⟨_, _, rfl, rfl, KE.val q o (.int _)⟩
    | _ => exact q.elim
  | str a =>
    cases r2 with
    | str b =>
      have q' : KE (Cx.sur X E) false A S H ((if fit (a.length + b.length) = true then M.pure (.str (a ++ b)) else M.bad : M D) g) Q := q
      by_cases hf : fit (a.length + b.length) = true
      · rw [if_pos hf] at q'
        exact .inr (.inl ⟨_, _, rfl, rfl, Nat.le_of_lt (fit_le hf), KE.val q' o (.str _)⟩)
      · rw [if_neg hf] at q'; exact q'.elim
    | _ => exact q.elim
  | lst h1 r1 =>
    cases r2 with
    | lst h2 r2 => exact .inr (.inr (.inl (cat_rd (m := false) o h1 r1 h2 r2 q)))
    | _ => exact q.elim
  | @tup a xs ds h1 r1 =>
    cases r2 with
    | @tup b ys es h2 r2 =>
      have q' : KE (Cx.sur X E) false A S H ((if fit (ds.length + es.length) = true then M.pure (.tup (ds ++ es)) else M.bad : M D) g) Q := q
      by_cases hf : fit (ds.length + es.length) = true
      · rw [if_pos hf] at q'
        refine .inr (.inr (.inr ⟨a, b, xs, ys, rfl, rfl, tq o.ext h1, tq o.ext h2, by rw [r1.length, r2.length]; exact Nat.le_of_lt (fit_le hf), fun e => ?_, fun _ e => ?_, fun _ _ p hp => KE.newT q' o (r1.append r2) hp⟩))
        · subst e
          cases r1
          exact KE.val q' o (.tup h2 r2)
        · subst e
          cases r2
          rw [List.append_nil] at q'
          exact KE.val q' o (.tup h1 r1)
      · rw [if_neg hf] at q'; exact q'.elim
    | _ => exact q.elim
  | _ => cases r2 <;> exact q.elim
def kAddI := kII fun i j => some (.int (i + j))
theorem iop_addD : OpD X E (inplaceOp .Add) false kAddI := op_int (fun i j => i + j) iop_add
def mulI (i j : Int) : Option D := if (sm i || sm j) = true then some (.int (i * j)) else none
theorem sm_iff {i : Int} : sm i = true ↔ -(2 ^ 64) < i ∧ i < 2 ^ 64 := by simp [sm]
section
variable {X : Cx}
theorem ns_tuple_mul1 (l : Addr) (items : Array Value) (n : Nat) (dd : Option Addr) (sl : Array (Option Value)) (u : Tok) :
    Meets (Builtin.«tuple.__mul__» ⟨[.ref l, .int 1 u], []⟩) (fun _ R s => s.heap.get? l = some { cls := .type "tuple", dict := dd, data := .seq items n, slots := sl } ∧ R (.ok (.ret (Value.ref l))) s) :=
  .of_wp fun prog w A R s h => by
    obtain ⟨hp, g, d, tk, os⟩ := s
    obtain ⟨hl, h⟩ := h
    have f1 := AutoSeq1.idx_int
    wp_walk using wpAny_loadPart' hl
    exact ⟨_, rfl, h⟩
def rRep1 (K : PySem.W.Frag) : R2 := fun x y H Q => ∃ l xs, x = .ref l ∧ y = .int 1 ∧ SqT K H l xs ∧ Q (.ref l) H
theorem op_rep1 : OpR X (binaryOp .Mult) (rRep1 X.K) := by
  intro pins s σ H x y v u Q I rx ry h
  obtain ⟨l, xs, rfl, rfl, hT, q⟩ := h
  cases rx
  obtain ⟨t, rfl⟩ := ry
  obtain ⟨its, r, ⟨⟨cls, dd, data, sl⟩, ho, hc, n, hd⟩, hs⟩ := I.tuple hT
  simp only at hc hd
  subst hc hd
  refine wpAny_binaryOp_repeat_ref (T := "tuple") (U := "int") (by decide) ⟨_, ho, rfl⟩ (fun s' => typeIs_int s' 1 t) noFill_tuple_mul F.fills_int_mul F.slot_int_rmul repeat_tuple F.slot_int_index.lookup
    (call_meets F.slot_int_rmul (typeIs_int s 1 t) F.entry_int_rmul (F.args_int_rmul_2 _ _) (int_rmul_tuple 1 t l its.toArray n dd sl)
      ⟨ho, rfl, ⟨_, ho, rfl⟩, call_meets F.slot_tuple_mul ⟨_, ho, rfl⟩ F.entry_tuple_mul (F.args_tuple_mul_2 _ _) (ns_tuple_mul1 l its.toArray n dd sl t) ⟨ho, ?_⟩⟩)
  exact ⟨.ref l, H, I, rfl, q⟩
end
def kMul : D → D → M D
  | .int i, .int j => M.opt (mulI i j)
  | .lst a, .int k => if 0 ≤ k ∧ k ≤ 1000 ∧ a.length ≤ 1000 then M.pure (.lst (List.replicate k.toNat a).flatten) else M.bad
  | .tup a, .int k => if k = 1 then M.pure (.tup a) else if 2 ≤ k ∧ k ≤ 1000 ∧ a.length ≤ 1000 ∧ a ≠ [] then M.pure (.tup (List.replicate k.toNat a).flatten) else M.bad
  | _, _ => M.bad
def kRep : D → D → M D
  | .lst a, .int k => if 0 ≤ k ∧ k ≤ 1000 ∧ a.length ≤ 1000 then M.pure (.lst (List.replicate k.toNat a).flatten) else M.bad
  | _, _ => M.bad
theorem rep_rd {U : Sur} {A : List GAdr} {S H : Hp} {g : G} {a : Addr} {k : Int} {xs : List V} {ds : List D} {Q : VK} (o : Ok U.K A S H g) (h1 : S a = some (.lst xs)) (r1 : RepL U.K A S xs ds)
    (q : KE U m A S H ((if 0 ≤ k ∧ k ≤ 1000 ∧ ds.length ≤ 1000 then M.pure (.lst (List.replicate k.toNat ds).flatten) else M.bad : M D) g) Q) : rRep (.ref a) (.int k) H Q := by
  by_cases c : 0 ≤ k ∧ k ≤ 1000 ∧ ds.length ≤ 1000
  · rw [if_pos c] at q
    refine ⟨a, k, xs, rfl, rfl, o.ext _ _ h1, by omega, by omega, ?_, fun p hp => KE.newL q o (r1.rep _) hp⟩
    rw [r1.length, sizeLine_eq]
    calc ds.length * k.toNat ≤ 1000 * 1000 := Nat.mul_le_mul c.2.2 (by omega)
      _ ≤ 16777216 := by decide
  · rw [if_neg c] at q; exact q.elim
theorem op_repD : OpD X E (binaryOp .Mult) m kRep := OpR.imp op_rep fun x y H Q ⟨A, S, g, dx, dy, o, r1, r2, q⟩ => by
  cases r1 with
  | lst h1 r1 =>
    cases r2 with
    | int k => exact rep_rd o h1 r1 q
    | _ => exact q.elim
  | _ => cases r2 <;> exact q.elim
theorem op_mulD : OpD X E (binaryOp .Mult) false kMul := OpR.imp (OpR.or op_mul (OpR.or op_rep (OpR.or op_repT op_rep1))) fun x y H Q ⟨A, S, g, dx, dy, o, r1, r2, q⟩ => by
  cases r1 with
  | int i =>
    cases r2 with
    | int j =>
      have q' : KE (Cx.sur X E) false A S H (M.opt (mulI i j) g) Q := q
      unfold mulI at q'
      by_cases c : (sm i || sm j) = true
      · rw [if_pos c] at q'
        refine .inl ⟨_, _, rfl, rfl, ?_, KE.val q' o (.int _)⟩
        rcases Bool.or_eq_true_iff.mp c with c | c
        · exact .inl (sm_iff.mp c)
        · exact .inr (sm_iff.mp c)
      · rw [if_neg c] at q'; exact q'.elim
    | _ => exact q.elim
  | lst h1 r1 =>
    cases r2 with
    | int k => exact .inr (.inl (rep_rd (m := false) o h1 r1 q))
    | _ => exact q.elim
  | @tup a xs ds h1 r1 =>
    cases r2 with
    | int k =>
      have q0 : KE (Cx.sur X E) false A S H ((if k = 1 then M.pure (.tup ds) else if 2 ≤ k ∧ k ≤ 1000 ∧ ds.length ≤ 1000 ∧ ds ≠ [] then M.pure (.tup (List.replicate k.toNat ds).flatten) else M.bad : M D) g) Q := q
      by_cases c1 : k = 1
      · subst c1
        rw [if_pos rfl] at q0
        exact .inr (.inr (.inr ⟨a, xs, rfl, rfl, tq o.ext h1, KE.val q0 o (.tup h1 r1)⟩))
      rw [if_neg c1] at q0
      have q' : KE (Cx.sur X E) false A S H ((if 2 ≤ k ∧ k ≤ 1000 ∧ ds.length ≤ 1000 ∧ ds ≠ [] then M.pure (.tup (List.replicate k.toNat ds).flatten) else M.bad : M D) g) Q := q0
      by_cases c : 2 ≤ k ∧ k ≤ 1000 ∧ ds.length ≤ 1000 ∧ ds ≠ []
      · rw [if_pos c] at q'
        refine .inr (.inr (.inl ⟨a, k, xs, rfl, rfl, tq o.ext h1, fun e => ?_, c.1, c.2.1, by rw [r1.length]; exact c.2.2.1, fun p hp => KE.newT q' o (r1.rep _) hp⟩))
        subst e
        cases r1
        exact c.2.2.2 rfl
      · rw [if_neg c] at q'; exact q'.elim
    | _ => exact q.elim
  | _ => cases r2 <;> exact q.elim
def D.isN : D → Bool
  | .non => true
  | _ => false
def kIs : D → D → M D
  | x, .non => M.pure (.bl (D.isN x))
  | .bl a, .bl b => M.pure (.bl (decide (a = b)))
  | _, _ => M.bad
def kIsNot : D → D → M D
  | x, .non => M.pure (.bl (!D.isN x))
  | .bl a, .bl b => M.pure (.bl (!decide (a = b)))
  | _, _ => M.bad
theorem isN_dec {K : PySem.W.Frag} {A : List GAdr} {S : Hp} {v : V} {d : D} (r : Rep K A S v d) : decide (v = .non) = D.isN d := by cases r <;> rfl
theorem op_isD : OpD X E (compareOp .Is) false kIs := OpR.imp (OpR.or op_isN op_isBl) fun x y H Q ⟨A, S, g, dx, dy, o, r1, r2, q⟩ => by
  cases r2 with
  | non => exact .inl ⟨rfl, by rw [isN_dec r1]; exact KE.val (by cases r1 <;> exact q) o (.bl _)⟩
  | bl b =>
    cases r1 with
    | bl a => exact .inr ⟨a, b, rfl, rfl, KE.val q o (.bl _)⟩
    | _ => exact q.elim
  | _ => cases r1 <;> exact q.elim
theorem op_isnotD : OpD X E (compareOp .IsNot) false kIsNot := OpR.imp (OpR.or op_notN op_notBl) fun x y H Q ⟨A, S, g, dx, dy, o, r1, r2, q⟩ => by
  cases r2 with
  | non => exact .inl ⟨rfl, by rw [isN_dec r1]; exact KE.val (by cases r1 <;> exact q) o (.bl _)⟩
  | bl b =>
    cases r1 with
    | bl a => exact .inr ⟨a, b, rfl, rfl, KE.val q o (.bl _)⟩
    | _ => exact q.elim
  | _ => cases r1 <;> exact q.elim
end
end NS
namespace NS
open PySem PySem.Spec PyProof.Rows L2
section
variable {X : Cx} {E : XK} {m : Bool} {pos : Pos} {a b e : Expr} {fa fb fe : DS → M D}
theorem RepL.atI {K : PySem.W.Frag} {A : List GAdr} {S : Hp} {vs : List V} {ds : List D} {i : Int} {d : D} (r : RepL K A S vs ds) (h : L2.atI ds i = some d) : ∃ v, L2.atI vs i = some v ∧ Rep K A S v d := by
  unfold L2.atI at h ⊢
  rw [r.length]
  cases e : ixN ds.length i with
  | none => rw [e] at h; cases h
  | some j =>
    rw [e] at h
    obtain ⟨v, e1, e2⟩ := r.getD (i := j) h
    exact ⟨v, e1, e2⟩
def cellIx (c : GCell) (i : Int) : Option D := match c with
  | .src x y z => L2.atI [D.int x, D.int y, D.int z] i
  | _ => none
def kIx : D → D → M D
  | .lst xs, .int i => M.opt (L2.atI xs i)
  | .slst xs, .int i => M.opt (L2.atI xs i)
  | .tup xs, .int i => M.opt (L2.atI xs i)
  | .ftup xs, .int i => M.opt (L2.atI xs i)
  | .str z, .int i => if fit z.length = true then M.opt ((L2.atI z.cps.toList i).map fun c => .str ⟨#[c]⟩) else M.bad
  | .hdl h, .int i => fun g => M.opt (match g[h]? with | some c => cellIx c i | none => none) g
  | _, _ => M.bad
theorem opt_ok {U : Sur} {A : List GAdr} {S H : Hp} {g : G} {Q : VK} {o : Option D} (q : KE U m A S H (M.opt o g) Q) : ∃ d, o = some d ∧ KE U m A S H (.ok d g) Q := by
  cases o with
  | none => exact q.elim
  | some d => exact ⟨d, rfl, q⟩
theorem ix_rd {K : PySem.W.Frag} {U : Sur} (hK : U.K = K) : ∀ x y H Q, rD U false kIx x y H Q → rIx K x y H Q := by
  subst hK
  intro x y H Q ⟨A, S, g, dx, dy, o, r1, r2, q⟩
  cases r1 with
  | @lst p xs ds h r =>
    cases r2 with
    | int i =>
      obtain ⟨d, e1, q⟩ := opt_ok (o := L2.atI ds i) q
      obtain ⟨v, e2, rv⟩ := r.atI e1
      exact .inl ⟨p, xs, i, v, rfl, rfl, .inl (.inl (o.ext _ _ h)), e2, KE.val q o rv⟩
    | _ => exact q.elim
  | @slst p xs ds h r =>
    cases r2 with
    | int i =>
      obtain ⟨d, e1, q⟩ := opt_ok (o := L2.atI ds i) q
      obtain ⟨v, e2, rv⟩ := r.atI e1
      exact .inl ⟨p, xs, i, v, rfl, rfl, SqL.mono o.ext h, e2, KE.val q o rv⟩
    | _ => exact q.elim
  | @tup p xs ds h r =>
    cases r2 with
    | int i =>
      obtain ⟨d, e1, q⟩ := opt_ok (o := L2.atI ds i) q
      obtain ⟨v, e2, rv⟩ := r.atI e1
      exact .inr (.inl ⟨p, xs, i, v, rfl, rfl, tq o.ext h, e2, KE.val q o rv⟩)
    | _ => exact q.elim
  | @ftup p xs ds h r =>
    cases r2 with
    | int i =>
      obtain ⟨d, e1, q⟩ := opt_ok (o := L2.atI ds i) q
      obtain ⟨v, e2, rv⟩ := r.atI e1
      exact .inr (.inl ⟨p, xs, i, v, rfl, rfl, h.sq o.ext, e2, KE.val q o rv⟩)
    | _ => exact q.elim
  | str z =>
    cases r2 with
    | int i =>
      have q' : KE U false A S H ((if fit z.length = true then M.opt ((L2.atI z.cps.toList i).map fun c => D.str ⟨#[c]⟩) else M.bad : M D) g) Q := q
      by_cases hf : fit z.length = true
      · rw [if_pos hf] at q'
        obtain ⟨d, e1, q⟩ := opt_ok q'
        cases e2 : L2.atI z.cps.toList i with
        | none => rw [e2] at e1; cases e1
        | some c =>
          rw [e2] at e1; cases e1
          exact .inr (.inr ⟨z, i, c, rfl, rfl, Nat.le_of_lt (fit_le hf), e2, KE.val q o (.str _)⟩)
      · rw [if_neg hf] at q'; exact q'.elim
    | _ => exact q.elim
  | @hdl k ga hk =>
    cases r2 with
    | int i =>
      have q' : KE U false A S H (M.opt (match g[k]? with | some c => cellIx c i | none => none) g) Q := q
      obtain ⟨d, e1, q⟩ := opt_ok q'
      cases e2 : g[k]? with
      | none => rw [e2] at e1; cases e1
      | some c =>
        rw [e2] at e1
        have cl := o.cel k ga c hk e2
        cases c with
        | sto _ _ => cases e1
        | tab _ => cases e1
        | src x y z =>
          cases ga with
          | sto _ _ _ _ _ => exact cl.elim
          | tab _ => exact cl.elim
          | src p =>
            have e1' : L2.atI [D.int x, D.int y, D.int z] i = some d := e1
            have rr : RepL U.K A S [.int x, .int y, .int z] [D.int x, D.int y, D.int z] := .cons (.int _) (.cons (.int _) (.cons (.int _) .nil))
            obtain ⟨v, e3, rv⟩ := rr.atI e1'
            exact .inl ⟨p, _, i, v, rfl, rfl, .inl (.inl cl), e3, KE.val q o rv⟩
    | _ => exact q.elim
  | _ => cases r2 <;> exact q.elim
theorem de_ix (ha : DE X E false a fa) (hb : DE X E false b fb) (hs : PlainIx b := by exact fun _ _ => rfl) : DE X E false (.Subscript a b pos) (eBin kIx fa fb) :=
  PE.impD (pe_ix ix_seq ha hb hs) fun σ H Q h => by
    have := bin_read h
    obtain ⟨A, S, g, σd, o, r, q⟩ := this
    exact ⟨A, S, g, σd, o, r, q.imp fun v H1 ⟨A1, S1, g1, σd1, o1, r1, q1⟩ => ⟨A1, S1, g1, σd1, o1, r1, q1.imp fun u H2 q2 => ix_rd rfl _ _ _ _ q2⟩⟩
def cutD (xs : List D) (lo hi : Option Int) : List D := (xs.drop (HT.sIx xs.length 0 lo)).take (HT.sIx xs.length xs.length hi - HT.sIx xs.length 0 lo)
def kSl (lo hi : Option Int) : D → M D
  | .lst xs => M.pure (.lst (cutD xs lo hi))
  | .tup xs => M.pure (.tup (cutD xs lo hi))
  | .ftup xs => if HT.sIx xs.length 0 lo = 0 ∧ HT.sIx xs.length xs.length hi = xs.length then M.pure (.ftup xs) else M.pure (.tup (cutD xs lo hi))
  | .str z => if fit z.length = true then M.pure (.str (cutS z lo hi)) else M.bad
  | _ => M.bad
def kSlL (lo hi : Option Int) : D → M D
  | .lst xs => M.pure (.lst (cutD xs lo hi))
  | _ => M.bad
abbrev FO := DS → M (Option Int)
def KO (U : Sur) (A : List GAdr) (S H : Hp) (r : Res (Option Int)) (Q : Option Int → Hp → Prop) : Prop :=
  match r with
  | .ok b g' => ∀ A' S' H', Post A S H A' S' H' → Ok U.K A' S' H' g' → Q b H'
  | .err x g' => ∀ A' S' H' c dd, Post A S H A' S' H' → Ok U.K A' S' H' g' → XRep U.mg U.K A' S' H' x c dd → U.E c dd H'
  | .bad => False
def tO (U : Sur) (f : FO) : TO := fun σ H Q => ∃ A S g σd, Ok U.K A S H g ∧ SRep U.K A S H σ σd ∧ KO U A S H (f σd g) Q
def DO (X : Cx) (E : XK) (e : Option Expr) (f : FO) : Prop := PO X e (tO (Cx.sur X E) f)
theorem _root_.L2.PO.impD {X : Cx} {e : Option Expr} {t t' : TO} (h : PO X e t) (i : ∀ σ H Q, t' σ H Q → t σ H Q) : PO X e t' := ⟨fun pins s σ H Q I q => h.run pins s σ H Q I (i σ H Q q)⟩
def oNone : FO := fun _ => M.pure none
def oSome (f : DS → M D) : FO := fun σ => M.bind (f σ) fun d => match d with | .int i => M.pure (some i) | _ => M.bad
theorem do_none : DO X E none oNone := PO.impD po_none fun σ H Q ⟨A, S, g, σd, o, r, q⟩ => q A S H (Post.refl _ _ _) o
theorem do_some (h : DE X E false e fe) : DO X E (some e) (oSome fe) := PO.impD (po_some h) fun σ H Q ⟨A, S, g, σd, o, r, q⟩ => ⟨A, S, g, σd, o, r, by
  have q' : KO (Cx.sur X E) A S H (M.bind (fe σd) (fun d => match d with | .int i => M.pure (some i) | _ => M.bad) g) Q := q
  cases e1 : fe σd g with
  | err z g' => rw [bind_err e1] at q'; exact q'
  | bad => rw [bind_bad e1] at q'; exact q'
  | ok d g1 =>
    rw [bind_ok e1] at q'
    intro A1 S1 H1 v p1 o1 r1
    cases r1 with
    | int i => exact ⟨i, rfl, q' A1 S1 H1 p1 o1⟩
    | _ => exact q'.elim⟩
def eSl (k : Option Int → Option Int → D → M D) (fe : DS → M D) (fl fh : FO) : DS → M D := fun σ => M.bind (fe σ) fun x => M.bind (fl σ) fun l => M.bind (fh σ) fun h => k l h x
theorem KE.bindO {U : Sur} {A : List GAdr} {S H : Hp} {x : M (Option Int)} {k : Option Int → M D} {g : G} {Q : VK} (h : KE U m A S H (M.bind x k g) Q) :
    KO U A S H (x g) fun b H1 => ∃ A1 S1 g1, Post A S H A1 S1 H1 ∧ Ok U.K A1 S1 H1 g1 ∧ KE U m A1 S1 H1 (k b g1) Q := by
  unfold M.bind at h
  cases e : x g with
  | ok d g1 => rw [e] at h; exact fun A' S' H' p o => ⟨A', S', g1, p, o, h.shift p⟩
  | err e1 g1 => rw [e] at h; exact h
  | bad => rw [e] at h; exact h
theorem KO.imp {U : Sur} {A : List GAdr} {S H : Hp} {r : Res (Option Int)} {Q Q' : Option Int → Hp → Prop} (h : KO U A S H r Q) (i : ∀ v H', Q v H' → Q' v H') : KO U A S H r Q' := by
  cases r with
  | ok d g => exact fun A' S' H' q o => i _ _ (h A' S' H' q o)
  | err x g => exact h
  | bad => exact h
theorem RepL.cut {K : PySem.W.Frag} {A : List GAdr} {S : Hp} {vs : List V} {ds : List D} (r : RepL K A S vs ds) (lo hi : Option Int) : RepL K A S (cutV vs lo hi) (cutD ds lo hi) := by
  unfold cutV cutD
  rw [r.length]
  exact (r.drop _).take _
theorem cutD_whole {xs : List D} {lo hi : Option Int} (h : HT.sIx xs.length 0 lo = 0 ∧ HT.sIx xs.length xs.length hi = xs.length) : cutD xs lo hi = xs := by
  unfold cutD
  rw [h.1, h.2]
  simp
variable {lo hi : Option Expr} {fl fh : FO} {p2 : Pos}
theorem sl_read {U : Sur} {k : Option Int → Option Int → D → M D} {r : V → Option Int → Option Int → Hp → VK → Prop} (hr : ∀ A S H g x dx l h Q, Ok U.K A S H g → Rep U.K A S x dx → KE U m A S H (k l h dx g) Q → r x l h H Q) {σ : L2.St} {H : Hp} {Q : VK}
    (h : tE U m (eSl k fe fl fh) σ H Q) : tSl r (tE U false fe) (tO U fl) (tO U fh) σ H Q := by
  obtain ⟨A, S, g, σd, o, rr, q⟩ := h
  refine ⟨A, S, g, σd, o, rr, (KE.bindE q).imp fun v H1 ⟨A1, S1, g1, d, p1, o1, r1, q1⟩ => ?_⟩
  refine ⟨A1, S1, g1, σd, o1, rr.post p1, (KE.bindO q1).imp fun l H2 ⟨A2, S2, g2, p2, o2, q2⟩ => ?_⟩
  refine ⟨A2, S2, g2, σd, o2, (rr.post p1).post p2, (KE.bindO q2).imp fun l2 H3 ⟨A3, S3, g3, p3, o3, q3⟩ => ?_⟩
  exact hr A3 S3 H3 g3 v d l l2 Q o3 (Rep.mono (p2.trans p3).a (p2.trans p3).s r1) q3
theorem de_sl (he : DE X E false e fe) (hl : DO X E lo fl) (hh : DO X E hi fh) : DE X E false (.Subscript e (.Slice lo hi none p2) pos) (eSl kSl fe fl fh) :=
  PE.impD (pe_slice (SlR.or sl_list (SlR.or sl_tupA sl_str)) he hl hh) fun σ H Q h => sl_read (m := false) (fun A S H g x dx l h Q o r q => by
    cases r with
    | @lst p xs ds h1 r1 => exact .inl ⟨p, xs, rfl, .inl (.inl (o.ext _ _ h1)), fun q0 hq => KE.newL q o (r1.cut l h) hq⟩
    | @tup p xs ds h1 r1 =>
      refine .inr (.inl ⟨p, xs, rfl, tq o.ext h1, fun w => ?_, fun _ q0 hq => KE.newT q o (r1.cut l h) hq⟩)
      have q' : KE (Cx.sur X E) false A S H (.ok (.tup (cutD ds l h)) g) Q := q
      rw [cutD_whole (by rw [← r1.length]; exact w)] at q'
      exact KE.val q' o (.tup h1 r1)
    | @ftup p xs ds h1 r1 =>
      have q' : KE (Cx.sur X E) false A S H ((if HT.sIx ds.length 0 l = 0 ∧ HT.sIx ds.length ds.length h = ds.length then M.pure (.ftup ds) else M.pure (.tup (cutD ds l h)) : M D) g) Q := q
      rw [← r1.length] at q'
      refine .inr (.inl ⟨p, xs, rfl, h1.sq o.ext, fun w => ?_, fun w q0 hq => ?_⟩)
      · rw [if_pos w] at q'
        exact KE.val q' o (.ftup h1 r1)
      · rw [if_neg w] at q'
        exact KE.newT q' o (r1.cut l h) hq
    | str z =>
      have q' : KE (Cx.sur X E) false A S H ((if fit z.length = true then M.pure (.str (cutS z l h)) else M.bad : M D) g) Q := q
      by_cases hf : fit z.length = true
      · rw [if_pos hf] at q'; exact .inr (.inr ⟨z, rfl, Nat.le_of_lt (fit_le hf), KE.val q' o (.str _)⟩)
      · rw [if_neg hf] at q'; exact q'.elim
    | _ => exact q.elim) h
def D.flat : D → Bool
  | .non => true | .bl _ => true | .int _ => true | .str _ => true
  | _ => false
def eqF : D → D → Bool
  | .non, .non => true
  | .bl a, .bl b => a == b
  | .bl a, .int b => (if a then 1 else 0) == b
  | .int a, .bl b => a == (if b then 1 else 0)
  | .int a, .int b => a == b
  | .str a, .str b => a == b
  | _, _ => false
def inF (x : D) (xs : List D) : Bool := xs.any fun y => eqF y x
def kInF (x : D) (xs : List D) : Option Bool := if D.flat x = true ∧ xs.all D.flat = true then some (inF x xs) else none
def kInP (x : D) (xs : List D) : Option Bool := if D.pyOk x = true ∧ D.pysOk xs = true ∧ SeqAt.shaped (D.py x) = true ∧ SeqAt.shaped (.list (D.pys xs)) = true then some ((D.pys xs).any fun z => PyData.eqv z (D.py x)) else none
def sign1 (a : Str) : Option Nat := match a.cps.toList with
  | [c] => some c
  | _ => none
theorem sign1_eq {a : Str} {c : Nat} (h : sign1 a = some c) : a = ⟨#[c]⟩ := by
  unfold sign1 at h
  split at h
  · rename_i d e
    cases h
    cases a with | mk cps => cases cps with | mk l => cases e; rfl
  · cases h
def inD : D → D → Option Bool
  | x, .lst xs => (match kInF x xs with | some b => some b | none => kInP x xs)
  | x, .tup xs => kInF x xs
  | x, .ftup xs => kInF x xs
  | .str a, .str b => (sign1 a).map fun c => decide (c ∈ b.cps.toList)
  | _, _ => none
def kIn (x y : D) : M D := M.opt ((inD x y).map .bl)
def kNotIn (x y : D) : M D := M.opt ((inD x y).map fun b => .bl !b)
theorem flat_of {K : PySem.W.Frag} {A : List GAdr} {S : Hp} {v : V} {d : D} (r : Rep K A S v d) : flatV v = D.flat d := by cases r <;> rfl
theorem eqF_of {K : PySem.W.Frag} {A : List GAdr} {S : Hp} {v w : V} {d c : D} (r : Rep K A S v d) (r2 : Rep K A S w c) (h : D.flat d = true) (h2 : D.flat c = true) : eqV v w = eqF d c := by
  cases r <;> cases r2 <;> first
    | rfl
    | exact absurd h (by decide)
    | exact absurd h2 (by decide)
    | (simp [D.flat] at h; done)
    | (simp [D.flat] at h2; done)
theorem flats_of {K : PySem.W.Frag} {A : List GAdr} {S : Hp} : ∀ {vs : List V} {ds : List D}, RepL K A S vs ds → vs.all flatV = ds.all D.flat
  | _, _, .nil => rfl
  | _, _, .cons h r => by simp only [List.all_cons, flat_of h, flats_of r]
theorem inF_of {K : PySem.W.Frag} {A : List GAdr} {S : Hp} {w : V} {c : D} (r2 : Rep K A S w c) (h2 : D.flat c = true) : ∀ {vs : List V} {ds : List D}, RepL K A S vs ds → ds.all D.flat = true → inV w vs = inF c ds
  | _, _, .nil, _ => rfl
  | _, _, .cons h r, e => by
    simp only [List.all_cons, Bool.and_eq_true] at e
    have := inF_of r2 h2 r e.2
    unfold inV inF at this ⊢
    simp only [List.any_cons, this, eqF_of h r2 e.1 h2]
theorem in_rd {K : PySem.W.Frag} {A : List GAdr} {S H : Hp} (o : Same S H) {x y : V} {dx dy : D} (r1 : Rep K A S x dx) (r2 : Rep K A S y dy) {b : Bool} (h : inD dx dy = some b) :
    (∃ p xs, y = .ref p ∧ (SqL K H p xs ∨ SqT K H p xs) ∧ flatV x = true ∧ xs.all flatV = true ∧ b = inV x xs) ∨
    (∃ d ds, Dp K H x d ∧ Dp K H y (.list ds) ∧ SeqAt.shaped d = true ∧ SeqAt.shaped (.list ds) = true ∧ b = ds.any fun z => PyData.eqv z d) ∨
    (∃ (c : Nat) (z : Str), x = .str ⟨#[c]⟩ ∧ y = .str z ∧ b = decide (c ∈ z.cps.toList)) := by
  have fl : ∀ {xs : List V} {ds : List D}, RepL K A S xs ds → kInF dx ds = some b → flatV x = true ∧ xs.all flatV = true ∧ b = inV x xs := fun {xs ds} r e => by
    unfold kInF at e
    by_cases c : D.flat dx = true ∧ ds.all D.flat = true
    · rw [if_pos c] at e; cases e
      exact ⟨by rw [flat_of r1]; exact c.1, by rw [flats_of r]; exact c.2, (inF_of r1 c.1 r c.2).symm⟩
    · rw [if_neg c] at e; cases e
  cases r2 with
  | @lst p xs ds h2 r2 =>
    have h' : (match kInF dx ds with | some b => some b | none => kInP dx ds) = some b := by cases r1 <;> exact h
    cases e : kInF dx ds with
    | some b' =>
      rw [e] at h'; cases h'
      exact .inl ⟨p, xs, rfl, .inl (.inl (.inl (o _ _ h2))), fl r2 e⟩
    | none =>
      rw [e] at h'
      have h2' : kInP dx ds = some b := h'
      unfold kInP at h2'
      by_cases c : D.pyOk dx = true ∧ D.pysOk ds = true ∧ SeqAt.shaped (D.py dx) = true ∧ SeqAt.shaped (.list (D.pys ds)) = true
      · rw [if_pos c] at h2'; cases h2'
        exact .inr (.inl ⟨_, _, r1.dp o c.1, .lst (.inl (.inl (o _ _ h2))) (r2.dp o c.2.1), c.2.2.1, c.2.2.2, rfl⟩)
      · rw [if_neg c] at h2'; cases h2'
  | @tup p xs ds h2 r2 =>
    have h' : kInF dx ds = some b := by cases r1 <;> exact h
    exact .inl ⟨p, xs, rfl, .inr (tq o h2), fl r2 h'⟩
  | @ftup p xs ds h2 r2 =>
    have h' : kInF dx ds = some b := by cases r1 <;> exact h
    exact .inl ⟨p, xs, rfl, .inr (h2.sq o), fl r2 h'⟩
  | str z =>
    cases r1 with
    | str a =>
      have h' : ((sign1 a).map fun c => decide (c ∈ z.cps.toList)) = some b := h
      cases e : sign1 a with
      | none => rw [e] at h'; cases h'
      | some c =>
        rw [e] at h'; cases h'
        have := sign1_eq e
        subst this
        exact .inr (.inr ⟨c, z, rfl, rfl, rfl⟩)
    | _ => cases h
  | _ => cases r1 <;> cases h
theorem op_inDD (hu : X.A.units + 65 < cLine) : OpD X E (compareOp .In) false kIn := OpR.imp (OpR.or op_in_seq (OpR.or (op_inD hu) op_in_sign)) fun x y H Q ⟨A, S, g, dx, dy, o, r1, r2, q⟩ => by
  obtain ⟨d, e1, q1⟩ := opt_ok (o := (inD dx dy).map D.bl) q
  cases e2 : inD dx dy with
  | none => rw [e2] at e1; cases e1
  | some b =>
    rw [e2] at e1; cases e1
    rcases in_rd o.ext r1 r2 e2 with ⟨p, xs, h1, h2, h3, h4, h5⟩ | ⟨d, ds, h1, h2, h3, h4, h5⟩ | ⟨c, z, h1, h2, h3⟩
    · subst h5; exact .inl ⟨p, xs, h1, h2, h3, h4, KE.val q1 o (.bl _)⟩
    · subst h5; exact .inr (.inl ⟨d, ds, h1, h2, h3, h4, KE.val q1 o (.bl _)⟩)
    · subst h3; exact .inr (.inr ⟨c, z, h1, h2, KE.val q1 o (.bl _)⟩)
theorem op_notInDD (hu : X.A.units + 65 < cLine) : OpD X E (compareOp .NotIn) false kNotIn := OpR.imp (OpR.or op_notIn_seq (OpR.or (op_notInD hu) op_notIn_sign)) fun x y H Q ⟨A, S, g, dx, dy, o, r1, r2, q⟩ => by
  obtain ⟨d, e1, q1⟩ := opt_ok (o := (inD dx dy).map fun b => D.bl !b) q
  cases e2 : inD dx dy with
  | none => rw [e2] at e1; cases e1
  | some b =>
    rw [e2] at e1; cases e1
    rcases in_rd o.ext r1 r2 e2 with ⟨p, xs, h1, h2, h3, h4, h5⟩ | ⟨d, ds, h1, h2, h3, h4, h5⟩ | ⟨c, z, h1, h2, h3⟩
    · subst h5; exact .inl ⟨p, xs, h1, h2, h3, h4, KE.val q1 o (.bl _)⟩
    · subst h5; exact .inr (.inl ⟨d, ds, h1, h2, h3, h4, KE.val q1 o (.bl _)⟩)
    · subst h3; exact .inr (.inr ⟨c, z, h1, h2, KE.val q1 o (.bl _)⟩)
def kAbs : List D → M D
  | [.int i] => M.pure (.int (if i < 0 then -i else i))
  | _ => M.bad
theorem CallR.imp {f : Value} {r r' : List V → Hp → VK → Prop} (h : CallR X f r) (i : ∀ xs H Q, r' xs H Q → r xs H Q) : CallR X f r' := fun pins s σ H xs us Q I rr q => h pins s σ H xs us Q I rr (i xs H Q q)
theorem cl_abs : CallD X E (.builtin "abs") false kAbs := CallR.imp call_abs fun xs H Q ⟨A, S, g, ds, o, r, q⟩ => by
  cases r with
  | cons h r =>
    cases h with
    | int i =>
      cases r with
      | nil => exact ⟨i, rfl, KE.val q o (.int _)⟩
      | _ => exact q.elim
    | _ => cases r <;> exact q.elim
  | _ => exact q.elim
def D.len : D → Option Nat
  | .lst xs => some xs.length | .tup xs => some xs.length | .slst xs => some xs.length | .ftup xs => some xs.length
  | .str z => if fit z.length = true then some z.length else none
  | .hdl _ => none
  | _ => none
def kLen : List D → M D
  | [d] => M.opt ((D.len d).map fun n => .int (n : Int))
  | _ => M.bad
theorem cl_len : CallD X E (.builtin "len") false kLen := CallR.imp (CallR.or call_len_seq call_len_str) fun xs H Q ⟨A, S, g, ds, o, r, q⟩ => by
  cases r with
  | nil => exact q.elim
  | @cons v d vs ds h r =>
    cases r with
    | cons _ _ => exact q.elim
    | nil =>
      obtain ⟨c, e1, q1⟩ := opt_ok (o := (D.len d).map fun n => D.int (n : Int)) q
      cases h with
      | @lst p ws es h r => cases e1; exact .inl ⟨p, ws, rfl, .inl (.inl (.inl (o.ext _ _ h))), by rw [r.length]; exact KE.val q1 o (.int _)⟩
      | @slst p ws es h r => cases e1; exact .inl ⟨p, ws, rfl, .inl (SqL.mono o.ext h), by rw [r.length]; exact KE.val q1 o (.int _)⟩
      | @tup p ws es h r => cases e1; exact .inl ⟨p, ws, rfl, .inr (tq o.ext h), by rw [r.length]; exact KE.val q1 o (.int _)⟩
      | @ftup p ws es h r => cases e1; exact .inl ⟨p, ws, rfl, .inr (h.sq o.ext), by rw [r.length]; exact KE.val q1 o (.int _)⟩
      | str z =>
        have e2 : ((if fit z.length = true then some z.length else none : Option Nat).map fun n => D.int (n : Int)) = some c := e1
        by_cases hf : fit z.length = true
        · rw [if_pos hf] at e2; cases e2
          exact .inr ⟨z, rfl, Nat.le_of_lt (fit_le hf), KE.val q1 o (.int _)⟩
        · rw [if_neg hf] at e2; cases e2
      | _ => cases e1
def kMax2 : List D → M D
  | [.int i, .int j] => M.pure (.int (if j > i then j else i))
  | _ => M.bad
def kMin2 : List D → M D
  | [.int i, .int j] => M.pure (.int (if j < i then j else i))
  | _ => M.bad
theorem rep2 {K : PySem.W.Frag} {A : List GAdr} {S : Hp} {xs : List V} {ds : List D} {i j : Int} (r : RepL K A S xs ds) (e : ds = [.int i, .int j]) : xs = [.int i, .int j] := by
  subst e
  cases r with | cons h r => cases r with | cons h2 r => cases r; cases h; cases h2; rfl
theorem cl_max2 (hc : X.calm = true := by rfl) : CallD X E (.builtin "max") false kMax2 := CallR.imp (call_max2 hc) fun xs H Q ⟨A, S, g, ds, o, r, q⟩ => by
  unfold kMax2 at q
  split at q
  · rename_i i j
    exact ⟨i, j, rep2 r rfl, KE.val q o (.int _)⟩
  · exact q.elim
theorem cl_min2 (hc : X.calm = true := by rfl) : CallD X E (.builtin "min") false kMin2 := CallR.imp (call_min2 hc) fun xs H Q ⟨A, S, g, ds, o, r, q⟩ => by
  unfold kMin2 at q
  split at q
  · rename_i i j
    exact ⟨i, j, rep2 r rfl, KE.val q o (.int _)⟩
  · exact q.elim
theorem rep1 {K : PySem.W.Frag} {A : List GAdr} {S : Hp} {xs : List V} {d : D} (r : RepL K A S xs [d]) : ∃ v, xs = [v] ∧ Rep K A S v d := by
  cases r with | cons h r => cases r; exact ⟨_, rfl, h⟩
def kOfInts (f : List Int → M D) : List D → M D
  | [.lst ds] => (match D.ints ds with | some ns => f ns | none => M.bad)
  | _ => M.bad
theorem ofInts {U : Sur} {f : List Int → M D} {A : List GAdr} {S H : Hp} {g : G} {ds : List D} {xs : List V} {Q : VK} (o : Ok U.K A S H g) (r : RepL U.K A S xs ds) (q : KE U m A S H (kOfInts f ds g) Q) :
    ∃ a ns, xs = [.ref a] ∧ SqL U.K H a (ns.map V.int) ∧ KE U m A S H (f ns g) Q := by
  unfold kOfInts at q
  split at q
  · rename_i ds
    obtain ⟨v, rfl, h⟩ := rep1 r
    cases h with
    | @lst a ws _ h r =>
      cases e : D.ints ds with
      | none => rw [e] at q; exact q.elim
      | some ns =>
        rw [e] at q
        have z := ints_rep r e
        subst z
        exact ⟨a, ns, rfl, .inl (.inl (o.ext _ _ h)), q⟩
  · exact q.elim
def maxI : List Int → Option Int
  | [] => none
  | x :: r => some (r.foldl max x)
def minI : List Int → Option Int
  | [] => none
  | x :: r => some (r.foldl min x)
theorem foldl_max_spec : ∀ (r : List Int) (x : Int), (r.foldl max x = x ∨ r.foldl max x ∈ r) ∧ x ≤ r.foldl max x ∧ ∀ y ∈ r, y ≤ r.foldl max x
  | [], x => ⟨.inl rfl, Int.le_refl _, fun _ h => nomatch h⟩
  | z :: r, x => by
    obtain ⟨h1, h2, h3⟩ := foldl_max_spec r (max x z)
    refine ⟨?_, ?_, fun y hy => ?_⟩
    · rcases h1 with h1 | h1
      · rw [List.foldl_cons, h1]
        rcases Int.le_total x z with e | e
        · rw [Int.max_eq_right e]; exact .inr List.mem_cons_self
        · rw [Int.max_eq_left e]; exact .inl rfl
      · exact .inr (List.mem_cons_of_mem _ h1)
    · exact Int.le_trans (Int.le_max_left _ _) h2
    · rcases List.mem_cons.mp hy with e | e
      · subst e; exact Int.le_trans (Int.le_max_right _ _) h2
      · exact h3 y e
theorem foldl_min_spec : ∀ (r : List Int) (x : Int), (r.foldl min x = x ∨ r.foldl min x ∈ r) ∧ r.foldl min x ≤ x ∧ ∀ y ∈ r, r.foldl min x ≤ y
  | [], x => ⟨.inl rfl, Int.le_refl _, fun _ h => nomatch h⟩
  | z :: r, x => by
    obtain ⟨h1, h2, h3⟩ := foldl_min_spec r (min x z)
    refine ⟨?_, ?_, fun y hy => ?_⟩
    · rcases h1 with h1 | h1
      · rw [List.foldl_cons, h1]
        rcases Int.le_total x z with e | e
        · rw [Int.min_eq_left e]; exact .inl rfl
        · rw [Int.min_eq_right e]; exact .inr List.mem_cons_self
      · exact .inr (List.mem_cons_of_mem _ h1)
    · exact Int.le_trans h2 (Int.min_le_left _ _)
    · rcases List.mem_cons.mp hy with e | e
      · subst e; exact Int.le_trans h2 (Int.min_le_right _ _)
      · exact h3 y e
theorem cl_max (hc : X.calm = true := by rfl) : CallD X E (.builtin "max") false (kOfInts fun ns => M.opt ((maxI ns).map .int)) := CallR.imp (cr_max hc) fun xs H Q ⟨A, S, g, ds, o, r, q⟩ => by
  obtain ⟨a, ns, e, h, q⟩ := ofInts o r q
  cases ns with
  | nil => exact q.elim
  | cons x r =>
    have q' : KE (Cx.sur X E) false A S H (.ok (.int (r.foldl max x)) g) Q := q
    refine ⟨a, x :: r, e, h, Nat.zero_lt_succ _, fun mm hm hle => ?_⟩
    have : mm = r.foldl max x := by
      obtain ⟨h1, h2, h3⟩ := foldl_max_spec r x
      apply Int.le_antisymm
      · rcases List.mem_cons.mp hm with e | e
        · subst e; exact h2
        · exact h3 _ e
      · rcases h1 with h1 | h1
        · rw [h1]; exact hle _ List.mem_cons_self
        · exact hle _ (List.mem_cons_of_mem _ h1)
    subst this
    exact KE.val q' o (.int _)
theorem cl_min (hc : X.calm = true := by rfl) : CallD X E (.builtin "min") false (kOfInts fun ns => M.opt ((minI ns).map .int)) := CallR.imp (cr_min hc) fun xs H Q ⟨A, S, g, ds, o, r, q⟩ => by
  obtain ⟨a, ns, e, h, q⟩ := ofInts o r q
  cases ns with
  | nil => exact q.elim
  | cons x r =>
    have q' : KE (Cx.sur X E) false A S H (.ok (.int (r.foldl min x)) g) Q := q
    refine ⟨a, x :: r, e, h, Nat.zero_lt_succ _, fun mm hm hle => ?_⟩
    have : mm = r.foldl min x := by
      obtain ⟨h1, h2, h3⟩ := foldl_min_spec r x
      apply Int.le_antisymm
      · rcases h1 with h1 | h1
        · rw [h1]; exact hle _ List.mem_cons_self
        · exact hle _ (List.mem_cons_of_mem _ h1)
      · rcases List.mem_cons.mp hm with e | e
        · subst e; exact h2
        · exact h3 _ e
    subst this
    exact KE.val q' o (.int _)
def D.bls : List D → Option (List Bool)
  | [] => some []
  | .bl b :: r => (D.bls r).map (b :: ·)
  | _ => none
theorem bls_rep {K : PySem.W.Frag} {A : List GAdr} {S : Hp} : ∀ {vs : List V} {ds : List D} {ns : List Bool}, RepL K A S vs ds → D.bls ds = some ns → vs = ns.map V.bl
  | _, _, _, .nil, e => by cases e; rfl
  | _, _, _, .cons h r, e => by
    cases h with
    | bl i =>
      unfold D.bls at e
      cases ei : D.bls _ with
      | none => rw [ei] at e; cases e
      | some ms => rw [ei] at e; cases e; rw [bls_rep r ei]; rfl
    | _ => cases e
def kOfBls (f : List Bool → M D) : List D → M D
  | [.lst ds] => (match D.bls ds with | some ns => f ns | none => M.bad)
  | _ => M.bad
theorem ofBls {U : Sur} {f : List Bool → M D} {A : List GAdr} {S H : Hp} {g : G} {ds : List D} {xs : List V} {Q : VK} (o : Ok U.K A S H g) (r : RepL U.K A S xs ds) (q : KE U m A S H (kOfBls f ds g) Q) :
    ∃ a ns, xs = [.ref a] ∧ SqL U.K H a (ns.map V.bl) ∧ KE U m A S H (f ns g) Q := by
  unfold kOfBls at q
  split at q
  · rename_i ds
    obtain ⟨v, rfl, h⟩ := rep1 r
    cases h with
    | @lst a ws _ h r =>
      cases e : D.bls ds with
      | none => rw [e] at q; exact q.elim
      | some ns =>
        rw [e] at q
        have z := bls_rep r e
        subst z
        exact ⟨a, ns, rfl, .inl (.inl (o.ext _ _ h)), q⟩
  · exact q.elim
theorem cl_all (hc : X.calm = true := by rfl) : CallD X E (.builtin "all") false (kOfBls fun bs => M.pure (.bl (bs.all id))) := CallR.imp (cr_all hc) fun xs H Q ⟨A, S, g, ds, o, r, q⟩ => by
  obtain ⟨a, ns, e, h, q⟩ := ofBls o r q
  exact ⟨a, ns, e, h, KE.val q o (.bl _)⟩
def kList : List D → M D
  | [.lst xs] => M.pure (.lst xs)
  | [.tup xs] => M.pure (.lst xs)
  | [.slst xs] => M.pure (.lst xs)
  | _ => M.bad
theorem cl_list : CallD X E (.type "list") m kList := CallR.imp call_list_of fun xs H Q ⟨A, S, g, ds, o, r, q⟩ => by
  unfold kList at q
  split at q
  · obtain ⟨v, rfl, h⟩ := rep1 r
    cases h with
    | @lst a ws _ h r => exact ⟨a, ws, rfl, .inl (.inl (.inl (o.ext _ _ h))), fun l hl => KE.newL q o r hl⟩
  · obtain ⟨v, rfl, h⟩ := rep1 r
    cases h with
    | @tup a ws _ h r => exact ⟨a, ws, rfl, .inr (tq o.ext h), fun l hl => KE.newL q o r hl⟩
  · obtain ⟨v, rfl, h⟩ := rep1 r
    cases h with
    | @slst a ws _ h r => exact ⟨a, ws, rfl, .inl (SqL.mono o.ext h), fun l hl => KE.newL q o r hl⟩
  · exact q.elim
def kTuple : List D → M D
  | [.lst xs] => M.pure (.tup xs)
  | [.tup xs] => M.pure (.tup xs)
  | [.slst xs] => M.pure (.tup xs)
  | _ => M.bad
theorem cl_tuple : CallD X E (.type "tuple") false kTuple := CallR.imp call_tuple_of fun xs H Q ⟨A, S, g, ds, o, r, q⟩ => by
  unfold kTuple at q
  split at q
  · obtain ⟨v, rfl, h⟩ := rep1 r
    cases h with
    | @lst a ws _ h r => exact ⟨a, ws, rfl, .inl ⟨.inl (.inl (o.ext _ _ h)), fun l hl => KE.newT q o r hl⟩⟩
  · obtain ⟨v, rfl, h⟩ := rep1 r
    cases h with
    | @tup a ws _ h r => exact ⟨a, ws, rfl, .inr ⟨tq o.ext h, KE.val q o (.tup h r)⟩⟩
  · obtain ⟨v, rfl, h⟩ := rep1 r
    cases h with
    | @slst a ws _ h r => exact ⟨a, ws, rfl, .inl ⟨SqL.mono o.ext h, fun l hl => KE.newT q o r hl⟩⟩
  · exact q.elim
def kInt : List D → M D
  | [.int i] => M.pure (.int i)
  | [.bl k] => M.pure (.int (if k then 1 else 0))
  | _ => M.bad
theorem cl_int : CallD X E (.type "int") false kInt := CallR.imp call_int1 fun xs H Q ⟨A, S, g, ds, o, r, q⟩ => by
  unfold kInt at q
  split at q
  · obtain ⟨v, rfl, h⟩ := rep1 r
    cases h with
    | int i => exact .inl ⟨_, rfl, KE.val q o (.int _)⟩
  · obtain ⟨v, rfl, h⟩ := rep1 r
    cases h with
    | bl k => exact .inr ⟨_, rfl, KE.val q o (.int _)⟩
  · exact q.elim
def D.ty : D → String
  | .non => "NoneType" | .bl _ => "bool" | .int _ => "int" | .str _ => "str"
  | .tup _ => "tuple" | .lst _ => "list" | .slst _ => "list" | .dT _ => "dict" | .dK _ => "dict" | .hdl _ => "?" | .ftup _ => "tuple" | .fT _ => "?" | .exc0 _ => "?" | .exc1 _ _ _ => "?"
def tyOk : D → Bool
  | .hdl _ => false | .fT _ => false | .exc0 _ => false | .exc1 _ _ _ => false
  | _ => true
def isTy (t n : String) : Bool := t == n || (t == "bool" && n == "int")
def kIsi (ns : List String) : D → M D
  | .hdl _ => M.bad
  | .fT _ => M.bad
  | .exc0 _ => M.bad
  | .exc1 _ _ _ => M.bad
  | d => M.pure (.bl (ns.any (isTy (D.ty d))))
theorem Rep.tyx {K : PySem.W.Frag} {A : List GAdr} {S H : Hp} (o : Same S H) {v : V} {d : D} (r : Rep K A S v d) (hn : tyOk d = true) : TyX K H v (.type (D.ty d)) := by
  cases r with
  | non => exact .base .non
  | bl b => exact .base (.bl b)
  | int i => exact .base (.int i)
  | str x => exact .base (.str x)
  | tup h r =>
    exact .base (.tup (o _ _ h))
  | ftup h r =>
    obtain ⟨u, h, _⟩ := h
    exact .fTuple (o _ _ h)
  | lst h r => exact .base (.lst (o _ _ h))
  | slst h r =>
    rcases h with (h | ⟨u, h⟩) | ⟨ob, its, n, hk, hc, _⟩
    · exact .base (.lst (o _ _ h))
    · exact .base (.frz (o _ _ h))
    · exact .kList hk hc
  | dT h r => exact .base (.dT (o _ _ h))
  | dK h r => exact .base (.dK (o _ _ h))
  | @hdl k _ h => cases hn
  | fT h r => cases hn
  | exc0 c h => cases hn
  | exc1 c h x r => cases hn
def tyNames : List String := ["NoneType", "bool", "int", "str", "tuple", "list", "dict"]
def clNames : List String := ["int", "bool", "str", "list", "tuple"]
theorem kit_one (K : PySem.W.Frag) : ∀ t ∈ tyNames, ∀ n ∈ clNames, PySem.W.kitOne K (.type t) (.type n) = some (isTy t n) := by
  intro t ht n hn
  simp only [tyNames, clNames, List.mem_cons, List.not_mem_nil, or_false] at ht hn
  rcases ht with rfl | rfl | rfl | rfl | rfl | rfl | rfl <;> rcases hn with rfl | rfl | rfl | rfl | rfl <;> rfl
end
end NS
namespace NS
open PySem PySem.Spec PyProof.Rows L2
section
variable {X : Cx} {E : XK} {m : Bool} {pos : Pos} {tg e : Expr} {fe : DS → M D}
theorem dit_list {K : PySem.W.Frag} {A : List GAdr} {S : Hp} {a : Addr} {xs : List V} {ds : List D} (r : RepL K A S xs ds) (h : SqL K S a xs) : DIt K A S (Itl K a) ds := by
  have w := walk_list (K := K) (a := a) (xs := xs)
  refine ⟨fun i H hi e => w.goes i H (by rw [r.length]; exact hi) (SqL.mono e h), fun i H hi e => ⟨xs, SqL.mono e h, by rw [r.length]; exact hi⟩, fun i H x H' hi e y => ?_⟩
  obtain ⟨e1, e2⟩ := w.yields i H x H' (by rw [r.length]; exact hi) (SqL.mono e h) y
  obtain ⟨d, e3, rr⟩ := r.get e2
  exact ⟨d, e3, .inl ⟨e1, rr⟩⟩
theorem dit_tup {K : PySem.W.Frag} {A : List GAdr} {S : Hp} {a : Addr} {xs : List V} {ds : List D} (r : RepL K A S xs ds) (h : SqT K S a xs) : DIt K A S (Itt K a) ds := by
  have w := walk_tup (K := K) (a := a) (xs := xs)
  refine ⟨fun i H hi e => w.goes i H (by rw [r.length]; exact hi) (SqT.mono e h), fun i H hi e => ⟨xs, SqT.mono e h, by rw [r.length]; exact hi⟩, fun i H x H' hi e y => ?_⟩
  obtain ⟨e1, e2⟩ := w.yields i H x H' (by rw [r.length]; exact hi) (SqT.mono e h) y
  obtain ⟨d, e3, rr⟩ := r.get e2
  exact ⟨d, e3, .inl ⟨e1, rr⟩⟩
theorem PI.or {t t' : TI} (h : PI X tg e t) (h' : PI X tg e t') : PI X tg e (fun σ H R => t σ H R ∨ t' σ H R) := ⟨fun pins s σ H R I q => q.elim (h.run pins s σ H R I) (h'.run pins s σ H R I)⟩
def itD : D → M (List D)
  | .lst xs => M.pure xs
  | .slst xs => M.pure xs
  | .tup xs => M.pure xs
  | .ftup xs => M.pure xs
  | _ => M.bad
def iSeq (f : DS → M D) : DS → M (List D) := fun σ => M.bind (f σ) itD
theorem KI.now {U : Sur} {A : List GAdr} {S H : Hp} {ds : List D} {g : G} {R : It → Hp → Prop} (h : KI U A S H (.ok ds g) R) (o : Ok U.K A S H g) {J : It} (d : DIt U.K A S J ds) : R J H := h A S H J (Post.refl _ _ _) o d
theorem di_seq (he : DE X E false e fe) : DI X E tg e (iSeq fe) :=
  PI.impD (PI.or (pi_list he) (pi_tup he)) fun σ H R ⟨A, S, g, σd, o, r, q⟩ => by
    have q' : KI (Cx.sur X E) A S H (M.bind (fe σd) itD g) R := q
    cases e1 : fe σd g with
    | bad => rw [bind_bad e1] at q'; exact q'.elim
    | err x g' =>
      rw [bind_err e1] at q'
      refine .inl ⟨A, S, g, σd, o, r, ?_⟩
      rw [e1]
      exact q'
    | ok d g1 =>
      rw [bind_ok e1] at q'
      cases d with
      | lst ds =>
        refine .inl ⟨A, S, g, σd, o, r, ?_⟩
        rw [e1]
        intro A' S' H' v p o' rv
        cases rv with
        | @lst a xs _ h rr => exact ⟨a, rfl, ⟨xs, .inl (.inl (o'.ext _ _ h))⟩, KI.now (q'.shift p) o' (dit_list rr (.inl (.inl h)))⟩
      | slst ds =>
        refine .inl ⟨A, S, g, σd, o, r, ?_⟩
        rw [e1]
        intro A' S' H' v p o' rv
        cases rv with
        | @slst a xs _ h rr => exact ⟨a, rfl, ⟨xs, SqL.mono o'.ext h⟩, KI.now (q'.shift p) o' (dit_list rr h)⟩
      | tup ds =>
        refine .inr ⟨A, S, g, σd, o, r, ?_⟩
        rw [e1]
        intro A' S' H' v p o' rv
        cases rv with
        | @tup a xs _ h rr => exact ⟨a, rfl, ⟨xs, tq o'.ext h⟩, KI.now (q'.shift p) o' (dit_tup rr (.inl (.inl h)))⟩
      | ftup ds =>
        refine .inr ⟨A, S, g, σd, o, r, ?_⟩
        rw [e1]
        intro A' S' H' v p o' rv
        cases rv with
        | @ftup a xs _ h rr => exact ⟨a, rfl, ⟨xs, h.sq o'.ext⟩, KI.now (q'.shift p) o' (dit_tup rr (h.sq (Same.refl _)))⟩
      | _ => exact q'.elim
def rngD (i j : Int) : List D := (List.range (j - i).toNat).map fun k => .int (i + (k : Nat))
def inR (i : Int) : Bool := decide (-(2 ^ 62) ≤ i) && decide (i < 2 ^ 62)
theorem inR_iff {i : Int} : inR i = true ↔ -(2 ^ 62) ≤ i ∧ i < 2 ^ 62 := by simp [inR]
def rng1 : List D → M (List D)
  | [.int j] => if inR j = true then M.pure (rngD 0 j) else M.bad
  | _ => M.bad
def rng2 : List D → M (List D)
  | [.int i, .int j] => if inR i = true ∧ inR j = true then M.pure (rngD i j) else M.bad
  | _ => M.bad
def iArgs (k : List D → M (List D)) (fl : DS → M (List D)) : DS → M (List D) := fun σ => M.bind (fl σ) k
theorem dit_rng {K : PySem.W.Frag} {A : List GAdr} {S : Hp} {lo hi : Int} {n : Nat} (hn : (hi - lo).toNat = n) : DIt K A S (Itr lo n) (rngD lo hi) := by
  have hl : (rngD lo hi).length = n := by simp [rngD, hn]
  refine ⟨fun i H h _ => by rw [hl] at h; exact h, fun i H h _ => by rw [hl] at h; exact h, fun i H x H' h _ y => ?_⟩
  obtain ⟨e1, e2⟩ := y
  subst e2
  refine ⟨.int (lo + (i : Nat)), ?_, .inl ⟨e1, .int _⟩⟩
  rw [hl] at h
  simp [rngD, hn, h]
variable {a b : Expr} {fl : DS → M (List D)} {p : Pos}
theorem di_range1 (hm : X.mg "range" = none) (ha : DL X E [a] fl) (hg : Gl X "range" := by rfl) (hs : starEach [a] X.env = [(false, eval a X.env)] := by rfl) : DI X E tg (.Call (.Name "range" p) [a] [] pos) (iArgs rng1 fl) :=
  PI.impD (pi_range1 hg hm ha hs) fun σ H R ⟨A, S, g, σd, o, r, q⟩ => ⟨A, S, g, σd, o, r, (KI.bindL q).imp fun vs H1 ⟨A1, S1, g1, ds, p1, o1, r1, q1⟩ => by
    unfold rng1 at q1
    split at q1
    · rename_i j
      obtain ⟨v, rfl, h⟩ := rep1 r1
      cases h
      by_cases c : inR j = true
      · rw [if_pos c] at q1
        have := inR_iff.mp c
        exact ⟨j, rfl, this.1, this.2, KI.now q1 o1 (dit_rng (by omega))⟩
      · rw [if_neg c] at q1; exact q1.elim
    · exact q1.elim⟩
theorem di_range2 (hm : X.mg "range" = none) (ha : DL X E [a, b] fl) (hg : Gl X "range" := by rfl) (hs : starEach [a, b] X.env = [(false, eval a X.env), (false, eval b X.env)] := by rfl) (hs2 : starEach [b] X.env = [(false, eval b X.env)] := by rfl) : DI X E tg (.Call (.Name "range" p) [a, b] [] pos) (iArgs rng2 fl) :=
  PI.impD (pi_range2 hg hm ha hs hs2) fun σ H R ⟨A, S, g, σd, o, r, q⟩ => ⟨A, S, g, σd, o, r, (KI.bindL q).imp fun vs H1 ⟨A1, S1, g1, ds, p1, o1, r1, q1⟩ => by
    unfold rng2 at q1
    split at q1
    · rename_i i j
      have e := rep2 r1 rfl
      subst e
      by_cases c : inR i = true ∧ inR j = true
      · rw [if_pos c] at q1
        have h1 := inR_iff.mp c.1
        have h2 := inR_iff.mp c.2
        exact ⟨i, j, rfl, ⟨h1.1, h1.2, h2.1, h2.2⟩, KI.now q1 o1 (dit_rng rfl)⟩
      · rw [if_neg c] at q1; exact q1.elim
    · exact q1.elim⟩
def PRD (X : Cx) (E : XK) (e : Expr) (f : DS → M (Int × Int)) : Prop := PRg X e fun σ H Q => ∃ A S g σd, Ok X.K A S H g ∧ SRep X.K A S H σ σd ∧ match f σd g with
  | .ok (i, j) g' => ∀ A' S' H', Post A S H A' S' H' → Ok X.K A' S' H' g' → Q i j H'
  | .err x g' => ∀ A' S' H' c dd, Post A S H A' S' H' → Ok X.K A' S' H' g' → XRep X.mg X.K A' S' H' x c dd → E c dd H'
  | .bad => False
def asI : D → M Int
  | .int i => M.pure i
  | _ => M.bad
def r1D (fa : DS → M D) : DS → M (Int × Int) := fun σ => M.bind (M.bind (fa σ) asI) fun j => M.pure (0, j)
def r2D (fa fb : DS → M D) : DS → M (Int × Int) := fun σ => M.bind (fa σ) fun x => M.bind (fb σ) fun y => M.bind (asI x) fun i => M.bind (asI y) fun j => M.pure (i, j)
variable {fa fb : DS → M D}
theorem dr_1 (hm : X.mg "range" = none) (ha : DE X E false a fa) (hg : Gl X "range" := by rfl) (na : starEach [a] X.env = (false, eval a X.env) :: starEach [] X.env := by rfl) : PRD X E (.Call (.Name "range" p) [a] [] pos) (r1D fa) :=
  fun pins s σ H Q I ⟨A, S, g, σd, o, r, q⟩ => prg_1 hg hm ha na pins s σ H Q I ⟨A, S, g, σd, o, r, by
    unfold r1D at q
    cases e1 : fa σd g with
    | bad => rw [bind_bad (bind_bad e1)] at q; exact q.elim
    | err x g' => rw [bind_err (bind_err e1)] at q; exact q
    | ok d g1 =>
      intro A' S' H' v p' o' rv
      cases rv with
      | int j =>
        have e2 : M.bind (fa σd) asI g = .ok j g1 := by rw [bind_ok e1]; rfl
        rw [bind_ok e2] at q
        exact ⟨j, rfl, q A' S' H' p' o'⟩
      | _ =>
        rw [bind_bad (show M.bind (fa σd) asI g = .bad by rw [bind_ok e1]; rfl)] at q
        exact q.elim⟩
theorem dr_2 (hm : X.mg "range" = none) (ha : DE X E false a fa) (hb : DE X E false b fb) (hg : Gl X "range" := by rfl) (na : starEach [a, b] X.env = (false, eval a X.env) :: starEach [b] X.env := by rfl)
    (nb : starEach [b] X.env = (false, eval b X.env) :: starEach [] X.env := by rfl) (hp : (backTo pos (starEach [b] X.env)).any (·.1) = false := by rfl) : PRD X E (.Call (.Name "range" p) [a, b] [] pos) (r2D fa fb) :=
  fun pins s σ H Q I ⟨A, S, g, σd, o, r, q⟩ => prg_2 hg hm ha hb na nb hp pins s σ H Q I ⟨A, S, g, σd, o, r, by
    unfold r2D at q
    cases e1 : fa σd g with
    | bad => rw [bind_bad e1] at q; exact q.elim
    | err x g' => rw [bind_err e1] at q; exact q
    | ok d g1 =>
      rw [bind_ok e1] at q
      intro A1 S1 H1 v p1 o1 r1
      refine ⟨A1, S1, g1, σd, o1, r.post p1, ?_⟩
      cases e2 : fb σd g1 with
      | bad => rw [bind_bad e2] at q; exact q.elim
      | err x g' => rw [bind_err e2] at q; exact fun A' S' H' c dd p o x => q A' S' H' c dd (p1.trans p) o x
      | ok d2 g2 =>
        rw [bind_ok e2] at q
        intro A2 S2 H2 w p2 o2 r2
        cases r1 with
        | int i =>
          cases r2 with
          | int j => exact ⟨i, j, rfl, rfl, q A2 S2 H2 (p1.trans p2) o2⟩
          | _ => exact q.elim
        | _ => exact q.elim⟩
def rgOk (i j : Int) : Bool := inR i && inR j && decide ((j - i).toNat < 1000000)
def eLRg (f : DS → M (Int × Int)) : DS → M D := fun σ => M.bind (f σ) fun p => if rgOk p.1 p.2 = true then M.pure (.lst (rngD p.1 p.2)) else M.bad
def eTRg (f : DS → M (Int × Int)) : DS → M D := fun σ => M.bind (f σ) fun p => if rgOk p.1 p.2 = true then M.pure (.tup (rngD p.1 p.2)) else M.bad
theorem rgOk_of {i j : Int} (h : rgOk i j = true) : RgOk i j := by
  unfold rgOk at h
  simp only [Bool.and_eq_true, decide_eq_true_eq] at h
  have h1 := inR_iff.mp h.1.1
  have h2 := inR_iff.mp h.1.2
  exact ⟨h1.1, h1.2, h2.1, h2.2, by omega⟩
theorem rng_rep {K : PySem.W.Frag} {A : List GAdr} {S : Hp} (i j : Int) : RepL K A S (rgV i j) (rngD i j) := by
  unfold rgV rngD
  generalize List.range (j - i).toNat = l
  induction l with
  | nil => exact .nil
  | cons x l ih => exact .cons (.int _) ih
variable {fr : DS → M (Int × Int)}
theorem de_listRg (hm : X.mg "list" = none) (he : PRD X E e fr) (hc : X.calm = true := by rfl) (hg : Gl X "list" := by rfl) (na : starEach [e] X.env = (false, eval e X.env) :: starEach [] X.env := by rfl) : DE X E m (.Call (.Name "list" p) [e] [] pos) (eLRg fr) :=
  PE.impD (pe_listRg hc hg hm he na) fun σ H Q ⟨A, S, g, σd, o, r, q⟩ => ⟨A, S, g, σd, o, r, by
    unfold eLRg at q
    cases e1 : fr σd g with
    | bad => rw [bind_bad e1] at q; exact q.elim
    | err x g' => rw [bind_err e1] at q; exact q
    | ok d g1 =>
      rw [bind_ok e1] at q
      obtain ⟨i, j⟩ := d
      intro A1 S1 H1 p1 o1
      by_cases c : rgOk i j = true
      · rw [if_pos c] at q
        exact ⟨rgOk_of c, fun l hl => KE.newL (KE.shift p1 q) o1 (rng_rep i j) hl⟩
      · rw [if_neg c] at q; exact q.elim⟩
theorem de_tupRg (hm : X.mg "tuple" = none) (he : PRD X E e fr) (hc : X.calm = true := by rfl) (hg : Gl X "tuple" := by rfl) (na : starEach [e] X.env = (false, eval e X.env) :: starEach [] X.env := by rfl) : DE X E false (.Call (.Name "tuple" p) [e] [] pos) (eTRg fr) :=
  PE.impD (pe_tupRg hc hg hm he na) fun σ H Q ⟨A, S, g, σd, o, r, q⟩ => ⟨A, S, g, σd, o, r, by
    unfold eTRg at q
    cases e1 : fr σd g with
    | bad => rw [bind_bad e1] at q; exact q.elim
    | err x g' => rw [bind_err e1] at q; exact q
    | ok d g1 =>
      rw [bind_ok e1] at q
      obtain ⟨i, j⟩ := d
      intro A1 S1 H1 p1 o1
      by_cases c : rgOk i j = true
      · rw [if_pos c] at q
        exact ⟨rgOk_of c, fun l hl => KE.newT (KE.shift p1 q) o1 (rng_rep i j) hl⟩
      · rw [if_neg c] at q; exact q.elim⟩
def zipD (xs ys : List D) : List D := (xs.zip ys).map fun p => .tup [p.1, p.2]
end
section
variable {X : Cx} {E : XK} {pos p p1 p2 p3 : Pos} {e : Expr} {fe : DS → M D}
def eIsi (ns : List String) (fe : DS → M D) : DS → M D := fun σ => M.bind (fe σ) (kIsi ns)
theorem kIsi_or (ns : List String) (d : D) (g : G) : kIsi ns d g = .bad ∨ (tyOk d = true ∧ kIsi ns d g = .ok (.bl (ns.any (isTy (D.ty d)))) g) := by
  cases d <;> first
    | exact .inl rfl
    | exact .inr ⟨rfl, rfl⟩
theorem ty_in (d : D) (h : tyOk d = true) : D.ty d ∈ tyNames := by
  cases d <;> first
    | exact absurd h Bool.false_ne_true
    | (simp [D.ty, tyNames])
theorem de_isi {T : Str} {n : String} (hm : X.mg "isinstance" = none) (hT : X.mg T = none) (he : DE X E false e fe) (hn : n ∈ clNames := by decide) (hv : bootBuiltins T = some (.type n) := by decide +kernel) (hgT : Gl X T := by rfl) (hg : Gl X "isinstance" := by rfl)
    (n1 : T ≠ "__name__" := by decide) (n2 : (T == ("__debug__" : Str)) = false := by decide)
    (hs : starEach [e, .Name T p1] X.env = (false, eval e X.env) :: starEach [.Name T p1] X.env := by rfl) (hs2 : starEach [.Name T p1] X.env = (false, eval (.Name T p1) X.env) :: starEach [] X.env := by rfl)
    (hpl : (backTo pos (starEach [.Name T p1] X.env)).any (·.1) = false := by rfl) : DE X E false (.Call (.Name "isinstance" p) [e, .Name T p1] [] pos) (eIsi [n] fe) :=
  PE.impD (pe_callB call_isi hg hm (by decide +kernel) (pa_cons he (pa_cons (pe_bltn (v := .ty n) hgT hT hv rfl n1 n2) pa_nil hs2) hs) (by decide) (by decide) hs hpl) fun σ H Q ⟨A, S, g, σd, o, r, q⟩ => ⟨A, S, g, σd, o, r, (KE.bindE q).imp fun v H1 ⟨A1, S1, g1, d, p1, o1, r1, q1⟩ => by
    rcases kIsi_or [n] d g1 with h | ⟨h, h2⟩
    · rw [h] at q1; exact q1.elim
    · rw [h2] at q1
      have hk := kit_one X.K _ (ty_in d h) n hn
      exact ⟨v, .ty n, _, _, _, rfl, .ty n, Rep.tyx o1.ext r1 h, hk, by simpa using KE.val q1 o1 (.bl _)⟩⟩
theorem kit_any2 (K : PySem.W.Frag) (t n1 n2 : String) (h1 : t ∈ tyNames) (h2 : n1 ∈ clNames) (h3 : n2 ∈ clNames) : PySem.W.kitAny K (.type t) [.type n1, .type n2] = some ([n1, n2].any (isTy t)) := by
  unfold PySem.W.kitAny PySem.W.kitAny PySem.W.kitAny
  rw [kit_one K t h1 n1 h2, kit_one K t h1 n2 h3]
  simp only [List.any_cons, List.any_nil, Bool.or_false]
  cases isTy t n1 <;> cases isTy t n2 <;> rfl
theorem de_isi2 {T1 T2 : Str} {n1 n2 : String} {kt : Nat} (hm : X.mg "isinstance" = none) (hT1 : X.mg T1 = none) (hT2 : X.mg T2 = none) (he : DE X E false e fe) (hn1 : n1 ∈ clNames := by decide) (hn2 : n2 ∈ clNames := by decide) (hv1 : bootBuiltins T1 = some (.type n1) := by decide +kernel) (hv2 : bootBuiltins T2 = some (.type n2) := by decide +kernel)
    (hgT1 : Gl X T1 := by rfl) (hgT2 : Gl X T2 := by rfl) (hg : Gl X "isinstance" := by rfl)
    (a1 : T1 ≠ "__name__" := by decide) (a2 : (T1 == ("__debug__" : Str)) = false := by decide) (b1 : T2 ≠ "__name__" := by decide) (b2 : (T2 == ("__debug__" : Str)) = false := by decide)
    (hs : starEach [e, .Tuple [.Name T1 p1, .Name T2 p2] kt p3] X.env = (false, eval e X.env) :: starEach [.Tuple [.Name T1 p1, .Name T2 p2] kt p3] X.env := by rfl) (hs2 : starEach [.Tuple [.Name T1 p1, .Name T2 p2] kt p3] X.env = (false, eval (.Tuple [.Name T1 p1, .Name T2 p2] kt p3) X.env) :: starEach [] X.env := by rfl)
    (hs3 : starEach [.Name T1 p1, .Name T2 p2] X.env = (false, eval (.Name T1 p1) X.env) :: starEach [.Name T2 p2] X.env := by rfl) (hs4 : starEach [.Name T2 p2] X.env = (false, eval (.Name T2 p2) X.env) :: starEach [] X.env := by rfl)
    (hpl : (backTo pos (starEach [.Tuple [.Name T1 p1, .Name T2 p2] kt p3] X.env)).any (·.1) = false := by rfl) : DE X E false (.Call (.Name "isinstance" p) [e, .Tuple [.Name T1 p1, .Name T2 p2] kt p3] [] pos) (eIsi [n1, n2] fe) :=
  PE.impD (pe_callB call_isiT hg hm (by decide +kernel) (pa_cons he (pa_cons (pe_tup (pa_cons (pe_bltn (v := .ty n1) hgT1 hT1 hv1 rfl a1 a2) (pa_cons (pe_bltn (v := .ty n2) hgT2 hT2 hv2 rfl b1 b2) pa_nil hs4) hs3)) pa_nil hs2) hs) (by decide) (by decide) hs hpl) fun σ H Q ⟨A, S, g, σd, o, r, q⟩ => ⟨A, S, g, σd, o, r, (KE.bindE q).imp fun v H1 ⟨A1, S1, g1, d, p1, o1, r1, q1⟩ => by
    refine ⟨by show 2 ≤ sizeLine; decide, fun tp htp => ?_⟩
    have P := Post.lay (A := A1) (o := .tup [.ty n1, .ty n2]) htp o1.ext
    have o2 := o1.lay (o := .tup [.ty n1, .ty n2]) htp
    rcases kIsi_or [n1, n2] d g1 with h | ⟨h, h2⟩
    · rw [h] at q1; exact q1.elim
    · rw [h2] at q1
      have hk := kit_any2 X.K _ n1 n2 (ty_in d h) hn1 hn2
      exact ⟨v, tp, _, _, _, _, rfl, upd_same, .cons (.ty n1) (.cons (.ty n2) .nil), Rep.tyx o2.ext (Rep.mono P.a P.s r1) h, hk, KE.val (KE.shift P q1) o2 (.bl _)⟩⟩
end
end NS
namespace NS
open PySem PySem.Spec PyProof.Rows L2
theorem gfp_sep : ∀ {A : List GAdr}, (gfp A).Nodup → ∀ {k k' : Nat} {ga ga' : GAdr} {x : Addr}, A[k]? = some ga → A[k']? = some ga' → k ≠ k' → x ∈ ga.fp → x ∉ ga'.fp
  | [], _, _, _, _, _, _, e, _, _, _ => by simp at e
  | b :: A, h, k, k', ga, ga', x, e, e', ne, hx => by
    have h1 : (b.fp ++ gfp A).Nodup := h
    obtain ⟨n1, n2, n3⟩ := List.nodup_append.mp h1
    cases k with
    | zero =>
      cases k' with
      | zero => exact absurd rfl ne
      | succ k' =>
        have ea : b = ga := by simpa using e
        subst ea
        have e2 : A[k']? = some ga' := by simpa using e'
        intro hx'
        exact n3 x hx x (List.mem_flatMap.mpr ⟨ga', List.mem_of_getElem? e2, hx'⟩) rfl
    | succ k =>
      have e1 : A[k]? = some ga := by simpa using e
      cases k' with
      | zero =>
        have ea : b = ga' := by simpa using e'
        subst ea
        intro hx'
        exact n3 x hx' x (List.mem_flatMap.mpr ⟨ga, List.mem_of_getElem? e1, hx⟩) rfl
      | succ k' =>
        have e2 : A[k']? = some ga' := by simpa using e'
        exact gfp_sep n2 e1 e2 (fun z => ne (by rw [z])) hx
section
variable {K : PySem.W.Frag} {A : List GAdr} {S H : Hp} {g : G}
theorem Ok.setSrc (o : Ok K A S H g) {k : Nat} {a : Addr} {x y z x' y' z' : Int} (e : A[k]? = some (.src a)) (eg : g[k]? = some (.src x y z)) : Ok K A S (upd H a (.lst [.int x', .int y', .int z'])) (g.set k (.src x' y' z')) := by
  have ha : a ∈ gfp A := List.mem_flatMap.mpr ⟨_, List.mem_of_getElem? e, by simp [GAdr.fp]⟩
  have sa := o.out a ha
  refine ⟨fun b u eb => by rw [upd_ne (ne_of_none eb sa)]; exact o.ext _ _ eb, by simp [o.len], fun j ga c e1 e2 => ?_, o.nd, o.out⟩
  rcases set_get e2 with ⟨rfl, z, _⟩ | ⟨ne, e2⟩
  · rw [e] at e1; cases e1; subst z; exact upd_same
  · refine (o.cel j ga c e1 e2).mono (List.prefix_refl _) (Same.refl _) fun b hb => upd_ne ?_
    rintro rfl
    exact gfp_sep o.nd e e1 ne (by simp [GAdr.fp]) hb
theorem Post.cell {A0 : List GAdr} {S0 H0 : Hp} {a : Addr} {o : HO} (p : Post A0 S0 H0 A S H) (ha : a ∈ gfp A) : Post A0 S0 H0 A S (upd H a o) where
  a := p.a
  s := p.s
  snew := p.snew
  keep := fun x u h n => by
    have ne : x ≠ a := by
      rintro rfl
      rcases p.anew x ha with z | z
      · exact n z
      · rw [h] at z; cases z
    rw [upd_ne ne]; exact p.keep x u h n
  dom := fun x u h => by
    by_cases e : x = a
    · subst e; exact ⟨_, upd_same⟩
    · obtain ⟨v, hv⟩ := p.dom x u h; exact ⟨v, by rw [upd_ne e]; exact hv⟩
  anew := p.anew
theorem Stt.setSrc {e0 : En} {σd : DS} {σ : L2.St} (s : Stt K e0 A S g σd σ H) {k : Nat} {a : Addr} {x y z x' y' z' : Int} (e : A[k]? = some (.src a)) (eg : g[k]? = some (.src x y z)) :
    Stt K e0 A S (g.set k (.src x' y' z')) σd σ (upd H a (.lst [.int x', .int y', .int z'])) := by
  have ha : a ∈ gfp A := List.mem_flatMap.mpr ⟨_, List.mem_of_getElem? e, by simp [GAdr.fp]⟩
  refine ⟨s.ok.setSrc e eg, s.rep.loose (s.ok.out a ha) fun j d ed es => ?_, s.post.cell ha, s.own⟩
  obtain ⟨p, e1, _, e3, _⟩ := s.rep.ow ed
  rw [es] at e1; cases e1
  exact e3 ha
theorem Ok.newSrc (o : Ok K A S H g) {p : Addr} {x y z : Int} (hp : S p = none) (hg : p ∉ gfp A) (hH : H p = some (.lst [.int x, .int y, .int z])) : Ok K (A ++ [.src p]) S H (g ++ [.src x y z]) := by
  refine ⟨o.ext, by simp [o.len], fun k ga c e1 e2 => ?_, ?_, fun b hb => ?_⟩
  · by_cases h : k < A.length
    · rw [List.getElem?_append_left h] at e1
      rw [List.getElem?_append_left (by rw [← o.len]; exact h)] at e2
      exact (o.cel k ga c e1 e2).mono (List.prefix_append _ _) (Same.refl _) fun _ _ => rfl
    · rw [List.getElem?_append_right (Nat.le_of_not_lt h)] at e1
      rw [List.getElem?_append_right (by rw [← o.len]; exact Nat.le_of_not_lt h)] at e2
      rw [← o.len] at e2
      cases q : k - A.length with
      | zero =>
        rw [q] at e1 e2
        cases e1; cases e2
        exact hH
      | succ n => rw [q] at e1; simp at e1
  · rw [gfp_append]
    refine List.nodup_append.mpr ⟨o.nd, by simp [gfp, GAdr.fp], fun x hx y hy => ?_⟩
    have : y = p := by simpa [gfp, GAdr.fp] using hy
    subst this
    exact fun z => hg (z ▸ hx)
  · rw [gfp_append] at hb
    rcases List.mem_append.mp hb with hb | hb
    · exact o.out b hb
    · have : b = p := by simpa [gfp, GAdr.fp] using hb
      subst this; exact hp
end
section
variable {X : Cx} {E : XK} {pos : Pos} {m : Bool} {e0 : En} {e ei : Expr} {fe fi : DS → M D}
def srcSet (x i d : D) (σ : DS) : M Fl := match x, i, d with
  | .hdl k, .int n, .int v => fun g => (match g[k]? with
    | some (.src a b c) => (match ixN 3 n with
      | some 0 => .ok (.nx σ) (g.set k (.src v b c))
      | some 1 => .ok (.nx σ) (g.set k (.src a v c))
      | some 2 => .ok (.nx σ) (g.set k (.src a b v))
      | _ => .bad)
    | _ => .bad)
  | _, _, _ => M.bad
def sSetIxH (j : Nat) (fe fi : DS → M D) : DS → M Fl := fun σ => M.bind (fe σ) fun d => M.bind (eVar j σ) fun x => M.bind (fi σ) fun i => srcSet x i d σ
theorem ds_setIxH (j : Nat) {x : Str} {px tpos : Pos} (he : DE X E false e fe) (hi : DE X E false ei fi) (hN : X.N[j]? = some x := by rfl) (hv : Vis X.env.scope x := by first | exact Or.inl rfl | exact Or.inr (Or.inl rfl) | exact Or.inr (Or.inr rfl)) (hd : (x == ("__debug__" : Str)) = false := by decide)
    (hcd : (x == ("__classdict__" : Str)) = false := by decide)
    (ha : ∀ v, assign (.Subscript (.Name x px) ei tpos) X.env v = (do
      let ov ← holding [v] (eval (.Name x px) X.env)
      let iv ← holding [v, ov] (eval ei X.env)
      standAt tpos
      holding [v, ov, iv] (setItem ov iv v)
      release [v, ov, iv] []) := by intro _; rfl)
    (hs : swapsWithSole [.Subscript (.Name x px) ei tpos] e pos.line X.env = pure false := by rfl) (hw : swappedStores [.Subscript (.Name x px) ei tpos] e X.env = pure none := by rfl)
    (h1 : (assignEach [.Subscript (.Name x px) ei tpos] X.env).map (·.2) = [assign (.Subscript (.Name x px) ei tpos) X.env] := by rfl) :
    DS1 X E m e0 (.Assign [.Subscript (.Name x px) ei tpos] e pos) (sSetIxH j fe fi) :=
  PS.impD (ps_asg he (pg_sub (pe_var hN hv hd hcd) hi set_list ha) hs hw h1) fun Z σ H ⟨A, S, g, σd, s, q⟩ => ⟨A, S, g, σd, s.ok, s.rep, (KS.bindE (m1 := false) s.post q).imp fun v H1 ⟨A1, S1, g1, d, p1, o1, r1, q1⟩ => by
    have s1 := s.post' p1 o1
    obtain ⟨dx, vx, e1, e2, rx, q2⟩ := eVar_get s1.rep q1
    refine ⟨vx, e2, A1, S1, g1, σd, o1, s1.rep, (KS.bindE (m1 := false) s1.post q2).imp fun w H2 ⟨A2, S2, g2, d2, p2, o2, r2, q3⟩ => ?_⟩
    have s2 := s1.post' p2 o2
    have rx2 := Rep.mono p2.a p2.s rx
    have r12 := Rep.mono p2.a p2.s r1
    have q3 : KS (Cx.sur X E) m e0 A2 S2 (srcSet dx d2 d σd g2) Z := q3
    cases rx2 with
    | @hdl k ga hk =>
      cases r2 with
      | int n =>
        cases r12 with
        | int u =>
          have q4 : KS (Cx.sur X E) m e0 A2 S2 ((match g2[k]? with
            | some (.src a b c) => (match ixN 3 n with
              | some 0 => .ok (.nx σd) (g2.set k (.src u b c))
              | some 1 => .ok (.nx σd) (g2.set k (.src a u c))
              | some 2 => .ok (.nx σd) (g2.set k (.src a b u))
              | _ => .bad)
            | _ => .bad : Res Fl)) Z := q3
          cases eg : g2[k]? with
          | none => rw [eg] at q4; exact q4.elim
          | some c =>
            rw [eg] at q4
            cases c with
            | sto _ _ => exact q4.elim
            | tab _ => exact q4.elim
            | src x y z =>
              have cl := o2.cel k ga _ hk eg
              cases ga with
              | sto _ _ _ _ _ => exact cl.elim
              | tab _ => exact cl.elim
              | src p =>
                have cl : H2 p = some (.lst [.int x, .int y, .int z]) := cl
                have q5 : KS (Cx.sur X E) m e0 A2 S2 ((match ixN 3 n with
                  | some 0 => .ok (.nx σd) (g2.set k (.src u y z))
                  | some 1 => .ok (.nx σd) (g2.set k (.src x u z))
                  | some 2 => .ok (.nx σd) (g2.set k (.src x y u))
                  | _ => .bad : Res Fl)) Z := q4
                cases en : ixN 3 n with
                | none => rw [en] at q5; exact q5.elim
                | some j =>
                  rw [en] at q5
                  match j, en, q5 with
                  | 0, en, q5 => exact ⟨p, _, n, 0, rfl, rfl, cl, en, q5 A2 S2 _ σ (List.prefix_refl _) (Same.refl _) (s2.setSrc hk eg)⟩
                  | 1, en, q5 => exact ⟨p, _, n, 1, rfl, rfl, cl, en, q5 A2 S2 _ σ (List.prefix_refl _) (Same.refl _) (s2.setSrc hk eg)⟩
                  | 2, en, q5 => exact ⟨p, _, n, 2, rfl, rfl, cl, en, q5 A2 S2 _ σ (List.prefix_refl _) (Same.refl _) (s2.setSrc hk eg)⟩
                  | j + 3, en, q5 => exact q5.elim
        | _ => exact q3.elim
      | _ => cases r12 <;> exact q3.elim
    | _ => cases r2 <;> cases r12 <;> exact q3.elim⟩
def srcNew : D → M Fl
  | .lst [.int a, .int b, .int c] => fun g => .ok (.rt (.hdl g.length)) (g ++ [.src a b c])
  | _ => M.bad
def sRetH (fe : DS → M D) : DS → M Fl := fun σ => M.bind (fe σ) srcNew
theorem rep3 {K : PySem.W.Frag} {A : List GAdr} {S : Hp} {xs : List V} {a b c : Int} (r : RepL K A S xs [.int a, .int b, .int c]) : xs = [.int a, .int b, .int c] := by
  cases r with | cons h r => cases r with | cons h2 r => cases r with | cons h3 r => cases r; cases h; cases h2; cases h3; rfl
theorem ds_retH (he : DE X E true e fe) : DS1 X E false e0 (.Return (some e) pos) (sRetH fe) :=
  PS.impD (ps_ret he) fun Z σ H ⟨A, S, g, σd, s, q⟩ => ⟨A, S, g, σd, s.ok, s.rep, (KS.bindE (m1 := true) s.post q).imp fun v H1 ⟨A1, S1, g1, d, p1, o1, r1, q1⟩ => by
    have s1 := s.post' p1 o1
    unfold srcNew at q1
    split at q1
    · rename_i a b c
      obtain ⟨p, rfl, h0, h1, h2, vs, h3, h4⟩ := r1
      have := rep3 h4
      subst this
      have o2 := o1.newSrc h1 h2 h3
      have q2 : KS (Cx.sur X E) false e0 A1 S1 (.ok (.rt (.hdl g1.length)) (g1 ++ [.src a b c])) Z := q1
      refine q2 (A1 ++ [.src p]) S1 H1 (.ref p) o2 ?_ (.hdl (ga := .src p) ?_)
      · refine s.post.trans ⟨p1.a.trans (List.prefix_append _ _), p1.s, p1.snew, p1.keep, p1.dom, fun x hx => ?_⟩
        rw [gfp_append] at hx
        rcases List.mem_append.mp hx with hx | hx
        · exact p1.anew x hx
        · have : x = p := by simpa [gfp, GAdr.fp] using hx
          subst this; exact .inr h0
      · rw [← o1.len]; simp
    · exact q1.elim⟩
theorem zipD_get {xs ys : List D} {i : Nat} {x y : D} (h1 : xs[i]? = some x) (h2 : ys[i]? = some y) : (zipD xs ys)[i]? = some (.tup [x, y]) := by
  unfold zipD
  rw [List.getElem?_map, (List.getElem?_zip_eq_some (z := (x, y))).mpr ⟨h1, h2⟩]
  rfl
theorem zipD_len (xs ys : List D) : (zipD xs ys).length = min xs.length ys.length := by simp [zipD]
variable {a b : Expr} {fl : DS → M (List D)} {p tpos : Pos} {elts : List Expr} {kk : Nat}
theorem rep2' {K : PySem.W.Frag} {A : List GAdr} {S : Hp} {xs : List V} {d c : D} (r : RepL K A S xs [d, c]) : ∃ v w, xs = [v, w] ∧ Rep K A S v d ∧ Rep K A S w c := by
  cases r with | cons h r => cases r with | cons h2 r => cases r; exact ⟨_, _, rfl, h, h2⟩
end
end NS
namespace NS
open PySem PySem.Spec PyProof.Rows L2
def frz1 (i : Nat) (σ : DS) : DS := match σ[i]? with
  | some (some (.ow d)) => σ.set i (some (.sh d))
  | _ => σ
mutual
def D.pur : D → Bool
  | .non => true | .bl _ => true | .int _ => true | .str _ => true | .hdl _ => true
  | .tup xs => D.purs xs
  | .lst _ => false | .slst _ => false | .dT _ => false | .dK _ => false | .ftup xs => D.purs xs | .fT _ => false | .exc0 _ => false | .exc1 _ _ _ => false
def D.purs : List D → Bool
  | [] => true
  | x :: xs => D.pur x && D.purs xs
end
def GCell.pur : GCell → Bool
  | .src _ _ _ => true
  | .sto a b => D.purs a && D.purs b
  | .tab _ => true
def Gpur (g : G) : Bool := g.all GCell.pur
section
variable {K : PySem.W.Frag} {A : List GAdr} {S S' H H' : Hp} {g : G} {σd : DS} {σ : L2.St}
theorem frz1_ok (o : Ok K A S H g) (r : SRep K A S H σ σd) (i : Nat) : (frz1 i σd = σd) ∨ ∃ p d u, σd[i]? = some (some (.ow d)) ∧ σ[i]? = some (some (.ref p)) ∧ S p = none ∧ p ∉ gfp A ∧ H p = some u ∧ Top K A S H p d ∧ frz1 i σd = σd.set i (some (.sh d)) ∧
    Ok K A (upd S p u) H g ∧ SRep K A (upd S p u) H σ (frz1 i σd) := by
  unfold frz1
  match e : σd[i]? with
  | some (some (.ow d)) =>
    obtain ⟨p, e1, h1, h2, h3⟩ := r.ow e
    obtain ⟨u, hu, rr⟩ := h3.frozen h1
    exact .inr ⟨p, d, u, rfl, e1, h1, h2, hu, h3, rfl, o.freeze h1 hu h2, r.freeze e e1 h1 hu rr⟩
  | some (some (.sh d)) => exact .inl rfl
  | some none => exact .inl rfl
  | none => exact .inl rfl
def delH (S : Hp) (p : Addr) : Hp := fun x => if x = p then none else S x
theorem delH_ne {p x : Addr} (h : x ≠ p) : delH S p x = S x := if_neg h
theorem delH_same {p : Addr} : delH S p p = none := if_pos rfl
def NoTup (S : Hp) (p : Addr) : Prop := (∀ xs, ¬ Rd S p (.tup xs)) ∧ ∀ φ, S p ≠ some (.ext φ)
theorem fz_del {S : Hp} {p a : Addr} {xs : List V} (nt : NoTup S p) (h : FzT S a xs) : FzT (delH S p) a xs := by
  obtain ⟨o, h, d⟩ := h
  have ne : a ≠ p := by rintro rfl; exact nt.1 _ (.inr ⟨o, h⟩)
  exact ⟨o, by rw [delH_ne ne]; exact h, d⟩
mutual
theorem Rep.del {p : Addr} (nt : NoTup S p) : ∀ {v : V} {d : D}, Rep K A S v d → D.pur d = true → Rep K A (delH S p) v d
  | _, _, .non, _ => .non
  | _, _, .bl b, _ => .bl b
  | _, _, .int i, _ => .int i
  | _, _, .str x, _ => .str x
  | _, _, .hdl h, _ => .hdl h
  | _, _, .tup h r, q => .tup (by
      rw [delH_ne]; exact h; rintro rfl; exact nt.1 _ (.inl h)) (RepL.del nt r q)
  | _, _, .ftup h r, q => .ftup (fz_del nt h) (RepL.del nt r q)
  | _, _, .lst _ _, q => nomatch q
  | _, _, .slst _ _, q => nomatch q
  | _, _, .dT _ _, q => nomatch q
  | _, _, .dK _ _, q => nomatch q
  | _, _, .fT _ _, q => nomatch q
  | _, _, .exc0 _ _, q => nomatch q
  | _, _, .exc1 _ _ _ _, q => nomatch q
theorem RepL.del {p : Addr} (nt : NoTup S p) : ∀ {vs : List V} {ds : List D}, RepL K A S vs ds → D.purs ds = true → RepL K A (delH S p) vs ds
  | _, _, .nil, _ => .nil
  | _, _, .cons h r, q => .cons (Rep.del nt h (Bool.and_eq_true_iff.mp q).1) (RepL.del nt r (Bool.and_eq_true_iff.mp q).2)
end
theorem CellOk.del {p : Addr} (nt : NoTup S p) {ga : GAdr} {c : GCell} (h : CellOk K A S H ga c) (q : c.pur = true) : CellOk K A (delH S p) H ga c := by
  cases ga <;> cases c <;> first
    | exact h.elim
    | exact h
    | (obtain ⟨h1, ps, h2, h3, h4⟩ := h
       refine ⟨h1, ps, h2, h3, fun pos cv z => ?_⟩
       obtain ⟨c, e1, e2⟩ := h4 pos cv z
       exact ⟨c, e1, by rw [delH_ne (by rintro rfl; exact nt.2 _ e2)]; exact e2⟩)
    | (obtain ⟨h0, h1, h2, ⟨vs, h3, h4⟩, ws, h5, h6⟩ := h
       have q' := Bool.and_eq_true_iff.mp q
       exact ⟨h0, h1, h2, ⟨vs, h3, h4.del nt q'.1⟩, ws, h5, h6.del nt q'.2⟩)
theorem Ok.del {p : Addr} (o : Ok K A S H g) (nt : NoTup S p) (q : Gpur g = true) : Ok K A (delH S p) H g := by
  refine ⟨fun b u e => ?_, o.len, fun k ga c e1 e2 => (o.cel k ga c e1 e2).del nt (List.all_eq_true.mp q c (List.mem_of_getElem? e2)), o.nd, fun x hx => ?_⟩
  · by_cases h : b = p
    · subst h; rw [delH_same] at e; cases e
    · rw [delH_ne h] at e; exact o.ext _ _ e
  · by_cases h : x = p
    · subst h; exact delH_same
    · rw [delH_ne h]; exact o.out x hx
theorem Top.notup {p : Addr} {d : D} (h : Top K A S H p d) (e : ∀ u, H p = Option.some u → S' p = Option.some u) : NoTup S' p := by
  constructor
  · intro xs hr
    cases d <;> first
      | exact h.elim
      | (obtain ⟨vs, h1, _⟩ := h
         have h2 := e _ h1
         rcases hr with hr | ⟨o, hr⟩
         · rw [h2] at hr; cases hr
         · rw [h2] at hr; cases hr)
  · intro φ hr
    cases d <;> first
      | exact h.elim
      | (obtain ⟨vs, h1, _⟩ := h
         have h2 := e _ h1
         rw [h2] at hr; cases hr)
theorem Post.thaw {A' : List GAdr} {S1 S' H' : Hp} {p : Addr} {u : HO} (hp : S p = none) (q : Post A (upd S p u) H A' S' H') : Post A S H A' (delH S' p) H' where
  a := q.a
  s := fun x o e => by
    have ne := ne_of_none e hp
    rw [delH_ne ne]
    exact q.s x o (by rw [upd_ne ne]; exact e)
  snew := fun x o e => by
    by_cases h : x = p
    · subst h; rw [delH_same] at e; cases e
    · rw [delH_ne h] at e
      rcases q.snew x o e with z | z
      · rw [upd_ne h] at z; exact .inl z
      · exact .inr z
  keep := q.keep
  dom := q.dom
  anew := q.anew
end
def eBor (i : Nat) (f : DS → M D) : DS → M D := fun σ => fun g => match f (frz1 i σ) g with
  | .ok d g' => if (D.pur d && Gpur g') = true then .ok d g' else .bad
  | .err _ _ => .bad
  | .bad => .bad
def eBorO (i : Nat) (f : DS → M D) : DS → M D := fun σ => fun g => match f (frz1 i σ) g with
  | .ok (.lst ds) g' => if (D.purs ds && Gpur g') = true then .ok (.lst ds) g' else .bad
  | _ => .bad
def tBor (i : Nat) (f : DS → M Bool) : DS → M Bool := fun σ => fun g => match f (frz1 i σ) g with
  | .ok d g' => if Gpur g' = true then .ok d g' else .bad
  | .err _ _ => .bad
  | .bad => .bad
section
variable {X : Cx} {E : XK} {e : Expr} {fe : DS → M D} {ft : DS → M Bool} {m : Bool} {e0 : En}
theorem de_bor (i : Nat) (he : DE X E false e fe) : DE X E false e (eBor i fe) := PE.impD he fun σ H Q ⟨A, S, g, σd, o, r, q⟩ => by
  unfold eBor at q
  rcases frz1_ok o r i with h | ⟨p, d0, u, e1, e2, h1, h2, hu, tp, ef, o2, r2⟩
  · rw [h] at q
    refine ⟨A, S, g, σd, o, r, ?_⟩
    cases e1 : fe σd g with
    | ok d g' =>
      rw [e1] at q
      have q : KE (Cx.sur X E) false A S H (if (D.pur d && Gpur g') = true then .ok d g' else .bad) Q := q
      by_cases c : (D.pur d && Gpur g') = true
      · rw [if_pos c] at q; exact q
      · rw [if_neg c] at q; exact q.elim
    | err x g' => rw [e1] at q; exact q.elim
    | bad => rw [e1] at q; exact q.elim
  · refine ⟨A, upd S p u, g, frz1 i σd, o2, r2, ?_⟩
    cases e1 : fe (frz1 i σd) g with
    | err x g' => rw [e1] at q; exact q.elim
    | bad => rw [e1] at q; exact q.elim
    | ok d g' =>
      rw [e1] at q
      have q : KE (Cx.sur X E) false A S H (if (D.pur d && Gpur g') = true then .ok d g' else .bad) Q := q
      by_cases c : (D.pur d && Gpur g') = true
      · rw [if_pos c] at q
        have c' := Bool.and_eq_true_iff.mp c
        intro A' S' H' v P o' rv
        have nt : NoTup S' p := tp.notup fun w hw => P.s p w (by rw [upd_same]; rw [hu] at hw; exact hw)
        exact q A' (delH S' p) H' v (Post.thaw (S1 := S) h1 P) (o'.del nt c'.2) (Rep.del nt rv c'.1)
      · rw [if_neg c] at q; exact q.elim
theorem dt_bor (i : Nat) (he : DT X E e ft) : DT X E e (tBor i ft) := PT.impD he fun σ H Q ⟨A, S, g, σd, o, r, q⟩ => by
  unfold tBor at q
  rcases frz1_ok o r i with h | ⟨p, d0, u, e1, e2, h1, h2, hu, tp, ef, o2, r2⟩
  · rw [h] at q
    refine ⟨A, S, g, σd, o, r, ?_⟩
    cases e1 : ft σd g with
    | ok d g' =>
      rw [e1] at q
      have q : KT (Cx.sur X E) A S H (if Gpur g' = true then .ok d g' else .bad) Q := q
      by_cases c : Gpur g' = true
      · rw [if_pos c] at q; exact q
      · rw [if_neg c] at q; exact q.elim
    | err x g' => rw [e1] at q; exact q.elim
    | bad => rw [e1] at q; exact q.elim
  · refine ⟨A, upd S p u, g, frz1 i σd, o2, r2, ?_⟩
    cases e1 : ft (frz1 i σd) g with
    | err x g' => rw [e1] at q; exact q.elim
    | bad => rw [e1] at q; exact q.elim
    | ok d g' =>
      rw [e1] at q
      have q : KT (Cx.sur X E) A S H (if Gpur g' = true then .ok d g' else .bad) Q := q
      by_cases c : Gpur g' = true
      · rw [if_pos c] at q
        intro A' S' H' P o'
        have nt : NoTup S' p := tp.notup fun w hw => P.s p w (by rw [upd_same]; rw [hu] at hw; exact hw)
        exact q A' (delH S' p) H' (Post.thaw (S1 := S) h1 P) (o'.del nt c)
      · rw [if_neg c] at q; exact q.elim
def sFrz (i : Nat) (f : DS → M Fl) : DS → M Fl := fun σ => f (frz1 i σ)
theorem Stt.frz {K : PySem.W.Frag} {A : List GAdr} {S H : Hp} {g : G} {σd : DS} {σ : L2.St} (s : Stt K e0 A S g σd σ H) (i : Nat) : ∃ S', Same S S' ∧ Stt K e0 A S' g (frz1 i σd) σ H := by
  rcases frz1_ok s.ok s.rep i with h | ⟨p, d0, u, e1, e2, h1, h2, hu, tp, ef, o2, r2⟩
  · rw [h]; exact ⟨S, Same.refl _, s⟩
  · have sm : Same S (upd S p u) := fun b x e => by rw [upd_ne (ne_of_none e h1)]; exact e
    refine ⟨_, sm, o2, r2, ⟨s.post.a, s.post.s.trans sm, fun x o e => ?_, s.post.keep, s.post.dom, s.post.anew⟩, fun j d q e3 e4 => ?_⟩
    · by_cases h : x = p
      · subst h; exact .inr (.inl (s.own i d0 x e1 e2))
      · rw [upd_ne h] at e; exact s.post.snew x o e
    · rw [ef] at e3
      rcases set_get e3 with ⟨rfl, z, _⟩ | ⟨ne, e3⟩
      · cases z
      · exact s.own j d q e3 e4
variable {st : Stmt} {f : DS → M Fl}
theorem ds_frz (i : Nat) (h : DS1 X E m e0 st f) : DS1 X E m e0 st (sFrz i f) := PS.impD h fun Z σ H ⟨A, S, g, σd, s, q⟩ => by
  obtain ⟨S', sm, s'⟩ := s.frz i
  exact ⟨A, S', g, frz1 i σd, s', KS.floor (List.prefix_refl _) sm q⟩
end
end NS
namespace NS
open PySem PySem.Spec PyProof.Rows L2
structure Has (P : Program) (w : World) (K : PySem.W.Frag) (mg : Str → Option Value) (base : Heap) (x : Str) (st : Stmt) (k : Nat) (ps : List Str) (m : Bool) (d : List D → M D) : Prop where
  ex : ∃ f fd, Fun K x x st f fd ∧ mg x = some (.ref f) ∧ FnD P w K mg base (XC P w) k f fd ps m d
structure At (K : PySem.W.Frag) (mg : Str → Option Value) (x : Str) (st : Stmt) : Prop where
  ex : ∃ f fd, Fun K x x st f fd ∧ mg x = some (.ref f)
def permL {α : Type} (idx : List Nat) (l : List α) : List α := idx.filterMap fun i => l[i]?
section
variable {K : PySem.W.Frag} {A : List GAdr} {S : Hp}
theorem permL_vals {zs : List V} {ws : List Value} (r : Vals zs ws) : ∀ idx : List Nat, Vals (permL idx zs) (permL idx ws)
  | [] => .nil
  | i :: idx => by
    have ih := permL_vals r idx
    unfold permL at ih ⊢
    cases e : zs[i]? with
    | none => rw [List.filterMap_cons, List.filterMap_cons, e, r.none_of e]; exact ih
    | some x =>
      obtain ⟨u, e2, h⟩ := r.get e
      rw [List.filterMap_cons, List.filterMap_cons, e, e2]
      exact .cons h ih
theorem permL_rep {zs : List V} {ws : List D} (r : RepL K A S zs ws) : ∀ idx : List Nat, RepL K A S (permL idx zs) (permL idx ws)
  | [] => .nil
  | i :: idx => by
    have ih := permL_rep r idx
    unfold permL at ih ⊢
    cases e : zs[i]? with
    | none =>
      have e2 : ws[i]? = none := by
        rw [List.getElem?_eq_none_iff] at e ⊢
        rw [← r.length]; exact e
      rw [List.filterMap_cons, List.filterMap_cons, e, e2]; exact ih
    | some x =>
      obtain ⟨u, e2, h⟩ := r.get e
      rw [List.filterMap_cons, List.filterMap_cons, e, e2]
      exact .cons h ih
theorem binds_of {x : Str} {st : Stmt} {f : Addr} {fd : FuncData} {ps : List Str} (F : Fun K x x st f fd)
    (h : ∀ (kV doc pm : Value) (an : Option Addr) (cdv ct : Value) (us : List Value), us.length = ps.length → bindArgs (PySem.W.fnOf x x (defArgs st) (defBody st) (defScope st) .none kV doc pm an cdv ct) ⟨us, []⟩ = pure (ps.zip us)) : Binds K fd ps [] := F.binds h
theorem kbinds_of {x : Str} {st : Stmt} {f : Addr} {fd : FuncData} {ps ks : List Str} {idx : List Nat} (F : Fun K x x st f fd) (hp : 0 < ps.length)
    (h : ∀ (kV doc pm : Value) (an : Option Addr) (cdv ct : Value) (ws : List Value), ws.length = ks.length → bindArgs (PySem.W.fnOf x x (defArgs st) (defBody st) (defScope st) .none kV doc pm an cdv ct) ⟨[], ks.zip ws⟩ = pure (ps.zip (permL idx ws))) :
    KBinds K fd ps ks (fun us ws => if us.length = 0 ∧ ws.length = ks.length then permL idx ws else []) (fun us ws => if us.length = 0 ∧ ws.length = ks.length then permL idx ws else []) := by
  obtain ⟨oc, od, kV, doc, pm, an, cdv, ct, osl, rfl, lk, hcd⟩ := F.ex
  refine ⟨fun s us ws hK hl => ?_, fun {vs us zs ws} r1 r2 => ?_⟩
  · by_cases c : us.length = 0 ∧ ws.length = ks.length
    · have e : us = [] := List.length_eq_zero_iff.mp c.1
      subst e
      rw [if_pos c]
      exact .of_eq (h kV doc pm an cdv ct ws c.2)
    · rw [if_neg c] at hl; simp at hl; omega
  · rw [r1.length, r2.length]
    by_cases c : us.length = 0 ∧ ws.length = ks.length
    · rw [if_pos c, if_pos c]; exact permL_vals r2 idx
    · rw [if_neg c, if_neg c]; exact .nil
end
section
variable {X : Cx} {E : XK} {m : Bool} {pos p : Pos} {x : Str} {st : Stmt} {kk : Nat} {ps : List Str} {d : List D → M D} {e : Expr} {es : List Expr} {fl : DS → M (List D)}
theorem de_fn {n : Nat} (h : Has X.prog X.w X.K X.mg X.base x st kk ps m d) (hr : RoomG kk X.A) (hx : Passes (XC X.prog X.w) X E) (ha : DL X E (e :: es) fl)
    (hb : ∀ (kV doc pm : Value) (an : Option Addr) (cdv ct : Value) (us : List Value), us.length = ps.length → bindArgs (PySem.W.fnOf x x (defArgs st) (defBody st) (defScope st) .none kV doc pm an cdv ct) ⟨us, []⟩ = pure (ps.zip us))
    (hg : Gl X x := by rfl) (hdb : (x == ("__debug__" : Str)) = false := by decide) (he : starEach (e :: es) X.env = (false, eval e X.env) :: starEach es X.env := by rfl) (hpl : (backTo pos (starEach es X.env)).any (·.1) = false := by rfl) (hn : ps.length = n := by rfl) :
    DE X E m (.Call (.Name x p) (e :: es) [] pos) (eArgs (callN n d) fl) := by
  obtain ⟨f, fd, F, hm, G⟩ := h.ex
  subst hn
  exact de_call G hr hm F.kp (binds_of F hb) hx ha hg hdb he hpl
def kwN (n : Nat) (idx : List Nat) (nk : Nat) (d : List D → M D) : List D → M D := fun ds => if ds.length = nk then callN n d (permL idx ds) else M.bad
theorem de_fnK {n nk : Nat} {kws : List Keyword} (ks : List Str) (idx : List Nat) (h : Has X.prog X.w X.K X.mg X.base x st kk ps m d) (hr : RoomG kk X.A) (hx : Passes (XC X.prog X.w) X E) (hkw : DK X E kws fl)
    (hb : ∀ (kV doc pm : Value) (an : Option Addr) (cdv ct : Value) (ws : List Value), ws.length = ks.length → bindArgs (PySem.W.fnOf x x (defArgs st) (defBody st) (defScope st) .none kV doc pm an cdv ct) ⟨[], ks.zip ws⟩ = pure (ps.zip (permL idx ws)))
    (hp : 0 < ps.length := by decide) (hg : Gl X x := by rfl) (hall : (backToKw pos (keywordEach kws X.env)).all (·.1.isSome) = true := by rfl) (hks : (backToKw pos (keywordEach kws X.env)).filterMap (·.1) = ks := by rfl)
    (hdb : (x == ("__debug__" : Str)) = false := by decide) (hpl : ((backTo pos (starEach [] X.env)).any (·.1) || (backToKw pos (keywordEach kws X.env)).any (·.1.isNone)) = false := by rfl) (hn : ps.length = n := by rfl) (hnk : ks.length = nk := by rfl) :
    DE X E m (.Call (.Name x p) [] kws pos) (eArgs (kwN n idx nk d) fl) := by
  obtain ⟨f, fd, F, hm, G⟩ := h.ex
  subst hn hnk
  have kb := kbinds_of (ks := ks) (idx := idx) F hp hb
  refine ⟨fun pins s σ H Q I ⟨A, S, g, σd, o, r, q⟩ => ?_⟩
  refine wpAny_Call_Name_kw (ld_glob I hg hm ?_ hdb)
  refine PySem.W.callWith_KW0 (h₀ := X.base) I.ok.mod.kin F.kp hall (thn (hkw.run pos pins s σ H _ I ⟨A, S, g, σd, o, r, (KE.bindL q)⟩) fun ws s2 ⟨zs, H2, I2, rz, A1, S1, g1, ds, p1, o1, r1, q1⟩ => ⟨I2.kIn, ?_⟩) hpl
  rw [hks]
  have q1 : KE (Cx.sur X E) m A1 S1 H2 (kwN ps.length idx ks.length d ds g1) Q := q1
  unfold kwN callN at q1
  by_cases c : ds.length = ks.length
  · rw [if_pos c] at q1
    by_cases c2 : (permL idx ds).length = ps.length
    · rw [if_pos c2] at q1
      refine run_fnkG (us := []) (vs := []) G hr kb hx I2 .nil rz ?_
      have cz : zs.length = ks.length := by rw [r1.length]; exact c
      have rp := permL_rep r1 idx
      show spD X.mg X.K ps.length m d (if ([] : List V).length = 0 ∧ zs.length = ks.length then permL idx zs else []) H2 Q E
      rw [if_pos ⟨rfl, cz⟩]
      exact ⟨by rw [rp.length]; exact c2, A1, S1, g1, permL idx ds, o1, rp, q1⟩
    · rw [if_neg c2] at q1; exact q1.elim
  · rw [if_neg c] at q1; exact q1.elim
end
section
variable {P : Program} {w : World} {K : PySem.W.Frag} {mg : Str → Option Value} {base : Heap}
theorem Has.bad {x : Str} {st : Stmt} (a : At K mg x st) (k : Nat) (ps : List Str) (m : Bool) : Has P w K mg base x st k ps m (fun _ => M.bad) := by
  obtain ⟨f, fd, F, hm⟩ := a.ex
  exact ⟨f, fd, F, hm, ⟨fun vs H Q E h => h.1, fun A outer s H args us vs Q E _ _ _ _ h => by obtain ⟨_, _, _, _, _, _, _, q⟩ := h; exact q.elim⟩⟩
theorem Has.mk' {x : Str} {st : Stmt} {N ps : List Str} {k : Nat} {m : Bool} {b : DS → M Fl} (a : At K mg x st) (Sc : FnScope N ps (defScope st))
    (hbody : ∀ (f : Addr) (cdv : Value) (A : Around) (outer : List Env) (s : Shared) (H : Hp) (E : XK) (e0 : En), RoomG k (XOf P w K mg base N x (defScope st) f cdv A outer s H E).A →
      Passes (XC P w) (XOf P w K mg base N x (defScope st) f cdv A outer s H E) E → PassesOwn (model P w) (XOf P w K mg base N x (defScope st) f cdv A outer s H E).A (XOf P w K mg base N x (defScope st) f cdv A outer s H E).env (XOf P w K mg base N x (defScope st) f cdv A outer s H E).xe →
      DSs (XOf P w K mg base N x (defScope st) f cdv A outer s H E) E m e0 (defBody st) b) : Has P w K mg base x st (k + 1) ps m (runD N.length m b) := by
  obtain ⟨f, fd, F, hm⟩ := a.ex
  exact ⟨f, fd, F, hm, ok_def F Sc (hbody f)⟩
theorem Has.up {x : Str} {st : Stmt} {ps : List Str} {j k : Nat} {m : Bool} {d : List D → M D} (h : Has P w K mg base x st j ps m d) (hk : j ≤ k) : Has P w K mg base x st k ps m d := by
  obtain ⟨f, fd, F, hm, G⟩ := h.ex
  exact ⟨f, fd, F, hm, G.mono hk⟩
theorem At.mk' {x : Str} {st : Stmt} {f : Addr} {oc : Value} {od an : Option Addr} {osl : Array (Option Value)} {kV doc pm cdv ct : Value} {h : Heap} (X : K.In h) (G : h.Ns mainGlobals mg) (a : PySem.W.nsIn K mainGlobals x = some (some (.ref f)))
    (l : K.lookup f = some ⟨oc, od, .func (PySem.W.fnOf x x (defArgs st) (defBody st) (defScope st) .none kV doc pm an cdv ct), osl⟩)
    (c : PySem.W.codeIn K cdv x = true) (k : PySem.W.keepIn K (.ref f) = true) : At K mg x st := ⟨f, _, fun_mk l c k, PySem.W.mg_of X G a⟩
end
end NS
namespace NS
open PySem PySem.Spec PyProof.Rows L2
section
variable {X : Cx} {E : XK} {pos : Pos} {e : Expr} {fe : DS → M D}
theorem dt_val (h : DE X E false e fe) (he : ∀ whole, isTrue e X.env whole = (do let v ← whole; standAt e.pos; holding [v] (truthy v)) := by intro _; rfl) : DT X E e (eTst fe) :=
  (pt_val h he).impD fun σ H Q h => tst_read h
def GStr (mg : Str → Option Value) (x s : Str) : Prop := ∃ t, mg x = some (.str s t)
def GInt (mg : Str → Option Value) (x : Str) (i : Int) : Prop := ∃ t, mg x = some (.int i t)
theorem de_gstr {x s : Str} (h : GStr X.mg x s) (hg : Gl X x := by rfl) (hd : (x == ("__debug__" : Str)) = false := by decide) : DE X E false (.Name x pos) (eC (.str s)) := by
  obtain ⟨t, h⟩ := h
  exact de_glob (v := .str s) h ⟨t, rfl⟩ (fun _ _ => .str s) hg hd
theorem de_gint {x : Str} {i : Int} (h : GInt X.mg x i) (hg : Gl X x := by rfl) (hd : (x == ("__debug__" : Str)) = false := by decide) : DE X E false (.Name x pos) (eC (.int i)) := by
  obtain ⟨t, h⟩ := h
  exact de_glob (v := .int i) h ⟨t, rfl⟩ (fun _ _ => .int i) hg hd
end
end NS
namespace NS
open PySem PySem.Spec PyProof.Rows L2
theorem room0 {k : Nat} {A : Around} (h : RoomG k A) : A.units < cLine := by have := h.r.un; omega
theorem room64 {k : Nat} {A : Around} (h : RoomG k A) : A.units + 64 < cLine := by have := h.r.un; omega
theorem room65 {k : Nat} {A : Around} (h : RoomG k A) : A.units + 65 < cLine := by have := h.r.un; omega
section
variable {X : Cx} {E : XK} {pos : Pos} {e : Expr} {fe : DS → M D}
def kNeg : D → M D
  | .int i => M.pure (.int (-i))
  | _ => M.bad
def eNeg (fe : DS → M D) : DS → M D := fun σ => M.bind (fe σ) kNeg
theorem de_neg (he : DE X E false e fe) : DE X E false (.UnaryOp .USub e pos) (eNeg fe) :=
  PE.impD (pe_un un_neg he) fun σ H Q ⟨A, S, g, σd, o, r, q⟩ => ⟨A, S, g, σd, o, r, (KE.bindE q).imp fun v H1 ⟨A1, S1, g1, d, p1, o1, r1, q1⟩ => by
    cases r1 with
    | int i => exact ⟨i, rfl, KE.val q1 o1 (.int _)⟩
    | _ => exact q1.elim⟩
end
end NS
namespace NS
open PySem PySem.Spec PyProof.Rows L2
theorem meets_enumT {v : Value} {o : Obj} {H : Heap → Prop} (B : Begins v o H) :
    Meets (Builtin.«enumerate.__new__» ⟨[.type "enumerate", v], []⟩) (fun _ R s => H s.heap ∧
      R (.ok (.ret (.ref (s.heap.push o).objs.size))) { s with heap := (s.heap.push o).push { cls := .type "enumerate", data := .fields #[.none, .bool false, .ref s.heap.objs.size, rawInt 0, .none, .none] } }) :=
  .of_wp fun prog w A R s h => by
    obtain ⟨hp, g, d, tk, os⟩ := s; obtain ⟨h1, h⟩ := h
    have hsub := sub_enumerate
    have q1 : ∀ {A' : Around} {E : Value → Shared → Prop} {Q : Value → Shared → Prop}, Q (.ref hp.objs.size) ⟨hp.push o, g, d, tk, os⟩ → wpAny (model prog w) A' (pyIter v) Q E ⟨hp, g, d, tk, os⟩ :=
      fun q => B.iter prog w _ _ ⟨hp, g, d, tk, os⟩ _ h1 q
    wp_walk using q1
    refine wpAny_stack_any fun st => wpAny_pure ?_
    split
    · rename_i c _ _ _ _ _
      cases (c == Value.type "enumerate")
      · wp_walk using q1
        exact ⟨_, rfl, h⟩
      · wp_walk using q1
        exact ⟨_, rfl, h⟩
    · wp_walk using q1
      exact ⟨_, rfl, h⟩
section
variable {prog : Program} {w : World} {A : Around} {E : Value → Shared → Prop} {s : Shared}
theorem call_enumT {t : Addr} {items : Array Value} {Q : Value → Shared → Prop} (h1 : s.heap.IsTuple t items)
    (h : ∀ h', IsEnum h' (s.heap.objs.size + 1) s.heap.objs.size 0 .none → h'.IsTupleIter s.heap.objs.size t 0 → h'.objs.size = s.heap.objs.size + 2 →
      (∀ b o, s.heap.get? b = some o → h'.get? b = some o) → Q (.ref (s.heap.objs.size + 1)) { s with heap := h' }) :
    wpAny (model prog w) A (call (.type "enumerate") [.ref t]) Q E s := by
  refine callType_new F.called_enumerate (by decide) (F.typeCall_enumerate_1 _) (F.newCall_enumerate_1 _) (fun obj => F.args_object_init_2 obj _) F.entry_enumerate_new
    (meets_enumT (begins_tuple t items)) ⟨h1, ?_⟩
  have hz : (s.heap.push { cls := .type "tuple_iterator", data := .fields #[.ref t, .int 0 0] }).objs.size = s.heap.objs.size + 1 := Heap.size_push ..
  show _ ∧ _
  rw [hz]
  have he : IsEnum ((s.heap.push { cls := .type "tuple_iterator", data := .fields #[.ref t, .int 0 0] }).push { cls := .type "enumerate", data := .fields #[.none, .bool false, .ref s.heap.objs.size, rawInt 0, .none, .none] }) (s.heap.objs.size + 1) s.heap.objs.size 0 .none := by
    have := Heap.get?_push_size (s.heap.push { cls := .type "tuple_iterator", data := .fields #[.ref t, .int 0 0] }) (o := { cls := .type "enumerate", data := .fields #[.none, .bool false, .ref s.heap.objs.size, rawInt 0, .none, .none] }) rfl
    rw [hz] at this; exact this
  refine ⟨⟨_, he, rfl⟩, h _ he ⟨_, Heap.get?_push_of_some _ (Heap.get?_push_size _ rfl), rfl, rfl⟩ (by rw [Heap.size_push, hz]) fun b o x => Heap.get?_push_of_some _ (Heap.get?_push_of_some _ x)⟩
theorem enumT_end {e it l : Addr} {i : Nat} {items : Array Value} {old : Value} {k : Int} {Q : Option Value → Shared → Prop} (hh : A.handled = none)
    (he : IsEnum s.heap e it k old) (hit : s.heap.IsTupleIter it l i) (hl : s.heap.IsTuple l items) (hx : items[i]? = none)
    (hQ : ∀ h', Heap.ExtBut it s.heap h' → Q none { s with heap := h' }) : wpAny (model prog w) A (pyNext (.ref e)) Q E s := by
  have hT : s.TypeIs (.ref e) "enumerate" := ⟨_, he, rfl⟩
  unfold pyNext
  refine wpAny_bind (wpAny_attempt (wpAny_callSpecial?_slot (name := Str.ofString "__next__") hT F.slot_enumerate_next
    (wpAny_call_entry F.slot_enumerate_next hT F.entry_enumerate_next ?_ (F.args_enumerate_next_1 _))))
  show wpAny _ _ (field (.ref e) 2 >>= _) _ _ _
  refine wpAny_bind (wpAny_field he rfl (x := .ref it) rfl ?_)
  refine wpAny_bind (wpAny_nextOf_tuple_end hh hit hl hx fun h' x he' hx' => ?_)
  obtain ⟨o, ho, hc⟩ := hx'
  refine wpAny_bind (wpAny_isInstance (T := "StopIteration") (b := true) ⟨o, ho, hc⟩ isSubtype_stop ?_)
  exact wpAny_pure (hQ _ he')
end
def Iet (K : PySem.W.Frag) (a : Addr) : It :=
  ⟨fun i H => ∃ (xs : List V) (x : V), SqT K H a xs ∧ xs[i]? = some x, fun i H v H' => ∃ T x, v = .ref T ∧ H T = none ∧ H' = upd H T (.tup [.int (i : Nat), x]) ∧ ∀ xs, SqT K H a xs → xs[i]? = some x, fun i H => ∃ xs : List V, SqT K H a xs ∧ xs.length ≤ i⟩
theorem turn_enumT {P : Program} {w : World} {K : PySem.W.Frag} {elts : List Expr} {kk : Nat} {tpos : Pos} (a e it : Addr) :
    Turn P w K (.Tuple elts kk tpos) (Iet K a) [e, it] e (fun i h => (∃ old, IsEnum h e it ((i : Nat) : Int) old) ∧ h.IsTupleIter it a i ∧ e ≠ it ∧ a ≠ e ∧ a ≠ it) where
  mem := by simp
  obj := fun i h st b hb => by
    obtain ⟨⟨old, he⟩, ⟨o, ho, hc, hd⟩, _⟩ := st
    have e' : b = e ∨ b = it := by simpa using hb
    rcases e' with z | z
    · rw [z]; exact ⟨_, he, fun v q => nomatch q⟩
    · rw [z]; exact ⟨o, ho, fun v q => by rw [hd] at q; cases q⟩
  keep := fun i h h' st k => let ⟨⟨old, he⟩, hi, hne⟩ := st; ⟨⟨old, k e (by simp) _ he⟩, hi.at fun o q => k it (by simp) o q, hne⟩
  item := by
    intro X hP hw hK hc i pins s σ H E I hf st hg
    subst hP hw hK
    obtain ⟨⟨old, he⟩, hit, hne, hae, hai⟩ := st
    obtain ⟨xs, x, hq, hx⟩ := hg
    obtain ⟨its, rv, p, hz⟩ := I.tuple hq
    obtain ⟨u, hu, ru⟩ := rv.get hx
    have hel : e < s.heap.objs.size := Heap.lt_size he
    have hil : it < s.heap.objs.size := by obtain ⟨_, q, _⟩ := hit; exact Heap.lt_size q
    have hlt : i < its.toArray.size := by
      have := (List.getElem?_eq_some_iff.mp hu).1
      simpa using this
    refine wpAny_pyNext_enum_itemD (Draws.tuple (A := X.A.in1) (I.ok.hd hc) it a hai its.toArray) he ⟨hit, p⟩ hlt hne (by simp; exact ⟨hne, Ne.symm hae⟩) fun y h' tk hP ho hst' hT hsz hk => ?_
    obtain ⟨hit', ht'⟩ := hst'
    have ey : y = u := by
      have : its.toArray[i]? = some u := by simpa using hu
      rw [this] at hP; exact (Option.some.inj hP).symm
    subst ey
    refine ⟨_, rfl, wpAny_letOwnedTupleGo_enum (s := { s with heap := h', toks := tk + 1 }) ho fun h'' he' sb => ?_⟩
    have hT2 : h''.get? s.heap.objs.size = some { cls := .type "tuple", data := .seq #[.int i tk, y] } := (sb.2 _ (Nat.ne_of_gt hel)).trans hT
    have new : ObjOk X.prog X.w (upd H s.heap.objs.size (.tup [.int (i : Nat), x])) h'' s.heap.objs.size (.tup [.int (i : Nat), x]) :=
      ⟨by show 2 ≤ sizeLine; decide, [.int i tk, y], .cons ⟨_, rfl⟩ (.cons ru .nil), ⟨_, hT2, rfl, _, rfl⟩⟩
    have I1 : Inv X pins σ (upd H s.heap.objs.size (.tup [.int (i : Nat), x])) { s with heap := h'', toks := tk + 1 } :=
      I.turnedNew (ch := [e, it]) (fun b ob hb q => (sb.2 b (fun z => hb (by simp [z]))).trans (hk b ob (fun z => hb (by simp [z])) (fun z => hb (by simp [z])) q)) hf (Nat.le_refl _) new
    refine ⟨.ref s.heap.objs.size, _, I1, rfl, ⟨_, x, rfl, I.hok.fresh (Nat.le_refl _), rfl, fun ys hy => ?_⟩, ⟨⟨y, ?_⟩, hit'.at fun o q => (sb.2 it (Ne.symm hne)).trans q, hne, hae, hai⟩, fun b hb => ?_⟩
    · have e9 : ys = xs := (I.tuple_inj hy hq)
      rw [e9]; exact hx
    · have e1 : ((i + 1 : Nat) : Int) = (i : Int) + 1 := by omega
      rw [e1]; exact he'
    · have hb' : b < s.heap.objs.size := by
        have e' : b = e ∨ b = it := by simpa using hb
        rcases e' with z | z
        · rw [z]; exact hel
        · rw [z]; exact hil
      rw [upd_ne (Nat.ne_of_lt hb')]
      exact (hf b hb).1
  done := by
    intro X hP hw hK hc i pins s σ H E I hf st hg
    subst hP hw hK
    obtain ⟨⟨old, he⟩, hit, hne, hae, hai⟩ := st
    obtain ⟨xs, hq, hx⟩ := hg
    obtain ⟨its, rv, p, hz⟩ := I.tuple hq
    obtain ⟨f0, f1, f2, f3, f4, f5⟩ := hf it (by simp)
    have hl := rv.length
    exact enumT_end (I.ok.hd hc) he hit p (by simp; omega) fun h' eb => ⟨rfl, I.turned (t' := s.toks) (fun b o hb q => eb b o hb q) f0 f1 f3 f4 f5⟩
  self := fun A i s Q E st h => let ⟨⟨_, he⟩, _⟩ := st; wpAny_pyIter_enum he h
def iEnumT (K : PySem.W.Frag) (ta : TA) : TI := fun σ H R => ta σ H fun vs H1 => ∃ a xs, vs = [.ref a] ∧ SqT K H1 a xs ∧ R (Iet K a) H1
theorem pi_enumT {X : Cx} {e : Expr} {ta : TA} {p pos tpos : Pos} {elts : List Expr} {kk : Nat} (hg : Gl X "enumerate") (hm : X.mg "enumerate" = none) (ha : PA X [e] ta) (hs : starEach [e] X.env = [(false, eval e X.env)] := by rfl) :
    PI X (.Tuple elts kk tpos) (.Call (.Name "enumerate" p) [e] [] pos) (iEnumT X.K ta) := by
  refine ⟨fun pins s σ H R I h => ?_⟩
  refine Call_ (ld_blt I hg hm (by decide +kernel : bootBuiltins "enumerate" = some (.type "enumerate")) (PyProof.Rows.callWith_type1 (thn (ha.run pos pins s σ H _ I h) fun us s1 ⟨vs, H1, I1, r1, q1⟩ => ?_) hs rfl))
  obtain ⟨a, xs, ex, hq, q⟩ := q1
  subst ex
  cases r1 with
  | cons r rr =>
    cases rr
    cases r
    obtain ⟨its, rv, p', hz⟩ := I1.tuple hq
    have al : a < s1.heap.objs.size := by obtain ⟨_, q, _⟩ := p'; exact Heap.lt_size q
    refine call_enumT p' fun h' he hit hsz hk => wpAny_pyIter_enum he ?_
    have I2 : Inv X pins σ H1 { s1 with heap := h' } := I1.kept (t' := s1.toks) hk
    refine ⟨s1.heap.objs.size + 1, [s1.heap.objs.size + 1, s1.heap.objs.size], _, _, H1, rfl, I2, turn_enumT a (s1.heap.objs.size + 1) s1.heap.objs.size, ⟨⟨.none, he⟩, hit, Nat.succ_ne_self _, Nat.ne_of_lt (Nat.lt_succ_of_lt al), Nat.ne_of_lt al⟩, fun b hb => ?_, q⟩
    have e' : b = s1.heap.objs.size + 1 ∨ b = s1.heap.objs.size := by simpa using hb
    have hle : s1.heap.objs.size ≤ b := by
      rcases e' with z | z
      · rw [z]; exact Nat.le_add_right _ _
      · rw [z]; exact Nat.le_refl _
    exact I1.fpOk hle (I1.hok.fresh hle)
def enumD (xs : List D) : List D := (List.range xs.length).zip xs |>.map fun p => .tup [.int (p.1 : Nat), p.2]
theorem enumD_len (xs : List D) : (enumD xs).length = xs.length := by simp [enumD]
theorem enumD_get {xs : List D} {i : Nat} {d : D} (h : xs[i]? = some d) : (enumD xs)[i]? = some (.tup [.int (i : Nat), d]) := by
  have hl := (List.getElem?_eq_some_iff.mp h).1
  unfold enumD
  rw [List.getElem?_map, (List.getElem?_zip_eq_some (z := (i, d))).mpr ⟨by simp [hl], h⟩]
  rfl
def enumK : List D → M (List D)
  | [.lst xs] => M.pure (enumD xs)
  | [.tup xs] => M.pure (enumD xs)
  | [.ftup xs] => M.pure (enumD xs)
  | _ => M.bad
section
variable {X : Cx} {E : XK} {pos p tpos : Pos} {e : Expr} {elts : List Expr} {kk : Nat} {fl : DS → M (List D)}
theorem dit_enumL {K : PySem.W.Frag} {A : List GAdr} {S : Hp} {a : Addr} {xs : List V} {ds : List D} (r : RepL K A S xs ds) (h : SqL K S a xs) : DIt K A S (Ite K a) (enumD ds) := by
  refine ⟨fun i H hi e => ?_, fun i H hi e => ⟨xs, SqL.mono e h, by rw [r.length, ← enumD_len]; exact hi⟩, fun i H x H' hi e y => ?_⟩
  · rw [enumD_len, ← r.length] at hi
    exact ⟨xs, xs[i], SqL.mono e h, List.getElem?_eq_getElem hi⟩
  · obtain ⟨T, z, rfl, h1, h2, h3⟩ := y
    have hz := h3 xs (SqL.mono e h)
    obtain ⟨d, hd, rd⟩ := r.get hz
    exact ⟨_, enumD_get hd, .inr ⟨T, _, _, rfl, rfl, .inl ⟨h1, h2⟩, .cons (.int _) (.cons rd .nil)⟩⟩
theorem dit_enumT {K : PySem.W.Frag} {A : List GAdr} {S : Hp} {a : Addr} {xs : List V} {ds : List D} (r : RepL K A S xs ds) (h : SqT K S a xs) : DIt K A S (Iet K a) (enumD ds) := by
  refine ⟨fun i H hi e => ?_, fun i H hi e => ⟨xs, SqT.mono e h, by rw [r.length, ← enumD_len]; exact hi⟩, fun i H x H' hi e y => ?_⟩
  · rw [enumD_len, ← r.length] at hi
    exact ⟨xs, xs[i], SqT.mono e h, List.getElem?_eq_getElem hi⟩
  · obtain ⟨T, z, rfl, h1, h2, h3⟩ := y
    have hz := h3 xs (SqT.mono e h)
    obtain ⟨d, hd, rd⟩ := r.get hz
    exact ⟨_, enumD_get hd, .inr ⟨T, _, _, rfl, rfl, .inl ⟨h1, h2⟩, .cons (.int _) (.cons rd .nil)⟩⟩
theorem di_enum (hm : X.mg "enumerate" = none) (ha : DL X E [e] fl) (hg : Gl X "enumerate" := by rfl) (hs : starEach [e] X.env = [(false, eval e X.env)] := by rfl) :
    DI X E (.Tuple elts kk tpos) (.Call (.Name "enumerate" p) [e] [] pos) (iArgs enumK fl) :=
  PI.impD (PI.or (pi_enum hg hm ha hs) (pi_enumT hg hm ha hs)) fun σ H R ⟨A, S, g, σd, o, r, q⟩ => by
    have q' : KI (Cx.sur X E) A S H (M.bind (fl σd) enumK g) R := q
    cases e1 : fl σd g with
    | bad => rw [bind_bad e1] at q'; exact q'.elim
    | err x g' =>
      rw [bind_err e1] at q'
      refine .inl ⟨A, S, g, σd, o, r, ?_⟩
      rw [e1]
      exact q'
    | ok ds g1 =>
      rw [bind_ok e1] at q'
      unfold enumK at q'
      split at q'
      · rename_i xs
        refine .inl ⟨A, S, g, σd, o, r, ?_⟩
        rw [e1]
        intro A' S' H' vs P o' rv
        obtain ⟨v, rfl, rv1⟩ := rep1 rv
        cases rv1 with
        | @lst a ws _ h rr => exact ⟨a, ws, rfl, .inl (.inl (o'.ext _ _ h)), KI.now (q'.shift P) o' (dit_enumL rr (.inl (.inl h)))⟩
      · rename_i xs
        refine .inr ⟨A, S, g, σd, o, r, ?_⟩
        rw [e1]
        intro A' S' H' vs P o' rv
        obtain ⟨v, rfl, rv1⟩ := rep1 rv
        cases rv1 with
        | @tup a ws _ h rr => exact ⟨a, ws, rfl, tq o'.ext h, KI.now (q'.shift P) o' (dit_enumT rr (.inl (.inl h)))⟩
      · rename_i xs
        refine .inr ⟨A, S, g, σd, o, r, ?_⟩
        rw [e1]
        intro A' S' H' vs P o' rv
        obtain ⟨v, rfl, rv1⟩ := rep1 rv
        cases rv1 with
        | @ftup a ws _ h rr => exact ⟨a, ws, rfl, h.sq o'.ext, KI.now (q'.shift P) o' (dit_enumT rr (h.sq (Same.refl _)))⟩
      · exact q'.elim
end
end NS
namespace NS
open PySem PySem.Spec PyProof.Rows L2
def compM2 (fg : D → DS → M DS) (ft : DS → M Bool) (fi1 : DS → M (List D)) (vs1 : List Nat) (fg1 : D → DS → M DS) (ft1 : DS → M Bool) (fe : DS → M D) (σ : DS) : List D → M (List D)
  | [] => M.pure []
  | d :: ds => M.bind (fg d σ) fun σ1 => M.bind (M.noerr (ft σ1)) fun b => if b = true then
      M.bind (M.noerr (fi1 σ1)) fun es => M.bind (compM fg1 ft1 fe (wipeD σ1 vs1) es) fun r1 => M.bind (compM2 fg ft fi1 vs1 fg1 ft1 fe σ ds) fun r => M.pure (r1 ++ r)
    else compM2 fg ft fi1 vs1 fg1 ft1 fe σ ds
def eComp2 (fi : DS → M (List D)) (vs : List Nat) (fg : D → DS → M DS) (ft : DS → M Bool) (fi1 : DS → M (List D)) (vs1 : List Nat) (fg1 : D → DS → M DS) (ft1 : DS → M Bool) (fe : DS → M D) : DS → M D := fun σ =>
  M.bind (fi σ) fun ds => if fit ds.length = true then M.bind (M.noerr (compM2 fg ft fi1 vs1 fg1 ft1 fe (wipeD σ vs) ds)) fun r => if fit r.length = true then M.pure (.lst r) else M.bad else M.bad
def CQ2 (U : Sur) (m : Bool) (A1 : List GAdr) (S1 H1 : Hp) (Q : VK) (es : List D) (r : Res (List D)) : Prop :=
  match r with
  | .ok rs g => fit (es ++ rs).length = true ∧ KE U m A1 S1 H1 (.ok (.lst (es ++ rs)) g) Q
  | _ => False
theorem CQ2.cons {U : Sur} {m : Bool} {A1 : List GAdr} {S1 H1 : Hp} {Q : VK} {es : List D} {y : D} {C R : M (List D)} {g : G}
    (h : CQ2 U m A1 S1 H1 Q es (M.bind C (fun r => M.bind R fun r' => M.pure ((y :: r) ++ r')) g)) : CQ2 U m A1 S1 H1 Q (es ++ [y]) (M.bind C (fun r => M.bind R fun r' => M.pure (r ++ r')) g) := by
  cases e : C g with
  | err z g' => rw [bind_err e] at h; exact h.elim
  | bad => rw [bind_bad e] at h; exact h.elim
  | ok r g' =>
    rw [bind_ok e] at h ⊢
    cases e2 : R g' with
    | err z g2 => rw [bind_err e2] at h; exact h.elim
    | bad => rw [bind_bad e2] at h; exact h.elim
    | ok r' g2 =>
      rw [bind_ok e2] at h ⊢
      have h' : fit (es ++ ((y :: r) ++ r')).length = true ∧ KE U m A1 S1 H1 (.ok (.lst (es ++ ((y :: r) ++ r'))) g2) Q := h
      show fit (es ++ [y] ++ (r ++ r')).length = true ∧ KE U m A1 S1 H1 (.ok (.lst (es ++ [y] ++ (r ++ r'))) g2) Q
      rw [List.append_assoc]
      exact h'
theorem CQ2.fit {U : Sur} {m : Bool} {A1 : List GAdr} {S1 H1 : Hp} {Q : VK} {es : List D} {r : Res (List D)} (h : CQ2 U m A1 S1 H1 Q es r) : es.length < 1000000 := by
  cases r with
  | ok rs g =>
    have := of_decide_eq_true h.1
    rw [List.length_append] at this
    omega
  | err _ _ => exact h.elim
  | bad => exact h.elim
theorem KI.noerr_I {U : Sur} {A : List GAdr} {S H : Hp} {x : M (List D)} {k : List D → M (List D)} {g : G} {P : Res (List D) → Prop} {E' : XK} {R : It → Hp → Prop} (hb : ¬ P .bad)
    (h : P (M.bind (M.noerr x) k g)) (i : ∀ ds g1, P (k ds g1) → KI ⟨U.mg, U.K, E'⟩ A S H (.ok ds g1) R) : KI ⟨U.mg, U.K, E'⟩ A S H (x g) R := by
  unfold M.bind M.noerr at h
  cases e : x g with
  | ok d g1 => rw [e] at h; exact i d g1 h
  | err e1 g1 => rw [e] at h; exact (hb h).elim
  | bad => rw [e] at h; exact (hb h).elim
theorem wipeD_notin {σd : DS} {i : Nat} {x : DV} : ∀ {vs : List Nat}, (wipeD σd vs)[i]? = some (some x) → i ∉ vs
  | [], _ => by simp
  | v :: vs, h => by
    rcases set_get (l := wipeD σd vs) h with ⟨rfl, z, _⟩ | ⟨ne, h⟩
    · cases z
    · intro hm
      rcases List.mem_cons.mp hm with e | e
      · exact ne e.symm
      · exact wipeD_notin h e
theorem comp_read2 {m : Bool} {vs0 : List Nat} {fi : DS → M (List D)} {vs : List Nat} {fg : D → DS → M DS} {ft : DS → M Bool} {fi1 : DS → M (List D)} {vs1 : List Nat} {fg1 : D → DS → M DS} {ft1 : DS → M Bool} {fe : DS → M D} (tk : TgOk vs0 fg) (hx1 : ∀ d σ g e g', fg1 d σ g ≠ .err e g')
    (hv : ∀ i ∈ vs1, i ∈ vs) {U : Sur} {E' : XK} {σ : L2.St} {H : Hp} {Q : VK}
    (h : tE U m (eComp2 fi vs fg ft fi1 vs1 fg1 ft1 fe) σ H Q) : tLc2 (tI U fi) (tG ⟨U.mg, U.K, E'⟩ vs fg) (tT ⟨U.mg, U.K, E'⟩ ft) (tI ⟨U.mg, U.K, E'⟩ fi1) (tG ⟨U.mg, U.K, E'⟩ vs1 fg1) (tT ⟨U.mg, U.K, E'⟩ ft1) (tE ⟨U.mg, U.K, E'⟩ false fe) vs vs1 σ H Q := by
  obtain ⟨A, S, g, σd, o, r, q⟩ := h
  refine ⟨A, S, g, σd, o, r, ?_⟩
  have q0 : KI U A S H (fi σd g) fun J H1 => ∃ A1 S1 g1 ds, Post A S H A1 S1 H1 ∧ Ok U.K A1 S1 H1 g1 ∧ DIt U.K A1 S1 J ds ∧ KE U m A1 S1 H1 ((if fit ds.length = true then M.bind (M.noerr (compM2 fg ft fi1 vs1 fg1 ft1 fe (wipeD σd vs) ds)) fun r => if fit r.length = true then M.pure (.lst r) else M.bad else M.bad) g1) Q := by
    unfold eComp2 M.bind at q
    cases e : fi σd g with
    | ok d g1 => rw [e] at q; exact fun A' S' H' v p o r => ⟨A', S', g1, d, p, o, r, KE.shift p q⟩
    | err e1 g1 => rw [e] at q; exact q
    | bad => rw [e] at q; exact q
  refine q0.imp fun J H1 ⟨A1, S1, g1, ds, p1, o1, it, q1⟩ => ?_
  intro p hp
  by_cases hf : fit ds.length = true
  · rw [if_pos hf] at q1
    have sp : S1 p = none := Same.free o1.ext hp
    have pg : p ∉ gfp A1 := fun z => by obtain ⟨u, hu⟩ := o1.there p z; rw [hp] at hu; cases hu
    have P0 : Post A1 S1 H1 A1 S1 (upd H1 p (.lst [])) := Post.layO hp
    refine ⟨fun i mm H2 => mm = ds.length - i ∧ i ≤ ds.length ∧ ∃ A2 S2 g2 vs2 es2, Post A1 S1 H1 A2 S2 H2 ∧ Ok U.K A2 S2 H2 g2 ∧ SRep U.K A2 S2 H2 (L2.wipe σ vs) (wipeD σd vs) ∧ Loose A2 S2 H2 p vs2 ∧ RepL U.K A2 S2 vs2 es2 ∧
        CQ2 U m A1 S1 H1 Q es2 (compM2 fg ft fi1 vs1 fg1 ft1 fe (wipeD σd vs) (ds.drop i) g2), ⟨_, rfl, Nat.zero_le _, A1, S1, g1, [], [], P0, o1.layO hp, ((r.post p1).wipe vs).post P0, ⟨sp, pg, upd_same⟩, .nil, ?_⟩, ?_⟩
    · rw [List.drop_zero]
      unfold CQ2
      cases e : compM2 fg ft fi1 vs1 fg1 ft1 fe (wipeD σd vs) ds g1 with
      | ok rs g3 =>
        rw [bind_ok (noerr_ok e)] at q1
        by_cases hr : fit rs.length = true
        · rw [if_pos hr] at q1; exact ⟨hr, q1⟩
        · rw [if_neg hr] at q1; exact q1.elim
      | err x g3 => rw [bind_bad (noerr_err e)] at q1; exact q1.elim
      | bad => rw [bind_bad (noerr_bad e)] at q1; exact q1.elim
    · rintro i mm H2 ⟨rfl, hi, A2, S2, g2, vs2, es2, P2, o2, r2, lo, rl, cq⟩
      by_cases hlt : i < ds.length
      · refine .inr ⟨it.go i H2 hlt (P2.s.trans o2.ext), fun H3 => i + 1 ≤ ds.length ∧ ∃ A3 S3 g3 vs3 es3, Post A1 S1 H1 A3 S3 H3 ∧ Ok U.K A3 S3 H3 g3 ∧ SRep U.K A3 S3 H3 (L2.wipe σ vs) (wipeD σd vs) ∧ Loose A3 S3 H3 p vs3 ∧ RepL U.K A3 S3 vs3 es3 ∧
          CQ2 U m A1 S1 H1 Q es3 (compM2 fg ft fi1 vs1 fg1 ft1 fe (wipeD σd vs) (ds.drop (i + 1)) g3), fun H3 h3 => ⟨ds.length - (i + 1), by omega, rfl, h3⟩, fun x H3 y => ?_⟩
        obtain ⟨d, ed, yy⟩ := it.yld i H2 x H3 hlt (P2.s.trans o2.ext) y
        have edrop : ds.drop i = d :: ds.drop (i + 1) := by
          obtain ⟨hl2, e2⟩ := List.getElem?_eq_some_iff.mp ed
          rw [List.drop_eq_getElem_cons hl2, e2]
        rw [edrop] at cq
        obtain ⟨S3, PX, oX, rX⟩ : ∃ S3, Post A2 S2 H2 A2 S3 H3 ∧ Ok U.K A2 S3 H3 g2 ∧ Rep U.K A2 S3 x d := yld_rep o2 P2.a P2.s yy
        refine ⟨A2, S3, g2, wipeD σd vs, d, oX, r2.post PX, rX, ?_⟩
        have cq1 : CQ2 U m A1 S1 H1 Q es2 (M.bind (fg d (wipeD σd vs)) (fun σ1 => M.bind (M.noerr (ft σ1)) fun b => if b = true then
            M.bind (M.noerr (fi1 σ1)) fun es => M.bind (compM fg1 ft1 fe (wipeD σ1 vs1) es) fun r1 => M.bind (compM2 fg ft fi1 vs1 fg1 ft1 fe (wipeD σd vs) (ds.drop (i + 1))) fun r => M.pure (r1 ++ r)
          else compM2 fg ft fi1 vs1 fg1 ft1 fe (wipeD σd vs) (ds.drop (i + 1))) g2) := cq
        cases e1 : fg d (wipeD σd vs) g2 with
        | err z g' => exact (tk.ne _ _ _ _ _ e1).elim
        | bad => rw [bind_bad e1] at cq1; exact cq1.elim
        | ok σ1 g3 =>
          rw [bind_ok e1] at cq1
          intro A4 S4 H4 σ4 P4 o4 r4 w4
          refine ⟨by rw [w4, wipe_wipe], A4, S4, g3, σ1, o4, r4, ?_⟩
          cases e2 : ft σ1 g3 with
          | err z g' => rw [bind_bad (noerr_err e2)] at cq1; exact cq1.elim
          | bad => rw [bind_bad (noerr_bad e2)] at cq1; exact cq1.elim
          | ok b g4 =>
            rw [bind_ok (noerr_ok e2)] at cq1
            intro A5 S5 H5 P5 o5
            have PA : Post A2 S2 H2 A5 S5 H5 := PX.trans (P4.trans P5)
            cases b with
            | false =>
              rw [if_neg (by decide)] at cq1 ⊢
              exact ⟨hlt, A5, S5, g4, vs2, es2, P2.trans PA, o5, r2.post PA, lo.post PA, rl.mono PA.a PA.s, cq1⟩
            | true =>
              rw [if_pos rfl] at cq1 ⊢
              refine ⟨A5, S5, g4, σ1, o5, r4.post P5, ?_⟩
              refine KI.noerr_I (U := U) (P := CQ2 U m A1 S1 H1 Q es2) (fun z => z) cq1 fun ds1 g5 cq2 => ?_
              intro A6 S6 H6 J1 P6 o6 it1
              have PB : Post A2 S2 H2 A6 S6 H6 := PA.trans P6
              have rr4 : SRep U.K A6 S6 H6 σ4 σ1 := (r4.post P5).post P6
              refine ⟨fun j kk H7 => kk = ds1.length - j ∧ j ≤ ds1.length ∧ ∃ A7 S7 g7 vs7 es7, (A6 <+: A7 ∧ Same S6 S7) ∧ Post A1 S1 H1 A7 S7 H7 ∧ Ok U.K A7 S7 H7 g7 ∧ SRep U.K A7 S7 H7 (L2.wipe σ4 vs1) (wipeD σ1 vs1) ∧ SRep U.K A7 S7 H7 (L2.wipe σ vs) (wipeD σd vs) ∧ Loose A7 S7 H7 p vs7 ∧ RepL U.K A7 S7 vs7 es7 ∧
                  CQ2 U m A1 S1 H1 Q es7 (M.bind (compM fg1 ft1 fe (wipeD σ1 vs1) (ds1.drop j)) (fun r1 => M.bind (compM2 fg ft fi1 vs1 fg1 ft1 fe (wipeD σd vs) (ds.drop (i + 1))) fun r => M.pure (r1 ++ r)) g7),
                ⟨_, rfl, Nat.zero_le _, A6, S6, g5, vs2, es2, ⟨List.prefix_refl _, Same.refl _⟩, P2.trans PB, o6, rr4.wipe vs1, r2.post PB, lo.post PB, rl.mono PB.a PB.s, by rw [List.drop_zero]; exact cq2⟩, ?_⟩
              rintro j kk H7 ⟨rfl, hj, A7, S7, g7, vs7, es7, P67, P7, o7, s7, r7, lo7, rl7, cq7⟩
              by_cases hjt : j < ds1.length
              · refine .inr ⟨it1.go j H7 hjt (P67.2.trans o7.ext), fun H8 => j + 1 ≤ ds1.length ∧ ∃ A8 S8 g8 vs8 es8, (A6 <+: A8 ∧ Same S6 S8) ∧ Post A1 S1 H1 A8 S8 H8 ∧ Ok U.K A8 S8 H8 g8 ∧ SRep U.K A8 S8 H8 (L2.wipe σ4 vs1) (wipeD σ1 vs1) ∧ SRep U.K A8 S8 H8 (L2.wipe σ vs) (wipeD σd vs) ∧ Loose A8 S8 H8 p vs8 ∧ RepL U.K A8 S8 vs8 es8 ∧
                  CQ2 U m A1 S1 H1 Q es8 (M.bind (compM fg1 ft1 fe (wipeD σ1 vs1) (ds1.drop (j + 1))) (fun r1 => M.bind (compM2 fg ft fi1 vs1 fg1 ft1 fe (wipeD σd vs) (ds.drop (i + 1))) fun r => M.pure (r1 ++ r)) g8), fun H8 h8 => ⟨ds1.length - (j + 1), by omega, rfl, h8⟩, fun x1 H8 y1 => ?_⟩
                obtain ⟨d1, ed1, yy1⟩ := it1.yld j H7 x1 H8 hjt (P67.2.trans o7.ext) y1
                have edrop1 : ds1.drop j = d1 :: ds1.drop (j + 1) := by
                  obtain ⟨hl2, e2⟩ := List.getElem?_eq_some_iff.mp ed1
                  rw [List.drop_eq_getElem_cons hl2, e2]
                rw [edrop1] at cq7
                obtain ⟨S8, PY, oY, rY⟩ : ∃ S8, Post A7 S7 H7 A7 S8 H8 ∧ Ok U.K A7 S8 H8 g7 ∧ Rep U.K A7 S8 x1 d1 := yld_rep o7 P67.1 P67.2 yy1
                refine ⟨A7, S8, g7, wipeD σ1 vs1, d1, oY, s7.post PY, rY, ?_⟩
                have cq8 : CQ2 U m A1 S1 H1 Q es7 (M.bind (M.bind (fg1 d1 (wipeD σ1 vs1)) fun σ3 => M.bind (M.noerr (ft1 σ3)) fun b => if b = true then M.bind (M.noerr (fe σ3)) fun y => M.bind (compM fg1 ft1 fe (wipeD σ1 vs1) (ds1.drop (j + 1))) fun r => M.pure (y :: r) else compM fg1 ft1 fe (wipeD σ1 vs1) (ds1.drop (j + 1))) (fun r1 => M.bind (compM2 fg ft fi1 vs1 fg1 ft1 fe (wipeD σd vs) (ds.drop (i + 1))) fun r => M.pure (r1 ++ r)) g7) := cq7
                have asc : ∀ {α β γ : Type} (x : M α) (f : α → M β) (h : β → M γ) (g : G), M.bind (M.bind x f) h g = M.bind x (fun a => M.bind (f a) h) g := fun x f h g => by
                  unfold M.bind; cases x g <;> rfl
                rw [asc] at cq8
                cases e3 : fg1 d1 (wipeD σ1 vs1) g7 with
                | err z g' => exact (hx1 _ _ _ _ _ e3).elim
                | bad => rw [bind_bad e3] at cq8; exact cq8.elim
                | ok σ3 g8 =>
                  rw [bind_ok e3] at cq8
                  intro A9 S9 H9 σ9 P9 o9 r9 w9
                  refine ⟨by rw [w9, wipe_wipe], A9, S9, g8, σ3, o9, r9, ?_⟩
                  rw [asc] at cq8
                  cases e4 : ft1 σ3 g8 with
                  | err z g' => rw [bind_bad (noerr_err e4)] at cq8; exact cq8.elim
                  | bad => rw [bind_bad (noerr_bad e4)] at cq8; exact cq8.elim
                  | ok b1 g9 =>
                    rw [bind_ok (noerr_ok e4)] at cq8
                    intro A10 S10 H10 P10 o10
                    have PC : Post A7 S7 H7 A10 S10 H10 := PY.trans (P9.trans P10)
                    cases b1 with
                    | false =>
                      rw [if_neg (by decide)] at cq8 ⊢
                      exact ⟨hjt, A10, S10, g9, vs7, es7, ⟨P67.1.trans PC.a, P67.2.trans PC.s⟩, P7.trans PC, o10, s7.post PC, r7.post PC, lo7.post PC, rl7.mono PC.a PC.s, cq8⟩
                    | true =>
                      rw [if_pos rfl] at cq8 ⊢
                      refine ⟨A10, S10, g9, σ3, o10, r9.post P10, ?_⟩
                      rw [asc] at cq8
                      cases e5 : fe σ3 g9 with
                      | err z g' => rw [bind_bad (noerr_err e5)] at cq8; exact cq8.elim
                      | bad => rw [bind_bad (noerr_bad e5)] at cq8; exact cq8.elim
                      | ok yd g10 =>
                        rw [bind_ok (noerr_ok e5), asc] at cq8
                        intro A11 S11 H11 v P11 o11 r11
                        have PD : Post A7 S7 H7 A11 S11 H11 := PC.trans P11
                        obtain ⟨l1, l2, l3⟩ := lo7.post PD
                        have cq9 := CQ2.cons (es := es7) (y := yd) (C := compM fg1 ft1 fe (wipeD σ1 vs1) (ds1.drop (j + 1))) (R := compM2 fg ft fi1 vs1 fg1 ft1 fe (wipeD σd vs) (ds.drop (i + 1))) cq8
                        have hlen : vs7.length < 1000000 := by
                          have := cq9.fit
                          rw [List.length_append] at this
                          rw [rl7.length]; simp at this; omega
                        refine ⟨vs7, l3, Nat.lt_trans hlen (by rw [sizeLine_eq]; decide), hjt, A11, S11, g10, vs7 ++ [v], es7 ++ [yd], ?_, (P7.trans PD).writeNew hp, o11.writeO l1 l2, ?_, ?_, ⟨l1, l2, upd_same⟩, (rl7.mono PD.a PD.s).append (.cons r11 .nil), cq9⟩
                        · exact ⟨P67.1.trans PD.a, P67.2.trans PD.s⟩
                        · refine (s7.post PD).loose l1 fun jj dd q0 es' => ?_
                          obtain ⟨q0, _⟩ := (tk.ow _ _ _ _ _ e1).2 jj dd (wipeD_some q0)
                          have nv := wipeD_notin q0
                          have es2 := (L2.wipe_some es').1
                          rw [wipe_get w4 nv] at es2
                          exact nown (P2.trans PB) r hp p1 es2 q0
                        · exact (r7.post PD).loose l1 fun jj dd q0 es' => nown (P2.trans PB) r hp p1 es' q0
              · have ej : j = ds1.length := by omega
                subst ej
                refine .inl ⟨it1.stop _ H7 (Nat.le_refl _) (P67.2.trans o7.ext), hlt, A7, S7, g7, vs7, es7, P7, o7, r7, lo7, rl7, ?_⟩
                rw [List.drop_length] at cq7
                have cq8 : CQ2 U m A1 S1 H1 Q es7 (M.bind (compM2 fg ft fi1 vs1 fg1 ft1 fe (wipeD σd vs) (ds.drop (i + 1))) (fun r => M.pure ([] ++ r)) g7) := cq7
                cases e9 : compM2 fg ft fi1 vs1 fg1 ft1 fe (wipeD σd vs) (ds.drop (i + 1)) g7 with
                | ok rs g8 => rw [bind_ok e9] at cq8; exact cq8
                | err z g8 => rw [bind_err e9] at cq8; exact cq8.elim
                | bad => rw [bind_bad e9] at cq8; exact cq8.elim
      · have ei : i = ds.length := by omega
        subst ei
        refine .inl ⟨it.stop _ H2 (Nat.le_refl _) (P2.s.trans o2.ext), ?_⟩
        rw [List.drop_length] at cq
        have cq1 : fit (es2 ++ []).length = true ∧ KE U m A1 S1 H1 (.ok (.lst (es2 ++ [])) g2) Q := cq
        rw [List.append_nil] at cq1
        obtain ⟨l1, l2, l3⟩ := lo
        exact cq1.2.atLoose P2 o2 hp l1 l2 l3 rl
  · rw [if_neg hf] at q1; exact q1.elim
section
variable {X : Cx} {E : XK} {m : Bool} {e0 : En} {pos : Pos} {elt tg iter tg1 iter1 : Expr} {ifs ifs1 : List Expr} {scope : Scope} {own : List (Str × Nat)} {vs0 vs1 : List Nat} {fi fi1 : DS → M (List D)} {fg fg1 : D → DS → M DS} {ft ft1 : DS → M Bool} {fe : DS → M D}
theorem de_comp2 (hN : X.N.Nodup) (hi : DI X E tg iter fi) (ok : BlkOk X.N X.env.scope scope own) (tk : TgOk vs0 fg) (hx1 : ∀ d σ g e g', fg1 d σ g ≠ .err e g') (hv : ∀ i ∈ vs1, i ∈ own.map (·.2))
    (hg : ∀ s H C cl fp, DG (Blk X scope s H C cl fp) E0 (own.map (·.2)) tg fg) (ht : ∀ s H C cl fp, DTs (Blk X scope s H C cl fp) E0 ifs ft)
    (hi1 : ∀ s H C cl fp, DI (Blk X scope s H C cl fp) E0 tg1 iter1 fi1) (hg1 : ∀ s H C cl fp, DG (Blk X scope s H C cl fp) E0 vs1 tg1 fg1) (ht1 : ∀ s H C cl fp, DTs (Blk X scope s H C cl fp) E0 ifs1 ft1)
    (he : ∀ s H C cl fp, DE (Blk X scope s H C cl fp) E0 false elt fe) (hc : X.calm = true := by rfl) (hs : ∀ x, foldedSetIterable iter X.env x = pure x := by intro _; rfl) (hs1 : ∀ env x, foldedSetIterable iter1 env x = pure x := by intro _ _; rfl) :
    DE X E m (.ListComp elt [⟨tg, iter, ifs, 0⟩, ⟨tg1, iter1, ifs1, 0⟩] scope pos) (eComp2 fi (own.map (·.2)) fg ft fi1 vs1 fg1 ft1 fe) :=
  PE.impD (pe_lc2 (own := own) (vs1 := vs1) (g := tG ⟨X.mg, X.K, E0⟩ (own.map fun (p : Str × Nat) => p.2) fg) (tt := tT ⟨X.mg, X.K, E0⟩ ft) (wi1 := tI ⟨X.mg, X.K, E0⟩ fi1) (g1 := tG ⟨X.mg, X.K, E0⟩ vs1 fg1) (tt1 := tT ⟨X.mg, X.K, E0⟩ ft1) (te := tE ⟨X.mg, X.K, E0⟩ false fe) hc hN hi ok hv hg ht hi1 hg1 ht1 he hs hs1) fun σ H Q h => comp_read2 tk hx1 hv h
end
end NS
namespace PySem.W
open PySem PySem.Calls PyProof.Rows
section
variable {prog : Program} {w : World} {A : Around} {E : Value → Shared → Prop} {s : Shared}
theorem ns_collectT {l : Addr} {vs : List Value} {Q : List Value → Shared → Prop} (hl : s.heap.IsTuple l vs.toArray)
    (h : Q vs { s with heap := (s.heap.push (seqObj "list" #[] 0)).update s.heap.objs.size (Obj.mapSeq (· ++ vs.toArray)) }) (hsz : vs.length ≤ sizeLine) :
    wpAny (model prog w) A (collect (.ref l)) Q E s := by
  obtain ⟨o, ho, hc, n, hd⟩ := id hl
  unfold collect
  refine wpAny_bind (wpAny_runValue (codeAny_builtin entry_proto_collect' ?_))
  show wpAny _ _ (do again (.builtin "list.__iadd__" ⟨[← newList [], .ref l], []⟩)) _ _ s
  refine wpAny_bind (wpAny_newList (wpAny_pure ⟨Code.quiet_builtin _ (by decide +kernel), codeAny_builtin entry_list_iadd' ?_⟩))
  show wpAny _ _ (Builtin.List.listExtendWith (.ref s.heap.objs.size) (.ref l) (.ref s.heap.objs.size)) _ _ { s with heap := s.heap.push (seqObj "list" #[] 0) }
  unfold Builtin.List.listExtendWith
  have ho' : (s.heap.push (seqObj "list" #[] 0)).get? l = some o := Heap.get?_push_of_some _ ho
  refine wpAny_bind (wpAny_typeOf (T := "tuple") ⟨o, ho', hc⟩ ?_)
  have ht : (Value.type "tuple" == Value.type "tuple") = true := by rfl
  rw [if_pos (by rw [ht]; simp)]
  refine wpAny_bind (listItems_at ho' hd ?_)
  refine wpAny_bind (listItems_at (xs := #[]) (n := 0) (Heap.get?_push_size _ rfl) rfl ?_)
  rw [if_neg (by simp)]
  refine wpAny_bind (listUpdate_at (xs := #[]) (n := 0) (Heap.get?_push_size _ rfl) rfl ?_ (Nat.zero_le _) (by show (#[] ++ vs.toArray).size ≤ sizeLine + 1; simp only [Array.size_append, List.size_toArray, List.length_nil]; omega))
  refine wpAny_pure ?_
  show wpAny (model prog w) A (do
      let o ← load s.heap.objs.size
      match o.data with
      | .seq xs _ => pure xs.toList
      | _ => unsupported "internal:collect") Q E { s with heap := (s.heap.push (seqObj "list" #[] 0)).update s.heap.objs.size (Obj.mapSeq (· ++ vs.toArray)) }
  refine wpAny_bind (wpAny_load (get?_update_seq (Heap.get?_push_size _ rfl) _) ?_)
  show wpAny _ _ (pure ((#[] : Array Value) ++ vs.toArray).toList) Q E _
  rw [show ((#[] : Array Value) ++ vs.toArray).toList = vs by simp]
  exact wpAny_pure h
theorem SortsAt.unit {v : Value} {as : List Addr} (r : Reads s.heap v (.tuple []) as) : SortsAt prog w A s (dataKind s.heap [.tuple []]) [v] := by
  have hal : AllAlike [.tuple []] := by
    intro d hd e he
    rw [List.mem_singleton.mp hd, List.mem_singleton.mp he]; rfl
  refine ⟨fun x hx => ?_, tuples' false, fun E x y a b Q ha hb hq => ?_, fun h2 => absurd h2 (by simp)⟩
  · rw [List.mem_singleton.mp hx]; exact ⟨_, dataKind_some hal (List.mem_singleton.mpr rfl) r⟩
  · obtain ⟨d, as, hd, ra, rfl⟩ := dataKind_inv ha
    obtain ⟨d', as', hd', rb, rfl⟩ := dataKind_inv hb
    obtain rfl := List.mem_singleton.mp hd
    obtain rfl := List.mem_singleton.mp hd'
    cases ra with
    | @tuple l o xs n _ _ h1 h2 h3 h4 =>
      cases rb with
      | @tuple l' o' xs' n' _ _ k1 k2 k3 k4 =>
        refine kat_lt h1 h3 k1 k3 ?_
        have e1 : xs.toList = [] := by cases q : xs.toList with | nil => rfl | cons f fr => rw [q] at h4; cases h4
        have e2 : xs'.toList = [] := by cases q : xs'.toList with | nil => rfl | cons f fr => rw [q] at k4; cases k4
        have e3 : xs = #[] := by rw [← Array.toArray_toList (xs := xs), e1]
        have e4 : xs' = #[] := by rw [← Array.toArray_toList (xs := xs'), e2]
        subst e3 e4
        exact hq
theorem ns_sorted {β : Type} {enc : β → PyData} {R : Value → β → Prop} {bs : List β} {x : Value} {vs : List Value} {Q : Value → Shared → Prop} (ha1 : argsOk "sorted" ⟨[x], []⟩)
    (hcol : ∀ (A : Around) (E : Value → Shared → Prop) (Q : List Value → Shared → Prop), Q vs { s with heap := (s.heap.push (seqObj "list" #[] 0)).update s.heap.objs.size (Obj.mapSeq (· ++ vs.toArray)) } → wpAny (model prog w) A (collect x) Q E s)
    (e : EachIs R vs bs) (er : EachIs (fun v b => ∃ as, Reads s.heap v (enc b) as) vs bs) (hal : AllAlike (bs.map enc)) (hL : bs.length ≤ sizeLine)
    (hS : ∀ s' : Shared, EachIs (fun v b => ∃ as, Reads s'.heap v (enc b) as) vs bs → SortsAt prog w A.in1.in1 s' (dataKind s'.heap (bs.map enc)) vs) (h : ∀ out, out.length = bs.length → EachIs R out (bs.mergeSort (dataLe false enc)) → Q (.ref (s.heap.objs.size + 1)) { s with heap := sortedAll s.heap vs (List.toArray out) }) :
    wpAny (model prog w) A (call (.builtin "sorted") [x]) Q E s := by
  have hLv : vs.length ≤ sizeLine := by rw [e.length]; exact hL
  have er' : EachIs (fun v b => ∃ as, Reads (sortingHeap (copyHeap s.heap vs) (s.heap.objs.size + 1) vs) v (enc b) as) vs bs := er.mono fun _ _ ⟨as, r⟩ => ⟨as, PyProof.Rows.Reads.keeps (fun _ _ => sorting_copy_old) r⟩
  have S := hS { s with heap := sortingHeap (copyHeap s.heap vs) (s.heap.objs.size + 1) vs } er'
  refine call_function_entry_kw kind_sorted plain_sorted entry_sorted ha1 ?_
  unfold Builtin.«sorted»
  refine wpAny_bind (m := checkCount "sorted" 1 1 _) (wpAny_pure ?_)
  refine wpAny_bind (hcol _ _ _ ?_)
  refine wpAny_bind (wpAny_newList ?_ hLv)
  have hsz : ((s.heap.push (seqObj "list" #[] 0)).update s.heap.objs.size (Obj.mapSeq (· ++ vs.toArray))).objs.size = s.heap.objs.size + 1 := by
    rw [Heap.size_update, size_push']
  show wpAny _ _ _ _ _ { s with heap := copyHeap s.heap vs }
  rw [hsz]
  refine wpAny_bind (wpAny_holding (wpAny_call_entry_kw slot_list_sort ⟨_, copyHeap_at s.heap vs, rfl⟩ entry_list_sort ?body (args_list_sort _)))
  case body =>
    show wpAny (model prog w) A.in1.in1 (Builtin.«list.sort» ⟨[.ref (s.heap.objs.size + 1)], []⟩) _ _ _
    refine wpAny_mono (list_sort_vals (P := fun f s' => f = .done (.ret .none) ∧ Q (.ref (s.heap.objs.size + 1)) s') (s := { s with heap := copyHeap s.heap vs }) (copyHeap_at s.heap vs) S hLv ⟨rfl, h _ (by rw [sortVals_length false rfl]; exact e.length) (sortVals_data false e er' hal)⟩) (fun f s' hf => ?_) fun _ _ e => e
    obtain ⟨rfl, hq⟩ := hf
    exact ⟨_, rfl, wpAny_pure ⟨_, rfl, hq⟩⟩
end
end PySem.W
namespace NS
open PySem PySem.Spec PyProof.Rows L2
def isTN : PyData → Bool
  | .tuple (_ :: _) => true
  | _ => false
def notTN : PyData → Bool
  | .tuple _ => false | .none => false
  | _ => true
def srtOk (ds : List D) : Bool := D.pysOk ds && (D.pys ds).all (fun d => (D.pys ds).all (fun e => PySem.W.alike d e)) && ((D.pys ds).all isTN || (D.pys ds).all notTN) && decide (PyData.depthAll (D.pys ds) ≤ 60) && fit ds.length
def leD (x y : D) : Bool := PySem.W.dataLe false D.py x y
def insD (le : D → D → Bool) (x : D) : List D → List D
  | [] => [x]
  | y :: ys => if le x y = true then x :: y :: ys else y :: insD le x ys
def isrt (le : D → D → Bool) : List D → List D
  | [] => []
  | x :: xs => insD le x (isrt le xs)
theorem insD_at {le : D → D → Bool} {x : D} : ∀ {l1 l2 : List D}, (∀ b ∈ l1, le x b = false) → (∀ b ∈ l2, le x b = true) → insD le x (l1 ++ l2) = l1 ++ x :: l2
  | [], [], _, _ => rfl
  | [], y :: ys, _, h => by simp [insD, h y List.mem_cons_self]
  | z :: zs, l2, h1, h2 => by
    have h := h1 z List.mem_cons_self
    simp only [List.cons_append, insD, h, Bool.false_eq_true, if_false]
    rw [insD_at (fun b hb => h1 b (List.mem_cons_of_mem _ hb)) h2]
theorem isrt_merge {le : D → D → Bool} (tr : ∀ a b c : D, le a b → le b c → le a c) (to : ∀ a b : D, le a b || le b a) : ∀ l : List D, l.mergeSort le = isrt le l
  | [] => by simp [isrt]
  | x :: xs => by
    obtain ⟨l1, l2, e1, e2, e3⟩ := List.mergeSort_cons tr to x xs
    have p : (l1 ++ x :: l2).Pairwise fun a b => le a b = true := by rw [← e1]; exact List.pairwise_mergeSort tr to _
    have p2 := (List.pairwise_append.mp p).2.1
    rw [e1, isrt, ← isrt_merge tr to xs, e2, insD_at (fun b hb => by simpa using e3 b hb) (fun b hb => (List.pairwise_cons.mp p2).1 b hb)]
theorem leD_tot : PySem.W.TotalLe leD := PySem.W.sortLe_total (PyProof.Rows.listOrd PyProof.Rows.itemOrd) false fun d : D => PySem.W.keyToks (D.py d)
theorem leD_trans (a b c : D) (h : leD a b = true) (h2 : leD b c = true) : leD a c = true := leD_tot.trans a b c h h2
theorem leD_total (a b : D) : (leD a b || leD b a) = true := by rcases leD_tot.total a b with h | h <;> simp [h]
theorem mergeD (l : List D) : l.mergeSort leD = isrt leD l := isrt_merge leD_trans leD_total l
def oneE : List D → Bool
  | [.tup []] => true
  | _ => false
theorem oneE_of {ds : List D} (h : oneE ds = true) : ds = [.tup []] := by
  unfold oneE at h
  split at h
  · rfl
  · cases h
def kSorted : List D → M D
  | [.lst ds] => if srtOk ds = true then M.pure (.lst (isrt leD ds)) else if oneE ds = true then M.pure (.lst ds) else M.bad
  | [.tup ds] => if srtOk ds = true then M.pure (.lst (isrt leD ds)) else M.bad
  | _ => M.bad
theorem pys_map : ∀ ds : List D, D.pys ds = ds.map D.py
  | [] => rfl
  | d :: ds => by simp [D.pys, pys_map ds]
theorem depth_mem : ∀ {ds : List D} {d : D}, d ∈ ds → (D.py d).depth ≤ PyData.depthAll (D.pys ds)
  | x :: xs, d, h => by
    simp only [D.pys, PyData.depthAll]
    rcases List.mem_cons.mp h with e | e
    · subst e; omega
    · have := depth_mem e; omega
theorem srtOk_of {ds : List D} (h : srtOk ds = true) : D.pysOk ds = true ∧ PySem.W.AllAlike (ds.map D.py) ∧ PySem.W.Sortable (ds.map D.py) ∧ (∀ d ∈ ds, (D.py d).depth ≤ 60) ∧ ds.length ≤ sizeLine := by
  unfold srtOk at h
  simp only [Bool.and_eq_true, decide_eq_true_eq, List.all_eq_true, Bool.or_eq_true] at h
  obtain ⟨⟨⟨⟨h1, h2⟩, h3⟩, h4⟩, h5⟩ := h
  rw [pys_map] at h2 h3
  refine ⟨h1, fun d hd e he => h2 d hd e he, ?_, fun d hd => Nat.le_trans (depth_mem hd) h4, Nat.le_of_lt (fit_le h5)⟩
  rcases h3 with h3 | h3
  · refine .inl fun d hd => ?_
    have := h3 d hd
    unfold isTN at this
    split at this
    · exact ⟨_, _, rfl⟩
    · cases this
  · refine .inr fun d hd => ?_
    have := h3 d hd
    exact ⟨fun e => (by subst e; cases this), fun xs e => (by subst e; cases this)⟩
theorem each_of {K : PySem.W.Frag} {A : List GAdr} {S : Hp} : ∀ {vs : List V} {ds : List D} {us : List Value}, RepL K A S vs ds → Vals vs us → PySem.W.EachIs (fun u d => ∃ v, RelV v u ∧ Rep K A S v d) us ds
  | _, _, _, .nil, .nil => .nil
  | _, _, _, .cons h r, .cons q qs => .cons ⟨_, q, h⟩ (each_of r qs)
theorem of_each {K : PySem.W.Frag} {A : List GAdr} {S : Hp} : ∀ {ds : List D} {us : List Value}, PySem.W.EachIs (fun u d => ∃ v, RelV v u ∧ Rep K A S v d) us ds → ∃ vs, Vals vs us ∧ RepL K A S vs ds
  | _, _, .nil => ⟨[], .nil, .nil⟩
  | _, _, .cons ⟨v, q, h⟩ t => by
    obtain ⟨vs, q2, r2⟩ := of_each t
    exact ⟨v :: vs, .cons q q2, .cons h r2⟩
section
variable {X : Cx} {E : XK} {m : Bool}
theorem each_reads {pins : List (Addr × Obj)} {s : Shared} {σ : L2.St} {H : Hp} {A : List GAdr} {S : Hp} (I : Inv X pins σ H s) (e : Same S H) : ∀ {vs : List V} {ds : List D} {us : List Value}, RepL X.K A S vs ds → Vals vs us → D.pysOk ds = true → PySem.W.EachIs (fun u d => ∃ as, Reads s.heap u (D.py d) as) us ds
  | _, _, _, .nil, .nil, _ => .nil
  | _, _, _, .cons h r, .cons q qs, p => .cons (Dp.reads I _ _ _ (h.dp e (Bool.and_eq_true_iff.mp p).1) q) (each_reads I e r qs (Bool.and_eq_true_iff.mp p).2)
theorem cl_sorted (hu : X.A.units + 65 < cLine) : CallD X E (.builtin "sorted") m kSorted := fun pins s σ H xs us Q I rs ⟨A, S, g, ds, o, r, q⟩ => by
  have gen : ∀ (x : Value) (vs : List V) (ds : List D) (its : List Value), argsOk "sorted" ⟨[x], []⟩ → Vals vs its → RepL X.K A S vs ds →
      (∀ (A : Around) (E : Value → Shared → Prop) (Q : List Value → Shared → Prop), Q its { s with heap := (s.heap.push (seqObj "list" #[] 0)).update s.heap.objs.size (Obj.mapSeq (· ++ its.toArray)) } → wpAny (model X.prog X.w) A (collect x) Q E s) →
      (srtOk ds = true ∨ oneE ds = true) → KE (Cx.sur X E) m A S H (.ok (.lst (isrt leD ds)) g) Q → wpAny (model X.prog X.w) X.A (call (.builtin "sorted") [x]) (EP X pins σ Q) X.xe s := fun x vs ds its ha rv rr hcol hs q => by
    have hh : D.pysOk ds = true ∧ PySem.W.AllAlike (ds.map D.py) ∧ ds.length ≤ sizeLine ∧ ∀ s' : Shared, PySem.W.EachIs (fun v b => ∃ as, Reads s'.heap v (D.py b) as) its ds → PySem.W.SortsAt X.prog X.w X.A.in1.in1 s' (PySem.W.dataKind s'.heap (ds.map D.py)) its := by
      rcases hs with hs | hs
      · obtain ⟨h1, h2, h3, h4, h5⟩ := srtOk_of hs
        exact ⟨h1, h2, h5, fun s' e => PySem.W.SortsAt.data (PySem.W.each_map (R := fun v d => ∃ as, Reads s'.heap v d as) D.py e) h2 h3 (PySem.W.bound_map fun b hb => by have := h4 b hb; show X.A.units + 2 + (D.py b).depth < cLine; omega)⟩
      · have e := oneE_of hs
        subst e
        refine ⟨rfl, fun d hd e he => ?_, by rw [sizeLine_eq]; decide, fun s' e => ?_⟩
        · rw [List.mem_singleton.mp hd, List.mem_singleton.mp he]; rfl
        · cases e with
          | cons r t => cases t; obtain ⟨as, r⟩ := r; exact PySem.W.SortsAt.unit r
    obtain ⟨h1, h2, h5, hS⟩ := hh
    refine PySem.W.ns_sorted (enc := D.py) (R := fun u d => ∃ v, RelV v u ∧ Rep X.K A S v d) (bs := ds) ha hcol (each_of rr rv) (each_reads I o.ext rr rv h1) h2 h5 hS fun out hlen he => ?_
    have he : PySem.W.EachIs (fun u d => ∃ v, RelV v u ∧ Rep X.K A S v d) out (ds.mergeSort leD) := he
    rw [mergeD] at he
    obtain ⟨ws, hw, rw'⟩ := of_each he
    obtain ⟨ep, he'⟩ := PyProof.Rows.sortedAll_at s.heap its out.toArray
    have hl : ws.length ≤ sizeLine := by rw [hw.length, hlen]; exact h5
    exact ⟨.ref _, upd H (s.heap.objs.size + 1) (.lst ws), I.laid (t' := s.toks) (fun _ _ => PyProof.Rows.sortedAll_old) (Nat.le_succ _) ⟨hl, out, ep, hw, he'⟩, rfl, KE.newL q o rw' (I.hok.fresh (Nat.le_succ _))⟩
  unfold kSorted at q
  split at q
  · rename_i ds
    by_cases hs : srtOk ds = true
    · rw [if_pos hs] at q
      obtain ⟨v, rfl, h⟩ := rep1 r
      cases h with
      | @lst a ws _ h rr =>
        rw [Vals.ref1 rs]
        obtain ⟨its, rv, hl, hz⟩ := I.list (.inl (.inl (o.ext _ _ h)))
        exact gen _ ws ds its (PyProof.Rows.args_sorted1 _) rv rr (fun A E Q h => PyProof.Rows.collect_list hl.isList h (by rw [← rv.length]; exact hz)) (.inl hs) q
    · rw [if_neg hs] at q
      by_cases h1 : oneE ds = true
      · rw [if_pos h1] at q
        have e := oneE_of h1
        obtain ⟨v, rfl, h⟩ := rep1 r
        cases h with
        | @lst a ws _ h rr =>
          rw [Vals.ref1 rs]
          obtain ⟨its, rv, hl, hz⟩ := I.list (.inl (.inl (o.ext _ _ h)))
          exact gen _ ws ds its (PyProof.Rows.args_sorted1 _) rv rr (fun A E Q h => PyProof.Rows.collect_list hl.isList h (by rw [← rv.length]; exact hz)) (.inr h1) (by subst e; exact q)
      · rw [if_neg h1] at q; exact q.elim
  · rename_i ds
    by_cases hs : srtOk ds = true
    · rw [if_pos hs] at q
      obtain ⟨v, rfl, h⟩ := rep1 r
      cases h with
      | @tup a ws _ h rr =>
        rw [Vals.ref1 rs]
        obtain ⟨its, rv, hl, hz⟩ := I.tuple (tq o.ext h)
        exact gen _ ws ds its (PyProof.Rows.args_sorted1 _) rv rr (fun A E Q h => PySem.W.ns_collectT hl h (by rw [← rv.length]; exact hz)) (.inl hs) q
    · rw [if_neg hs] at q; exact q.elim
  · exact q.elim
end
end NS
namespace NS
open PySem PySem.Spec PyProof.Rows L2
theorem vals_back {vs : List V} {us : List Value} (r : Vals vs us) {i : Nat} {u : Value} (h : us[i]? = some u) : ∃ v, vs[i]? = some v ∧ RelV v u := by
  have hl := (List.getElem?_eq_some_iff.mp h).1
  have hv : i < vs.length := by rw [r.length]; exact hl
  have e : vs[i]? = some vs[i] := List.getElem?_eq_getElem hv
  obtain ⟨w, hw, q⟩ := r.get e
  rw [h] at hw
  cases hw
  exact ⟨_, e, q⟩
def D.prs : List D → Option (List (Int × Int))
  | [] => some []
  | .tup [.int i, .int j] :: r => (D.prs r).map ((i, j) :: ·)
  | _ => none
def minPr : Int × Int → List (Int × Int) → Int × Int
  | p, [] => p
  | p, q :: r => minPr (if q.1 < p.1 ∨ (q.1 = p.1 ∧ q.2 < p.2) then q else p) r
def kMinP : List D → M D
  | [.lst ds] => if fit ds.length = true then (match D.prs ds with | some (p :: r) => M.pure (.tup [.int (minPr p r).1, .int (minPr p r).2]) | _ => M.bad) else M.bad
  | _ => M.bad
def encP (p : Int × Int) : D := .tup [.int p.1, .int p.2]
def pyP (p : Int × Int) : PyData := .tuple [.int p.1, .int p.2]
theorem prs_eq : ∀ {ds : List D} {ps : List (Int × Int)}, D.prs ds = some ps → ds = ps.map encP
  | [], _, h => by cases h; rfl
  | d :: ds, ps, h => by
    unfold D.prs at h
    split at h
    · rename_i h0; cases h0
    · rename_i h0
      cases h0
      cases e : D.prs ds with
      | none => rw [e] at h; cases h
      | some qs =>
        rw [e] at h; cases h
        simp [prs_eq e, encP]
    · cases h
@[simp] theorem prs_map (ps : List (Int × Int)) : D.prs (ps.map encP) = some ps := by
  induction ps with
  | nil => rfl
  | cons p ps ih => simp [encP, D.prs] at ih ⊢; exact ih
theorem dataLt_pr (p q : Int × Int) : PySem.W.dataLt (pyP p) (pyP q) = decide (p.1 < q.1 ∨ (p.1 = q.1 ∧ p.2 < q.2)) := by
  unfold pyP
  rw [PySem.W.dataLt_pair (by simp [PySem.W.alike]) (by simp [PySem.W.alike]), PySem.W.dataLt_int, PySem.W.dataLt_int]
  simp only [PyData.eqv]
  by_cases h1 : p.1 = q.1
  · by_cases h2 : p.2 = q.2
    · simp [h1, h2]
    · simp [h1, h2]
  · simp [h1]
theorem minD_prs : ∀ (ps : List (Int × Int)) (p : Int × Int), PySem.W.minD (pyP p) (ps.map pyP) = pyP (minPr p ps)
  | [], p => rfl
  | q :: ps, p => by
    have ih := minD_prs ps (if q.1 < p.1 ∨ (q.1 = p.1 ∧ q.2 < p.2) then q else p)
    unfold PySem.W.minD at ih ⊢
    rw [List.map_cons, List.foldl_cons, dataLt_pr]
    show List.foldl _ (if decide (q.1 < p.1 ∨ (q.1 = p.1 ∧ q.2 < p.2)) = true then pyP q else pyP p) _ = pyP (minPr (if q.1 < p.1 ∨ (q.1 = p.1 ∧ q.2 < p.2) then q else p) ps)
    rw [← ih]
    congr 1
    by_cases h : q.1 < p.1 ∨ (q.1 = p.1 ∧ q.2 < p.2) <;> simp [h]
theorem pys_prs (ps : List (Int × Int)) : D.pys (ps.map encP) = ps.map pyP := by
  rw [pys_map, List.map_map]; rfl
theorem pysOk_prs : ∀ ps : List (Int × Int), D.pysOk (ps.map encP) = true
  | [] => rfl
  | p :: ps => by simp [D.pysOk, encP, D.pyOk, pysOk_prs ps]
theorem depth_prs : ∀ ps : List (Int × Int), PyData.depthAll (ps.map pyP) ≤ 1
  | [] => by simp [PyData.depthAll]
  | p :: ps => by
    have := depth_prs ps
    simp only [List.map_cons, PyData.depthAll, pyP, PyData.depth]
    omega
section
variable {X : Cx} {E : XK}
theorem cl_minP (hu : X.A.units + 65 < cLine) (hc : X.calm = true := by rfl) : CallD X E (.builtin "min") false kMinP := fun pins s σ H xs us Q I rs ⟨A, S, g, ds, o, r, q⟩ => by
  unfold kMinP at q
  split at q
  · rename_i ds
    by_cases hf : fit ds.length = true
    · rw [if_pos hf] at q
      cases e : D.prs ds with
      | none => rw [e] at q; exact q.elim
      | some ps =>
        rw [e] at q
        cases ps with
        | nil => exact q.elim
        | cons p ps =>
          have ed := prs_eq e
          subst ed
          obtain ⟨v, rfl, h⟩ := rep1 r
          cases h with
          | @lst a ws _ h rr =>
            rw [Vals.ref1 rs]
            obtain ⟨its, rv, hl, hz⟩ := I.list (.inl (.inl (o.ext _ _ h)))
            have er := each_reads I o.ext rr rv (pysOk_prs _)
            obtain ⟨as, hr⟩ := PySem.W.each_readsAll D.py er
            have em : ((p :: ps).map encP).map D.py = pyP p :: ps.map pyP := by rw [← pys_map, pys_prs]; rfl
            rw [em] at hr
            refine PySem.W.min_list_data (I.ok.hd hc) hl.isList (by simpa using hr) ⟨?_, ?_⟩ (by
              have : PyData.depthAll (pyP p :: ps.map pyP) ≤ 1 := depth_prs (p :: ps)
              omega) fun i v h' tk bs hi hrd hk => ?_
            · intro x hx y hy
              have hx' : x ∈ (p :: ps).map pyP := hx
              have hy' : y ∈ (p :: ps).map pyP := hy
              obtain ⟨x', _, rfl⟩ := List.mem_map.mp hx'
              obtain ⟨y', _, rfl⟩ := List.mem_map.mp hy'
              simp [pyP, PySem.W.alike, PySem.W.alikeAll]
            · intro x hx
              have hx' : x ∈ (p :: ps).map pyP := hx
              obtain ⟨x', _, rfl⟩ := List.mem_map.mp hx'
              simp [pyP]
            · have hi' : its[i]? = some v := by simpa using hi
              obtain ⟨w, hw, rw'⟩ := vals_back rv hi'
              obtain ⟨d, hd, rd⟩ := rr.get hw
              rw [List.getElem?_map] at hd
              cases ep : (p :: ps)[i]? with
              | none => rw [ep] at hd; cases hd
              | some pp =>
                rw [ep] at hd
                have hd : encP pp = d := Option.some.inj hd
                subst hd
                have I2 : Inv X pins σ H { s with heap := h', toks := tk } := I.kept (t' := tk) hk
                have rd2 := Dp.reads I2 _ _ _ (rd.dp o.ext rfl) rw'
                obtain ⟨as2, hrd2⟩ := rd2
                rw [minD_prs] at hrd
                have eu := SeqAt.Reads.unique _ _ _ _ _ (by simp [encP, D.py, D.pys, PyData.canLay0, PyData.canLayAll0]) hrd2 hrd
                have ee : pyP pp = pyP (minPr p ps) := eu
                have e3 : pp = minPr p ps := by
                  unfold pyP at ee
                  simp at ee
                  exact Prod.ext ee.1 ee.2
                subst e3
                exact ⟨w, H, I2, rw', KE.val q o rd⟩
    · rw [if_neg hf] at q; exact q.elim
  · exact q.elim
variable {pos p : Pos} {a b c tg e : Expr} {fl : DS → M (List D)} {fe : DS → M D}
def kRev : D → M D
  | .lst xs => M.pure (.lst xs.reverse)
  | _ => M.bad
def eRev (fe : DS → M D) : DS → M D := fun σ => M.bind (fe σ) kRev
theorem de_rev {m : Bool} {k : Nat} {p1 p2 p3 : Pos} (he : DE X E false e fe) : DE X E m (.Subscript e (.Slice none none (some (.UnaryOp .USub (.Constant (.int 1) k p1) p2)) p3) pos) (eRev fe) :=
  PE.impD (pe_revL he) fun σ H Q ⟨A, S, g, σd, o, r, q⟩ => ⟨A, S, g, σd, o, r, (KE.bindE q).imp fun v H1 ⟨A1, S1, g1, d, p1, o1, r1, q1⟩ => by
    unfold kRev at q1
    split at q1
    · cases r1 with
      | @lst a ws _ h rr => exact ⟨a, ws, rfl, .inl (.inl (o1.ext _ _ h)), fun l hl => KE.newL q1 o1 rr.reverse hl⟩
    · exact q1.elim⟩
end
end NS
namespace NS
open PySem PySem.Spec PyProof.Rows L2
def rMD (U : Sur) (m : Bool) (k : List D → M D) (d : D) : V → List V → Hp → VK → Prop := fun x xs H Q => ∃ A S g ds, Ok U.K A S H g ∧ Rep U.K A S x d ∧ RepL U.K A S xs ds ∧ KE U m A S H (k ds g) Q
def isL : D → Bool
  | .lst _ => true
  | _ => false
def eMeth (p : D → Bool) (k : D → List D → M D) (fo : DS → M D) (fl : DS → M (List D)) : DS → M D := fun σ => M.bind (fo σ) fun x => if p x = true then M.bind (fl σ) fun xs => k x xs else M.bad
theorem MtR.imp {X : Cx} {id : String} {r r' : V → List V → Hp → VK → Prop} (h : MtR X id r) (i : ∀ x xs H Q, r' x xs H Q → r x xs H Q) : MtR X id r' := fun pins s σ H x xs v us Q I q qs k => h pins s σ H x xs v us Q I q qs (i _ _ _ _ k)
section
variable {X : Cx} {E : XK} {m : Bool} {pos p apos cpos : Pos} {o e : Expr} {es : List Expr} {fo fe : DS → M D} {fl : DS → M (List D)} {name : Str} {id : String} {k : D → List D → M D} {e0 : En}
theorem Rep.tyL {K : PySem.W.Frag} {A : List GAdr} {S H : Hp} {v : V} {d : D} (e : Same S H) (r : Rep K A S v d) (h : isL d = true) : tyV K "list" v H := by
  cases r with
  | lst h1 _ => exact .inl ⟨rfl, _, .inl (.inl (e _ _ h1))⟩
  | _ => cases h
theorem de_methL (slot : Slot "list" name id) (hty : typeOf (.builtin id) = pure (.type "method_descriptor")) (hm : ∀ d, isL d = true → MtR X id (rMD (Cx.sur X E) m (k d) d)) (ho : DE X E false o fo) (ha : DL X E (e :: es) fl)
    (hbase : attributeBase o name X.env (eval o X.env) = eval o X.env := by rfl)
    (hfew : ((backTo cpos (starEach (e :: es) X.env)).all (fun x => !x.1) && (backToKw cpos (keywordEach [] X.env)).all (fun x => x.1.isSome)
      && decide ((e :: es).length + ([] : List Keyword).length + (if ([] : List Keyword).isEmpty then 0 else 1) < 30)) = true := by rfl)
    (hline : (apos.endLine == cpos.line) = true := by rfl) (hs : starEach (e :: es) X.env = (false, eval e X.env) :: starEach es X.env := by rfl) (hplain : (backTo cpos (starEach es X.env)).any (·.1) = false := by rfl) :
    DE X E m (.Call (.Attribute o name apos) (e :: es) [] cpos) (eMeth isL k fo fl) := by
  have hM : MtR X id (fun x xs H Q => ∃ d, isL d = true ∧ rMD (Cx.sur X E) m (k d) d x xs H Q) := fun pins s σ H x xs v us Q I q qs ⟨d, hd, h⟩ => hm d hd pins s σ H x xs v us Q I q qs h
  refine PE.impD (pe_bm F.plainAttrs_list slot hty hM ho ha hbase hfew hline hs hplain) fun σ H Q ⟨A, S, g, σd, o, r, q⟩ => ⟨A, S, g, σd, o, r, (KE.bindE q).imp fun v H1 ⟨A1, S1, g1, d, p1, o1, r1, q1⟩ => ?_⟩
  by_cases hd : isL d = true
  · rw [if_pos hd] at q1
    refine ⟨r1.tyL o1.ext hd, A1, S1, g1, σd, o1, r.post p1, (KE.bindL q1).imp fun vs H2 ⟨A2, S2, g2, ds, p2, o2, r2, q2⟩ => ?_⟩
    exact ⟨d, hd, A2, S2, g2, ds, o2, Rep.mono p2.a p2.s r1, r2, q2⟩
  · rw [if_neg hd] at q1; exact q1.elim
def plOk (xs : List D) (x : D) : Bool := D.pysOk xs && D.pyOk x && SeqAt.shaped (.list (D.pys xs)) && SeqAt.shaped (D.py x)
def kCount : D → List D → M D
  | .lst xs, [x] => if plOk xs x = true then M.pure (.int (((D.pys xs).countP fun y => PyData.eqv y (D.py x) : Nat) : Int)) else M.bad
  | _, _ => M.bad
theorem shaped_l {xs : List D} (h : SeqAt.shaped (.list (D.pys xs)) = true) : PyData.canLayAll0 (D.pys xs) = true ∧ PyData.depthAll (D.pys xs) ≤ 63 := by
  have h1 := SeqAt.canLay_of_shaped h
  have h2 := SeqAt.depth_of_shaped h
  refine ⟨h1, ?_⟩
  simp only [PyData.depth] at h2
  omega
theorem plOk_of {xs : List D} {x : D} (h : plOk xs x = true) : D.pysOk xs = true ∧ D.pyOk x = true ∧ SeqAt.shaped (.list (D.pys xs)) = true ∧ SeqAt.shaped (D.py x) = true := by
  unfold plOk at h
  simp only [Bool.and_eq_true] at h
  exact ⟨h.1.1.1, h.1.1.2, h.1.2, h.2⟩
theorem mt_countD (hu : X.A.units + 65 < cLine) : ∀ d, isL d = true → MtR X "list.count" (rMD (Cx.sur X E) false (kCount d) d) := fun d hd pins s σ H x xs v us Q I q qs ⟨A, S, g, ds, o, r, rs, k⟩ => by
  unfold kCount at k
  split at k
  · rename_i ys y _
    by_cases hp : plOk ys y = true
    · rw [if_pos hp] at k
      obtain ⟨h1, h2, h3, h4⟩ := plOk_of hp
      obtain ⟨w, rfl, rw'⟩ := rep1 rs
      cases r with
      | @lst a ws _ ha rr =>
        cases q
        obtain ⟨u, rfl, ru⟩ := qs.one
        obtain ⟨its, rv, hl, hz⟩ := I.list (.inl (.inl (o.ext _ _ ha)))
        obtain ⟨bs, r2⟩ := Dp.reads I _ _ _ (rw'.dp o.ext h2) ru
        obtain ⟨as, r1⟩ := Dp.readsAll I _ _ _ (rr.dp o.ext h1) rv
        obtain ⟨c1, c2⟩ := shaped_l h3
        exact PySem.SeqAt.count_list_data hl.isList (by simpa using r1) r2 (PyData.plainAll_of_canLay0 _ c1) (PyData.plain_of_canLay0 _ (SeqAt.canLay_of_shaped h4)) (by omega) ⟨.int _, H, I.tok _, ⟨_, rfl⟩, KE.val k o (.int _)⟩
    · rw [if_neg hp] at k; exact k.elim
  · exact k.elim
def sOwnL (i : Nat) (k : List D → List D → Option (List D)) (fl : DS → M (List D)) : DS → M Fl := fun σ => match ownL σ[i]? with
  | some ds => M.bind (fl σ) fun xs => match k ds xs with
    | some ds' => M.pure (.nx (σ.set i (some (.ow (.lst ds')))))
    | none => M.bad
  | none => M.bad
theorem own_readL {U : Sur} {i : Nat} {k : List D → List D → Option (List D)} {fl : DS → M (List D)} {Z : Ends} {A : List GAdr} {S H : Hp} {g : G} {σd : DS} {σ : L2.St} (s : Stt U.K e0 A S g σd σ H) (q : KS U m e0 A S (sOwnL i k fl σd g) Z) :
    ∃ p vs ds, σ[i]? = some (some (.ref p)) ∧ H p = some (.lst vs) ∧ KL U A S H (fl σd g) fun ws H1 => ∃ A1 S1 g1 xs ds', Post A S H A1 S1 H1 ∧ Ok U.K A1 S1 H1 g1 ∧ RepL U.K A1 S1 ws xs ∧ H1 p = some (.lst vs) ∧ RepL U.K A1 S1 vs ds ∧ k ds xs = some ds' ∧
      S1 p = none ∧ ∀ vs', RepL U.K A1 S1 vs' ds' → Z.nx σ (upd H1 p (.lst vs')) := by
  cases eo : ownL σd[i]? with
  | none =>
    have q' : KS U m e0 A S ((match ownL σd[i]? with | some ds => M.bind (fl σd) (fun d => match k ds d with | some ds' => M.pure (.nx (σd.set i (some (.ow (.lst ds'))))) | none => M.bad) | none => M.bad : M Fl) g) Z := q
    rw [eo] at q'; exact q'.elim
  | some ds =>
    have q' : KS U m e0 A S ((match ownL σd[i]? with | some ds => M.bind (fl σd) (fun d => match k ds d with | some ds' => M.pure (.nx (σd.set i (some (.ow (.lst ds'))))) | none => M.bad) | none => M.bad : M Fl) g) Z := q
    rw [eo] at q'
    have e := ownL_eq eo
    obtain ⟨p, e1, h1, h2, vs, h3, h4⟩ := s.rep.ow e
    refine ⟨p, vs, ds, e1, h3, (KS.bindL s.post q').imp fun v H1 ⟨A1, S1, g1, d, p1, o1, r1, q1⟩ => ?_⟩
    have s1 := s.post' p1 o1
    have k1 : H1 p = some (.lst vs) := p1.keep p _ h3 h2
    have r2 : RepL U.K A1 S1 vs ds := h4.mono p1.a p1.s
    obtain ⟨p', e1', h1', _⟩ := s1.rep.ow e
    rw [e1] at e1'; cases e1'
    cases ek : k ds d with
    | none => rw [ek] at q1; exact q1.elim
    | some ds' =>
      rw [ek] at q1
      exact ⟨A1, S1, g1, d, ds', p1, o1, r1, k1, r2, ek, h1', fun vs' r' => q1 A1 S1 _ σ (List.prefix_refl _) (Same.refl _) (s1.write e e1 ⟨vs', upd_same, r'⟩)⟩
theorem ds_ownL (i : Nat) {x : Str} {px : Pos} {kk : List D → List D → Option (List D)} {r : V → List V → Hp → VK → Prop} (slot : Slot "list" name id) (hty : typeOf (.builtin id) = pure (.type "method_descriptor")) (hm : MtR X id r)
    (hr : ∀ (A : List GAdr) (S H : Hp) (g : G) (p : Addr) (vs ws : List V) (ds xs ds' : List D) (Q : VK), Ok X.K A S H g → H p = some (.lst vs) → RepL X.K A S vs ds → RepL X.K A S ws xs → kk ds xs = some ds' → (∀ y vs', RepL X.K A S vs' ds' → Q y (upd H p (.lst vs'))) → r (.ref p) ws H Q)
    (ha : DL X E (e :: es) fl) (hN : X.N[i]? = some x := by rfl) (hv : Vis X.env.scope x := by first | exact Or.inl rfl | exact Or.inr (Or.inl rfl) | exact Or.inr (Or.inr rfl)) (hd : (x == ("__debug__" : Str)) = false := by decide)
    (hcd : (x == ("__classdict__" : Str)) = false := by decide) (hbase : attributeBase (.Name x px) name X.env (eval (.Name x px) X.env) = eval (.Name x px) X.env := by rfl)
    (hfew : ((backTo cpos (starEach (e :: es) X.env)).all (fun x => !x.1) && (backToKw cpos (keywordEach [] X.env)).all (fun x => x.1.isSome)
      && decide ((e :: es).length + ([] : List Keyword).length + (if ([] : List Keyword).isEmpty then 0 else 1) < 30)) = true := by rfl)
    (hline : (apos.endLine == cpos.line) = true := by rfl) (hs : starEach (e :: es) X.env = (false, eval e X.env) :: starEach es X.env := by rfl) (hplain : (backTo cpos (starEach es X.env)).any (·.1) = false := by rfl)
    (hsw : swapsWith (.Call (.Attribute (.Name x px) name apos) (e :: es) [] cpos) none pos.line X.env = pure false := by rfl) :
    DS1 X E m e0 (.Expr (.Call (.Attribute (.Name x px) name apos) (e :: es) [] cpos) pos) (sOwnL i kk fl) :=
  PS.impD (ps_expr (pe_bm PySem.F.plainAttrs_list slot hty hm (pe_var hN hv hd hcd) ha hbase hfew hline hs hplain) hsw) fun Z σ H ⟨A, S, g, σd, s, q⟩ => by
    obtain ⟨p, vs, ds, e1, h1, q'⟩ := own_readL s q
    refine ⟨.ref p, e1, tyV_lst h1, A, S, g, σd, s.ok, s.rep, q'.imp fun ws H1 ⟨A1, S1, g1, xs, ds', p1, o1, r1, k1, r2, ek, sp, z⟩ => ?_⟩
    exact hr A1 S1 H1 g1 p vs ws ds xs ds' _ o1 k1 r2 r1 ek fun y vs' r' => z vs' r'
def kIns (ds xs : List D) : Option (List D) := match xs with
  | [.int i, d] => if 0 ≤ i ∧ i < 1000000 ∧ ds.length < 1000000 then some (ds.take i.toNat ++ [d] ++ ds.drop i.toNat) else none
  | _ => none
theorem eff_insert (A : List GAdr) (S H : Hp) (g : G) (p : Addr) (vs ws : List V) (ds xs ds' : List D) (Q : VK) (o : Ok X.K A S H g) (hp : H p = some (.lst vs)) (r : RepL X.K A S vs ds) (r2 : RepL X.K A S ws xs) (hk : kIns ds xs = some ds')
    (q : ∀ y vs', RepL X.K A S vs' ds' → Q y (upd H p (.lst vs'))) : ∃ (l : Addr) (xs : List V) (i : Int) (y : V), V.ref p = .ref l ∧ ws = [.int i, y] ∧ H l = some (.lst xs) ∧ xs.length < sizeLine ∧ 0 ≤ i ∧ i < 2 ^ 63 ∧
    Q .non (upd H l (.lst (xs.take i.toNat ++ [y] ++ xs.drop i.toNat))) := by
  unfold kIns at hk
  split at hk
  · rename_i i d
    by_cases h : 0 ≤ i ∧ i < 1000000 ∧ ds.length < 1000000
    · rw [if_pos h] at hk; cases hk
      cases r2 with
      | cons h1 r2 =>
        cases r2 with
        | cons h2 r2 =>
          cases r2
          cases h1
          refine ⟨p, vs, i, _, rfl, rfl, hp, by rw [r.length, sizeLine_eq]; omega, h.1, by omega, ?_⟩
          exact q _ _ (((r.take _).append (.cons h2 .nil)).append (r.drop _))
    · rw [if_neg h] at hk; cases hk
  · cases hk
def kPopS (ds xs : List D) : Option (List D) := match xs with
  | [.int i] => if 0 ≤ i ∧ i < ds.length ∧ ds.length < 1000000 then some (ds.eraseIdx i.toNat) else none
  | _ => none
theorem seqIx_nat {i n : Nat} (h : i < n) : seqIndex? (i : Int) n = some i := by
  unfold seqIndex?
  have h1 : ¬ ((i : Int) < 0) := by omega
  simp [h1, h]
theorem eff_pop (A : List GAdr) (S H : Hp) (g : G) (p : Addr) (vs ws : List V) (ds xs ds' : List D) (Q : VK) (o : Ok X.K A S H g) (hp : H p = some (.lst vs)) (r : RepL X.K A S vs ds) (r2 : RepL X.K A S ws xs) (hk : kPopS ds xs = some ds')
    (q : ∀ y vs', RepL X.K A S vs' ds' → Q y (upd H p (.lst vs'))) : rPopAt (.ref p) ws H Q := by
  unfold kPopS at hk
  split at hk
  · rename_i i
    by_cases h : 0 ≤ i ∧ i < ds.length ∧ ds.length < 1000000
    · rw [if_pos h] at hk; cases hk
      obtain ⟨w, rfl, rw'⟩ := rep1 r2
      cases rw'
      obtain ⟨j, rfl⟩ := Int.eq_ofNat_of_zero_le h.1
      have hj : j < vs.length := by rw [r.length]; omega
      exact ⟨p, vs, (j : Int), j, vs[j], rfl, rfl, hp, by omega, by omega, seqIx_nat hj, List.getElem?_eq_getElem hj, q _ _ (r.eraseIdx j)⟩
    · rw [if_neg h] at hk; cases hk
  · cases hk
def popAt (ds : List D) (d : D) : Option (D × List D) := match d with
  | .int i => if 0 ≤ i ∧ i < ds.length ∧ ds.length < 1000000 then (ds[i.toNat]?).map fun x => (x, ds.eraseIdx i.toNat) else none
  | _ => none
def sAppPop (i j : Nat) (fe : DS → M D) : DS → M Fl := fun σ => match ownL σ[i]?, ownL σ[j]? with
  | some xs, some ys => M.bind (fe σ) fun d => match popAt ys d with
    | some (x, ys') => if fit xs.length = true then M.pure (.nx ((σ.set j (some (.ow (.lst ys')))).set i (some (.ow (.lst (xs ++ [x])))))) else M.bad
    | none => M.bad
  | _, _ => M.bad
theorem ds_appPop (i j : Nat) {x y : Str} {px py apos2 cpos2 : Pos} (he : DE X E false e fe) (hij : i ≠ j := by decide) (hN : X.N[i]? = some x := by rfl) (hv : Vis X.env.scope x := by first | exact Or.inl rfl | exact Or.inr (Or.inl rfl) | exact Or.inr (Or.inr rfl)) (hd : (x == ("__debug__" : Str)) = false := by decide)
    (hcd : (x == ("__classdict__" : Str)) = false := by decide) (hN2 : X.N[j]? = some y := by rfl) (hv2 : Vis X.env.scope y := by first | exact Or.inl rfl | exact Or.inr (Or.inl rfl) | exact Or.inr (Or.inr rfl)) (hd2 : (y == ("__debug__" : Str)) = false := by decide)
    (hcd2 : (y == ("__classdict__" : Str)) = false := by decide)
    (hbase : attributeBase (.Name x px) "append" X.env (eval (.Name x px) X.env) = eval (.Name x px) X.env := by rfl)
    (hbase2 : attributeBase (.Name y py) "pop" X.env (eval (.Name y py) X.env) = eval (.Name y py) X.env := by rfl)
    (hfew2 : ((backTo cpos2 (starEach [e] X.env)).all (fun x => !x.1) && (backToKw cpos2 (keywordEach [] X.env)).all (fun x => x.1.isSome)
      && decide (([e] : List Expr).length + ([] : List Keyword).length + (if ([] : List Keyword).isEmpty then 0 else 1) < 30)) = true := by rfl)
    (hline2 : (apos2.endLine == cpos2.line) = true := by rfl) (hs2 : starEach [e] X.env = (false, eval e X.env) :: starEach [] X.env := by rfl) (hplain2 : (backTo cpos2 (starEach [] X.env)).any (·.1) = false := by rfl)
    (hfew : ((backTo cpos (starEach [.Call (.Attribute (.Name y py) "pop" apos2) [e] [] cpos2] X.env)).all (fun x => !x.1) && (backToKw cpos (keywordEach [] X.env)).all (fun x => x.1.isSome)
      && decide (([.Call (.Attribute (.Name y py) "pop" apos2) [e] [] cpos2] : List Expr).length + ([] : List Keyword).length + (if ([] : List Keyword).isEmpty then 0 else 1) < 30)) = true := by rfl)
    (hline : (apos.endLine == cpos.line) = true := by rfl) (hs : starEach [.Call (.Attribute (.Name y py) "pop" apos2) [e] [] cpos2] X.env = (false, eval (.Call (.Attribute (.Name y py) "pop" apos2) [e] [] cpos2) X.env) :: starEach [] X.env := by rfl) (hplain : (backTo cpos (starEach [] X.env)).any (·.1) = false := by rfl)
    (hsw : swapsWith (.Call (.Attribute (.Name x px) "append" apos) [.Call (.Attribute (.Name y py) "pop" apos2) [e] [] cpos2] [] cpos) none pos.line X.env = pure false := by rfl) :
    DS1 X E m e0 (.Expr (.Call (.Attribute (.Name x px) "append" apos) [.Call (.Attribute (.Name y py) "pop" apos2) [e] [] cpos2] [] cpos) pos) (sAppPop i j fe) :=
  PS.impD (ps_expr (pe_bm PySem.F.plainAttrs_list PySem.F.slot_list_append PySem.F.type_list_append mt_append (pe_var hN hv hd hcd)
    (pa_cons (pe_bm PySem.F.plainAttrs_list PySem.F.slot_list_pop PySem.F.type_list_pop mt_popAt (pe_var hN2 hv2 hd2 hcd2) (pa_cons he pa_nil hs2) hbase2 hfew2 hline2 hs2 hplain2) pa_nil hs) hbase hfew hline hs hplain) hsw) fun Z σ H ⟨A, S, g, σd, s, q⟩ => by
    cases eo : ownL σd[i]? with
    | none =>
      unfold sAppPop at q; rw [eo] at q; exact q.elim
    | some xs =>
      cases eo2 : ownL σd[j]? with
      | none => unfold sAppPop at q; rw [eo, eo2] at q; exact q.elim
      | some ys =>
        unfold sAppPop at q
        rw [eo, eo2] at q
        have e1 := ownL_eq eo
        have e2 := ownL_eq eo2
        obtain ⟨p1, s1, a1, a2, vs1, a3, a4⟩ := s.rep.ow e1
        obtain ⟨p2, s2, b1, b2, vs2, b3, b4⟩ := s.rep.ow e2
        refine ⟨.ref p1, s1, tyV_lst a3, .ref p2, s2, tyV_lst b3, A, S, g, σd, s.ok, s.rep, (KS.bindE (m1 := false) s.post q).imp fun v H1 ⟨A1, S1, g1, d, P1, o1, r1, q1⟩ => ?_⟩
        have st1 := s.post' P1 o1
        have k1 : H1 p1 = some (.lst vs1) := P1.keep p1 _ a3 a2
        have k2 : H1 p2 = some (.lst vs2) := P1.keep p2 _ b3 b2
        have rx : RepL X.K A1 S1 vs1 xs := a4.mono P1.a P1.s
        have ry : RepL X.K A1 S1 vs2 ys := b4.mono P1.a P1.s
        cases ep : popAt ys d with
        | none => rw [ep] at q1; exact q1.elim
        | some r =>
          obtain ⟨z, ys'⟩ := r
          rw [ep] at q1
          by_cases hf : fit xs.length = true
          · have q1 : KS (Cx.sur X E) m e0 A1 S1 ((if fit xs.length = true then M.pure (.nx ((σd.set j (some (.ow (.lst ys')))).set i (some (.ow (.lst (xs ++ [z])))))) else M.bad : M Fl) g1) Z := q1
            rw [if_pos hf] at q1
            unfold popAt at ep
            split at ep
            · rename_i k
              by_cases h : 0 ≤ k ∧ k < ys.length ∧ ys.length < 1000000
              · rw [if_pos h] at ep
                cases r1
                cases ez : ys[k.toNat]? with
                | none => rw [ez] at ep; cases ep
                | some z' =>
                  rw [ez] at ep
                  have ep := Option.some.inj ep
                  have ez1 : z' = z := congrArg Prod.fst ep
                  have ez2 : ys.eraseIdx k.toNat = ys' := congrArg Prod.snd ep
                  subst ez1 ez2
                  obtain ⟨w, hw, rw'⟩ := ry.getD ez
                  obtain ⟨n, rfl⟩ := Int.eq_ofNat_of_zero_le h.1
                  have hn : n < vs2.length := by rw [ry.length]; omega
                  have hne : p1 ≠ p2 := fun e => by
                    subst e
                    exact s.rep.sep i j _ _ p1 hij e1 e2 s1 s2
                  have st2 := st1.write (i := j) (d' := .lst (ys.eraseIdx n)) e2 s2 ⟨vs2.eraseIdx n, upd_same, ry.eraseIdx n⟩
                  have e1' : (σd.set j (some (.ow (.lst (ys.eraseIdx n)))))[i]? = some (some (.ow (.lst xs))) := by rw [List.getElem?_set_ne (Ne.symm hij)]; exact e1
                  have st3 := st2.write (i := i) (d' := .lst (xs ++ [z'])) e1' s1 ⟨vs1 ++ [w], upd_same, rx.append (.cons rw' .nil)⟩
                  refine ⟨p2, vs2, (n : Int), n, w, rfl, rfl, k2, by omega, by omega, seqIx_nat hn, by simpa using hw, ?_⟩
                  refine ⟨p1, vs1, w, rfl, rfl, by rw [upd_ne hne]; exact k1, by rw [rx.length]; exact fit_le hf, ?_⟩
                  exact q1 A1 S1 _ σ (List.prefix_refl _) (Same.refl _) st3
              · rw [if_neg h] at ep; cases ep
            · cases ep
          · have q1 : KS (Cx.sur X E) m e0 A1 S1 ((if fit xs.length = true then M.pure (.nx ((σd.set j (some (.ow (.lst ys')))).set i (some (.ow (.lst (xs ++ [z])))))) else M.bad : M Fl) g1) Z := q1
            rw [if_neg hf] at q1; exact q1.elim
end
end NS
namespace NS
open PySem PySem.Spec PyProof.Rows L2
def keyOf : D → Option Key
  | .int i => some (.inl i)
  | .str x => some (.inr x)
  | _ => none
def keysOf : List D → Option (List Key)
  | [] => some []
  | d :: ds => match keyOf d, keysOf ds with
    | some k, some ks => some (k :: ks)
    | _, _ => none
section
variable {κ : Type} [DecidableEq κ]
def valD (kvs : List (κ × D)) (k : κ) : Option D := (kvs.find? fun kv => decide (kv.1 = k)).map (·.2)
def putD (kvs : List (κ × D)) (k : κ) (v : D) : List (κ × D) :=
  if (kvs.any fun kv => decide (kv.1 = k)) = true then kvs.map (fun kv => if kv.1 = k then (kv.1, v) else kv) else kvs ++ [(k, v)]
end
section
variable {K : PySem.W.Frag} {A : List GAdr} {S H : Hp}
theorem keyOf_rep {v : V} {d : D} {k : Key} (r : Rep K A S v d) (h : keyOf d = some k) : v = kV k := by
  cases r with
  | int i => cases h; rfl
  | str x => cases h; rfl
  | _ => cases h
theorem keysOf_rep : ∀ {vs : List V} {ds : List D} {ks : List Key}, RepL K A S vs ds → keysOf ds = some ks → vs = ks.map kV
  | _, _, _, .nil, h => by cases h; rfl
  | _, _, _, .cons h1 r, h => by
    unfold keysOf at h
    split at h
    · rename_i k ks e1 e2
      cases h
      rw [keyOf_rep h1 e1, keysOf_rep r e2]; rfl
    · cases h
theorem RepT.val {k : List Key} : ∀ {vs : List (List Key × V)} {ds : List (List Key × D)} {d : D}, RepT K A S vs ds → valD ds k = some d → ∃ v, valV vs k = some v ∧ Rep K A S v d
  | _, _, _, .nil, h => by cases h
  | (j, v) :: vs, (_, c) :: ds, d, .cons h1 r, h => by
    by_cases e : j = k
    · subst e
      simp [valD] at h
      subst h
      exact ⟨v, by simp [valV], h1⟩
    · have h' : valD ds k = some d := by simpa [valD, e] using h
      obtain ⟨w, hw, rw'⟩ := RepT.val r h'
      exact ⟨w, by simpa [valV, e] using hw, rw'⟩
theorem RepK.val {k : Key} : ∀ {vs : List (Key × V)} {ds : List (Key × D)} {d : D}, RepK K A S vs ds → valD ds k = some d → ∃ v, valV vs k = some v ∧ Rep K A S v d
  | _, _, _, .nil, h => by cases h
  | (j, v) :: vs, (_, c) :: ds, d, .cons h1 r, h => by
    by_cases e : j = k
    · subst e
      simp [valD] at h
      subst h
      exact ⟨v, by simp [valV], h1⟩
    · have h' : valD ds k = some d := by simpa [valD, e] using h
      obtain ⟨w, hw, rw'⟩ := RepK.val r h'
      exact ⟨w, by simpa [valV, e] using hw, rw'⟩
theorem RepT.no {k : List Key} : ∀ {vs : List (List Key × V)} {ds : List (List Key × D)}, RepT K A S vs ds → valD ds k = none → valV vs k = none
  | _, _, .nil, _ => rfl
  | (j, v) :: vs, (_, c) :: ds, .cons h1 r, h => by
    by_cases e : j = k
    · subst e; simp [valD] at h
    · have h' : valD ds k = none := by simpa [valD, e] using h
      have := RepT.no r h'
      simpa [valV, e] using this
theorem RepK.no {k : Key} : ∀ {vs : List (Key × V)} {ds : List (Key × D)}, RepK K A S vs ds → valD ds k = none → valV vs k = none
  | _, _, .nil, _ => rfl
  | (j, v) :: vs, (_, c) :: ds, .cons h1 r, h => by
    by_cases e : j = k
    · subst e; simp [valD] at h
    · have h' : valD ds k = none := by simpa [valD, e] using h
      have := RepK.no r h'
      simpa [valV, e] using this
theorem RepT.len : ∀ {vs : List (List Key × V)} {ds : List (List Key × D)}, RepT K A S vs ds → vs.length = ds.length
  | _, _, .nil => rfl
  | _, _, .cons _ r => congrArg (· + 1) r.len
theorem RepK.len : ∀ {vs : List (Key × V)} {ds : List (Key × D)}, RepK K A S vs ds → vs.length = ds.length
  | _, _, .nil => rfl
  | _, _, .cons _ r => congrArg (· + 1) r.len
theorem RepT.any (k : List Key) : ∀ {vs : List (List Key × V)} {ds : List (List Key × D)}, RepT K A S vs ds → (vs.any fun kv => decide (kv.1 = k)) = ds.any fun kv => decide (kv.1 = k)
  | _, _, .nil => rfl
  | _, _, .cons _ r => by simp only [List.any_cons, r.any k]
theorem RepK.any (k : Key) : ∀ {vs : List (Key × V)} {ds : List (Key × D)}, RepK K A S vs ds → (vs.any fun kv => decide (kv.1 = k)) = ds.any fun kv => decide (kv.1 = k)
  | _, _, .nil => rfl
  | _, _, .cons _ r => by simp only [List.any_cons, r.any k]
theorem RepT.app : ∀ {vs ws : List (List Key × V)} {ds es : List (List Key × D)}, RepT K A S vs ds → RepT K A S ws es → RepT K A S (vs ++ ws) (ds ++ es)
  | _, _, _, _, .nil, r => r
  | _, _, _, _, .cons h r, r2 => .cons h (r.app r2)
theorem RepK.app : ∀ {vs ws : List (Key × V)} {ds es : List (Key × D)}, RepK K A S vs ds → RepK K A S ws es → RepK K A S (vs ++ ws) (ds ++ es)
  | _, _, _, _, .nil, r => r
  | _, _, _, _, .cons h r, r2 => .cons h (r.app r2)
theorem RepT.put {k : List Key} {v : V} {d : D} (hv : Rep K A S v d) {vs : List (List Key × V)} {ds : List (List Key × D)} (r : RepT K A S vs ds) : RepT K A S (putK vs k v) (putD ds k d) := by
  have gen : ∀ {vs : List (List Key × V)} {ds : List (List Key × D)}, RepT K A S vs ds → RepT K A S (vs.map fun kv => if kv.1 = k then (kv.1, v) else kv) (ds.map fun kv => if kv.1 = k then (kv.1, d) else kv) := by
    intro vs ds r
    induction vs generalizing ds with
    | nil => cases r; exact .nil
    | cons p vs ih =>
      cases r with
      | @cons j w c _ ds h r =>
        simp only [List.map_cons]
        by_cases e : j = k
        · simp only [e, if_true]; exact .cons hv (ih r)
        · simp only [e, if_false]; exact .cons h (ih r)
  unfold putK putD
  rw [r.any k]
  split
  · exact gen r
  · exact r.app (.cons hv .nil)
theorem RepK.put {k : Key} {v : V} {d : D} (hv : Rep K A S v d) {vs : List (Key × V)} {ds : List (Key × D)} (r : RepK K A S vs ds) : RepK K A S (putK vs k v) (putD ds k d) := by
  have gen : ∀ {vs : List (Key × V)} {ds : List (Key × D)}, RepK K A S vs ds → RepK K A S (vs.map fun kv => if kv.1 = k then (kv.1, v) else kv) (ds.map fun kv => if kv.1 = k then (kv.1, d) else kv) := by
    intro vs ds r
    induction vs generalizing ds with
    | nil => cases r; exact .nil
    | cons p vs ih =>
      cases r with
      | @cons j w c _ ds h r =>
        simp only [List.map_cons]
        by_cases e : j = k
        · simp only [e, if_true]; exact .cons hv (ih r)
        · simp only [e, if_false]; exact .cons h (ih r)
  unfold putK putD
  rw [r.any k]
  split
  · exact gen r
  · exact r.app (.cons hv .nil)
end
theorem PE.or {X : Cx} {e : Expr} {t t' : TE} (h : PE X e t) (h' : PE X e t') : PE X e (fun σ H Q => t σ H Q ∨ t' σ H Q) := ⟨fun pins s σ H Q I q => q.elim (h.run pins s σ H Q I) (h'.run pins s σ H Q I)⟩
def isDc : D → Bool
  | .dT _ => true | .dK _ => true | .fT _ => true
  | _ => false
def dGet : D → D → Option D
  | .dT kvs, .tup ks => (keysOf ks).bind fun k => valD kvs k
  | .dK kvs, y => (keyOf y).bind fun k => valD kvs k
  | .fT kvs, .tup ks => (keysOf ks).bind fun k => valD kvs k
  | _, _ => none
def kIxD (x y : D) : M D := if isDc x = true then M.opt (dGet x y) else kIx x y
section
variable {X : Cx} {E : XK} {m : Bool} {pos : Pos} {a b e : Expr} {fa fb fe : DS → M D} {e0 : En}
theorem dGet_rd {K : PySem.W.Frag} {A : List GAdr} {S H : Hp} (o : Same S H) {x y : V} {dx dy d : D} (r1 : Rep K A S x dx) (r2 : Rep K A S y dy) (h : dGet dx dy = some d) : ∃ p v, x = .ref p ∧ DGet H p y (some v) ∧ Rep K A S v d := by
  cases r1 with
  | @dT p vs ds h1 r1 =>
    cases r2 with
    | @tup q ws ks h2 r2 =>
      have h' : ((keysOf ks).bind fun k => valD ds k) = some d := h
      cases ek : keysOf ks with
      | none => rw [ek] at h'; cases h'
      | some k =>
        rw [ek] at h'
        obtain ⟨v, hv, rv⟩ := r1.val h'
        have ew := keysOf_rep r2 ek
        subst ew
        exact ⟨p, v, rfl, .inr ⟨vs, k, q, .inl (o _ _ h1), rfl, o _ _ h2, hv.symm⟩, rv⟩
    | _ => cases h
  | @fT p ob vs ds h1 r1 =>
    cases r2 with
    | @tup q ws ks h2 r2 =>
      have h' : ((keysOf ks).bind fun k => valD ds k) = some d := h
      cases ek : keysOf ks with
      | none => rw [ek] at h'; cases h'
      | some k =>
        rw [ek] at h'
        obtain ⟨v, hv, rv⟩ := r1.val h'
        have ew := keysOf_rep r2 ek
        subst ew
        exact ⟨p, v, rfl, .inr ⟨vs, k, q, .inr ⟨ob, o _ _ h1⟩, rfl, o _ _ h2, hv.symm⟩, rv⟩
    | _ => cases h
  | @dK p vs ds h1 r1 =>
    have h' : ((keyOf dy).bind fun k => valD ds k) = some d := by cases dy <;> exact h
    cases ek : keyOf dy with
    | none => rw [ek] at h'; cases h'
    | some k =>
      rw [ek] at h'
      obtain ⟨v, hv, rv⟩ := r1.val h'
      exact ⟨p, v, rfl, .inl ⟨vs, k, .inl (o _ _ h1), keyOf_rep r2 ek, hv.symm⟩, rv⟩
  | _ => cases r2 <;> cases h
theorem de_ixD (hu : X.A.units + 65 < cLine) (ha : DE X E false a fa) (hb : DE X E false b fb) (hs : PlainIx b := by exact fun _ _ => rfl) (hs2 : NoSl b := by exact fun _ _ => rfl) : DE X E false (.Subscript a b pos) (eBin kIxD fa fb) :=
  PE.impD (PE.or (pe_ix ix_seq ha hb hs) (pe_dget (by omega) ha hb hs2)) fun σ H Q ⟨A, S, g, σd, o, r, q⟩ => by
    have q' : KE (Cx.sur X E) false A S H (M.bind (fa σd) (fun x => M.bind (fb σd) fun y => kIxD x y) g) Q := q
    cases e1 : fa σd g with
    | bad => rw [bind_bad e1] at q'; exact q'.elim
    | err z g' =>
      rw [bind_err e1] at q'
      exact .inl ⟨A, S, g, σd, o, r, by rw [e1]; exact q'⟩
    | ok d g1 =>
      rw [bind_ok e1] at q'
      by_cases hd : isDc d = true
      · refine .inr ⟨A, S, g, σd, o, r, ?_⟩
        rw [e1]
        intro A1 S1 H1 v p1 o1 r1
        refine ⟨A1, S1, g1, σd, o1, r.post p1, (KE.bindE (KE.shift p1 q')).imp fun u H2 ⟨A2, S2, g2, d2, p2, o2, r2, q2⟩ => ?_⟩
        unfold kIxD at q2
        rw [if_pos hd] at q2
        obtain ⟨c, e2, q2⟩ := opt_ok q2
        obtain ⟨p, w, hx, hg, rw'⟩ := dGet_rd o2.ext (Rep.mono p2.a p2.s r1) r2 e2
        exact ⟨p, w, hx, hg, KE.val q2 o2 rw'⟩
      · refine .inl ⟨A, S, g, σd, o, r, ?_⟩
        rw [e1]
        intro A1 S1 H1 v p1 o1 r1
        refine ⟨A1, S1, g1, σd, o1, r.post p1, (KE.bindE (KE.shift p1 q')).imp fun u H2 ⟨A2, S2, g2, d2, p2, o2, r2, q2⟩ => ?_⟩
        unfold kIxD at q2
        rw [if_neg hd] at q2
        exact ix_rd rfl _ _ _ _ ⟨A2, S2, g2, d, d2, o2, Rep.mono p2.a p2.s r1, r2, q2⟩
theorem KE.newO {U : Sur} {A : List GAdr} {S H : Hp} {d : D} {ob : HO} {g : G} {Q : VK} (h : KE U m A S H (.ok d g) Q) (o : Ok U.K A S H g) {p : Addr} (hp : H p = none) (ht : Top U.K A S (upd H p ob) p d)
    (hr : Rep U.K A (upd S p ob) (.ref p) d) : Q (.ref p) (upd H p ob) := by
  have sp : S p = none := Same.free o.ext hp
  have pg : p ∉ gfp A := fun z => by obtain ⟨u, hu⟩ := o.there p z; rw [hp] at hu; cases hu
  cases m with
  | false => exact h A (upd S p ob) _ _ (Post.lay hp o.ext) (o.lay hp) hr
  | true => exact h A S _ _ (Post.layO hp) (o.layO hp) ⟨p, rfl, hp, sp, pg, ht⟩
theorem de_dnewT : DE X E m (.Dict [] [] pos) (eC (.dT [])) := PE.impD pe_dnewT fun σ H Q ⟨A, S, g, σd, o, r, q⟩ p hp => KE.newO q o hp ⟨[], upd_same, .nil⟩ (.dT upd_same .nil)
def dPut : D → D → D → Option D
  | .dT kvs, .tup ks, v => if fit kvs.length = true then (keysOf ks).map fun k => .dT (putD kvs k v) else none
  | .dK kvs, y, v => if fit kvs.length = true then (keyOf y).map fun k => .dK (putD kvs k v) else none
  | _, _, _ => none
def ownD : Option (Option DV) → Option D
  | some (some (.ow d)) => some d
  | _ => none
theorem ownD_eq {o : Option (Option DV)} {d : D} (h : ownD o = some d) : o = some (some (.ow d)) := by
  unfold ownD at h
  split at h
  · cases h; rfl
  · cases h
def sDPut' (j : Nat) (fe fi : DS → M D) : DS → M Fl := fun σ => M.bind (fe σ) fun d => match ownD σ[j]? with
  | some x => M.bind (fi σ) fun i => match dPut x i d with
    | some x' => M.pure (.nx (σ.set j (some (.ow x'))))
    | none => M.bad
  | none => M.bad
theorem dPut_rd {K : PySem.W.Frag} {A : List GAdr} {S H : Hp} (o : Same S H) {p : Addr} {y w : V} {dx dy d d' : D} (t : Top K A S H p dx) (r2 : Rep K A S y dy) (r3 : Rep K A S w d) (h : dPut dx dy d = some d') : ∃ ob, DPut H p y w (upd H p ob) ∧ Top K A S (upd H p ob) p d' := by
  cases dx with
  | dT kvs =>
    obtain ⟨vs, h1, r1⟩ := t
    cases r2 with
    | @tup q ws ks h2 r2 =>
      have h' : (if fit kvs.length = true then (keysOf ks).map fun k => D.dT (putD kvs k d) else none) = some d' := h
      by_cases hf : fit kvs.length = true
      · rw [if_pos hf] at h'
        cases ek : keysOf ks with
        | none => rw [ek] at h'; cases h'
        | some k =>
          rw [ek] at h'; cases h'
          have ew := keysOf_rep r2 ek
          subst ew
          exact ⟨_, .inr ⟨vs, k, q, h1, rfl, o _ _ h2, by rw [r1.len]; exact fit_le hf, rfl⟩, _, upd_same, r1.put r3⟩
      · rw [if_neg hf] at h'; cases h'
    | _ => cases h
  | dK kvs =>
    obtain ⟨vs, h1, r1⟩ := t
    have h' : (if fit kvs.length = true then (keyOf dy).map fun k => D.dK (putD kvs k d) else none) = some d' := by cases dy <;> exact h
    by_cases hf : fit kvs.length = true
    · rw [if_pos hf] at h'
      cases ek : keyOf dy with
      | none => rw [ek] at h'; cases h'
      | some k =>
        rw [ek] at h'; cases h'
        exact ⟨_, .inl ⟨vs, k, h1, keyOf_rep r2 ek, by rw [r1.len]; exact fit_le hf, rfl⟩, _, upd_same, r1.put r3⟩
    · rw [if_neg hf] at h'; cases h'
  | lst _ => cases r2 <;> cases h
  | _ => exact t.elim
theorem ds_dput (j : Nat) {x : Str} {px pos' : Pos} {ei : Expr} {fi : DS → M D} (hu : X.A.units + 65 < cLine) (he : DE X E false e fe) (hi : DE X E false ei fi) (hN : X.N[j]? = some x := by rfl) (hv : Vis X.env.scope x := by first | exact Or.inl rfl | exact Or.inr (Or.inl rfl) | exact Or.inr (Or.inr rfl)) (hd : (x == ("__debug__" : Str)) = false := by decide)
    (hcd : (x == ("__classdict__" : Str)) = false := by decide) (hs : swapsWith e (some (.Subscript (.Name x px) ei pos')) pos.line X.env = pure false := by rfl) : DS1 X E m e0 (.Assign [.Subscript (.Name x px) ei pos'] e pos) (sDPut' j fe fi) :=
  PS.impD (ps_dput (by omega) (pe_var hN hv hd hcd) hi he hs) fun Z σ H ⟨A, S, g, σd, s, q⟩ => ⟨A, S, g, σd, s.ok, s.rep, (KS.bindE (m1 := false) s.post q).imp fun v H1 ⟨A1, S1, g1, d, p1, o1, r1, q1⟩ => by
    have s1 := s.post' p1 o1
    cases eo : ownD σd[j]? with
    | none => rw [eo] at q1; exact q1.elim
    | some dx =>
      rw [eo] at q1
      have e1 := ownD_eq eo
      obtain ⟨p, e2, h1, h2, tp⟩ := s1.rep.ow e1
      refine ⟨.ref p, e2, A1, S1, g1, σd, o1, s1.rep, (KS.bindE (m1 := false) s1.post q1).imp fun w H2 ⟨A2, S2, g2, d2, p2, o2, r2, q2⟩ => ?_⟩
      have s2 := s1.post' p2 o2
      obtain ⟨p', e3, h1', h2', tp'⟩ := s2.rep.ow e1
      rw [e2] at e3; cases e3
      cases ed : dPut dx d2 d with
      | none => rw [ed] at q2; exact q2.elim
      | some dx' =>
        rw [ed] at q2
        obtain ⟨ob, hput, ht⟩ := dPut_rd o2.ext tp' r2 (Rep.mono p2.a p2.s r1) ed
        exact ⟨p, _, rfl, hput, q2 A2 S2 _ σ (List.prefix_refl _) (Same.refl _) (s2.write e1 e2 ht)⟩⟩
end
end NS
namespace NS
open PySem PySem.Spec PyProof.Rows L2
section
variable {X : Cx} {E : XK} {m : Bool} {pos : Pos} {ei e : Expr} {fi fe : DS → M D} {e0 : En}
end
end NS
namespace NS
open PySem PySem.Spec PyProof.Rows L2
def SqX (t : Bool) (K : PySem.W.Frag) (H : Hp) (a : Addr) (xs : List V) : Prop := if t = true then SqT K H a xs else SqL K H a xs
def ItX (t : Bool) (h : Heap) (it a : Addr) (i : Nat) : Prop := if t = true then h.IsTupleIter it a i else h.IsListIter it a i
def HsX (t : Bool) (h : Heap) (a : Addr) (its : Array Value) : Prop := if t = true then h.IsTuple a its else h.IsList a its
theorem drawsX {prog : Program} {w : World} {A : Around} (hh : A.handled = none) (t : Bool) (it l : Addr) (hne : l ≠ it) (items : Array Value) :
    Draws prog w A it [it, l] items.size (fun i v => items[i]? = some v) (fun i h => ItX t h it l i ∧ HsX t h l items) := by
  cases t with
  | true => exact Draws.tuple hh it l hne items
  | false => exact Draws.list hh it l hne items
def oX (t : Bool) (a : Addr) : Obj := if t = true then { cls := .type "tuple_iterator", data := .fields #[.ref a, .int 0 0] } else { cls := .type "list_iterator", data := .fields #[.ref a, .int 0 0] }
theorem beginsX (t : Bool) (l : Addr) (items : Array Value) : Begins (.ref l) (oX t l) fun h => HsX t h l items := by
  cases t with
  | true => exact begins_tuple l items
  | false => exact begins_list l items
theorem itX_new {t : Bool} {h : Heap} {it a : Addr} (e : h.get? it = some (oX t a)) : ItX t h it a 0 := by
  cases t with
  | true => exact ⟨_, e, rfl, rfl⟩
  | false => exact ⟨_, e, rfl, rfl⟩
theorem ItX.at {t : Bool} {h h' : Heap} {it a : Addr} {i : Nat} (x : ItX t h it a i) (k : ∀ o, h.get? it = some o → h'.get? it = some o) : ItX t h' it a i := by
  cases t with
  | true => exact Heap.IsTupleIter.at (h := h) x k
  | false => exact Heap.IsListIter.at (h := h) x k
theorem ItX.obj {t : Bool} {h : Heap} {it a : Addr} {i : Nat} (x : ItX t h it a i) : ∃ o, h.get? it = some o ∧ ∀ v, o.data ≠ .cell v := by
  cases t with
  | true => obtain ⟨o, ho, hc, hd⟩ := (show h.IsTupleIter it a i from x); exact ⟨o, ho, fun v q => by rw [hd] at q; cases q⟩
  | false => obtain ⟨o, ho, hc, hd⟩ := (show h.IsListIter it a i from x); exact ⟨o, ho, fun v q => by rw [hd] at q; cases q⟩
theorem SqX.inv {X : Cx} {pins : List (Addr × Obj)} {σ : L2.St} {H : Hp} {s : Shared} {t : Bool} {a : Addr} {xs : List V} (I : Inv X pins σ H s) (h : SqX t X.K H a xs) : ∃ its : List Value, Vals xs its ∧ HsX t s.heap a its.toArray ∧ a < s.heap.objs.size := by
  cases t with
  | true =>
    obtain ⟨its, r, p, z⟩ := I.tuple h
    obtain ⟨o, ho, _⟩ := id p
    exact ⟨its, r, p, Heap.lt_size ho⟩
  | false =>
    obtain ⟨its, r, p, z⟩ := I.list h
    exact ⟨its, r, p.isList, p.lt⟩
def ItzM (t1 t2 : Bool) (K : PySem.W.Frag) (a b : Addr) (xs ys : List V) : It :=
  ⟨fun i H => SqX t1 K H a xs ∧ SqX t2 K H b ys ∧ i < xs.length ∧ i < ys.length,
    fun i H v H' => ∃ T x y, v = .ref T ∧ H T = none ∧ H' = upd H T (.tup [x, y]) ∧ xs[i]? = some x ∧ ys[i]? = some y,
    fun i H => SqX t1 K H a xs ∧ SqX t2 K H b ys ∧ (xs.length ≤ i ∨ ys.length ≤ i)⟩
theorem sepOf {z TI TO i1 i2 a b : Addr} (D : ZipApart z TI TO i1 i2 a b) (h : ZipApart z TI TO i1 i2 b a) : ZipSep2 z TI TO i1 i2 [i1, a] [i2, b] where
  TIz := D.TIz
  TOz := D.TOz
  TITO := D.TITO
  TIi1 := D.TIi1
  mem1 := by simp
  zf1 := by simp; exact ⟨Ne.symm D.i1z, Ne.symm D.l1z⟩
  Tf1 := by simp; exact ⟨D.TOi1, Ne.symm D.l1TO⟩
  TIi2 := D.TIi2
  mem2 := by simp
  zf2 := by simp; exact ⟨Ne.symm D.i2z, Ne.symm h.l1z⟩
  Tf2 := by simp; exact ⟨D.TOi2, Ne.symm h.l1TO⟩
  sep1_2 := by simp; exact ⟨D.i12, Ne.symm h.l1i1⟩
  sep2_1 := by simp; exact ⟨Ne.symm D.i12, Ne.symm D.l1i2⟩
theorem turn_zipM {P : Program} {w : World} {K : PySem.W.Frag} {elts : List Expr} {kk : Nat} {tpos : Pos} (t1 t2 : Bool) {a b z TI TO i1 i2 : Addr} {xs ys : List V} (D : ZipApart z TI TO i1 i2 a b) (D2 : ZipApart z TI TO i1 i2 b a) :
    Turn P w K (.Tuple elts kk tpos) (ItzM t1 t2 K a b xs ys) [z, TI, TO, i1, i2] z (fun i h => IsZip h z TI TO .none ∧ IsTupOf2 h TI (.ref i1) (.ref i2) ∧ (∃ x y, IsTupOf2 h TO x y) ∧ ItX t1 h i1 a i ∧ ItX t2 h i2 b i ∧ i ≤ xs.length ∧ i ≤ ys.length) where
  mem := by simp
  obj := fun i h st c hc => by
    obtain ⟨hz, hTI, ⟨x, y, hTO⟩, h1, h2, _⟩ := st
    have e' : c = z ∨ c = TI ∨ c = TO ∨ c = i1 ∨ c = i2 := by simpa using hc
    rcases e' with q | q | q | q | q
    · rw [q]; exact ⟨_, hz, fun v q => nomatch q⟩
    · rw [q]; exact ⟨_, hTI, fun v q => nomatch q⟩
    · rw [q]; exact ⟨_, hTO, fun v q => nomatch q⟩
    · rw [q]; exact h1.obj
    · rw [q]; exact h2.obj
  keep := fun i h h' st k => by
    obtain ⟨hz, hTI, ⟨x, y, hTO⟩, h1, h2, l⟩ := st
    exact ⟨k z (by simp) _ hz, k TI (by simp) _ hTI, ⟨x, y, k TO (by simp) _ hTO⟩, h1.at fun o q => k i1 (by simp) o q, h2.at fun o q => k i2 (by simp) o q, l⟩
  item := by
    intro X hP hw hK hc i pins s σ H E I hf st hg
    subst hP hw hK
    obtain ⟨hz, hTI, ⟨x0, y0, hTO⟩, h1, h2, l1, l2⟩ := st
    obtain ⟨hqx, hqy, g1, g2⟩ := hg
    obtain ⟨its, rv, p, _⟩ := hqx.inv I
    obtain ⟨its2, rv2, p2, _⟩ := hqy.inv I
    have hzl : z < s.heap.objs.size := Heap.lt_size hz
    have hi1l : i1 < s.heap.objs.size := by obtain ⟨_, e, _⟩ := h1.obj; exact Heap.lt_size e
    have hi2l : i2 < s.heap.objs.size := by obtain ⟨_, e, _⟩ := h2.obj; exact Heap.lt_size e
    have n1 : i < its.toArray.size := by rw [List.size_toArray, ← rv.length]; exact g1
    have n2 : i < its2.toArray.size := by rw [List.size_toArray, ← rv2.length]; exact g2
    refine wpAny_pyNext_zipD2_item (sepOf D D2) (drawsX (A := X.A.in1) (I.ok.hd hc) t1 i1 a D.l1i1 its.toArray) (drawsX (A := X.A.in1) (I.ok.hd hc) t2 i2 b D2.l1i2 its2.toArray) hz hTI hTO ⟨h1, p⟩ ⟨h2, p2⟩ n1 n2
      fun u u2 h' tk e1 e2 z' TO' st1' st2' hT hsz hk => ?_
    obtain ⟨h1', _⟩ := st1'
    obtain ⟨h2', _⟩ := st2'
    obtain ⟨x, hx, ru⟩ := vals_back rv (by simpa using e1)
    obtain ⟨y, hy, ru2⟩ := vals_back rv2 (by simpa using e2)
    refine ⟨_, rfl, wpAny_letOwnedTupleGo_zip (s := { s with heap := h', toks := tk }) z' fun h'' z'' sb => ?_⟩
    have hT2 : h''.get? s.heap.objs.size = some { cls := .type "tuple", data := .seq #[u, u2] } := (sb.2 _ (Nat.ne_of_gt hzl)).trans hT
    have new : ObjOk X.prog X.w (upd H s.heap.objs.size (.tup [x, y])) h'' s.heap.objs.size (.tup [x, y]) :=
      ⟨by show 2 ≤ sizeLine; decide, [u, u2], .cons ru (.cons ru2 .nil), ⟨_, hT2, rfl, _, rfl⟩⟩
    have I1 : Inv X pins σ (upd H s.heap.objs.size (.tup [x, y])) { s with heap := h'', toks := tk } :=
      I.turnedNew (t' := tk) (ch := [z, TI, TO, i1, i2]) (fun c o hb q => (sb.2 c (fun q' => hb (by simp [q']))).trans (hk c o (fun q' => hb (by simp [q'])) (fun q' => hb (by simp [q'])) (fun q' => hb (by simp [q'])) (fun q' => hb (by simp [q'])) q)) hf (Nat.le_refl _) new
    refine ⟨.ref s.heap.objs.size, _, I1, rfl, ⟨_, x, y, rfl, I.hok.fresh (Nat.le_refl _), rfl, hx, hy⟩, ⟨z'', ?_, ⟨u, u2, ?_⟩, ?_, ?_, g1, g2⟩, fun c hcm => ?_⟩
    · exact (sb.2 _ D.TIz).trans (hk _ _ D.TIz D.TITO D.TIi1 D.TIi2 hTI)
    · exact (sb.2 _ D.TOz).trans TO'
    · exact h1'.at fun o q => (sb.2 _ D.i1z).trans q
    · exact h2'.at fun o q => (sb.2 _ D.i2z).trans q
    · have hlt : c < s.heap.objs.size := by
        have e' : c = z ∨ c = TI ∨ c = TO ∨ c = i1 ∨ c = i2 := by simpa using hcm
        rcases e' with q | q | q | q | q
        · rw [q]; exact hzl
        · rw [q]; exact Heap.lt_size hTI
        · rw [q]; exact Heap.lt_size hTO
        · rw [q]; exact hi1l
        · rw [q]; exact hi2l
      rw [upd_ne (Nat.ne_of_lt hlt)]
      exact (hf c hcm).1
  done := by
    intro X hP hw hK hc i pins s σ H E I hf st hg
    subst hP hw hK
    obtain ⟨hz, hTI, ⟨x0, y0, hTO⟩, h1, h2, l1, l2⟩ := st
    obtain ⟨hqx, hqy, hend⟩ := hg
    obtain ⟨its, rv, p, _⟩ := hqx.inv I
    obtain ⟨its2, rv2, p2, _⟩ := hqy.inv I
    have e1 := rv.length
    have e2 := rv2.length
    exact wpAny_pyNext_zipD2_end (sepOf D D2) (drawsX (A := X.A.in1) (I.ok.hd hc) t1 i1 a D.l1i1 its.toArray) (drawsX (A := X.A.in1) (I.ok.hd hc) t2 i2 b D2.l1i2 its2.toArray) hz hTI hTO ⟨h1, p⟩ ⟨h2, p2⟩
      (by rw [List.size_toArray]; omega) (by rw [List.size_toArray]; omega) (by rw [List.size_toArray, List.size_toArray]; omega) fun h' tk hk => ⟨rfl, I.turnedL (t' := tk) (ch := [z, TI, TO, i1, i2]) (fun c o hb q =>
        hk c o (fun q' => hb (by simp [q'])) (fun q' => hb (by simp [q'])) (fun q' => hb (by simp [q'])) (fun q' => hb (by simp [q'])) q) hf⟩
  self := fun A i s Q E st h => wpAny_pyIter_zip st.1 h
def iZipM (K : PySem.W.Frag) (ta : TA) : TI := fun σ H R => ta σ H fun vs H1 => ∃ t1 t2 a b xs ys, vs = [.ref a, .ref b] ∧ SqX t1 K H1 a xs ∧ SqX t2 K H1 b ys ∧ R (ItzM t1 t2 K a b xs ys) H1
theorem pi_zipM {X : Cx} {e e2 : Expr} {ta : TA} {p pos tpos : Pos} {elts : List Expr} {kk : Nat} (hg : Gl X "zip") (hm : X.mg "zip" = none) (ha : PA X [e, e2] ta)
    (hs : starEach [e, e2] X.env = (false, eval e X.env) :: starEach [e2] X.env := by rfl) (hpl : (backTo pos (starEach [e2] X.env)).any (·.1) = false := by rfl) :
    PI X (.Tuple elts kk tpos) (.Call (.Name "zip" p) [e, e2] [] pos) (iZipM X.K ta) := by
  refine ⟨fun pins s σ H R I h => ?_⟩
  refine Call_ (ld_blt I hg hm PyProof.Rows.boot_zip (PyProof.Rows.callWith_type1 (thn (ha.run pos pins s σ H _ I h) fun us s1 ⟨vs, H1, I1, r1, q1⟩ => ?_) hs hpl))
  obtain ⟨t1, t2, a, b, xs, ys, ex, hqx, hqy, q⟩ := q1
  subst ex
  cases r1 with
  | cons r rr =>
    cases rr with
    | cons r' rr =>
      cases rr
      cases r
      cases r'
      have fresh5 : ∀ c, c ∈ [s1.heap.objs.size + 4, s1.heap.objs.size + 2, s1.heap.objs.size + 3, s1.heap.objs.size, s1.heap.objs.size + 1] → FpOk X pins H1 c := fun c hcm => by
        have e' : c = s1.heap.objs.size + 4 ∨ c = s1.heap.objs.size + 2 ∨ c = s1.heap.objs.size + 3 ∨ c = s1.heap.objs.size ∨ c = s1.heap.objs.size + 1 := by simpa using hcm
        have hle : s1.heap.objs.size ≤ c := by
          rcases e' with z | z | z | z | z
          · rw [z]; exact Nat.le_add_right _ _
          · rw [z]; exact Nat.le_add_right _ _
          · rw [z]; exact Nat.le_add_right _ _
          · rw [z]; exact Nat.le_refl _
          · rw [z]; exact Nat.le_add_right _ _
        exact I1.fpOk hle (I1.hok.fresh hle)
      obtain ⟨its, rv, p1, lt1⟩ := hqx.inv I1
      obtain ⟨its2, rv2, p2, lt2⟩ := hqy.inv I1
      refine zip_begins2 (beginsX t1 a its.toArray) (beginsX t2 b its2.toArray) p1 p2 fun h' hz hTI hTO h1 h2 hsz hk => wpAny_pyIter_zip hz ?_
      have I2 : Inv X pins σ H1 { s1 with heap := h' } := I1.kept (t' := s1.toks) hk
      exact ⟨s1.heap.objs.size + 4, [s1.heap.objs.size + 4, s1.heap.objs.size + 2, s1.heap.objs.size + 3, s1.heap.objs.size, s1.heap.objs.size + 1], _, _, H1, rfl, I2,
        turn_zipM t1 t2 (PySem.W.ktu_apart s1.heap.objs.size a b lt1 lt2) (PySem.W.ktu_apart s1.heap.objs.size b a lt2 lt1), ⟨hz, hTI, ⟨_, _, hTO⟩, itX_new h1, itX_new h2, Nat.zero_le _, Nat.zero_le _⟩, fresh5, q⟩
def seqD : D → Option (List D)
  | .lst xs => some xs
  | .tup xs => some xs
  | .ftup xs => some xs
  | _ => none
def zipK2 : List D → M (List D)
  | [x, y] => (match seqD x, seqD y with | some xs, some ys => M.pure (zipD xs ys) | _, _ => M.bad)
  | _ => M.bad
section
variable {X : Cx} {E : XK} {pos p tpos : Pos} {a b : Expr} {elts : List Expr} {kk : Nat} {fl : DS → M (List D)}
theorem seqD_rep {K : PySem.W.Frag} {A : List GAdr} {S H : Hp} (e : Same S H) {v : V} {d : D} {ds : List D} (r : Rep K A S v d) (h : seqD d = some ds) : ∃ t a xs, v = .ref a ∧ SqX t K S a xs ∧ SqX t K H a xs ∧ RepL K A S xs ds := by
  cases r with
  | @lst a xs _ h1 rr => cases h; exact ⟨false, a, xs, rfl, .inl (.inl h1), .inl (.inl (e _ _ h1)), rr⟩
  | @tup a xs _ h1 rr => cases h; exact ⟨true, a, xs, rfl, .inl (.inl h1), .inl (.inl (e _ _ h1)), rr⟩
  | @ftup a xs _ h1 rr => cases h; exact ⟨true, a, xs, rfl, h1.sq (Same.refl _), h1.sq e, rr⟩
  | _ => cases h
theorem SqX.mono {K : PySem.W.Frag} {S H : Hp} {t : Bool} {a : Addr} {xs : List V} (e : Same S H) (h : SqX t K S a xs) : SqX t K H a xs := by
  cases t with
  | true => exact SqT.mono e h
  | false => exact SqL.mono e h
theorem di_zip2 (hm : X.mg "zip" = none) (ha : DL X E [a, b] fl) (hg : Gl X "zip" := by rfl) (hs : starEach [a, b] X.env = (false, eval a X.env) :: starEach [b] X.env := by rfl) (hpl : (backTo pos (starEach [b] X.env)).any (·.1) = false := by rfl) :
    DI X E (.Tuple elts kk tpos) (.Call (.Name "zip" p) [a, b] [] pos) (iArgs zipK2 fl) :=
  PI.impD (pi_zipM hg hm ha hs hpl) fun σ H R ⟨A, S, g, σd, o, r, q⟩ => ⟨A, S, g, σd, o, r, (KI.bindL q).imp fun vs H1 ⟨A1, S1, g1, ds, p1, o1, r1, q1⟩ => by
    unfold zipK2 at q1
    split at q1
    · rename_i x y
      cases e1 : seqD x with
      | none => rw [e1] at q1; exact q1.elim
      | some xs =>
        cases e2 : seqD y with
        | none => rw [e1, e2] at q1; exact q1.elim
        | some ys =>
          rw [e1, e2] at q1
          obtain ⟨v, w, rfl, rx, ry⟩ := rep2' r1
          obtain ⟨t1, a1, us, rfl, s1, h1, rr1⟩ := seqD_rep o1.ext rx e1
          obtain ⟨t2, a2, ws, rfl, s2, h2, rr2⟩ := seqD_rep o1.ext ry e2
          refine ⟨t1, t2, a1, a2, us, ws, rfl, h1, h2, KI.now q1 o1 ⟨fun i H hi e => ?_, fun i H hi e => ?_, fun i H v H' hi e y => ?_⟩⟩
          · rw [zipD_len, ← rr1.length, ← rr2.length] at hi
            exact ⟨s1.mono e, s2.mono e, by omega, by omega⟩
          · rw [zipD_len, ← rr1.length, ← rr2.length] at hi
            exact ⟨s1.mono e, s2.mono e, by omega⟩
          · obtain ⟨T, x, y', rfl, hT, rfl, f1, f2⟩ := y
            obtain ⟨d, e3, rx⟩ := rr1.get f1
            obtain ⟨c, e4, ry⟩ := rr2.get f2
            exact ⟨_, zipD_get e3 e4, .inr ⟨T, _, _, rfl, rfl, .inl ⟨hT, rfl⟩, .cons rx (.cons ry .nil)⟩⟩
    · exact q1.elim⟩
end
end NS
namespace NS
open PySem PySem.Spec PyProof.Rows L2
section
variable {X : Cx} {E : XK} {m : Bool} {pos : Pos} {e0 : En}
def borOs : List Nat → (DS → M D) → DS → M D
  | [], f => f
  | i :: is, f => eBorO i (borOs is f)
end
end NS
namespace NS
open PySem PySem.Spec PyProof.Rows L2
section
variable {X : Cx} {E : XK} {m : Bool} {e : Expr} {ta : TA} {pos1 pos2 p1 p2 : Pos}
variable {fl : DS → M (List D)}
end
end NS
namespace NS
open PySem PySem.Spec PyProof.Rows L2
mutual
theorem py_nodict : ∀ d : D, (D.py d).hasDict = false
  | .non | .bl _ | .int _ | .str _ | .dT _ | .dK _ | .hdl _ | .fT _ | .exc0 _ | .exc1 _ _ _ => by simp [D.py, PyData.hasDict]
  | .tup xs => by simp [D.py, PyData.hasDict, pys_nodict xs]
  | .ftup xs => by simp [D.py, PyData.hasDict, pys_nodict xs]
  | .lst xs => by simp [D.py, PyData.hasDict, pys_nodict xs]
  | .slst xs => by simp [D.py, PyData.hasDict, pys_nodict xs]
theorem pys_nodict : ∀ ds : List D, PyData.hasDictAll (D.pys ds) = false
  | [] => by simp [D.pys, PyData.hasDictAll]
  | d :: ds => by simp [D.pys, PyData.hasDictAll, py_nodict d, pys_nodict ds]
end
def reprOk (d : D) : Bool := D.pyOk d && (D.py d).showable && decide ((D.py d).shown.length ≤ sizeLine) && decide ((D.py d).depth ≤ 60)
def kRepr : List D → M D
  | [d] => if reprOk d = true then M.pure (.str (D.py d).shown) else M.bad
  | _ => M.bad
section
variable {X : Cx} {E : XK} {m : Bool}
theorem cl_repr (hu : X.A.units + 65 < cLine) (hg : X.A.guards = some []) : CallD X E (.builtin "repr") false kRepr := fun pins s σ H xs us Q I rs ⟨A, S, g, ds, o, r, q⟩ => by
  match ds, q with
  | [], q => exact q.elim
  | _ :: _ :: _, q => exact q.elim
  | [d], q =>
    have q : KE (Cx.sur X E) false A S H ((if reprOk d = true then M.pure (.str (D.py d).shown) else M.bad : M D) g) Q := q
    by_cases hk : reprOk d = true
    · rw [if_pos hk] at q
      have q : KE (Cx.sur X E) false A S H (.ok (.str (D.py d).shown) g) Q := q
      unfold reprOk at hk
      simp only [Bool.and_eq_true, decide_eq_true_eq] at hk
      obtain ⟨⟨⟨h1, h2⟩, h3⟩, h4⟩ := hk
      have fin : ∀ (h' : Heap) (u tk : Nat), (∀ b ob, s.heap.get? b = some ob → h'.get? b = some ob) → EP X pins σ Q (.str (D.py d).shown u) { s with heap := h', toks := tk } :=
        fun h' u tk k => ⟨.str _, H, I.kept k, ⟨u, rfl⟩, KE.val q o (.str _)⟩
      have heap : ∀ {v : V} {a : Addr}, v = .ref a → xs = [v] → Rep X.K A S v d → wpAny (model X.prog X.w) X.A (call (.builtin "repr") us) (EP X pins σ Q) X.xe s := by
        rintro v a rfl rfl rr
        have eu : us = [.ref a] := Vals.ref1 rs
        rw [eu]
        obtain ⟨as, rd⟩ := Dp.reads I _ _ _ (rr.dp o.ext h1) (show RelV (.ref a) (.ref a) from rfl)
        exact repr_of_reads' rd h2 (PyData.noDict_hsm (py_nodict d)) hg (by omega) (fun _ _ e => e) (fun h' u tk k => fin h' u tk k) h3
      obtain ⟨v, rfl, h⟩ := rep1 r
      cases h with
      | tup h rr => exact heap rfl rfl (.tup h rr)
      | ftup h rr => exact heap rfl rfl (.ftup h rr)
      | lst h rr => exact heap rfl rfl (.lst h rr)
      | slst h rr => exact heap rfl rfl (.slst h rr)
      | non => obtain ⟨u, rfl, rfl⟩ := vals1 rs; exact PySem.P.repr_of_none (fin s.heap _ _ fun _ _ e => e)
      | bl b => obtain ⟨u, rfl, rfl⟩ := vals1 rs; exact PySem.P.repr_of_bool (fin s.heap _ _ fun _ _ e => e)
      | int i => obtain ⟨u, rfl, t, rfl⟩ := vals1 rs; exact PySem.P.repr_of_int (by simpa [D.py, PyData.showable] using h2) (fin s.heap _ _ fun _ _ e => e)
      | str x => obtain ⟨u, rfl, t, rfl⟩ := vals1 rs; exact PySem.P.repr_of_str (fin s.heap _ _ fun _ _ e => e) h3
      | _ => cases h1
    · rw [if_neg hk] at q; exact q.elim
end
end NS
namespace NS
open PySem PySem.Spec PyProof.Rows L2
def pairD : D → Option (Key × D)
  | .tup [k, v] => (keyOf k).map fun j => (j, v)
  | _ => none
def pairsD : List D → Option (List (Key × D))
  | [] => some []
  | d :: ds => match pairD d, pairsD ds with
    | some p, some ps => some (p :: ps)
    | _, _ => none
def mergeP (kvs more : List (Key × D)) : List (Key × D) := more.foldl (fun acc kv => putD acc kv.1 kv.2) kvs
def kDictP : List D → M D
  | [.lst ds] => M.opt ((pairsD ds).map fun kvs => .dK (mergeP [] kvs))
  | _ => M.bad
section
variable {K : PySem.W.Frag} {A : List GAdr} {S H : Hp}
theorem RepK.merge : ∀ {more : List (Key × V)} {md : List (Key × D)} {kvs : List (Key × V)} {kd : List (Key × D)}, RepK K A S more md → RepK K A S kvs kd → RepK K A S (mergeK kvs more) (mergeP kd md)
  | _, _, _, _, .nil, r => r
  | (k, _) :: _, (_, _) :: _, _, _, .cons h t, r => by have z := RepK.merge t (RepK.put (k := k) h r); exact z
theorem pairs_rep (o : Same S H) : ∀ {vs : List V} {ds : List D} {kd : List (Key × D)}, RepL K A S vs ds → pairsD ds = some kd → ∃ (ps : List Addr) (kvs : List (Key × V)), vs = ps.map V.ref ∧ Paired (fun p kv => SqT K H p [kV kv.1, kv.2]) ps kvs ∧ RepK K A S kvs kd
  | _, _, _, .nil, h => by cases h; exact ⟨[], [], rfl, .nil, .nil⟩
  | v :: vs, d :: ds, kd, .cons h1 r, h => by
    unfold pairsD at h
    split at h
    · rename_i p ps e1 e2
      cases h
      obtain ⟨as, kvs, rfl, hp, hr⟩ := pairs_rep o r e2
      unfold pairD at e1
      split at e1
      · rename_i k w
        cases ek : keyOf k with
        | none => rw [ek] at e1; cases e1
        | some j =>
          rw [ek] at e1; cases e1
          cases h1 with
          | @tup a ws _ h rr =>
            cases rr with
            | cons r1 rr =>
              cases rr with
              | cons r2 rr =>
                cases rr
                have := keyOf_rep r1 ek
                subst this
                exact ⟨a :: as, (j, _) :: kvs, rfl, .cons (tq o h) hp, .cons r2 hr⟩
      · cases e1
    · cases h
end
section
variable {X : Cx} {E : XK} {m : Bool}
theorem cl_dictP (hc : X.calm = true := by rfl) : CallD X E (.type "dict") m kDictP := CallR.imp (call_dictP hc) fun xs H Q ⟨A, S, g, ds, o, r, q⟩ => by
  unfold kDictP at q
  split at q
  · rename_i es
    obtain ⟨kd, e2, q⟩ := opt_ok q
    cases ep : pairsD es with
    | none => rw [ep] at e2; cases e2
    | some md =>
      rw [ep] at e2; cases e2
      obtain ⟨v, rfl, h⟩ := rep1 r
      cases h with
      | @lst a ws _ h rr =>
        obtain ⟨ps, kvs, rfl, hp, hr⟩ := pairs_rep o.ext rr ep
        have hm : RepK X.K A S (mergeK [] kvs) (mergeP [] md) := RepK.merge hr .nil
        refine ⟨a, ps, kvs, rfl, .inl (.inl (o.ext _ _ h)), hp, fun p hp => KE.newO q o hp ⟨_, upd_same, hm⟩ (.dK upd_same (hm.mono (List.prefix_refl _) fun b x e => ?_))⟩
        rw [upd_ne (ne_of_none e (Same.free o.ext hp))]; exact e
  · exact q.elim
end
end NS
namespace PySem
open Sem (wp)
def nszRefs (base i : Nat) : Array Value := ((List.range i).map fun j => Value.ref (base + j)).toArray
theorem nszRefs_succ (base i : Nat) : nszRefs base (i + 1) = (nszRefs base i).push (.ref (base + i)) := by
  unfold nszRefs; rw [List.range_succ, List.map_append]; simp
structure NszSt (h0 : Heap) (S z TI i1 i2 l1 l2 base : Addr) (xs ys : Array Value) (h : Heap) (i : Nat) : Prop where
  pTI : IsPair h TI (.ref i1) (.ref i2)
  a1 : h.IsListIter i1 l1 i
  a2 : h.IsListIter i2 l2 i
  b1 : h.IsList l1 xs
  b2 : h.IsList l2 ys
  sS : ∃ c, h.get? S = some { cls := .type "list", dict := none, data := .seq (nszRefs base i) c, slots := #[] }
  sz : h.objs.size = base + i
  prs : ∀ (j : Nat) x y, j < i → xs[j]? = some x → ys[j]? = some y → IsPair h (base + j) x y
  kp : ∀ b o, h0.get? b = some o → h.get? b = some o
structure NszEnd (h0 : Heap) (S base : Addr) (xs ys : Array Value) (h : Heap) : Prop where
  sS : ∃ c, h.get? S = some { cls := .type "list", dict := none, data := .seq (nszRefs base xs.size) c, slots := #[] }
  prs : ∀ (j : Nat) x y, xs[j]? = some x → ys[j]? = some y → IsPair h (base + j) x y
  kp : ∀ b o, h0.get? b = some o → h.get? b = some o
structure NszOk (h0 : Heap) (S z TI TO i1 i2 l1 l2 base : Addr) : Prop where
  D : ZipApart z TI TO i1 i2 l1 l2
  Sz : S ≠ z
  S1 : S ≠ i1
  S2 : S ≠ i2
  STI : S ≠ TI
  STO : S ≠ TO
  Sl1 : S ≠ l1
  Sl2 : S ≠ l2
  n0 : ∀ c ∈ [S, z, i1, i2, TO], h0.objs.size ≤ c
  lt : ∀ c ∈ [S, z, i1, i2, TI, TO, l1, l2], c < base
section
variable {h0 h h' : Heap} {S z TI TO i1 i2 l1 l2 base : Addr} {xs ys : Array Value} {i : Nat} {x y : Value}
theorem NszSt.next (K : NszOk h0 S z TI TO i1 i2 l1 l2 base) (st : NszSt h0 S z TI i1 i2 l1 l2 base xs ys h i) (hx : xs[i]? = some x) (hy : ys[i]? = some y)
    (c1 : h'.IsListIter i1 l1 (i + 1)) (c2 : h'.IsListIter i2 l2 (i + 1)) (pr : IsPair h' h.objs.size x y) (sz' : h'.objs.size = h.objs.size + 1)
    (kp : ∀ c o, c ≠ z → c ≠ TO → c ≠ i1 → c ≠ i2 → h.get? c = some o → h'.get? c = some o) :
    NszSt h0 S z TI i1 i2 l1 l2 base xs ys (h'.update S (Obj.mapSeq (·.push (.ref h.objs.size)))) (i + 1) := by
  have D := K.D
  have up : ∀ c o, S ≠ c → h'.get? c = some o → (h'.update S (Obj.mapSeq (·.push (.ref h.objs.size)))).get? c = some o := fun c o hc e => (Heap.get?_update_other _ _ hc).trans e
  have pl : ∀ j, base + j ≠ z ∧ base + j ≠ TO ∧ base + j ≠ i1 ∧ base + j ≠ i2 ∧ S ≠ base + j := fun j => by
    have q1 := K.lt z (by simp); have q2 := K.lt TO (by simp); have q3 := K.lt i1 (by simp); have q4 := K.lt i2 (by simp); have q5 := K.lt S (by simp)
    exact ⟨Nat.ne_of_gt (Nat.lt_of_lt_of_le q1 (Nat.le_add_right _ _)), Nat.ne_of_gt (Nat.lt_of_lt_of_le q2 (Nat.le_add_right _ _)), Nat.ne_of_gt (Nat.lt_of_lt_of_le q3 (Nat.le_add_right _ _)), Nat.ne_of_gt (Nat.lt_of_lt_of_le q4 (Nat.le_add_right _ _)), Nat.ne_of_lt (Nat.lt_of_lt_of_le q5 (Nat.le_add_right _ _))⟩
  refine ⟨up _ _ K.STI (kp _ _ D.TIz D.TITO D.TIi1 D.TIi2 st.pTI), ?_, ?_, ?_, ?_, ?_, ?_, ?_, ?_⟩
  · obtain ⟨o, e, r⟩ := c1; exact ⟨o, up _ _ K.S1 e, r⟩
  · obtain ⟨o, e, r⟩ := c2; exact ⟨o, up _ _ K.S2 e, r⟩
  · obtain ⟨o, e, r⟩ := st.b1; exact ⟨o, up _ _ K.Sl1 (kp _ _ D.l1z D.l1TO D.l1i1 D.l1i2 e), r⟩
  · obtain ⟨o, e, r⟩ := st.b2; exact ⟨o, up _ _ K.Sl2 (kp _ _ D.l2z D.l2TO D.l2i1 D.l2i2 e), r⟩
  · obtain ⟨c, e⟩ := st.sS
    have e2 := kp _ _ K.Sz K.STO K.S1 K.S2 e
    have e3 := Heap.get?_update_self (Obj.mapSeq (·.push (.ref h.objs.size))) e2 rfl
    rw [nszRefs_succ, ← st.sz]
    exact ⟨_, e3⟩
  · rw [Heap.size_update, sz', st.sz]; rfl
  · intro j x' y' hj hx' hy'
    by_cases e : j = i
    · subst e
      rw [hx] at hx'; rw [hy] at hy'
      cases hx'; cases hy'
      rw [st.sz] at pr
      exact up _ _ (pl j).2.2.2.2 pr
    · have := st.prs j x' y' (by omega) hx' hy'
      obtain ⟨p1, p2, p3, p4, p5⟩ := pl j
      exact up _ _ p5 (kp _ _ p1 p2 p3 p4 this)
  · intro b o e
    have hb := Heap.lt_size e
    have nb : ∀ c ∈ [S, z, i1, i2, TO], b ≠ c := fun c hc z => by
      have := K.n0 c hc
      rw [← z] at this
      exact absurd hb (Nat.not_lt_of_le this)
    exact up _ _ (Ne.symm (nb S (by simp))) (kp _ _ (nb z (by simp)) (nb TO (by simp)) (nb i1 (by simp)) (nb i2 (by simp)) (st.kp b o e))
theorem NszSt.fin (K : NszOk h0 S z TI TO i1 i2 l1 l2 base) (st : NszSt h0 S z TI i1 i2 l1 l2 base xs ys h xs.size) (kp : ∀ c o, c ≠ z → c ≠ TO → c ≠ i1 → c ≠ i2 → h.get? c = some o → h'.get? c = some o) : NszEnd h0 S base xs ys h' := by
  have pl : ∀ j, base + j ≠ z ∧ base + j ≠ TO ∧ base + j ≠ i1 ∧ base + j ≠ i2 := fun j => by
    have q1 := K.lt z (by simp); have q2 := K.lt TO (by simp); have q3 := K.lt i1 (by simp); have q4 := K.lt i2 (by simp)
    exact ⟨Nat.ne_of_gt (Nat.lt_of_lt_of_le q1 (Nat.le_add_right _ _)), Nat.ne_of_gt (Nat.lt_of_lt_of_le q2 (Nat.le_add_right _ _)), Nat.ne_of_gt (Nat.lt_of_lt_of_le q3 (Nat.le_add_right _ _)), Nat.ne_of_gt (Nat.lt_of_lt_of_le q4 (Nat.le_add_right _ _))⟩
  refine ⟨?_, fun j x y hx hy => ?_, fun b o e => ?_⟩
  · obtain ⟨c, e⟩ := st.sS
    exact ⟨c, kp _ _ K.Sz K.STO K.S1 K.S2 e⟩
  · obtain ⟨p1, p2, p3, p4⟩ := pl j
    exact kp _ _ p1 p2 p3 p4 (st.prs j x y (Array.getElem?_eq_some_iff.mp hx).1 hx hy)
  · have hb := Heap.lt_size e
    have nb : ∀ c ∈ [S, z, i1, i2, TO], b ≠ c := fun c hc z => by
      have := K.n0 c hc
      rw [← z] at this
      exact absurd hb (Nat.not_lt_of_le this)
    exact kp _ _ (nb z (by simp)) (nb TO (by simp)) (nb i1 (by simp)) (nb i2 (by simp)) (st.kp b o e)
variable {prog : Program} {w : World} {A : Around} {s : Shared} {R : Result → Shared → Prop}
end
end PySem
namespace PySem
section
variable {prog : Program} {w : World} {A : Around} {s : Shared} {R : Result → Shared → Prop}
variable {h0 : Heap} {S z TI TO i1 i2 l1 l2 base : Addr} {xs ys : Array Value}
structure NszIn (h0 : Heap) (S z TI TO i1 i2 l1 l2 base : Addr) (xs ys : Array Value) (h : Heap) : Prop where
  hz : IsZip h z TI TO .none
  pTI : IsPair h TI (.ref i1) (.ref i2)
  pTO : ∃ a b, IsPair h TO a b
  a1 : h.IsListIter i1 l1 0
  a2 : h.IsListIter i2 l2 0
  b1 : h.IsList l1 xs
  b2 : h.IsList l2 ys
  kp : ∀ b o, h0.get? b = some o → h.get? b = some o
theorem NszIn.to {h h' : Heap} (K : NszOk h0 S z TI TO i1 i2 l1 l2 base) (q : NszIn h0 S z TI TO i1 i2 l1 l2 base xs ys h) (k : ∀ b o, b ≠ S → h.get? b = some o → h'.get? b = some o) : NszIn h0 S z TI TO i1 i2 l1 l2 base xs ys h' := by
  refine ⟨k _ _ (Ne.symm K.Sz) q.hz, k _ _ (Ne.symm K.STI) q.pTI, ?_, ?_, ?_, ?_, ?_, fun b o e => ?_⟩
  · obtain ⟨a, b, e⟩ := q.pTO; exact ⟨a, b, k _ _ (Ne.symm K.STO) e⟩
  · obtain ⟨o, e, r⟩ := q.a1; exact ⟨o, k _ _ (Ne.symm K.S1) e, r⟩
  · obtain ⟨o, e, r⟩ := q.a2; exact ⟨o, k _ _ (Ne.symm K.S2) e, r⟩
  · obtain ⟨o, e, r⟩ := q.b1; exact ⟨o, k _ _ (Ne.symm K.Sl1) e, r⟩
  · obtain ⟨o, e, r⟩ := q.b2; exact ⟨o, k _ _ (Ne.symm K.Sl2) e, r⟩
  · exact k b o (fun z => absurd (Heap.lt_size e) (Nat.not_lt_of_le (z ▸ K.n0 S (by simp)))) (q.kp b o e)
theorem NszIn.st {h : Heap} (q : NszIn h0 S z TI TO i1 i2 l1 l2 base xs ys h) (hb : h.objs.size = base) (hS : ∃ c, h.get? S = some { cls := .type "list", dict := none, data := .seq #[] c, slots := #[] }) : NszSt h0 S z TI i1 i2 l1 l2 base xs ys h 0 :=
  ⟨q.pTI, q.a1, q.a2, q.b1, q.b2, hS, hb, fun j _ _ hj => absurd hj (Nat.not_lt_zero j), q.kp⟩
end
section
variable {prog : Program} {w : World} {A : Around} {E : Value → Shared → Prop} {s : Shared} {Q : Value → Shared → Prop}
variable {h0 : Heap} {S z TI TO i1 i2 l1 l2 base : Addr} {xs ys : Array Value}
end
end PySem
namespace L2
open PySem PySem.Spec PyProof.Rows
section
variable {X : Cx} {a b : Expr} {ta : TA} {p p2 pos pos2 : Pos}
end
end L2
namespace NS
open PySem PySem.Spec PyProof.Rows L2
section
variable {K : PySem.W.Frag} {A : List GAdr} {g : G}
end
section
variable {X : Cx} {E : XK} {m : Bool} {a b : Expr} {pos1 pos2 p1 p2 : Pos} {fl : DS → M (List D)}
end
end NS
namespace L2
open PySem PySem.Spec PyProof.Rows
section
variable {X : Cx} {es : List Expr} {t : TA} {pos : Pos}
variable {o e : Expr} {to : TE} {name : Str} {apos cpos : Pos} {id : String} {r : V → List V → Hp → VK → Prop}
end
end L2
namespace NS
open PySem PySem.Spec PyProof.Rows L2
section
variable {X : Cx} {E : XK} {es : List Expr} {fl : DS → M (List D)} {pos : Pos} {m : Bool}
variable {apos cpos : Pos} {o e : Expr} {fo : DS → M D} {name : Str} {id : String} {k : D → List D → M D}
end
end NS
namespace HT
open PySem PySem.Spec PyProof.Rows
section
variable {prog : Program} {w : World} {A : Around} {E : Value → Shared → Prop} {s : Shared}
theorem ns_adjust (n : Nat) : Builtin.Slice.sliceAdjust none none (-1) (n : Int) = ((n : Int) - 1, -1) := by
  unfold Builtin.Slice.sliceAdjust
  rfl
theorem ns_places (n : Nat) : Builtin.Slice.slicePlaces ((n : Int) - 1) (-1) (-1) = n := by
  unfold Builtin.Slice.slicePlaces
  have h1 : ¬ ((-1 : Int) > 0) := by omega
  simp only [h1, if_false]
  have h2 : -(-1 : Int) = 1 := rfl
  simp only [h2, Int.ediv_one]
  split <;> omega
theorem ns_fm {α β : Type} {f g : α → Option β} : ∀ {l : List α}, (∀ k ∈ l, f k = g k) → l.filterMap f = l.filterMap g
  | [], _ => rfl
  | a :: l, h => by
    rw [List.filterMap_cons, List.filterMap_cons, h a List.mem_cons_self, ns_fm fun k hk => h k (List.mem_cons_of_mem _ hk)]
theorem ns_pick (xs : Array Value) : ((List.range xs.size).filterMap fun (k : Nat) => xs[((xs.size : Int) - 1 + (k : Int) * -1).toNat]?).toArray = xs.toList.reverse.toArray := by
  have e : (List.range xs.size).filterMap (fun (k : Nat) => xs[((xs.size : Int) - 1 + (k : Int) * -1).toNat]?) = ((List.range xs.size).map fun k => xs.size - 1 - k).filterMap (xs[·]?) := by
    rw [List.filterMap_map]
    apply ns_fm
    intro k hk
    have hk := List.mem_range.mp hk
    show _ = xs[xs.size - 1 - k]?
    have : ((xs.size : Int) - 1 + (k : Int) * -1).toNat = xs.size - 1 - k := by omega
    rw [this]
  rw [e, PySem.W.krv_range, List.filterMap_reverse, PySem.W.krv_all]
theorem ns_revT {t sl : Addr} {items : Array Value} {vl vu vs : Value} {Q : Value → Shared → Prop} (ht : IsTup s.heap t items) (hs : s.heap.IsSliceOf sl vl vu vs) (pl : IsPart vl none) (pu : IsPart vu none) (ps : IsPart vs (some (-1)))
    (h : Q (.ref s.heap.objs.size) { s with heap := s.heap.push { cls := .type "tuple", data := .seq items.toList.reverse.toArray } }) (hsz : items.size ≤ sizeLine) : wpAny (model prog w) A (getItem (.ref t) (.ref sl)) Q E s := by
  have htake : sizeOk (.seq items.toList.reverse.toArray) := by
    show items.toList.reverse.toArray.size ≤ sizeLine
    rw [List.size_toArray, List.length_reverse, Array.length_toList]
    exact hsz
  obtain ⟨os, hos, hcs, hds⟩ := id hs
  have hTs : s.TypeIs (.ref sl) "slice" := ⟨os, hos, hcs⟩
  unfold getItem
  try with_reducible refine wpAny_holding ?_
  first | refine wpAny_bind (wpAny_pure ?_) | skip
  refine wpAny_bind (wpAny_sequenceKey ht.typeIs (by decide) ?_)
  refine wpAny_bind (wpAny_callSpecial?_slot (name := Str.ofString "__getitem__") ht.typeIs PyProof.Rows.slot_tuple_getitem
    (wpAny_call_entry PyProof.Rows.slot_tuple_getitem ht.typeIs entry_tuple_getitem ?_ (args_tuple_getitem _ _)))
  show wpAny _ _ (Builtin.Tuple.tupleItemsOf (.ref t) >>= _) _ _ s
  refine wpAny_bind (tupleItemsOf_ ht ?_)
  refine wpAny_bind (wpAny_typeOf hTs ?_)
  rw [if_pos (by decide)]
  refine wpAny_bind (m := Builtin.Slice.sliceApplied (.ref sl) (pure (items.size : Int))) ?_
  unfold Builtin.Slice.sliceApplied Builtin.Slice.sliceFields
  refine wpAny_bind (wpAny_bind (wpAny_field hos hds (x := vl) rfl (wpAny_bind (wpAny_field hos hds (x := vu) rfl (wpAny_bind (wpAny_field hos hds (x := vs) rfl (wpAny_pure ?_)))))))
  refine wpAny_bind (slicePart_ ps ?_)
  show wpAny _ _ (if ((-1 : Int) == 0) = true then _ else _) _ _ s
  rw [if_neg (by decide)]
  refine wpAny_bind (slicePart_ pl (wpAny_bind (slicePart_ pu (wpAny_bind (wpAny_pure ?_)))))
  show wpAny _ _ (match Builtin.Slice.sliceAdjust none none (-1) (items.size : Int) with | (lo, hi) => pure (lo, (-1 : Int), Builtin.Slice.slicePlaces lo hi (-1))) _ _ s
  rw [ns_adjust]
  show wpAny _ _ (pure ((items.size : Int) - 1, (-1 : Int), Builtin.Slice.slicePlaces ((items.size : Int) - 1) (-1) (-1))) _ _ s
  rw [ns_places]
  refine wpAny_pure ?_
  have hno : ¬ ((((items.size : Int) - 1) == 0 && (-1 : Int) == 1 && items.size == items.size) = true) := by
    intro q
    rw [Bool.and_eq_true, Bool.and_eq_true] at q
    exact absurd q.1.2 (by decide)
  show wpAny _ _ (if (((items.size : Int) - 1) == 0 && (-1 : Int) == 1 && items.size == items.size) = true then _ else _) _ _ s
  rw [if_neg hno, ns_pick]
  first
    | exact wpAny_bind (m := Builtin.Tuple.tupleExact _) (wpAny_newObj_type (wpAny_pure ⟨_, rfl, wpAny_pure h⟩) htake)
    | exact wpAny_bind (m := Builtin.Tuple.tupleExact _) (wpAny_newObj_type (wpAny_bind (wpAny_pure (wpAny_pure ⟨_, rfl, wpAny_pure h⟩))) htake)
    | exact wpAny_bind (wpAny_bind (m := Builtin.Tuple.tupleExact _) (wpAny_newObj_type (wpAny_pure (wpAny_pure ⟨_, rfl, wpAny_pure h⟩)) htake))
    | exact wpAny_bind (wpAny_bind (m := Builtin.Tuple.tupleExact _) (wpAny_newObj_type (wpAny_pure ⟨_, rfl, wpAny_pure h⟩) htake))
end
end HT
namespace L2
open PySem PySem.Spec PyProof.Rows
open Sem (wp)
section
variable {prog : Program} {w : World} {K : Type} [DecidableEq K] {knd : HeapKind prog w K} {A : Around} {E : Value → Shared → Prop} {s : Shared}
end
section
variable {X : Cx} {pos : Pos} {ek ev : Expr} {tk tv : TE}
def tLockP (t : TS) : TS := fun D σ H => t D σ H ∨ ∃ d u, H d = some u ∧ Mut (some u) ∧ ∀ od, t D σ (upd H d (.frz od u))
theorem ps_lockP {st : Stmt} {t : TS} (h : PS X st t) : PS X st (tLockP t) := by
  refine ⟨fun pins s σ H D I hw => ?_⟩
  rcases hw with hw | ⟨d, u, hd, mu, hw⟩
  · exact h.run pins s σ H D I hw
  · obtain ⟨od, I1⟩ := I.lock hd mu
    exact h.run pins s σ _ D I1 (hw od)
end
end L2
namespace NS
open PySem PySem.Spec PyProof.Rows L2
section
variable {X : Cx} {E : XK} {m : Bool} {e0 : En} {pos : Pos} {tg e : Expr} {fe : DS → M D}
def kDisp1 (x d : D) : M D := match x with
  | .tup ks => (match keysOf ks with
    | some k => M.pure (.dT [(k, d)])
    | none => M.bad)
  | _ => M.bad
def dGet2 (x y z : D) : Option D := match x, y with
  | .dT kvs, .tup ks => (keysOf ks).map fun k => (valD kvs k).getD z
  | .fT kvs, .tup ks => (keysOf ks).map fun k => (valD kvs k).getD z
  | _, _ => none
def isT2 : D → Bool
  | .dT _ => true
  | .fT _ => true
  | _ => false
def eGet2 (fo fk fd : DS → M D) : DS → M D := fun σ => M.bind (fo σ) fun x => if isT2 x = true then M.bind (fk σ) fun y => M.bind (fd σ) fun z => M.opt (dGet2 x y z) else M.bad
variable {eo ek ed : Expr} {fo fk fd : DS → M D} {apos cpos : Pos}
def keyD : Key → D
  | .inl i => .int i
  | .inr x => .str x
theorem keyD_rep {K : PySem.W.Frag} {A : List GAdr} {S : Hp} : ∀ k : Key, Rep K A S (kV k) (keyD k)
  | .inl i => .int i
  | .inr x => .str x
theorem keysD_rep {K : PySem.W.Frag} {A : List GAdr} {S : Hp} : ∀ ks : List Key, RepL K A S (ks.map kV) (ks.map keyD)
  | [] => .nil
  | k :: ks => .cons (keyD_rep k) (keysD_rep ks)
theorem RepT.at_ {K : PySem.W.Frag} {A : List GAdr} {S : Hp} : ∀ {vs : List (List Key × V)} {ds : List (List Key × D)} {i : Nat} {k : List Key} {v : V}, RepT K A S vs ds → vs[i]? = some (k, v) → ∃ d, ds[i]? = some (k, d)
  | _, _, _, _, _, .nil, e => by simp at e
  | _, _, 0, _, _, .cons h r, e => by simp at e; obtain ⟨rfl, rfl⟩ := e; exact ⟨_, rfl⟩
  | _, _, i + 1, _, _, .cons h r, e => by
    obtain ⟨d, e1⟩ := RepT.at_ (i := i) r (by simpa using e)
    exact ⟨d, by simpa using e1⟩
def keysT (kvs : List (List Key × D)) : List D := kvs.map fun kv => .tup (kv.1.map keyD)
def kKeys : D → M (List D)
  | .fT kvs => M.pure (keysT kvs)
  | _ => M.bad
def iKeysF (f : DS → M D) : DS → M (List D) := fun σ => M.bind (f σ) kKeys
theorem dit_keysT {K : PySem.W.Frag} {A : List GAdr} {S : Hp} {d : Addr} {ob : Obj} {xs : List (List Key × V)} {ds : List (List Key × D)} (h : S d = some (.frz ob (.dT xs))) (r : RepT K A S xs ds) : DIt K A S (Itkt d ob xs) (keysT ds) := by
  have w := walk_keysT (d := d) (o := ob) (kvs := xs)
  have hl : (keysT ds).length = xs.length := by simp [keysT, r.len]
  refine ⟨fun i H hi e => w.goes i H (by rw [← hl]; exact hi) (e _ _ h), fun i H hi e => ⟨e _ _ h, by rw [← hl]; exact hi⟩, fun i H x H' hi e y => ?_⟩
  obtain ⟨e1, k, v, q, e2, rfl, e3⟩ := w.yields i H x H' (by rw [← hl]; exact hi) (e _ _ h) y
  obtain ⟨d', e4⟩ := r.at_ e2
  refine ⟨.tup (k.map keyD), by simp [keysT, e4], .inr ⟨q, k.map kV, k.map keyD, rfl, rfl, .inr ⟨e1, e3⟩, keysD_rep k⟩⟩
theorem di_keysF (he : DE X E false e fe) : DI X E tg e (iKeysF fe) :=
  PI.impD (pi_keys he) fun σ H R ⟨A, S, g, σd, o, r, q⟩ => ⟨A, S, g, σd, o, r, (KI.bindE q).imp fun v H1 ⟨A1, S1, g1, d, p1, o1, r1, q1⟩ => by
    unfold kKeys at q1
    split at q1
    · cases r1 with
      | @fT p ob vs ds h rr => exact ⟨p, ob, rfl, .inr ⟨vs, o1.ext _ _ h, KI.now q1 o1 (dit_keysT h rr)⟩⟩
    · exact q1.elim⟩
def lk1 (i : Nat) (σ : DS) : DS := match σ[i]? with
  | some (some (.ow (.dT kvs))) => σ.set i (some (.sh (.fT kvs)))
  | _ => σ
def sLk (i : Nat) (f : DS → M Fl) : DS → M Fl := fun σ => f (lk1 i σ)
theorem Stt.lk {K : PySem.W.Frag} {A : List GAdr} {S H : Hp} {g : G} {σd : DS} {σ : L2.St} (s : Stt K e0 A S g σd σ H) (i : Nat) : lk1 i σd = σd ∨ ∃ p xs, H p = some (.dT xs) ∧ ∀ od, ∃ S', Same S S' ∧ Stt K e0 A S' g (lk1 i σd) σ (upd H p (.frz od (.dT xs))) := by
  unfold lk1
  match e : σd[i]? with
  | some (some (.ow (.dT kvs))) =>
    obtain ⟨p, e1, h1, h2, xs, hx, rr⟩ := s.rep.ow e
    refine .inr ⟨p, xs, hx, fun od => ⟨upd S p (.frz od (.dT xs)), fun b x z => by rw [upd_ne (ne_of_none z h1)]; exact z, ?_⟩⟩
    have sm : Same S (upd S p (.frz od (.dT xs))) := fun b x z => by rw [upd_ne (ne_of_none z h1)]; exact z
    have hn := s.own i _ p e e1
    refine ⟨⟨fun b x z => ?_, s.ok.len, fun k ga c g1 g2 => (s.ok.cel k ga c g1 g2).mono (List.prefix_refl _) sm fun x hx' => ?_, s.ok.nd, fun x hx' => ?_⟩, ⟨by simp [s.rep.len], fun j x e' => ?_, fun a b d1 d2 q ne ea eb sa sb => ?_⟩,
      ⟨s.post.a, s.post.s.trans sm, fun x o z => ?_, fun x o z n => ?_, fun x o z => ?_, s.post.anew⟩, fun j d q z1 z2 => ?_⟩
    · by_cases q : b = p
      · subst q; rw [upd_same] at z ⊢; exact z
      · rw [upd_ne q] at z ⊢; exact s.ok.ext _ _ z
    · exact upd_ne fun (z : x = p) => h2 (by rw [← z]; exact List.mem_flatMap.mpr ⟨ga, List.mem_of_getElem? g1, hx'⟩)
    · rw [upd_ne fun (z : x = p) => h2 (by rw [← z]; exact hx')]; exact s.ok.out x hx'
    · rcases set_get e' with ⟨rfl, z, hl⟩ | ⟨ne, e'⟩
      · cases z
        exact ⟨_, e1, .fT upd_same (rr.mono (List.prefix_refl _) sm)⟩
      · obtain ⟨w, w1, w2⟩ := s.rep.at_ j x e'
        refine ⟨w, w1, ?_⟩
        cases w with
        | none => cases x <;> exact w2.elim
        | some w =>
          cases x with
          | sh d2 => exact Rep.mono (List.prefix_refl _) sm w2
          | ow d2 =>
            cases w with
            | ref q =>
              obtain ⟨q1, q2, q3⟩ := w2
              have nq : q ≠ p := fun z => by subst z; exact s.rep.sep i j _ d2 q ne e e' e1 w1
              exact ⟨by rw [upd_ne nq]; exact q1, q2, q3.mono (List.prefix_refl _) sm (upd_ne nq)⟩
            | _ => exact w2.elim
    · rcases set_get ea with ⟨rfl, z, hl⟩ | ⟨na, ea⟩
      · cases z
      · rcases set_get eb with ⟨rfl, z, hl⟩ | ⟨nb, eb⟩
        · cases z
        · exact s.rep.sep a b d1 d2 q ne ea eb sa sb
    · by_cases h : x = p
      · subst h; exact .inr (.inl hn)
      · rw [upd_ne h] at z; exact s.post.snew x o z
    · rw [upd_ne (ne_of_none z hn)]; exact s.post.keep x o z n
    · rw [upd_ne (ne_of_none z hn)]; exact s.post.dom x o z
    · rcases set_get z1 with ⟨rfl, z, _⟩ | ⟨ne, z1⟩
      · cases z
      · exact s.own j d q z1 z2
  | some (some (.ow (.lst _))) | some (some (.ow (.dK _))) | some (some (.ow .non)) | some (some (.ow (.bl _))) | some (some (.ow (.int _))) | some (some (.ow (.str _))) | some (some (.ow (.tup _))) | some (some (.ow (.hdl _))) | some (some (.ow (.slst _))) | some (some (.ow (.ftup _))) | some (some (.ow (.fT _))) | some (some (.ow (.exc0 _))) | some (some (.ow (.exc1 _ _ _))) => exact .inl rfl
  | some (some (.sh d)) => exact .inl rfl
  | some none => exact .inl rfl
  | none => exact .inl rfl
variable {st : Stmt} {f : DS → M Fl}
theorem ds_lk (i : Nat) (h : DS1 X E m e0 st f) : DS1 X E m e0 st (sLk i f) := PS.impD (ps_lockP h) fun Z σ H ⟨A, S, g, σd, s, q⟩ => by
  rcases s.lk i with e | ⟨p, xs, hp, h2⟩
  · unfold sLk at q
    rw [e] at q
    exact .inl ⟨A, S, g, σd, s, q⟩
  · refine .inr ⟨p, _, hp, True.intro, fun od => ?_⟩
    obtain ⟨S', sm, s'⟩ := h2 od
    exact ⟨A, S', g, lk1 i σd, s', KS.floor (List.prefix_refl _) sm q⟩
end
end NS
namespace NS
open PySem PySem.Spec PyProof.Rows L2
def tupH (S : Hp) : Hp := fun x => match S x with
  | some (.tup xs) => some (.tup xs)
  | some (.frz o (.tup xs)) => some (.frz o (.tup xs))
  | some (.ext φ) => some (.ext φ)
  | _ => none
section
variable {K : PySem.W.Frag} {A : List GAdr} {S H : Hp}
theorem tupH_tup {a : Addr} {xs : List V} (h : S a = some (.tup xs)) : tupH S a = some (.tup xs) := by unfold tupH; rw [h]
theorem tupH_frz {a : Addr} {o : Obj} {xs : List V} (h : S a = some (.frz o (.tup xs))) : tupH S a = some (.frz o (.tup xs)) := by unfold tupH; rw [h]
theorem tupH_some {x : Addr} {u : HO} (h : tupH S x = some u) : S x = some u ∧ ((∃ xs, u = .tup xs) ∨ (∃ o xs, u = .frz o (.tup xs)) ∨ ∃ φ, u = .ext φ) := by
  unfold tupH at h
  split at h
  · rename_i xs e; cases h; exact ⟨e, .inl ⟨_, rfl⟩⟩
  · rename_i o xs e; cases h; exact ⟨e, .inr (.inl ⟨_, _, rfl⟩)⟩
  · rename_i φ e; cases h; exact ⟨e, .inr (.inr ⟨_, rfl⟩)⟩
  · cases h
theorem tupH_same : Same (tupH S) S := fun x u h => (tupH_some h).1
mutual
theorem Rep.res : ∀ {v : V} {d : D}, Rep K A S v d → D.pur d = true → Rep K A (tupH S) v d
  | _, _, .non, _ => .non
  | _, _, .bl b, _ => .bl b
  | _, _, .int i, _ => .int i
  | _, _, .str x, _ => .str x
  | _, _, .hdl h, _ => .hdl h
  | _, _, .tup h r, q => .tup (tupH_tup h) (RepL.res r q)
  | _, _, .ftup h r, q => .ftup (by obtain ⟨o, h, d⟩ := h; exact ⟨o, tupH_frz h, d⟩) (RepL.res r q)
  | _, _, .lst _ _, q => nomatch q
  | _, _, .slst _ _, q => nomatch q
  | _, _, .dT _ _, q => nomatch q
  | _, _, .dK _ _, q => nomatch q
  | _, _, .fT _ _, q => nomatch q
  | _, _, .exc0 _ _, q => nomatch q
  | _, _, .exc1 _ _ _ _, q => nomatch q
theorem RepL.res : ∀ {vs : List V} {ds : List D}, RepL K A S vs ds → D.purs ds = true → RepL K A (tupH S) vs ds
  | _, _, .nil, _ => .nil
  | _, _, .cons h r, q => .cons (Rep.res h (Bool.and_eq_true_iff.mp q).1) (RepL.res r (Bool.and_eq_true_iff.mp q).2)
end
theorem CellOk.res {ga : GAdr} {c : GCell} (h : CellOk K A S H ga c) (q : GCell.pur c = true) : CellOk K A (tupH S) H ga c := by
  cases ga <;> cases c <;> first
    | exact h.elim
    | exact h
    | (obtain ⟨h1, ps, h2, h3, h4⟩ := h
       refine ⟨h1, ps, h2, h3, fun pos cv z => ?_⟩
       obtain ⟨c, e1, e2⟩ := h4 pos cv z
       exact ⟨c, e1, by unfold tupH; rw [e2]; rfl⟩)
    | (obtain ⟨h0, h1, h2, ⟨vs, h3, h4⟩, ws, h5, h6⟩ := h
       have q' := Bool.and_eq_true_iff.mp q
       exact ⟨h0, h1, h2, ⟨vs, h3, h4.res q'.1⟩, ws, h5, h6.res q'.2⟩)
theorem Ok.res {g : G} (o : Ok K A S H g) (q : Gpur g = true) : Ok K A (tupH S) H g where
  ext := fun x u h => o.ext _ _ (tupH_same _ _ h)
  len := o.len
  cel := fun k ga c e1 e2 => (o.cel k ga c e1 e2).res (List.all_eq_true.mp q c (List.mem_of_getElem? e2))
  nd := o.nd
  out := fun x hx => by
    cases e : tupH S x with
    | none => rfl
    | some u => have := (tupH_some e).1; rw [o.out x hx] at this; cases this
end
def pur1 : Option DV → Option DV
  | some (.sh d) => if D.pur d = true then some (.sh d) else none
  | _ => none
def purS (σ : DS) : DS := σ.map pur1
theorem SRep.res {K : PySem.W.Frag} {A : List GAdr} {S H : Hp} {σ : L2.St} {σd : DS} (r : SRep K A S H σ σd) : SRep K A (tupH S) H σ (purS σd) := by
  have get : ∀ (i : Nat) (x : DV), (purS σd)[i]? = some (some x) → ∃ d, x = .sh d ∧ D.pur d = true ∧ σd[i]? = some (some (.sh d)) := fun i x e => by
    unfold purS at e
    rw [List.getElem?_map] at e
    obtain ⟨y, e1, e2⟩ := Option.map_eq_some_iff.mp e
    unfold pur1 at e2
    split at e2
    · rename_i d
      by_cases h : D.pur d = true
      · rw [if_pos h] at e2; cases e2; exact ⟨d, rfl, h, e1⟩
      · rw [if_neg h] at e2; cases e2
    · cases e2
  refine ⟨by simp [purS, r.len], fun i x e => ?_, fun i j d e p ne ei ej si sj => ?_⟩
  · obtain ⟨d, rfl, hd, e1⟩ := get i x e
    obtain ⟨v, e2, rv⟩ := r.sh e1
    exact ⟨some v, e2, Rep.res rv hd⟩
  · obtain ⟨d', z, _⟩ := get i _ ei
    cases z
section
variable {X : Cx} {E : XK} {e : Expr} {fe : DS → M D}
end
end NS
namespace L2
open PySem PySem.Spec PyProof.Rows
section
variable {X : Cx} {e : Expr} {t : TE}
end
end L2
namespace NS
open PySem PySem.Spec PyProof.Rows L2
section
variable {X : Cx} {E : XK} {m : Bool} {e0 : En} {pos px : Pos} {tg e ei a b : Expr} {fe fi fa fb : DS → M D}
def eIxO (j : Nat) (fi : DS → M D) : DS → M D := fun σ => match ownL σ[j]? with
  | some ds => M.bind (fi σ) fun i => match i with
    | .int i => M.opt (L2.atI ds i)
    | _ => M.bad
  | none => M.bad
theorem de_ixO (j : Nat) {x : Str} (hi : DE X E false ei fi) (hN : X.N[j]? = some x := by rfl) (hv : Vis X.env.scope x := by first | exact Or.inl rfl | exact Or.inr (Or.inl rfl) | exact Or.inr (Or.inr rfl)) (hd : (x == ("__debug__" : Str)) = false := by decide)
    (hcd : (x == ("__classdict__" : Str)) = false := by decide) (hs : PlainIx ei := by exact fun _ _ => rfl) : DE X E false (.Subscript (.Name x px) ei pos) (eIxO j fi) :=
  PE.impD (pe_ix ix_seq (pe_var hN hv hd hcd) hi hs) fun σ H Q ⟨A, S, g, σd, o, r, q⟩ => by
    unfold eIxO at q
    cases eo : ownL σd[j]? with
    | none => rw [eo] at q; exact q.elim
    | some ds =>
      rw [eo] at q
      have e1 : σd[j]? = some (some (.ow (.lst ds))) := by
        unfold ownL at eo
        split at eo
        · rename_i h; cases eo; exact h
        · cases eo
      obtain ⟨p, e2, h1, h2, vs, h3, h4⟩ := r.ow e1
      refine ⟨.ref p, e2, A, S, g, σd, o, r, (KE.bindE q).imp fun u H2 ⟨A2, S2, g2, d2, p2, o2, r2, q2⟩ => ?_⟩
      have hk := p2.keep p _ h3 h2
      cases r2 with
      | int i =>
        obtain ⟨d, e3, q2⟩ := opt_ok (o := L2.atI ds i) q2
        obtain ⟨v, e4, rv⟩ := h4.atI e3
        exact .inl ⟨p, vs, i, v, rfl, rfl, .inl (.inl hk), e4, KE.val q2 o2 (Rep.mono p2.a p2.s rv)⟩
      | _ => exact q2.elim
def dHas (x y : D) : Option D := match x, y with
  | .dT kvs, .tup ks => (keysOf ks).map fun k => .bl (valD kvs k).isSome
  | .fT kvs, .tup ks => (keysOf ks).map fun k => .bl (valD kvs k).isSome
  | _, _ => none
def eDIn (fa fb : DS → M D) : DS → M D := fun σ => M.bind (fa σ) fun y => M.bind (fb σ) fun x => M.opt (dHas x y)
theorem RepT.has {K : PySem.W.Frag} {A : List GAdr} {S : Hp} {vs : List (List Key × V)} {ds : List (List Key × D)} (r : RepT K A S vs ds) (k : List Key) : (valV vs k).isSome = (valD ds k).isSome := by
  cases e : valD ds k with
  | none => rw [r.no e]; rfl
  | some d => obtain ⟨v, h1, h2⟩ := r.val e; rw [h1]; rfl
theorem dHas_rd {K : PySem.W.Frag} {A : List GAdr} {S H : Hp} (o : Same S H) {x y : V} {dx dy d : D} (r1 : Rep K A S x dx) (r2 : Rep K A S y dy) (h : dHas dx dy = some d) : ∃ p v, x = .ref p ∧ DGet H p y v ∧ d = .bl v.isSome := by
  cases r1 with
  | @dT p vs ds h1 r1 =>
    cases r2 with
    | @tup q ws ks h2 r2 =>
      have h' : ((keysOf ks).map fun k => D.bl (valD ds k).isSome) = some d := h
      cases ek : keysOf ks with
      | none => rw [ek] at h'; cases h'
      | some k =>
        rw [ek] at h'; cases h'
        have ew := keysOf_rep r2 ek
        subst ew
        exact ⟨p, _, rfl, .inr ⟨vs, k, q, .inl (o _ _ h1), rfl, o _ _ h2, rfl⟩, by rw [r1.has]⟩
    | _ => cases h
  | @fT p ob vs ds h1 r1 =>
    cases r2 with
    | @tup q ws ks h2 r2 =>
      have h' : ((keysOf ks).map fun k => D.bl (valD ds k).isSome) = some d := h
      cases ek : keysOf ks with
      | none => rw [ek] at h'; cases h'
      | some k =>
        rw [ek] at h'; cases h'
        have ew := keysOf_rep r2 ek
        subst ew
        exact ⟨p, _, rfl, .inr ⟨vs, k, q, .inr ⟨ob, o _ _ h1⟩, rfl, o _ _ h2, rfl⟩, by rw [r1.has]⟩
    | _ => cases h
  | _ => cases r2 <;> cases h
theorem de_din (hu : X.A.units + 65 < cLine) (ha : DE X E false a fa) (hb : DE X E false b fb) (hm : behindInMarks .In b = false := by with_unfolding_all rfl) : DE X E false (.Compare a [.In] [b] pos) (eDIn fa fb) :=
  PE.impD (pe_cmp (pc_din (by omega) ha hb) hm) fun σ H Q ⟨A, S, g, σd, o, r, q⟩ => ⟨A, S, g, σd, o, r, (KE.bindE q).imp fun v H1 ⟨A1, S1, g1, d, p1, o1, r1, q1⟩ => by
    refine ⟨A1, S1, g1, σd, o1, r.post p1, (KE.bindE q1).imp fun u H2 ⟨A2, S2, g2, d2, p2, o2, r2, q2⟩ => ?_⟩
    obtain ⟨c, e2, q2⟩ := opt_ok q2
    obtain ⟨p', v', hx, hg, rfl⟩ := dHas_rd o2.ext r2 (Rep.mono p2.a p2.s r1) e2
    cases hx
    exact ⟨p', v', rfl, hg, KE.val q2 o2 (.bl _)⟩⟩
end
end NS
set_option maxHeartbeats 4000000
namespace L2
open PySem PySem.Spec PyProof.Rows
open Builtin Builtin.ObjectAttr
def refsT (tl : List Value) : List Value → Bool
  | .ref _ :: r => refsT tl r
  | l => l == tl
theorem refsT_cases {tl : List Value} : ∀ l : List Value, refsT tl l = true → (∃ c r, l = .ref c :: r ∧ refsT tl r = true) ∨ l = tl := by
  intro l e
  cases l with
  | nil => exact .inr (beq_iff_eq.mp e)
  | cons a r => cases a <;> first
    | exact .inl ⟨_, _, rfl, e⟩
    | exact .inr (beq_iff_eq.mp e)
structure XBse (B newId initId : String) (tl : List Value) : Prop where
  F : ExcBaseFacts B newId initId tl
  pass : ∀ self, refuseLoop self "__setattr__" tl = pure ()
  obj : tl.contains (.type "object") = true
  ne : tl ≠ []
  typ : typeOf (.type B) = pure (.type "type")
variable {B newId initId : String} {tl : List Value}
theorem refsT_ind (G : XBse B newId initId tl) (P : List Value → Prop) (h0 : P tl) (h1 : ∀ c r, P r → P (.ref c :: r)) : ∀ l : List Value, refsT tl l = true → P l := by
  intro l
  induction l with
  | nil =>
    intro e
    rcases refsT_cases [] e with ⟨c, r, q, _⟩ | q
    · cases q
    · rw [q]; exact h0
  | cons a r ih =>
    intro e
    rcases refsT_cases (a :: r) e with ⟨c, r', q, h⟩ | q
    · obtain ⟨rfl, rfl⟩ := List.cons.inj q
      exact h1 c r (ih h)
    · rw [q]; exact h0
theorem refsT_pass (G : XBse B newId initId tl) (self : Value) : ∀ l : List Value, refsT tl l = true → refuseLoop self "__setattr__" l = pure () :=
  refsT_ind G _ (G.pass self) fun c r h => by rw [refuseLoop_ref]; exact h
theorem refsT_contains (G : XBse B newId initId tl) (X : String) : ∀ l : List Value, refsT tl l = true → l.contains (.type X) = tl.contains (.type X) :=
  refsT_ind G _ rfl fun c r h => by rw [List.contains_cons, h]; rfl
theorem refsT_ne (G : XBse B newId initId tl) : ∀ l : List Value, refsT tl l = true → l.isEmpty = false :=
  refsT_ind G _ (by cases e : tl with
    | nil => exact absurd e G.ne
    | cons _ _ => rfl) fun c r h => rfl
theorem xb_OE : XBse "OverflowError" "OverflowError.__new__" "OverflowError.__init__" [.type "OverflowError", .type "ArithmeticError", .type "Exception", .type "BaseException", .type "object"] :=
  ⟨F.excBase_OverflowError, fun self => by kernel_rfl, by decide +kernel, by simp, by kernel_rfl⟩

open PySem.W PySem.HandSPX in
theorem exo_store {prog : Program} {w : World} {A : Around} {R : Result → Shared → Prop} {hp : Heap} {g : Array GenState} {d : Drawn} {t : Nat} {os : OsState} {K : PySem.W.Frag} {name : Str} {tk : Tok} {v : Value} {x C : Addr} {fv : Array Value} {cd : ClassData}
    (G : XBse B newId initId tl) (KI : K.In hp) (hx : hp.get? x = some { cls := .ref C, data := .fields fv }) (hcd : clsIn K C = some cd) (hm : refsT tl cd.mro = true) (hh : cd.hasDict = true) (ha : findIn K (.ref C) name = some none)
    (hq : ∀ h' tk' dx, (∀ b o, b ≠ x → hp.get? b = some o → h'.get? b = some o) → hp.objs.size ≤ dx → dx ≠ x → h'.get? x = some { cls := .ref C, dict := some dx, data := .fields fv } →
      h'.Ns1 dx (fun y => if y = name then some v else none) → R (.ok (.ret .none)) ⟨h', g, d, tk', os⟩) :
    codeAny (model prog w) A (.call (.builtin "object.__setattr__") ⟨[.ref x, .str name tk, v], []⟩) R ⟨hp, g, d, t, os⟩ := by
  have at_ : InstAt hp x { cls := .ref C, data := .fields fv } C none := ⟨hx, rfl, rfl, trivial⟩
  have st := F.store_object
  have full := refsT_ne G _ hm
  have isO : cd.mro.contains (.type "object") = true := (refsT_contains G "object" _ hm).trans G.obj
  have away : x ≠ hp.objs.size := Nat.ne_of_lt (Heap.lt_size hx)
  have inst : Looks (model prog w) hp (isInstance (.ref x) (.type "object")) true := at_.type.andThen (looks_mroIn KI (by unfold mroIn; rw [hcd, Option.bind_some, if_neg (by rw [full]; decide), isO]))
  refine codeAny_call_builtin st.slot.plain st.entry (@check_slot (model prog w) _ _ ⟨hp, g, d, t, os⟩ "object.__setattr__" "object" "__setattr__" (.ref x) [.str name tk, v] [] _ st.kind st.split inst (st.args (.ref x) (.str name tk) v) ?_)
  have lm : Looks (model prog w) hp (mroOf (.ref C)) cd.mro := (looks_clsIn KI hcd).andThen .now
  have lt : Looks (model prog w) hp (storeTaker? none) none := .now
  have lc : Looks (model prog w) hp (classData C) cd := looks_clsIn KI hcd
  rw [osa_eq, refuse_eq]
  refine wpAny_bind (wpAny_bind (at_.type.at (wpAny_bind (lm.at ?_))))
  rw [refsT_pass G _ _ hm]
  refine wpAny_pure (wpAny_bind (at_.type.at (wpAny_bind ((looks_findIn KI ha).at (wpAny_bind (lt.at ?_))))))
  show wpAny _ _ (storeInOwnDict (.ref x) (.ref C) (.str name tk) name v false) _ _ _
  obtain ⟨nm, bs, mro, ns, qn, hd, sn, sb, ab, col, del⟩ := cd
  dsimp only at hh
  subst hh
  unfold storeInOwnDict ownDictForStores
  repeat (first | with_reducible refine store_in_new ?_ ?_ | with_reducible refine wpAny_loadPart_at hx ?_ | with_reducible refine lc.at ?_ | wp_step)
  · exact ⟨_, #[], _, (Heap.get?_update_ne _ _ _ _ away.symm).trans (Heap.get?_push_at rfl rfl), rfl, fun e he => absurd he (by simp), fun _ => rfl⟩
  · intro h' tk' hn' hs
    have hx1 : (hp.push { cls := .type "dict", data := .dict #[] }).get? x = some { cls := .ref C, data := .fields fv } := Heap.get?_push_of_some _ hx
    refine hq h' tk' hp.objs.size (fun b o hb ho => ?_) (Nat.le_refl _) away.symm ?_ hn'
    · exact (hs.2 b (Nat.ne_of_lt (Heap.lt_size ho))).trans ((Heap.get?_update_ne _ _ _ _ hb).trans (Heap.get?_push_of_some _ ho))
    · exact (hs.2 x away).trans (Heap.get?_update_self _ hx1 rfl)
structure OexG (K : PySem.W.Frag) (C : Addr) (newId : String) (tl : List Value) : Prop where
  cls : ∃ nm q N bs bm sn sub ab col dd k0 k1 k2 k3 k5, K.lookup C = some (excClassObj nm q C N bs bm true sn sub ab col dd k0 k1 k2 k3 k5 newId) ∧ refsT tl bm = true
  sa : PySem.W.findIn K (.ref C) "__setattr__" = some (some (.builtin "object.__setattr__"))
  exC : PySem.W.subIn K (.ref C) (.type "BaseException") = some true
  tyC : PySem.W.typeIn K (.ref C) = some (.type "type")
  kC : PySem.W.keepIn K (.ref C) = true
section
variable {X : Cx} {pins : List (Addr × Obj)} {σ : St} {H : Hp} {s : Shared} {a C dx : Addr} {f : Str} {y : V} {u : Value} {A : Around} {E : Value → Shared → Prop}
theorem exo_set (G : XBse B newId initId tl) {Q : Unit → Shared → Prop} (T : OexG X.K C newId tl) (I : Inv X pins σ H s) (e : H a = some (exo a C none)) (hno : PySem.W.findIn X.K (.ref C) f = some none) (ry : RelV y u)
    (h : ∀ dx s', H dx = none → dx ≠ a → Inv X pins σ (upd (upd H dx (exd dx [(f, y)])) a (exo a C (some dx))) s' → Q () s') : wpAny (model X.prog X.w) A (setAttr (.ref a) f u) Q E s := by
  obtain ⟨nm, q, N, bs, bm, sn, sub, ab, col, dd, k0, k1, k2, k3, k5, hC, hbm⟩ := T.cls
  have hcl : PySem.W.clsIn X.K C = some { name := nm, bases := bs, mro := .ref C :: bm, ns := N, qualname := q, hasDict := true, slotNames := sn, subclasses := sub, abstract := ab, collection := col, hasDel := false } := by unfold PySem.W.clsIn; rw [hC] <;> rfl
  obtain ⟨t1, ho⟩ := exo_at I.hok e
  obtain ⟨hp, g, d, t, os⟩ := s
  refine PySem.W.set_plain I.kIn (ox := { cls := .ref C, dict := none, data := .fields #[.ref t1, .none, .none, .none, .bool false, .none] }) (od := none) ⟨ho, rfl, rfl, trivial⟩ T.sa ?_
  refine exo_store G I.kIn ho hcl (show refsT tl (.ref C :: bm) = true from hbm) rfl hno (fun h' tk' dx k dn dne hx hn => ?_)
  have hnd : H dx = none := I.hok.fresh dn
  have nd : ∀ {b : Addr} {o : Obj}, hp.get? b = some o → b ≠ dx := fun {b o} q => Nat.ne_of_lt (Nat.lt_of_lt_of_le (Heap.lt_size q) dn)
  have na : ∀ {b : Addr}, H b = none → b ≠ a := fun {b} n z => by rw [z, e] at n; cases n
  have un : Un X.fs [] H (upd (upd H dx (exd dx [(f, y)])) a (exo a C (some dx))) hp h' := {
    keep := fun b o q n _ _ => k b o (na n) q
    slot := fun b o q n _ _ => ⟨o.slots, k b o (na n) q⟩
    free := fun b o q n _ => by rw [upd_ne (na n), upd_ne (nd q)]; exact n
    there := fun b o q _ => by
      by_cases hb : b = a
      · exact ⟨_, by rw [hb]; exact hx⟩
      · exact ⟨o, k b o hb q⟩
    tups := fun b xs q => by rw [upd_ne (at_ne e q exo_tup), upd_ne (ne_of_none q hnd)]; exact q
    frzs := fun b o v q => by rw [upd_ne (at_ne e q exo_frz), upd_ne (ne_of_none q hnd)]; exact q
    tbls := fun b ps q => ⟨#[], by rw [upd_ne (at_ne e q exo_tbl), upd_ne (ne_of_none q hnd), q]; simp⟩ }
  refine h dx _ hnd dne (I.un (t' := tk') un fun b o q => ?_)
  by_cases hb : b = a
  · subst hb
    rw [upd_same] at q
    cases q
    exact exo_ok hx
  · rw [upd_ne hb] at q
    by_cases hd : b = dx
    · subst hd
      rw [upd_same] at q
      cases q
      exact exd_ok hn (relO_put (fs := []) ry fun g => True.intro)
    · rw [upd_ne hd] at q
      exact (I.hok b o q).stay (fun c v hc z => k c v (by
          rcases hc with hc | hc
          · rw [hc]; exact hb
          · exact at_ne e hc exo_own) z)
        (fun c hc => by rw [upd_ne (at_ne e hc exo_own), upd_ne (ne_of_none hc hnd)]; exact hc) (fun c xs hc => by rw [upd_ne (at_ne e hc exo_tup), upd_ne (ne_of_none hc hnd)]; exact hc)
theorem exo_init (G : XBse B newId initId tl) {us : List Value} {Q : Value → Shared → Prop} (T : OexG X.K C newId tl) (I : Inv X pins σ H s) (e : H a = some (exo a C none)) (hl : us.length ≤ sizeLine) (h : ∀ s', Inv X pins σ H s' → Q .none s') :
    wpAny (model X.prog X.w) A (call (.builtin initId) (.ref a :: us)) Q E s := by
  obtain ⟨nm, q, N, bs, bm, sn, sub, ab, col, dd, k0, k1, k2, k3, k5, hC, hbm⟩ := T.cls
  obtain ⟨t1, ho⟩ := exo_at I.hok e
  obtain ⟨hp, g, d, t, os⟩ := s
  refine wpAny_call (PySem.HandSPX.init_base G.F (fun Y => refsT_contains G Y bm hbm) (I.kIn _ _ hC) ho hl fun h' t2 k hx => ?_)
  have J := I.write (t' := t) (x := a) (e := a) (o := exo a C none) (by rw [e]; exact True.intro) (.inl rfl) k ⟨_, hx⟩ (exo_ok hx)
  have eu : upd H a (exo a C none) = H := by
    funext b
    by_cases hb : b = a
    · rw [hb, upd_same, e]
    · rw [upd_ne hb]
  rw [eu] at J
  exact h _ J
end
def tExI (K : PySem.W.Frag) (newId : String) (tl : List Value) (ta : TA) : TE := fun σ H Q => ta σ H fun vs H1 => ∃ (a C : Addr) (ws : List V), vs = .ref a :: ws ∧ ws.length ≤ 1000 ∧ OexG K C newId tl ∧ H1 a = some (exo a C none) ∧ Q .non H1
def tExS (K : PySem.W.Frag) (newId : String) (tl : List Value) (f : Str) (to te : TE) : TS := fun D σ H => te σ H fun y H1 => to σ H1 fun x H2 => ∃ a C : Addr, x = .ref a ∧ OexG K C newId tl ∧ PySem.W.findIn K (.ref C) f = some none ∧
  H2 a = some (exo a C none) ∧ ∀ dx, H2 dx = none → dx ≠ a → D.nx σ (upd (upd H2 dx (exd dx [(f, y)])) a (exo a C (some dx)))
section
variable {X : Cx} {o e : Expr} {es : List Expr} {to te : TE} {ta : TA} {f : Str} {p p' p1 p2 pos : Pos} {Bs : Str}
theorem pe_exI {pl : Sem Bool} (G : XBse B newId initId tl) (hg : Gl X Bs) (hm : X.mg Bs = none) (hbB : bootBuiltins Bs = some (.type B)) (vV : PySem.W.findCls X.K (.type B) (.type "type") "__init__" = some (.val (.builtin initId))) (ha : PA X (e :: es) ta)
    (hc : eval (.Call (.Attribute (.Name Bs p1) "__init__" p2) (e :: es) [] pos) X.env = (do
      let ov ← eval (.Name Bs p1) X.env
      standAt p2.atName
      let (f, first) ← holding [ov] (getMethod ov "__init__" pl)
      callWith pos f first (backTo pos (starEach (e :: es) X.env)) (backToKw pos (keywordEach [] X.env))) := by rfl)
    (n1 : Bs ≠ "__name__" := by decide) (n2 : (Bs == ("__debug__" : Str)) = false := by decide) (hB0 : Manifest.isStub B = false := by decide +kernel) (hB1 : PySem.W.handedIn (.builtin initId) = true := by decide +kernel) (hB2 : PySem.W.handedIn (.type B) = true := by decide +kernel)
    (he : starEach (e :: es) X.env = (false, eval e X.env) :: starEach es X.env := by rfl) (hpl : (backTo pos (starEach es X.env)).any (·.1) = false := by rfl) :
    PE X (.Call (.Attribute (.Name Bs p1) "__init__" p2) (e :: es) [] pos) (tExI X.K newId tl ta) := by
  refine ⟨fun pins s σ H Q I h => ?_⟩
  refine PySem.W.methodCall_KW (ld_blt I hg hm hbB ?_ n1 n2) hc
  obtain ⟨m, fr⟩ := I.fr
  refine PySem.W.method_type fr I.ok.mod.kin G.typ hB0 vV hB1 ?_
  show wpAny _ _ (callWith pos (Value.builtin initId) [] (backTo pos (starEach (e :: es) X.env)) []) _ _ _
  refine PyProof.Rows.callWith_method1 (thn (ha.run pos pins _ σ H _ (I.tok _) h) fun us s1 ⟨vs, H1, I1, r1, a, C, ws, ev, hl, T, ea, q⟩ => ?_) he hpl
  subst ev
  cases r1 with
  | @cons _ u0 _ ur ra rw' =>
    obtain rfl : u0 = Value.ref a := ra
    have hlen : ur.length ≤ sizeLine := by
      rw [← Paired.length rw', sizeLine_eq]
      omega
    exact exo_init G T I1 ea hlen fun s' J => ⟨.non, H1, J, rfl, q⟩
theorem ps_exS (G : XBse B newId initId tl) (ho : PE X o to) (he : PE X e te) (hs : swapsWith e (some (.Attribute o f p')) pos.line X.env = pure false := by rfl) : PS X (.Assign [.Attribute o f p'] e pos) (tExS X.K newId tl f to te) := by
  refine ⟨fun pins s σ H D I h => ?_⟩
  refine plainObj_wpAny_Assign_Attribute (thn (he.run pins s σ H _ I h) fun v s1 ⟨y, H1, I1, r1, q1⟩ => thn (ho.run pins s1 σ H1 _ I1 q1) fun u s2 ⟨x, H2, I2, r2, a, C, ex, T, hno, ea, q⟩ => ?_) hs
  subst ex
  obtain rfl : u = Value.ref a := r2
  exact exo_set G T I2 ea hno r1 fun dx s' n ne J => ⟨σ, _, J, q dx n ne⟩
end
end L2
set_option maxHeartbeats 4000000
namespace L2
open PySem PySem.Spec PyProof.Rows
theorem NS_make {k : Nat} {A : Around} {C : Addr} {us : List Value} (h : NS.RoomG (k + 1) A) : NS.RoomG k (A.under (.builtin "type.__call__" ⟨.ref C :: us, []⟩)) := ⟨h.r.make C us [], h.g⟩
section
variable {X : Cx} {e : Expr} {es : List Expr} {ta : TA} {p pos : Pos} {B newId initId : String} {tl : List Value} {CX : CXT} {x : Str} {C fI : Addr} {k : Nat} {fd : FuncData} {ps : List Str} {sp : Sp}
theorem ex_make (G : XBse B newId initId tl) (T : OexG X.K C newId tl) (iC : PySem.W.findIn X.K (.ref C) "__init__" = some (some (.ref fI))) (tI : PySem.W.typeIn X.K (.ref fI) = some (.type "function"))
    (F1 : NS.FnOkG X.prog X.w X.K X.mg X.base CX k fI fd ps sp) (hr : NS.RoomG (k + 1) X.A) (hb : Binds X.K fd ps []) (hx : Passes CX X (fun _ _ _ => False)) {pins : List (Addr × Obj)} {σ : St} {H1 : Hp} {s1 : Shared} {vs : List V} {us : List Value} {R : Value → Shared → Prop}
    (I1 : Inv X pins σ H1 s1) (r1 : Vals vs us) (hz : vs.length ≤ 1000)
    (q1 : sp (.ref (s1.heap.objs.size + 1) :: vs) (upd H1 (s1.heap.objs.size + 1) (exo (s1.heap.objs.size + 1) C none)) (fun v H2 => v = .non ∧ ∀ h2 g2 d2 t2 os2, os2 = s1.os → AllBare g2 → HOk X.prog X.w H2 h2 →
      Un (frs X.stack) [] (upd H1 (s1.heap.objs.size + 1) (exo (s1.heap.objs.size + 1) C none)) H2 ((s1.heap.push (PySem.W.kdv_tup us)).push (PySem.HandSPX.excO C s1.heap.objs.size)) h2 → R (.ref (s1.heap.objs.size + 1)) ⟨h2, g2, d2, t2, os2⟩) (fun _ _ _ => False)) :
    wpAny (model X.prog X.w) X.A (call (.ref C) us) R X.xe s1 := by
  obtain ⟨nm, q, N, bs, bm, sn, sub, ab, col, dd, k0, k1, k2, k3, k5, hC, hbm⟩ := T.cls
  obtain ⟨hp, g, dr, tk, os⟩ := s1
  have hsz : hp.objs.size ≤ hp.objs.size + 1 := Nat.le_succ _
  have hn : H1 (hp.objs.size + 1) = none := I1.hok.fresh hsz
  have kk : ∀ b o, hp.get? b = some o → ((hp.push (PySem.W.kdv_tup us)).push (PySem.HandSPX.excO C hp.objs.size)).get? b = some o := fun b o e => Heap.get?_push_of_some _ (Heap.get?_push_of_some _ e)
  have hget : ((hp.push (PySem.W.kdv_tup us)).push (PySem.HandSPX.excO C hp.objs.size)).get? (hp.objs.size + 1) = some (PySem.HandSPX.excO C hp.objs.size) := by heap_get
  have I2 : Inv X pins σ (upd H1 (hp.objs.size + 1) (exo (hp.objs.size + 1) C none)) ⟨(hp.push (PySem.W.kdv_tup us)).push (PySem.HandSPX.excO C hp.objs.size), g, dr, tk, os⟩ :=
    I1.laid (t' := tk) (a := hp.objs.size + 1) (o := exo (hp.objs.size + 1) C none) (h' := (hp.push (PySem.W.kdv_tup us)).push (PySem.HandSPX.excO C hp.objs.size)) kk hsz (exo_ok hget)
  have r2 : Vals (V.ref (hp.objs.size + 1) :: vs) (Value.ref (hp.objs.size + 1) :: us) := .cons rfl r1
  have hl : (Value.ref (hp.objs.size + 1) :: us).length = ps.length := by
    have e := r2.length
    rw [F1.len _ _ _ _ q1] at e
    exact e.symm
  have hus : us.length ≤ sizeLine := by
    rw [← Paired.length r1, sizeLine_eq]
    omega
  have hbb := hb _ (Value.ref (hp.objs.size + 1) :: us) I2.kIn (by rw [List.append_nil]; exact hl)
  rw [List.append_nil] at hbb
  refine wpAny_call (PySem.HandSPX.call_own G.F (fun Y => refsT_contains G Y bm hbm) (I1.kIn _ _ hC) (PySem.W.looks_findIn I1.kIn iC) (fun self => PySem.W.bind_fn I1.kIn self tI) hus
    (codeAny_mono (F1.run _ X.stack _ _ ⟨Value.ref (hp.objs.size + 1) :: us, []⟩ (Value.ref (hp.objs.size + 1) :: us) _ _ (fun _ _ _ => False) (NS_make hr) (I2.env0.make C us []) hbb r2 q1) fun r s' hq' => ?_))
  cases r with
  | error er => exact hx pins σ _ _ er s' I2 hq'
  | ok fl =>
    cases fl with
    | ret u =>
      obtain ⟨v, H2, os2, bare2, un2, hok2, rv, ev, q2⟩ := hq'
      subst ev
      obtain ⟨h2, g2, d2, t2, os'⟩ := s'
      exact ⟨rv, q2 h2 g2 d2 t2 os' os2 bare2 hok2 un2⟩
    | next => exact False.elim hq'
    | brk => exact False.elim hq'
    | cont => exact False.elim hq'
theorem pmk_exG (G : XBse B newId initId tl) (T : OexG X.K C newId tl) (iC : PySem.W.findIn X.K (.ref C) "__init__" = some (some (.ref fI))) (tI : PySem.W.typeIn X.K (.ref fI) = some (.type "function"))
    (F1 : NS.FnOkG X.prog X.w X.K X.mg X.base CX k fI fd ps sp) (hr : NS.RoomG (k + 1) X.A) (hb : Binds X.K fd ps []) (hx : Passes CX X (fun _ _ _ => False)) (hg : Gl X x) (hm : X.mg x = some (.ref C)) (ha : PA X (e :: es) ta)
    (hsp : ∀ vs H Q Q' E, (∀ v H', Q v H' → Q' v H') → sp vs H Q E → sp vs H Q' E)
    (hdb : (x == ("__debug__" : Str)) = false := by decide) (he : starEach (e :: es) X.env = (false, eval e X.env) :: starEach es X.env := by rfl) (hpl : (backTo pos (starEach es X.env)).any (·.1) = false := by rfl) :
    PMk X (.Call (.Name x p) (e :: es) [] pos) (tMkO C sp [] ta) := by
  intro pins s σ H Q I h
  refine wpAny_Call_Name_kw (ld_glob I hg hm ?_ hdb)
  refine PySem.W.callWith_K (h₀ := X.base) I.ok.mod.kin T.kC (thn (ha.run pos pins s σ H _ I h) fun us s1 ⟨vs, H1, I1, r1, hz, q1⟩ => ⟨I1.kIn, ?_⟩) he hpl
  have hn : H1 (s1.heap.objs.size + 1) = none := I1.hok.fresh (Nat.le_succ _)
  have hq := q1 (s1.heap.objs.size + 1) hn
  rw [List.append_nil] at hq
  obtain ⟨hp, g, dr, tk, os⟩ := s1
  refine ex_make G T iC tI F1 hr hb hx I1 r1 hz (hsp _ _ _ _ _ (fun v H2 ⟨ev, d, fs, ea, ed, hd1, q2⟩ => ⟨ev, fun h2 g2 d2 t2 os2 eo hbare hok un => ?_⟩) hq)
  exact mk_end (raises_own T.exC T.tyC) I1 (Nat.le_succ _) (fun b o e => Heap.get?_push_of_some _ (Heap.get?_push_of_some _ e)) un hok eo hbare ea ed hd1 q2
end
end L2
set_option maxHeartbeats 4000000
namespace L2
open PySem PySem.Spec PyProof.Rows
section
variable {X : Cx} {pins : List (Addr × Obj)} {σ : St} {H : Hp} {s : Shared}
end
section
variable {X : Cx} {te : Expr} {cs : List Value} {tp : Bool} {n y : Str} {i j : Nat} {body : List Stmt} {np yp pos pos' apos : Pos} {tb : WX → TS} {Wout : WX}
end
end L2
set_option maxHeartbeats 4000000
namespace L2
open PySem PySem.Spec PyProof.Rows
section
variable {X : Cx} {pins : List (Addr × Obj)} {σ : St} {H1 H2 : Hp}
variable {B newId initId : String} {tl : List Value} {CX : CXT} {x : Str} {C fI : Addr} {k : Nat} {fd : FuncData} {ps : List Str} {sp : Sp} {p pos : Pos}
end
end L2
namespace NS
open PySem PySem.Spec PyProof.Rows L2
def sp1 (C : Addr) (f : Str) : Sp := fun vs H Q E => vs.length = 2 ∧ ∃ a y, vs = [.ref a, y] ∧ H a = some (exo a C none) ∧ ∀ dx, H dx = none → dx ≠ a → Q .non (upd (upd H dx (exd dx [(f, y)])) a (exo a C (some dx)))
def sp0 (C : Addr) : Sp := fun vs H Q E => vs.length = 1 ∧ ∃ a, vs = [.ref a] ∧ H a = some (exo a C none) ∧ Q .non H
structure Ex1 (P : Program) (w : World) (K : PySem.W.Frag) (mg : Str → Option Value) (base : Heap) (cls f : Str) : Prop where
  ex : ∃ (B newId initId : String) (tl : List Value) (C fI : Addr) (fd : FuncData), XBse B newId initId tl ∧ OexG K C newId tl ∧ mg cls = some (.ref C) ∧ PySem.W.findIn K (.ref C) "__init__" = some (some (.ref fI)) ∧
    PySem.W.typeIn K (.ref fI) = some (.type "function") ∧ Binds K fd ["self", f] [] ∧ FnOkG P w K mg base (XC P w) 1 fI fd ["self", f] (sp1 C f)
structure Ex0 (P : Program) (w : World) (K : PySem.W.Frag) (mg : Str → Option Value) (base : Heap) (cls : Str) : Prop where
  ex : ∃ (B newId initId : String) (tl : List Value) (C fI : Addr) (fd : FuncData), XBse B newId initId tl ∧ OexG K C newId tl ∧ mg cls = some (.ref C) ∧ PySem.W.findIn K (.ref C) "__init__" = some (some (.ref fI)) ∧
    PySem.W.typeIn K (.ref fI) = some (.type "function") ∧ Binds K fd ["self"] [] ∧ FnOkG P w K mg base (XC P w) 1 fI fd ["self"] (sp0 C)
section
variable {P : Program} {w : World} {K : PySem.W.Frag} {mg : Str → Option Value} {base : Heap}
theorem Ex1.mk' {B newId initId : String} {tl : List Value} {C fI : Addr} {cls f : Str} {st : Stmt} {fd : FuncData} (G : XBse B newId initId tl) (T : OexG K C newId tl) (hm : mg cls = some (.ref C)) (hi : PySem.W.findIn K (.ref C) "__init__" = some (some (.ref fI)))
    (ht : PySem.W.typeIn K (.ref fI) = some (.type "function")) (hno : PySem.W.findIn K (.ref C) f = some none) {qual : Str} (F : L2.Fun K "__init__" qual st fI fd) (Sc : FnScope ["self", f] ["self", f] (defScope st))
    (hb : ∀ (kV doc pm : Value) (an : Option Addr) (cdv ct : Value) (us : List Value), us.length = 2 → bindArgs (PySem.W.fnOf "__init__" qual (defArgs st) (defBody st) (defScope st) .none kV doc pm an cdv ct) ⟨us, []⟩ = pure ((["self", f] : List Str).zip us))
    (hbody : ∀ (cdv : Value) (A : Around) (outer : List Env) (s : Shared) (H : Hp) (E : XK), ∃ m : Str, PSs (cxOf (XC P w) P w K mg base ["self", f] qual (defScope st) fI cdv A outer s H E) (defBody st)
      (tSeq (tDrop (tExI K newId tl (tCons (tVar 0) (tCons (tC (.str m)) tNil)))) (tExS K newId tl f (tVar 0) (tVar 1)))) : Ex1 P w K mg base cls f := by
  refine ⟨B, newId, initId, tl, C, fI, fd, G, T, hm, hi, ht, F.binds hb, fnG F Sc (fun vs H Q E h => h.1) fun cdv A outer s H vs Q E hr h => ?_⟩
  obtain ⟨m, h1⟩ := hbody cdv A outer s H E
  refine ⟨_, h1, ?_⟩
  obtain ⟨hl, a, y, rfl, ea, q⟩ := h
  exact ⟨.ref a, rfl, a, C, [.str m], rfl, by simp, T, ea, y, rfl, .ref a, rfl, a, C, rfl, T, hno, ea, fun dx h1 h2 => q dx h1 h2⟩
theorem Ex0.mk' {B newId initId : String} {tl : List Value} {C fI : Addr} {cls : Str} {st : Stmt} {fd : FuncData} (G : XBse B newId initId tl) (T : OexG K C newId tl) (hm : mg cls = some (.ref C)) (hi : PySem.W.findIn K (.ref C) "__init__" = some (some (.ref fI)))
    (ht : PySem.W.typeIn K (.ref fI) = some (.type "function")) {qual : Str} (F : L2.Fun K "__init__" qual st fI fd) (Sc : FnScope ["self"] ["self"] (defScope st))
    (hb : ∀ (kV doc pm : Value) (an : Option Addr) (cdv ct : Value) (us : List Value), us.length = 1 → bindArgs (PySem.W.fnOf "__init__" qual (defArgs st) (defBody st) (defScope st) .none kV doc pm an cdv ct) ⟨us, []⟩ = pure ((["self"] : List Str).zip us))
    (hbody : ∀ (cdv : Value) (A : Around) (outer : List Env) (s : Shared) (H : Hp) (E : XK), ∃ m : Str, PSs (cxOf (XC P w) P w K mg base ["self"] qual (defScope st) fI cdv A outer s H E) (defBody st)
      (tDrop (tExI K newId tl (tCons (tVar 0) (tCons (tC (.str m)) tNil))))) : Ex0 P w K mg base cls := by
  refine ⟨B, newId, initId, tl, C, fI, fd, G, T, hm, hi, ht, F.binds hb, fnG F Sc (fun vs H Q E h => h.1) fun cdv A outer s H vs Q E hr h => ?_⟩
  obtain ⟨m, h1⟩ := hbody cdv A outer s H E
  refine ⟨_, h1, ?_⟩
  obtain ⟨hl, a, rfl, ea, q⟩ := h
  exact ⟨.ref a, rfl, a, C, [.str m], rfl, by simp, T, ea, q⟩
end
def sRaise1 (cls f : Str) (fe : DS → M D) : DS → M Fl := fun σ => M.bind (fe σ) fun d => fun g => .err ⟨cls, some (f, d)⟩ g
def sRaise0 (cls : Str) : DS → M Fl := fun _ g => .err ⟨cls, none⟩ g
section
variable {X : Cx} {E : XK} {m : Bool} {e0 : En} {cls f : Str} {e : Expr} {fe : DS → M D} {p pos pos' : Pos}
theorem upd_init {H1 : Hp} {a dx C : Addr} {f : Str} {y : V} (ha : H1 a = none) (hd : dx ≠ a) : upd (del (upd (upd (upd H1 a (exo a C none)) dx (exd dx [(f, y)])) a (exo a C (some dx))) a) dx (.xd [(f, y)]) = upd H1 dx (.xd [(f, y)]) := by
  funext b
  by_cases h1 : b = dx
  · subst h1; rw [upd_same, upd_same]
  · rw [upd_ne h1, upd_ne h1]
    by_cases h2 : b = a
    · subst h2; rw [del_same, ha]
    · rw [del_ne h2, upd_ne h2, upd_ne h1, upd_ne h2]
theorem passF {X : Cx} : Passes (XC X.prog X.w) X (fun _ _ _ => False) := fun _ _ _ _ _ _ _ ⟨_, _, _, _, _, _, _, _, _, _, _, _, z⟩ => z.elim
theorem sp1_mono {C : Addr} {f : Str} : ∀ vs H Q Q' E, (∀ v H', Q v H' → Q' v H') → sp1 C f vs H Q E → sp1 C f vs H Q' E := fun vs H Q Q' E i ⟨hl, a, y, e, ea, q⟩ => ⟨hl, a, y, e, ea, fun dx h1 h2 => i _ _ (q dx h1 h2)⟩
theorem ds_raise1 (h : Ex1 X.prog X.w X.K X.mg X.base cls f) (hr : RoomG 2 X.A) (tk : Takes X (fun c d _ H => E c d H)) (he : DE X E false e fe) (hc : X.calm = true := by rfl) (hg : Gl X cls := by rfl)
    (hdb : (cls == ("__debug__" : Str)) = false := by decide) (hs : starEach [e] X.env = (false, eval e X.env) :: starEach [] X.env := by rfl) (hpl : (backTo pos (starEach [] X.env)).any (·.1) = false := by rfl) :
    DS1 X E m e0 (.Raise (some (.Call (.Name cls p) [e] [] pos)) none pos') (sRaise1 cls f fe) := by
  obtain ⟨B, newId, initId, tl, C, fI, fd, G, T, hm, hi, ht, hb, F⟩ := h.ex
  refine PS.impD (ps_raise hc tk (pmk_exG G T hi ht F hr hb passF hg hm (dl_cons he dl_nil hs) sp1_mono hdb hs hpl)) fun Z σ H ⟨A, S, g, σd, s, q⟩ => ?_
  have q : KS (Cx.sur X E) m e0 A S (M.bind (fe σd) (fun d => fun g => .err ⟨cls, some (f, d)⟩ g) g) Z := q
  refine ⟨A, S, g, σd, s.ok, s.rep, ?_⟩
  show KL (Cx.sur X E) A S H (M.bind (fe σd) (fun x => M.bind (lNil σd) fun xs => M.pure (x :: xs)) g) _
  cases e1 : fe σd g with
  | err z g' => rw [bind_err e1] at q ⊢; exact fun A' S' H' c dd p' o r => q A' S' H' c dd (s.post.trans p') o r
  | bad => rw [bind_bad e1] at q; exact q.elim
  | ok d g1 =>
    rw [bind_ok e1] at q ⊢
    intro A1 S1 H1 vs p1 o1 r1
    cases r1 with
    | @cons v _ vs' _ rv rr =>
      cases rr
      refine ⟨by simp, fun a ha => ⟨rfl, a, v, rfl, upd_same, fun dx hdx hda => ⟨rfl, dx, [(f, v)], upd_same, ?_, ?_, ?_⟩⟩⟩
      · rw [upd_ne hda, upd_same]
      · rw [upd_ne hda] at hdx; exact hdx
      · have hdx' : H1 dx = none := by rw [upd_ne hda] at hdx; exact hdx
        rw [upd_init ha hda]
        have PL := Post.lay (A := A1) (o := .xd [(f, v)]) hdx' o1.ext
        exact q A1 (upd S1 dx (.xd [(f, v)])) _ (.ref C) (some dx) ((s.post.trans p1).trans PL) (o1.lay hdx') ⟨hm, (fun z => nomatch z), fun f' d' z => (by cases z; exact ⟨dx, v, rfl, upd_same, rv.mono PL.a PL.s⟩)⟩
end
end NS
set_option maxHeartbeats 4000000
namespace PySem.W
open PySem PySem.Spec PySem.Calls PyProof.Rows
section
variable {prog : Program} {w : World} {A : Around} {E : Value → Shared → Prop} {s : Shared} {K : Frag} {x D : Addr} {ox : Obj} {od : Option Obj}
structure ExcW (K : Frag) (D : Addr) : Prop where
  hga : findIn K (.ref D) "__getattribute__" = some (some (.builtin "BaseException.__getattribute__"))
  hgt : findIn K (.ref D) "__getattr__" = some none
  hsub : subIn K (.ref D) (.type "BaseException") = some true
  hdct : hasDictIn K D = true
  ha : findIn K (.ref D) "__class__" = some (some (.builtin "object.__class__"))
  hn : specialIn K (.builtin "object.__class__") "__get__" = some (some (.builtin "getset_descriptor.__get__"))
  htk : takesIn K (.builtin "object.__class__") = some true
  hm : mroIn K D (.type "object") = some true
def excWB (K : Frag) (D : Addr) : Bool :=
  decide (findIn K (.ref D) "__getattribute__" = some (some (.builtin "BaseException.__getattribute__"))) && decide (findIn K (.ref D) "__getattr__" = some none) && decide (subIn K (.ref D) (.type "BaseException") = some true) && hasDictIn K D &&
  decide (findIn K (.ref D) "__class__" = some (some (.builtin "object.__class__"))) && decide (specialIn K (.builtin "object.__class__") "__get__" = some (some (.builtin "getset_descriptor.__get__"))) && decide (takesIn K (.builtin "object.__class__") = some true) &&
  decide (mroIn K D (.type "object") = some true)
theorem ExcW.of (h : excWB K D = true) : ExcW K D := by
  unfold excWB at h
  simp only [Bool.and_eq_true, decide_eq_true_eq] at h
  obtain ⟨⟨⟨⟨⟨⟨⟨h1, h2⟩, h3⟩, h4⟩, h5⟩, h6⟩, h7⟩, h8⟩ := h
  exact ⟨h1, h2, h3, h4, h5, h6, h7, h8⟩
end
end PySem.W
namespace NS
open PySem PySem.Spec PyProof.Rows L2
def exBase (c : Str) : Str :=
  if c == ("Misfit" : Str) || c == ("Impossible" : Str) || c == ("BadText" : Str) || c == ("BadLine" : Str) then "ValueError"
  else if c == ("NoObject" : Str) || c == ("NoOrder" : Str) || c == ("NoState" : Str) then "LookupError"
  else if c == ("NoWay" : Str) || c == ("Needed" : Str) then "RuntimeError" else "OverflowError"
def exIs (c d : Str) : Bool := c == d || exBase c == d
def clsV (K : PySem.W.Frag) (d : Str) : Option Value := match PySem.W.nsIn K mainGlobals d with
  | some (some v) => some v
  | some none => bootBuiltins d
  | none => none
def exAt (K : PySem.W.Frag) (c : Str) : Option Addr := match PySem.W.nsIn K mainGlobals c with
  | some (some (.ref C)) => some C
  | _ => none
def excChk (K : PySem.W.Frag) (cs ds fs : List Str) : Bool := (ds.all fun d => match clsV K d with
  | some (.ref _) => true
  | some (.type _) => true
  | _ => false) && cs.all fun c => match exAt K c with
  | some C => PySem.W.excWB K C && (fs.all fun f => decide (PySem.W.findIn K (.ref C) f = some none)) && (ds.all fun d => match clsV K d with
      | some dv => decide (PySem.W.kitOne K (.ref C) dv = some (exIs c d))
      | none => false)
  | none => false
theorem exAt_ns {K : PySem.W.Frag} {c : Str} {C : Addr} (h : exAt K c = some C) : PySem.W.nsIn K mainGlobals c = some (some (.ref C)) := by
  unfold exAt at h
  split at h
  · rename_i C' e; cases h; exact e
  · cases h
structure ExT (K : PySem.W.Frag) (mg : Str → Option Value) (cs ds fs : List Str) : Prop where
  own : ∀ c ∈ cs, ∃ C, PySem.W.nsIn K mainGlobals c = some (some (.ref C)) ∧ PySem.W.ExcW K C ∧ ∀ d ∈ ds, ∃ dv, clsV K d = some dv ∧ PySem.W.kitOne K (.ref C) dv = some (exIs c d)
  fld : ∀ c ∈ cs, ∀ C, PySem.W.nsIn K mainGlobals c = some (some (.ref C)) → ∀ f ∈ fs, PySem.W.findIn K (.ref C) f = some none
  nm : ∀ d ∈ ds, ∃ dv, clsV K d = some dv ∧ ((∃ C, dv = .ref C) ∨ ∃ n, dv = .type n) ∧ (mg d = some dv ∨ (mg d = none ∧ bootBuiltins d = some dv))
theorem ExT.of {K : PySem.W.Frag} {h : Heap} {mg : Str → Option Value} {cs ds fs : List Str} (X : K.In h) (G : h.Ns mainGlobals mg) (e : excChk K cs ds fs = true) : ExT K mg cs ds fs := by
  obtain ⟨e0, e⟩ := Bool.and_eq_true_iff.mp e
  refine ⟨fun c hc => ?_, fun c hc C hn f hf => ?_, fun d hd => ?_⟩
  · have e1 := List.all_eq_true.mp e c hc
    cases hC : exAt K c with
    | none => rw [hC] at e1; cases e1
    | some C =>
      rw [hC] at e1
      obtain ⟨h1, h2⟩ := Bool.and_eq_true_iff.mp e1
      obtain ⟨h1, _⟩ := Bool.and_eq_true_iff.mp h1
      refine ⟨C, exAt_ns hC, PySem.W.ExcW.of h1, fun d hd => ?_⟩
      have e2 := List.all_eq_true.mp h2 d hd
      cases hv : clsV K d with
      | none => rw [hv] at e2; cases e2
      | some dv => rw [hv] at e2; exact ⟨dv, rfl, of_decide_eq_true e2⟩
  · have e1 := List.all_eq_true.mp e c hc
    have hC : exAt K c = some C := by unfold exAt; rw [hn]
    rw [hC] at e1
    obtain ⟨h1, _⟩ := Bool.and_eq_true_iff.mp e1
    obtain ⟨_, h2⟩ := Bool.and_eq_true_iff.mp h1
    exact of_decide_eq_true (List.all_eq_true.mp h2 f hf)
  · have e1 := List.all_eq_true.mp e0 d hd
    have key : ∀ dv, clsV K d = some dv → mg d = some dv ∨ (mg d = none ∧ bootBuiltins d = some dv) := fun dv hv => by
      unfold clsV at hv
      split at hv
      · rename_i v e1; cases hv; exact .inl (PySem.W.mg_of X G e1)
      · rename_i e1; exact .inr ⟨PySem.W.mg_none_of X G e1, hv⟩
      · cases hv
    cases hv : clsV K d with
    | none => rw [hv] at e1; cases e1
    | some dv =>
      rw [hv] at e1
      refine ⟨dv, rfl, ?_, key dv hv⟩
      cases dv <;> first
        | exact .inl ⟨_, rfl⟩
        | exact .inr ⟨_, rfl⟩
        | cases e1
section
variable {X : Cx} {E : XK} {pos p p1 : Pos} {e : Expr} {fe : DS → M D} {cs ds fs : List Str}
end
end NS
set_option maxHeartbeats 4000000
namespace NS
open PySem PySem.Spec PyProof.Rows L2 LamX
section
variable {K : PySem.W.Frag} {A : List GAdr} {S H : Hp} {g : G} {k : Nat} {P c' : Addr} {x : Str} {ps : Array Value} {pos : Pos}
end
section
variable {X : Cx} {pins : List (Addr × Obj)} {σ : L2.St} {A : List GAdr} {S H : Hp} {g : G} {s : Shared} {k : Nat} {x : Str}
end
section
variable {X : Cx} {pins : List (Addr × Obj)} {σ : L2.St} {H : Hp} {s : Shared}
end
def b3 (raised : List D → M D) : DS → M Fl := sRet (eIf (eTst (eBin kIs (eVar 2) (eC .non))) (eVar 1) (eArgs (callN 1 raised) (lCons (eVar 2) lNil)))
section
variable {X : Cx} {E : XK} {x xo wn : Str} {k kk : Nat} {sto : Stmt} {Ng : List Str} {raised : List D → M D} {cs : List Str} {params : Arguments} {body : Expr} {scope : Scope} {fb : DS → M D} {p lpos pos : Pos}
end
section
variable {P : Program} {w : World} {K : PySem.W.Frag} {mg : Str → Option Value} {base : Heap}
end
end NS
set_option maxHeartbeats 4000000
namespace NS
open PySem PySem.Spec PyProof.Rows L2
section
variable {P : Program} {w : World} {K : PySem.W.Frag} {mg : Str → Option Value} {base : Heap}
theorem fnG' {CX : CXT} {x qual : Str} {st : Stmt} {f : Addr} {fd : FuncData} {N ps : List Str} {k : Nat} {sp : Sp} (F : Fun K x qual st f fd) (S : FnScope N ps (defScope st)) (len : ∀ vs H Q E, sp vs H Q E → vs.length = ps.length)
    (hb : ∀ (cdv : Value) (A : Around) (outer : List Env) (s : Shared) (H : Hp) (vs : List V) (Q : VK) (E : XK), fd.code = cdv → RoomG k (A.deeper (envOfC qual (defScope st) s.heap.objs.size f cdv)) → sp vs H Q E →
      ∃ t, PSs (cxOf CX P w K mg base N qual (defScope st) f cdv A outer s H E) (defBody st) t ∧ t { nx := fun _ H' => Q .non H', rt := Q } (start N vs) H) : FnOkG P w K mg base CX (k + 1) f fd ps sp := by
  obtain ⟨oc, od, kV, doc, pm, an, cdv, ct, osl, rfl, lk, hcd⟩ := F.ex
  refine ⟨len, fun A outer s H args us vs Q E hr e0 hB r hs => ?_⟩
  have hl := len _ _ _ _ hs
  obtain ⟨t, ht, hq⟩ := hb cdv A outer s H vs Q E rfl (hr.deeper _) hs
  have up := fun b o e => (e0.bs b o e).1
  have KX : K.In s.heap := e0.mod.kin.keeps up
  have kinds : ∀ y ∈ ps.zip us, (defScope st).names.lookup y.1 = some .local ∨ ((defScope st).names.lookup y.1 = some .cell ∧ ((cellsFrom (s.heap.objs.size + 1) (defScope st).names []).lookup y.1).isSome = true) := by
    intro y hy
    cases S.par y.1 (List.of_mem_zip hy).1 with
    | inl q => exact .inl q
    | inr q => exact .inr ⟨q, PySem.W.cellsFrom_some _ _ _ (.inl q)⟩
  refine codeAny_call_function hr.r.depth (KX _ _ lk) rfl S.co S.gen rfl (PySem.W.codeRec_of KX hcd) (hB _ _ _ _ (wpAny_newFunctionEnv_cells S.kind kinds fun env he s1 x => ?_))
  subst he
  refine ⟨e0.mod.nolimit.keeps fun b o e => x.toInCall.keep b o (up b o e), codeAny_func (wpAny_mono (ht.run [] s1 (start N vs) H _ (inv_start S hr.r.hd e0 hl r x) hq) (fun fl s' hs => ?_) fun e s' hs => hs)⟩
  cases fl with
  | ret u => obtain ⟨v, σ', H', J, rv, q⟩ := hs; exact ⟨v, H', J.os, J.bare, J.base, J.hok, rv, q⟩
  | next => obtain ⟨σ', H', J, q⟩ := hs; exact ⟨.non, H', J.os, J.bare, J.base, J.hok, rfl, q⟩
  | brk => obtain ⟨_, _, _, q⟩ := hs; exact q.elim
  | cont => obtain ⟨_, _, _, q⟩ := hs; exact q.elim
theorem Has.mkX {x : Str} {st : Stmt} {N ps : List Str} {k : Nat} {m : Bool} {b : DS → M Fl} (a : At K mg x st) (Sc : FnScope N ps (defScope st)) (hK : K.In base) (hN : base.Ns mainGlobals mg)
    (hbody : ∀ (f : Addr) (cdv : Value) (A : Around) (outer : List Env) (s : Shared) (H : Hp) (E : XK) (e0 : En), RoomG k (XOf P w K mg base N x (defScope st) f cdv A outer s H E).A →
      Passes (XC P w) (XOf P w K mg base N x (defScope st) f cdv A outer s H E) E → PassesOwn (model P w) (XOf P w K mg base N x (defScope st) f cdv A outer s H E).A (XOf P w K mg base N x (defScope st) f cdv A outer s H E).env (XOf P w K mg base N x (defScope st) f cdv A outer s H E).xe →
      Takes (XOf P w K mg base N x (defScope st) f cdv A outer s H E) (fun cls d _ H => E cls d H) → (∀ c p, PySem.W.tabIn K x = some (c, p) → cdv = .ref c) →
      DSs (XOf P w K mg base N x (defScope st) f cdv A outer s H E) E m e0 (defBody st) b) : Has P w K mg base x st (k + 1) ps m (runD N.length m b) := by
  obtain ⟨f, fd, F, hm⟩ := a.ex
  refine ⟨f, fd, F, hm, ?_⟩
  have hcode : ∀ c p, PySem.W.tabIn K x = some (c, p) → fd.code = .ref c := fun c p e => by
    obtain ⟨oc, od, kV, doc, pm, an, cdv, ct, osl, rfl, lk, hcd⟩ := F.ex
    exact PySem.W.law_code hK hN e hm (hK _ _ lk) rfl
  refine fnG' F Sc (fun vs H Q E h => h.1) (fun cdv A outer s H vs Q E hc hr h => ?_)
  obtain ⟨hl, A0, S, g, ds, o, r, q⟩ := h
  have tk : Takes (XOf P w K mg base N x (defScope st) f cdv A outer s H E) (fun cls d _ H => E cls d H) := takes_of rfl rfl rfl rfl
  exact ⟨_, hbody f cdv A outer s H E ⟨A0, S, H⟩ hr (passes_call tk fun _ _ _ _ h => h) PassesOwn.leaving tk (fun c p e => by rw [← hc]; exact hcode c p e), run_read o r q⟩
end
def exmChk (K : PySem.W.Frag) (cs : List Str) : Bool := match cs.mapM (exAt K) with
  | some ads => ads.all fun C => decide (PySem.W.exmAny K (.ref C) (ads.map Value.ref) = some true)
  | none => false
structure ExCs (K : PySem.W.Frag) (mg : Str → Option Value) (cs : List Str) (ads : List Addr) : Prop where
  rel : Paired (fun n C => mg n = some (.ref C)) cs ads
  all : ∀ n ∈ cs, ∃ C, PySem.W.nsIn K mainGlobals n = some (some (.ref C)) ∧ mg n = some (.ref C) ∧ PySem.W.exmAny K (.ref C) (ads.map Value.ref) = some true
theorem mapM_rel {α β : Type} {f : α → Option β} : ∀ (l : List α) (r : List β), l.mapM f = some r → Paired (fun a b => f a = some b) l r
  | [], r, h => by
    have : r = [] := by simpa using h.symm
    subst this; exact .nil
  | a :: l, r, h => by
    rw [List.mapM_cons] at h
    cases e : f a with
    | none => rw [e] at h; cases h
    | some b =>
      rw [e] at h
      cases e2 : l.mapM f with
      | none => rw [e2] at h; cases h
      | some r' =>
        rw [e2] at h
        cases h
        exact .cons e (mapM_rel l r' e2)
theorem forall2_mem {α β : Type} {R : α → β → Prop} {l : List α} {r : List β} (h : Paired R l r) : ∀ a ∈ l, ∃ b ∈ r, R a b := by
  induction h with
  | nil => intro a ha; cases ha
  | cons h1 _ ih =>
    intro a ha
    rcases List.mem_cons.mp ha with rfl | ha
    · exact ⟨_, List.mem_cons_self, h1⟩
    · obtain ⟨b, hb, hr⟩ := ih a ha
      exact ⟨b, List.mem_cons_of_mem _ hb, hr⟩
theorem forall2_imp {α β : Type} {R R' : α → β → Prop} (i : ∀ a b, R a b → R' a b) {l : List α} {r : List β} (h : Paired R l r) : Paired R' l r := by
  induction h with
  | nil => exact .nil
  | cons h1 _ ih => exact .cons (i _ _ h1) ih
theorem ExCs.of {K : PySem.W.Frag} {h : Heap} {mg : Str → Option Value} {cs : List Str} (X : K.In h) (G : h.Ns mainGlobals mg) (e : exmChk K cs = true) : ∃ ads, ExCs K mg cs ads := by
  unfold exmChk at e
  cases e1 : cs.mapM (exAt K) with
  | none => rw [e1] at e; cases e
  | some ads =>
    rw [e1] at e
    have r := mapM_rel cs ads e1
    refine ⟨ads, forall2_imp (fun n C h => PySem.W.mg_of X G (exAt_ns h)) r, fun n hn => ?_⟩
    obtain ⟨C, hC, hr⟩ := forall2_mem r n hn
    exact ⟨C, exAt_ns hr, PySem.W.mg_of X G (exAt_ns hr), of_decide_eq_true (List.all_eq_true.mp e C hC)⟩
def iniOf : Stmt → Stmt
  | .ClassDef _ _ _ (b :: _) _ _ _ _ _ _ _ => b
  | s => s
theorem OexG.mk' {K : PySem.W.Frag} {C : Addr} {newId : String} {tl : List Value} {nm q : Str} {N : Addr} {bs bm sub : List Value} {sn : List Str} {ab : Bool} {col : Option Bool} {dd : Option Addr} {k0 k1 k2 k3 k5 : Option Value}
    (l : K.lookup C = some (excClassObj nm q C N bs bm true sn sub ab col dd k0 k1 k2 k3 k5 newId)) (r : refsT tl bm = true) (sa : PySem.W.findIn K (.ref C) "__setattr__" = some (some (.builtin "object.__setattr__"))) (ex : PySem.W.subIn K (.ref C) (.type "BaseException") = some true)
    (ty : PySem.W.typeIn K (.ref C) = some (.type "type")) (kp : PySem.W.keepIn K (.ref C) = true) : OexG K C newId tl := ⟨⟨nm, q, N, bs, bm, sn, sub, ab, col, dd, k0, k1, k2, k3, k5, l, r⟩, sa, ex, ty, kp⟩
section
variable {X : Cx} {pos : Pos}
end
end NS
set_option maxHeartbeats 4000000
namespace L2
open PySem PySem.Spec PyProof.Rows
section
variable {X : Cx}
theorem op_add_bi : OpR X (binaryOp .Add) (fun x y H Q => ∃ b j, x = .bl b ∧ y = .int j ∧ Q (.int ((if b = true then (1 : Int) else 0) + j)) H) := by
  intro pins s σ H x y v u Q I rx ry h
  obtain ⟨b, j, rfl, rfl, q⟩ := h
  cases rx
  obtain ⟨t, rfl⟩ := ry
  exact IntBool.add_bool_int ⟨.int _, H, I.tok _, ⟨_, rfl⟩, q⟩
theorem op_sub_bi : OpR X (binaryOp .Sub) (fun x y H Q => ∃ b j, x = .bl b ∧ y = .int j ∧ Q (.int ((if b = true then (1 : Int) else 0) - j)) H) := by
  intro pins s σ H x y v u Q I rx ry h
  obtain ⟨b, j, rfl, rfl, q⟩ := h
  cases rx
  obtain ⟨t, rfl⟩ := ry
  exact IntBool.sub_bool_int ⟨.int _, H, I.tok _, ⟨_, rfl⟩, q⟩
theorem op_sub_ib : OpR X (binaryOp .Sub) (fun x y H Q => ∃ i b, x = .int i ∧ y = .bl b ∧ Q (.int (i - if b = true then (1 : Int) else 0)) H) := by
  intro pins s σ H x y v u Q I rx ry h
  obtain ⟨i, b, rfl, rfl, q⟩ := h
  obtain ⟨t, rfl⟩ := rx
  cases ry
  exact IntBool.sub_int_bool ⟨.int _, H, I.tok _, ⟨_, rfl⟩, q⟩
theorem call_str1 : CallR X (.type "str") (fun xs H Q => (∃ i : Int, xs = [.int i] ∧ i.natAbs.log2 < 1920 ∧ Q (.str (toString i)) H) ∨ ∃ b, xs = [.bl b] ∧ Q (.str (if b then "True" else "False")) H) := by
  intro pins s σ H xs us Q I r h
  rcases h with ⟨i, rfl, hz, q⟩ | ⟨b, rfl, q⟩
  · obtain ⟨u, rfl, t, rfl⟩ := vals1 r
    exact PySem.P.str_of_int hz ⟨.str _, H, I.tok _, ⟨_, rfl⟩, q⟩
  · obtain ⟨u, rfl, r1⟩ := vals1 r
    cases r1
    exact PySem.P.str_of_bool ⟨.str _, H, I.tok _, ⟨_, rfl⟩, q⟩
def tRevV (K : PySem.W.Frag) (te : TE) : TE := fun σ H Q => te σ H fun x H1 => ∃ a xs, x = .ref a ∧ ((SqL K H1 a xs ∧ ∀ p, H1 p = none → Q (.ref p) (upd H1 p (.lst xs.reverse))) ∨ (SqT K H1 a xs ∧ ∀ p, H1 p = none → Q (.ref p) (upd H1 p (.tup xs.reverse))))
theorem pe_revV {e : Expr} {te : TE} {k : Nat} {p1 p2 p3 pos : Pos} (he : PE X e te) : PE X (.Subscript e (.Slice none none (some (.UnaryOp .USub (.Constant (.int 1) k p1) p2)) p3) pos) (tRevV X.K te) := by
  refine ⟨fun pins s σ H Q I h => ?_⟩
  refine Subscript_ (thn (he.run pins s σ H _ I h) fun v s1 ⟨x, H1, I1, r1, q1⟩ => ?_)
  obtain ⟨a, xs, ex, hq⟩ := q1
  subst ex
  cases r1
  have hst : PO X (some (.UnaryOp .USub (.Constant (.int 1) k p1) p2)) (tPart (tUn (rU fun i => .int (-i)) (tC (.int 1)))) := po_some (pe_un un_neg pe_int)
  refine wpAny_Slice (thn (po_none.run pins s1 σ H1 (fun o H2 => o = none ∧ H2 = H1) I1 ⟨rfl, rfl⟩) fun vl s2 ⟨l, H2, I2, pl, el, e2⟩ => ?_)
  subst el e2
  refine thn (po_none.run pins s2 σ H2 (fun o H3 => o = none ∧ H3 = H2) I2 ⟨rfl, rfl⟩) fun vu s3 ⟨u, H3, I3, pu, eu, e3⟩ => ?_
  subst eu e3
  refine thn (hst.run pins s3 σ H3 (fun o H4 => o = some (-1) ∧ H4 = H3) I3 ⟨1, rfl, -1, rfl, rfl, rfl⟩) fun vs s4 ⟨o, H4, I4, ps, eo, e4⟩ => ?_
  subst eo e4
  have I5 : Inv X pins σ H4 { s4 with heap := s4.heap.push { cls := .type "slice", data := .fields #[vl, vu, vs] } } := I4.kept (t' := s4.toks) fun b ob q => Heap.get?_push_of_some _ q
  show wpAny (model X.prog X.w) X.A (subscriptTail e (.Slice none none (some (.UnaryOp .USub (.Constant (.int 1) k p1) p2)) p3) (.ref a) (.ref s4.heap.objs.size)) (EP X pins σ Q) X.xe { s4 with heap := s4.heap.push { cls := .type "slice", data := .fields #[vl, vu, vs] } }
  rcases hq with ⟨hx, q⟩ | ⟨hx, q⟩
  · obtain ⟨its, r, ht, hz⟩ := I5.list hx
    have hlen := r.length
    refine tail_any (ops := [.ref a, .ref s4.heap.objs.size]) ht.isList.typeIs (PySem.slot_list_getitem.lookup) ?_ (by with_unfolding_all rfl)
    refine wpAny_getItem_list_slice ht.isList (Heap.IsSliceOf.new _ vl vu vs) pl pu ps (by decide) ?_ (by rw [List.size_toArray]; omega)
    rw [PySem.W.krv_pick]
    refine ⟨.ref _, _, I5.laid (t' := s4.toks) (o := .lst xs.reverse) (fun b ob q => Heap.get?_push_of_some _ q) (Nat.le_refl _) ?_, rfl, q _ (I5.hok.fresh (Nat.le_refl _))⟩
    exact ⟨by rw [List.length_reverse]; exact hz, _, 0, r.reverse, Heap.get?_push_size _ rfl⟩
  · obtain ⟨its, r, ht, hz⟩ := I5.tuple hx
    have hlen : its.toArray.size = xs.length := by rw [List.size_toArray]; exact r.length.symm
    refine tail_any (ops := [.ref a, .ref s4.heap.objs.size]) ht.typeIs (PyProof.Rows.slot_tuple_getitem.lookup) ?_ (by with_unfolding_all rfl)
    refine HT.ns_revT ht (Heap.IsSliceOf.new _ vl vu vs) pl pu ps ?_ (by rw [hlen]; exact hz)
    refine ⟨.ref _, _, I5.laid (t' := s4.toks) (o := .tup xs.reverse) (fun b ob q => Heap.get?_push_of_some _ q) (Nat.le_refl _) ?_, rfl, q _ (I5.hok.fresh (Nat.le_refl _))⟩
    exact ⟨by rw [List.length_reverse]; exact hz, _, r.reverse, IsTup.new _ _⟩
end
theorem bounds_runC {a c n : Nat} (hac : a ≤ c) (ha : a ≤ n) : sliceBounds (some (a : Int)) (some (c : Int)) none n = ((a : Int), ((min c n : Nat) : Int), 1) := by
  simp only [sliceBounds, Option.getD_none]
  have h1 : ¬ ((a : Int) < 0) := by omega
  have h2 : ¬ ((c : Int) < 0) := by omega
  simp only [h1, h2, if_false, show (1 : Int) > 0 by decide, if_true]
  congr 1
  · omega
  · congr 1; omega
section
variable {prog : Program} {w : World} {A : Around} {E : Value → Shared → Prop} {s : Shared}
set_option maxRecDepth 100000 in
theorem setItem_sliceC {l b sl : Addr} {items new : Array Value} {n n2 : Nat} {vl vu : Value} {a c : Nat} {Q : Unit → Shared → Prop}
    (e : s.heap.get? l = some { cls := .type "list", data := .seq items n }) (e2 : s.heap.get? b = some { cls := .type "list", data := .seq new n2 }) (hne : l ≠ b)
    (hs : s.heap.IsSliceOf sl vl vu .none) (pl : IsPart vl (some (a : Int))) (pu : IsPart vu (some (c : Int))) (hac : a ≤ c) (ha : a ≤ items.size)
    (hsz : items.size + new.size ≤ sizeLine) (h : Q () { s with heap := s.heap.update l (Obj.mapSeq fun xs => xs.extract 0 a ++ new ++ xs.extract (min c items.size) xs.size) }) :
    wpAny (model prog w) A (setItem (.ref l) (.ref sl) (.ref b)) Q E s := by
  have hl : s.heap.IsList l items := PySem.IsL.isList e
  have hb : s.heap.IsList b new := PySem.IsL.isList e2
  obtain ⟨os, hos, hcs, hds⟩ := id hs
  have hTs : s.TypeIs (.ref sl) "slice" := ⟨os, hos, hcs⟩
  have hstep : ¬ ((rawPart none == rawInt 0) = true) := Bool.false_ne_true
  have hsame : Builtin.List.listSameRef (.ref l) (.ref b) = false := by
    unfold Builtin.List.listSameRef
    exact beq_eq_false_iff_ne.mpr hne
  have hmax : (max (a : Int) ((min c items.size : Nat) : Int)).toNat = min c items.size := by omega
  have hz' : ((fun xs : Array Value => xs.extract 0 a ++ new ++ xs.extract (min c items.size) xs.size) items).size ≤ sizeLine + 1 := by
    simp only [Array.size_append, Array.size_extract]
    omega
  unfold setItem
  try with_reducible refine wpAny_holding ?_
  first | refine wpAny_bind (wpAny_pure ?_) | skip
  refine wpAny_bind (wpAny_sequenceKey hl.typeIs (by decide) ?_)
  refine wpAny_bind (wpAny_callSpecial?_slot (name := Str.ofString "__setitem__") hl.typeIs slot_list_setitem
    (wpAny_call_entry slot_list_setitem hl.typeIs entry_list_setitem ?_ (args_list_setitem _ _ _)))
  show wpAny _ _ (Builtin.List.listSubscript? (.ref sl) >>= _) _ _ s
  refine wpAny_bind ?_
  unfold Builtin.List.listSubscript?
  refine wpAny_bind (wpAny_specialOf hTs slice_no_index ?_)
  simp only [Option.isNone_none, if_true]
  refine wpAny_pure ?_
  show wpAny _ _ (typeOf (.ref sl) >>= _) _ _ s
  refine wpAny_bind (wpAny_typeOf hTs ?_)
  first
    | rw [if_neg (by decide)]
    | refine PySem.W.KFB.if_not (by decide) ?_
  rw [listSliceParts_eq]
  refine wpAny_bind (wpAny_bind (wpAny_field hos hds (x := .none) rfl (wpAny_bind (wpAny_listPart .none ?_))))
  rw [if_neg hstep]
  refine wpAny_bind (wpAny_field hos hds (x := vl) rfl (wpAny_bind (wpAny_listPart pl ?_)))
  refine wpAny_bind (wpAny_field hos hds (x := vu) rfl (wpAny_bind (wpAny_listPart pu (wpAny_pure ?_))))
  first
    | simp only [hsame, Bool.false_eq_true, if_false]
    | refine PySem.W.KFB.if_not hsame ?_
    | (dsimp only
       rw [if_neg (by rw [hsame]; exact Bool.false_ne_true)])
  refine wpAny_bind (m := Builtin.List.listAllItems (.ref b) "must assign iterable to extended slice") ?_
  unfold Builtin.List.listAllItems
  refine wpAny_bind (wpAny_typeOf hb.typeIs ?_)
  first
    | refine PySem.W.KFB.if_so (by decide) ?_
    | rw [if_pos (by decide)]
    | simp only [beq_self_eq_true, Bool.true_or, if_true]
  unfold Builtin.List.listItems
  refine wpAny_bind (wpAny_seqItems e2 rfl (wpAny_pure ?_))
  refine wpAny_bind (wpAny_bind (wpAny_seqItems e rfl (wpAny_pure ?_)))
  refine wpAny_bind (wpAny_of_eq ((sliceIndices_raw (some (a : Int)) (some (c : Int)) none items.size (by simp)).trans (congrArg (pure : Int × Int × Int → Sem (Int × Int × Int)) (bounds_runC hac ha))) ?_)
  show wpAny _ _ (if ((1 : Int) == 1) = true then _ else _) _ _ s
  rw [if_pos (by decide)]
  refine wpAny_bind (wpAny_rule ?_)
  first
    | simp only [notLongL hsz, Bool.false_eq_true, if_false]
    | refine PySem.W.KFB.if_not (notLongL hsz) ?_
  first | refine wpAny_bind (wpAny_pure ?_) | skip
  show wpAny _ _ (updateSeq l (fun xs => xs.extract 0 ((a : Int)).toNat ++ new ++ xs.extract (max (a : Int) ((min c items.size : Nat) : Int)).toNat xs.size) >>= _) _ _ s
  rw [hmax, Int.toNat_natCast]
  refine wpAny_bind (wpAny_updateSeq (hz := Nat.le_trans (Nat.le_add_right _ _) hsz) (_hz' := hz') e rfl ?_)
  refine wpAny_bind (wpAny_letGo ?_)
  first
    | exact wpAny_bind (wpAny_pure (wpAny_pure ⟨.none, rfl, wpAny_pure h⟩))
    | exact wpAny_pure ⟨.none, rfl, wpAny_pure h⟩
end
section
variable {X : Cx}
theorem set_sliceC {pins : List (Addr × Obj)} {s : Shared} {σ : St} {H : Hp} {l b sl : Addr} {xs ys : List V} {a c : Int} {vl vu : Value} {Q : Unit → Shared → Prop} (I : Inv X pins σ H s)
    (hH : H l = some (.lst xs)) (hB : H b = some (.lst ys)) (hne : l ≠ b) (hs : s.heap.IsSliceOf sl vl vu .none) (pl : IsPart vl (some a)) (pu : IsPart vu (some c)) (h0 : 0 ≤ a) (hac : a ≤ c) (ha : a ≤ xs.length)
    (hz : xs.length + ys.length ≤ sizeLine) (h : ∀ s', Inv X pins σ (upd H l (.lst (xs.take a.toNat ++ ys ++ xs.drop (min c.toNat xs.length)))) s' → Q () s') :
    wpAny (model X.prog X.w) X.A (setItem (.ref l) (.ref sl) (.ref b)) Q X.xe s := by
  obtain ⟨z, its, n, r, hl, e⟩ := I.lstM hH
  obtain ⟨z2, its2, n2, r2, hl2, e2⟩ := I.lstM hB
  obtain ⟨a', rfl⟩ := Int.eq_ofNat_of_zero_le h0
  obtain ⟨c', rfl⟩ := Int.eq_ofNat_of_zero_le (Int.le_trans h0 hac)
  simp only [Int.toNat_natCast] at h
  refine setItem_sliceC (a := a') (c := c') e e2 hne hs pl pu (by omega) (by rw [List.size_toArray]; omega) (by rw [List.size_toArray, List.size_toArray]; omega) (h _ ?_)
  refine I.lset (its' := its.take a' ++ its2 ++ its.drop (min c' xs.length)) (t' := s.toks) hH e ?_ (Vals.append (Vals.append (r.take _) r2) (r.drop _)) ?_
  · rw [← splice_eq its its2 a' (min c' xs.length), List.size_toArray, hl]
  · rw [List.length_append, List.length_append, List.length_take, List.length_drop]
    omega
def gSetSl (to : TE) (tl th : TO) (t : V → Option Int → Option Int → V → Hp → (Hp → Prop) → Prop) : TG := fun v σ H Q => to σ H fun o H1 => tl σ H1 fun l H2 => th σ H2 fun u H3 => t o l u v H3 fun H4 => Q σ H4
def rSetSl (o : V) (lo hi : Option Int) (v : V) (H : Hp) (Q : Hp → Prop) : Prop := ∃ l b xs ys a c, o = .ref l ∧ v = .ref b ∧ lo = some a ∧ hi = some c ∧ H l = some (.lst xs) ∧ H b = some (.lst ys) ∧ l ≠ b ∧ 0 ≤ a ∧ a ≤ c ∧ a ≤ xs.length ∧ xs.length + ys.length ≤ sizeLine ∧
  Q (upd H l (.lst (xs.take a.toNat ++ ys ++ xs.drop (min c.toNat xs.length))))
theorem pg_setSl {o : Expr} {lo hi : Option Expr} {p2 pos : Pos} {to : TE} {tl th : TO} (ho : PE X o to) (hl : PO X lo tl) (hu : PO X hi th)
    (ha : ∀ v, assign (.Subscript o (.Slice lo hi none p2) pos) X.env v = (do
      let ov ← holding [v] (eval o X.env)
      let iv ← holding [v, ov] (eval (.Slice lo hi none p2) X.env)
      standAt pos
      holding [v, ov, iv] (setItem ov iv v)
      release [iv, v, ov] []) := by intro _; rfl) : PG X (.Subscript o (.Slice lo hi none p2) pos) (gSetSl to tl th rSetSl) := by
  refine ⟨fun pins s σ H v u Q I r h => ?_⟩
  rw [ha]
  refine wpAny_bind (wpAny_holding (thn (ho.run pins s σ H _ I h) fun ov s1 ⟨x, H1, I1, r1, q1⟩ => ?_))
  refine wpAny_bind (wpAny_holding (wpAny_Slice (thn (hl.run pins s1 σ H1 _ I1 q1) fun vl s2 ⟨l, H2, I2, pl, q2⟩ => thn (hu.run pins s2 σ H2 _ I2 q2) fun vu s3 ⟨w, H3, I3, pu, q3⟩ => ?_)))
  rw [evalPart_none]
  refine wpAny_pure ?_
  have I4 : Inv X pins σ H3 { s3 with heap := s3.heap.push { cls := .type "slice", data := .fields #[vl, vu, .none] } } := I3.kept (t' := s3.toks) fun b ob q => Heap.get?_push_of_some _ q
  obtain ⟨lp, b, xs, ys, a, c, rfl, rfl, rfl, rfl, e1, e2, ne, h0, h1, h2, hz, q4⟩ := q3
  cases r1
  cases r
  refine wpAny_bind (wpAny_standAt (wpAny_bind (wpAny_holding (set_sliceC I4 e1 e2 ne (Heap.IsSliceOf.new ..) pl pu h0 h1 h2 hz fun s' I5 => ?_))))
  exact wpAny_release ⟨σ, _, I5, q4⟩
end
end L2

namespace NS
open PySem PySem.Spec PyProof.Rows L2
section
variable {X : Cx} {E : XK} {m : Bool} {e0 : En} {pos : Pos} {e : Expr} {fe : DS → M D}
def bN (b : Bool) : Int := if b = true then 1 else 0
def kAddV : D → D → M D
  | .int i, .int j => M.pure (.int (i + j))
  | .bl b, .int j => M.pure (.int (bN b + j))
  | _, _ => M.bad
theorem op_addV : OpD X E (binaryOp .Add) false kAddV := OpR.imp (OpR.or op_add op_add_bi) fun x y H Q ⟨A, S, g, dx, dy, o, r1, r2, q⟩ => by
  cases r1 with
  | int i =>
    cases r2 with
    | int j => exact .inl ⟨_, _, rfl, rfl, KE.val q o (.int _)⟩
    | _ => exact q.elim
  | bl b =>
    cases r2 with
    | int j => exact .inr ⟨_, _, rfl, rfl, KE.val q o (.int _)⟩
    | _ => exact q.elim
  | _ => cases r2 <;> exact q.elim
def kSubV : D → D → M D
  | .int i, .int j => M.pure (.int (i - j))
  | .bl b, .int j => M.pure (.int (bN b - j))
  | .int i, .bl b => M.pure (.int (i - bN b))
  | _, _ => M.bad
theorem op_subV : OpD X E (binaryOp .Sub) false kSubV := OpR.imp (OpR.or op_sub (OpR.or op_sub_bi op_sub_ib)) fun x y H Q ⟨A, S, g, dx, dy, o, r1, r2, q⟩ => by
  cases r1 with
  | int i =>
    cases r2 with
    | int j => exact .inl ⟨_, _, rfl, rfl, KE.val q o (.int _)⟩
    | bl b => exact .inr (.inr ⟨_, _, rfl, rfl, KE.val q o (.int _)⟩)
    | _ => exact q.elim
  | bl b =>
    cases r2 with
    | int j => exact .inr (.inl ⟨_, _, rfl, rfl, KE.val q o (.int _)⟩)
    | _ => exact q.elim
  | _ => cases r2 <;> exact q.elim
def kStr : List D → M D
  | [.int i] => if i.natAbs < 1000000000000000000000000000000 then M.pure (.str (toString i)) else M.bad
  | [.bl b] => M.pure (.str (if b then "True" else "False"))
  | _ => M.bad
theorem log_small {n : Nat} (h : n < 1000000000000000000000000000000) : n.log2 < 1920 := by
  by_cases e : n = 0
  · subst e; decide
  · exact (Nat.log2_lt e).mpr (Nat.lt_trans h (by decide +kernel))
theorem cl_str : CallD X E (.type "str") false kStr := CallR.imp call_str1 fun xs H Q ⟨A, S, g, ds, o, r, q⟩ => by
  unfold kStr at q
  split at q
  · obtain ⟨v, rfl, h⟩ := rep1 r
    cases h with
    | int i =>
      split at q
      · next hi => exact .inl ⟨_, rfl, log_small hi, KE.val q o (.str _)⟩
      · exact q.elim
  · obtain ⟨v, rfl, h⟩ := rep1 r
    cases h with
    | bl b => exact .inr ⟨_, rfl, KE.val q o (.str _)⟩
  · exact q.elim
def kRevV : D → M D
  | .lst xs => M.pure (.lst xs.reverse)
  | .tup xs => M.pure (.tup xs.reverse)
  | _ => M.bad
def eRevV (fe : DS → M D) : DS → M D := fun σ => M.bind (fe σ) kRevV
theorem de_revV {k : Nat} {p1 p2 p3 : Pos} (he : DE X E false e fe) : DE X E false (.Subscript e (.Slice none none (some (.UnaryOp .USub (.Constant (.int 1) k p1) p2)) p3) pos) (eRevV fe) :=
  PE.impD (pe_revV he) fun σ H Q ⟨A, S, g, σd, o, r, q⟩ => ⟨A, S, g, σd, o, r, (KE.bindE q).imp fun v H1 ⟨A1, S1, g1, d, p1, o1, r1, q1⟩ => by
    unfold kRevV at q1
    split at q1
    · cases r1 with
      | @lst a ws _ h rr => exact ⟨a, ws, rfl, .inl ⟨.inl (.inl (o1.ext _ _ h)), fun l hl => KE.newL (m := false) q1 o1 rr.reverse hl⟩⟩
    · cases r1 with
      | @tup a ws _ h rr => exact ⟨a, ws, rfl, .inr ⟨tq o1.ext h, fun l hl => KE.newT q1 o1 rr.reverse hl⟩⟩
    · exact q1.elim⟩
def spl (ds es : List D) (a c : Int) : List D := ds.take a.toNat ++ es ++ ds.drop (min c.toNat ds.length)
def sSetSl (j : Nat) (fe fa fc : DS → M D) : DS → M Fl := fun σ => M.bind (fe σ) fun d => match ownL σ[j]? with
  | some ds => M.bind (fa σ) fun a => match a with
    | .int a => M.bind (fc σ) fun c => match d, c with
      | .lst es, .int c => if 0 ≤ a ∧ a ≤ c ∧ a ≤ ds.length ∧ fit (ds.length + es.length) = true then M.pure (.nx (σ.set j (some (.ow (.lst (spl ds es a c)))))) else M.bad
      | _, _ => M.bad
    | _ => M.bad
  | none => M.bad
theorem RepL.tk {K : PySem.W.Frag} {A : List GAdr} {S : Hp} : ∀ {vs : List V} {ds : List D}, RepL K A S vs ds → ∀ n, RepL K A S (vs.take n) (ds.take n)
  | _, _, .nil, 0 => .nil
  | _, _, .nil, _ + 1 => .nil
  | _, _, .cons _ _, 0 => .nil
  | _, _, .cons h r, n + 1 => .cons h (RepL.tk r n)
theorem RepL.dr {K : PySem.W.Frag} {A : List GAdr} {S : Hp} : ∀ {vs : List V} {ds : List D}, RepL K A S vs ds → ∀ n, RepL K A S (vs.drop n) (ds.drop n)
  | _, _, .nil, 0 => .nil
  | _, _, .nil, _ + 1 => .nil
  | _, _, .cons h r, 0 => .cons h r
  | _, _, .cons _ r, n + 1 => RepL.dr r n
theorem RepL.spl {K : PySem.W.Frag} {A : List GAdr} {S : Hp} {vs ws : List V} {ds es : List D} (r1 : RepL K A S vs ds) (r2 : RepL K A S ws es) (a c : Int) : RepL K A S (vs.take a.toNat ++ ws ++ vs.drop (min c.toNat vs.length)) (NS.spl ds es a c) := by
  unfold NS.spl
  rw [r1.length]
  exact ((RepL.tk r1 _).append r2).append (RepL.dr r1 _)
variable {ea ec : Expr} {fa fc : DS → M D}
theorem ds_setSl (j : Nat) {x : Str} {px tpos ps : Pos} (he : DE X E false e fe) (hi : DE X E false ea fa) (hc : DE X E false ec fc) (hN : X.N[j]? = some x := by rfl) (hv : Vis X.env.scope x := by first | exact Or.inl rfl | exact Or.inr (Or.inl rfl) | exact Or.inr (Or.inr rfl)) (hd : (x == ("__debug__" : Str)) = false := by decide)
    (hcd : (x == ("__classdict__" : Str)) = false := by decide)
    (ha : ∀ v, assign (.Subscript (.Name x px) (.Slice (some ea) (some ec) none ps) tpos) X.env v = (do
      let ov ← holding [v] (eval (.Name x px) X.env)
      let iv ← holding [v, ov] (eval (.Slice (some ea) (some ec) none ps) X.env)
      standAt tpos
      holding [v, ov, iv] (setItem ov iv v)
      release [iv, v, ov] []) := by intro _; rfl)
    (hs : swapsWithSole [.Subscript (.Name x px) (.Slice (some ea) (some ec) none ps) tpos] e pos.line X.env = pure false := by rfl) (hw : swappedStores [.Subscript (.Name x px) (.Slice (some ea) (some ec) none ps) tpos] e X.env = pure none := by rfl)
    (h1 : (assignEach [.Subscript (.Name x px) (.Slice (some ea) (some ec) none ps) tpos] X.env).map (·.2) = [assign (.Subscript (.Name x px) (.Slice (some ea) (some ec) none ps) tpos) X.env] := by rfl) :
    DS1 X E m e0 (.Assign [.Subscript (.Name x px) (.Slice (some ea) (some ec) none ps) tpos] e pos) (sSetSl j fe fa fc) :=
  PS.impD (ps_asg he (pg_setSl (pe_var hN hv hd hcd) (po_some hi) (po_some hc) ha) hs hw h1) fun Z σ H ⟨A, S, g, σd, s, q⟩ => ⟨A, S, g, σd, s.ok, s.rep, (KS.bindE (m1 := false) s.post q).imp fun v H1 ⟨A1, S1, g1, d, p1, o1, r1, q1⟩ => by
    have s1 := s.post' p1 o1
    cases eo : ownL σd[j]? with
    | none => rw [eo] at q1; exact q1.elim
    | some ds =>
      rw [eo] at q1
      have e1 := ownL_eq eo
      obtain ⟨p, e2, h1, h2, vs, h3, h4⟩ := s1.rep.ow e1
      refine ⟨.ref p, e2, A1, S1, g1, σd, o1, s1.rep, (KS.bindE (m1 := false) s1.post q1).imp fun w H2 ⟨A2, S2, g2, d2, p2, o2, r2, q2⟩ => ?_⟩
      have s2 := s1.post' p2 o2
      cases r2 with
      | int a =>
        refine ⟨a, rfl, A2, S2, g2, σd, o2, s2.rep, (KS.bindE (m1 := false) s2.post q2).imp fun u H3 ⟨A3, S3, g3, d3, p3, o3, r3, q3⟩ => ?_⟩
        have s3 := s2.post' p3 o3
        have p13 := p2.trans p3
        have k1 : H3 p = some (.lst vs) := p13.keep p _ h3 h2
        have rr : RepL X.K A3 S3 vs ds := h4.mono p13.a p13.s
        have rv : Rep X.K A3 S3 v d := Rep.mono p13.a p13.s r1
        cases r3 with
        | int c =>
          cases rv with
          | @lst b ws es hb re =>
            have q3' : KS (Cx.sur X E) m e0 A3 S3 ((if 0 ≤ a ∧ a ≤ c ∧ a ≤ ds.length ∧ fit (ds.length + es.length) = true then M.pure (.nx (σd.set j (some (.ow (.lst (NS.spl ds es a c)))))) else M.bad : M Fl) g3) Z := q3
            by_cases hcnd : 0 ≤ a ∧ a ≤ c ∧ a ≤ ds.length ∧ fit (ds.length + es.length) = true
            · rw [if_pos hcnd] at q3'
              obtain ⟨c0, c1, c2, c3⟩ := hcnd
              obtain ⟨p', e2', h1', _⟩ := s3.rep.ow e1
              rw [e2] at e2'; cases e2'
              refine ⟨c, rfl, p, b, vs, ws, a, c, rfl, rfl, rfl, rfl, k1, o3.ext _ _ hb, ?_, c0, c1, by rw [rr.length]; exact c2, by rw [rr.length, re.length]; exact Nat.le_of_lt (fit_le c3), ?_⟩
              · rintro rfl; rw [h1'] at hb; cases hb
              · exact q3' A3 S3 _ σ (List.prefix_refl _) (Same.refl _) (s3.write e1 e2 ⟨_, upd_same, rr.spl re a c⟩)
            · rw [if_neg hcnd] at q3'; exact q3'.elim
          | _ => exact q3.elim
        | _ => exact (by cases d <;> exact q3.elim)
      | _ => exact q2.elim⟩
def eSlO (j : Nat) (fl fh : FO) : DS → M D := fun σ => match ownL σ[j]? with
  | some ds => M.bind (fl σ) fun l => M.bind (fh σ) fun h => M.pure (.lst (cutD ds l h))
  | none => M.bad
variable {lo hi : Option Expr} {fl fh : FO} {p2 px : Pos}
theorem de_slO (j : Nat) {x : Str} (hl : DO X E lo fl) (hh : DO X E hi fh) (hN : X.N[j]? = some x := by rfl) (hv : Vis X.env.scope x := by first | exact Or.inl rfl | exact Or.inr (Or.inl rfl) | exact Or.inr (Or.inr rfl)) (hd : (x == ("__debug__" : Str)) = false := by decide)
    (hcd : (x == ("__classdict__" : Str)) = false := by decide) : DE X E false (.Subscript (.Name x px) (.Slice lo hi none p2) pos) (eSlO j fl fh) :=
  PE.impD (pe_slice sl_list (pe_var hN hv hd hcd) hl hh) fun σ H Q ⟨A, S, g, σd, o, r, q⟩ => by
    unfold eSlO at q
    cases eo : ownL σd[j]? with
    | none => rw [eo] at q; exact q.elim
    | some ds =>
      rw [eo] at q
      have e1 := ownL_eq eo
      obtain ⟨p, e2, h1, h2, vs, h3, h4⟩ := r.ow e1
      refine ⟨.ref p, e2, A, S, g, σd, o, r, (KE.bindO q).imp fun l H2 ⟨A2, S2, g2, p2, o2, q2⟩ => ?_⟩
      refine ⟨A2, S2, g2, σd, o2, r.post p2, (KE.bindO q2).imp fun l2 H3 ⟨A3, S3, g3, p3, o3, q3⟩ => ?_⟩
      have p13 := p2.trans p3
      have hk := p13.keep p _ h3 h2
      exact ⟨p, vs, rfl, .inl (.inl hk), fun q0 hq => KE.newL (m := false) q3 o3 ((h4.mono p13.a p13.s).cut l l2) hq⟩
end
end NS
set_option maxHeartbeats 4000000
namespace NS
open PySem PySem.Spec PyProof.Rows L2
mutual
def D.nod : D → Nat
  | .tup xs => 1 + D.nods xs
  | .lst xs => 1 + D.nods xs
  | .non => 1 | .bl _ => 1 | .int _ => 1 | .str _ => 1 | .hdl _ => 1 | .slst _ => 1 | .dT _ => 1 | .dK _ => 1 | .ftup _ => 1 | .fT _ => 1 | .exc0 _ => 1 | .exc1 _ _ _ => 1
def D.nods : List D → Nat
  | [] => 0
  | x :: xs => D.nod x + D.nods xs
end
mutual
def D.pla : D → Bool
  | .non => true | .bl _ => true | .int _ => true | .str _ => true
  | .tup xs => D.plas xs
  | .lst xs => D.plas xs
  | .hdl _ => false | .slst _ => false | .dT _ => false | .dK _ => false | .ftup _ => false | .fT _ => false | .exc0 _ => false | .exc1 _ _ _ => false
def D.plas : List D → Bool
  | [] => true
  | x :: xs => D.pla x && D.plas xs
end
section
variable {K : PySem.W.Frag} {A : List GAdr} {S S' H H' : Hp} {g : G} {σd : DS} {σ : L2.St}
mutual
theorem Rep.nod_eq : ∀ {v : V} {d d' : D}, Rep K A S v d → Rep K A S v d' → D.pla d = true → D.pla d' = true → D.nod d = D.nod d'
  | _, _, _, .tup h r, r', q, q' => by
    cases r' with
    | tup h' r2 =>
      rw [h] at h'; cases h'
      have := RepL.nod_eq r r2 q q'
      show 1 + _ = 1 + _
      rw [this]
    | lst h' _ => rw [h] at h'; cases h'
    | _ => cases q'
  | _, _, _, .lst h r, r', q, q' => by
    cases r' with
    | lst h' r2 =>
      rw [h] at h'; cases h'
      have := RepL.nod_eq r r2 q q'
      show 1 + _ = 1 + _
      rw [this]
    | tup h' _ => rw [h] at h'; cases h'
    | _ => cases q'
  | _, _, _, .non, r', _, q' => by cases r' with
    | non => rfl
    | _ => cases q'
  | _, _, _, .bl b, r', _, q' => by cases r' with
    | bl => rfl
    | _ => cases q'
  | _, _, _, .int b, r', _, q' => by cases r' with
    | int => rfl
    | _ => cases q'
  | _, _, _, .str b, r', _, q' => by cases r' with
    | str => rfl
    | _ => cases q'
  | _, _, _, .hdl _, _, q, _ => nomatch q
  | _, _, _, .slst _ _, _, q, _ => nomatch q
  | _, _, _, .dT _ _, _, q, _ => nomatch q
  | _, _, _, .dK _ _, _, q, _ => nomatch q
  | _, _, _, .ftup _ _, _, q, _ => nomatch q
  | _, _, _, .fT _ _, _, q, _ => nomatch q
  | _, _, _, .exc0 _ _, _, q, _ => nomatch q
  | _, _, _, .exc1 _ _ _ _, _, q, _ => nomatch q
theorem RepL.nod_eq : ∀ {vs : List V} {ds ds' : List D}, RepL K A S vs ds → RepL K A S vs ds' → D.plas ds = true → D.plas ds' = true → D.nods ds = D.nods ds'
  | _, _, _, .nil, .nil, _, _ => rfl
  | _, _, _, .cons h r, .cons h' r', q, q' => by
    have a := Rep.nod_eq h h' (Bool.and_eq_true_iff.mp q).1 (Bool.and_eq_true_iff.mp q').1
    have b := RepL.nod_eq r r' (Bool.and_eq_true_iff.mp q).2 (Bool.and_eq_true_iff.mp q').2
    show _ + _ = _ + _
    rw [a, b]
end
mutual
theorem Rep.delS {p : Addr} {vs0 : List V} {ds0 : List D} (hp : S p = Option.some (.lst vs0)) (hr : RepL K A S vs0 ds0) (h0 : D.plas ds0 = true) : ∀ {v : V} {d : D}, Rep K A S v d → D.pla d = true → D.nod d < 1 + D.nods ds0 → Rep K A (delH S p) v d
  | _, _, .non, _, _ => .non
  | _, _, .bl b, _, _ => .bl b
  | _, _, .int i, _, _ => .int i
  | _, _, .str x, _, _ => .str x
  | _, _, .tup (a := a) (ds := xs) h r, q, l => .tup (by
      rw [delH_ne]; exact h; rintro rfl; rw [h] at hp; cases hp) (RepL.delS hp hr h0 r q (by
        have : 1 + D.nods xs < 1 + D.nods ds0 := l
        omega))
  | _, _, .lst (a := a) (ds := xs) h r, q, l => .lst (by
      rw [delH_ne]; exact h
      rintro rfl
      rw [h] at hp; cases hp
      have e := RepL.nod_eq r hr q h0
      have : 1 + D.nods xs < 1 + D.nods ds0 := l
      omega) (RepL.delS hp hr h0 r q (by
        have : 1 + D.nods xs < 1 + D.nods ds0 := l
        omega))
  | _, _, .hdl _, q, _ => nomatch q
  | _, _, .slst _ _, q, _ => nomatch q
  | _, _, .dT _ _, q, _ => nomatch q
  | _, _, .dK _ _, q, _ => nomatch q
  | _, _, .ftup _ _, q, _ => nomatch q
  | _, _, .fT _ _, q, _ => nomatch q
  | _, _, .exc0 _ _, q, _ => nomatch q
  | _, _, .exc1 _ _ _ _, q, _ => nomatch q
theorem RepL.delS {p : Addr} {vs0 : List V} {ds0 : List D} (hp : S p = Option.some (.lst vs0)) (hr : RepL K A S vs0 ds0) (h0 : D.plas ds0 = true) : ∀ {vs : List V} {ds : List D}, RepL K A S vs ds → D.plas ds = true → D.nods ds < 1 + D.nods ds0 → RepL K A (delH S p) vs ds
  | _, _, .nil, _, _ => .nil
  | _, _, .cons (d := d) (ds := ds) h r, q, l => .cons (Rep.delS hp hr h0 h (Bool.and_eq_true_iff.mp q).1 (by
      have : D.nod d + D.nods ds < 1 + D.nods ds0 := l
      omega)) (RepL.delS hp hr h0 r (Bool.and_eq_true_iff.mp q).2 (by
      have : D.nod d + D.nods ds < 1 + D.nods ds0 := l
      omega))
end
end
def borSok (ds0 : List D) (d : D) (g' : G) : Bool := D.pla d && D.plas ds0 && decide (D.nod d < 1 + D.nods ds0) && Gpur g'
def eBorS (i : Nat) (f : DS → M D) : DS → M D := fun σ => fun g => match ownL σ[i]? with
  | some ds0 => match f (frz1 i σ) g with
    | .ok d g' => if borSok ds0 d g' = true then .ok d g' else .bad
    | .err _ _ => .bad
    | .bad => .bad
  | none => .bad
section
variable {X : Cx} {E : XK} {e : Expr} {fe : DS → M D} {m : Bool}
theorem de_borS (i : Nat) (he : DE X E false e fe) : DE X E false e (eBorS i fe) := PE.impD he fun σ H Q ⟨A, S, g, σd, o, r, q⟩ => by
  unfold eBorS at q
  cases eo : ownL σd[i]? with
  | none => rw [eo] at q; exact q.elim
  | some ds0 =>
    rw [eo] at q
    have ew := ownL_eq eo
    rcases frz1_ok o r i with h | ⟨p, d0, u, e1, e2, h1, h2, hu, tp, ef, o2, r2⟩
    · unfold frz1 at h
      rw [ew] at h
      have hl := (List.getElem?_eq_some_iff.mp ew).1
      have : σd[i]? = some (some (.sh (.lst ds0))) := by rw [← h]; simp [hl]
      rw [ew] at this; cases this
    · rw [ew] at e1; cases e1
      refine ⟨A, upd S p u, g, frz1 i σd, o2, r2, ?_⟩
      cases e1 : fe (frz1 i σd) g with
      | err x g' => rw [e1] at q; exact q.elim
      | bad => rw [e1] at q; exact q.elim
      | ok d g' =>
        rw [e1] at q
        have q : KE (Cx.sur X E) false A S H (if borSok ds0 d g' = true then .ok d g' else .bad) Q := q
        by_cases c : borSok ds0 d g' = true
        · rw [if_pos c] at q
          unfold borSok at c
          simp only [Bool.and_eq_true, decide_eq_true_eq] at c
          obtain ⟨⟨⟨c1, c2⟩, c3⟩, c4⟩ := c
          intro A' S' H' v P o' rv
          have nt : NoTup S' p := tp.notup fun w hw => P.s p w (by rw [upd_same]; rw [hu] at hw; exact hw)
          obtain ⟨vs, hv, rl⟩ := tp
          rw [hu] at hv; cases hv
          have sm : Same S (upd S p (.lst vs)) := fun b x e => by rw [upd_ne (ne_of_none e h1)]; exact e
          have hp' : S' p = some (.lst vs) := P.s p _ upd_same
          have rl' : RepL X.K A' S' vs ds0 := (rl.mono (List.prefix_refl _) sm).mono P.a P.s
          exact q A' (delH S' p) H' v (Post.thaw (S1 := S) h1 P) (o'.del nt c4) (Rep.delS hp' rl' c2 rv c1 c3)
        · rw [if_neg c] at q; exact q.elim
end
end NS
set_option maxHeartbeats 4000000
namespace NS
open PySem PySem.Spec PyProof.Rows L2
def stoF (b : Bool) : Str := if b = true then "own_states" else "own_journal"
structure StoK (K : PySem.W.Frag) : Prop where
  cls : ∀ C, stoC K C → Cls K C
  no : ∀ C, stoC K C → ∀ b, NoAttr K C (stoF b)
section
variable {K : PySem.W.Frag} {A : List GAdr} {S H : Hp} {g : G}
end
section
variable {X : Cx} {E : XK} {m : Bool} {e0 : En} {pos apos : Pos} {eo ei : Expr} {fo fi : DS → M D}
variable {x : Str} {p : Pos}
end
section
variable {K : PySem.W.Frag} {A : List GAdr} {S H : Hp} {g : G} {e0 : En} {σd : DS} {σ : L2.St}
end
section
variable {X : Cx} {E : XK} {m : Bool} {e0 : En} {pos apos bpos cpos : Pos} {eo e : Expr} {fo fe : DS → M D}
end
end NS
set_option maxHeartbeats 4000000
namespace L2
open PySem PySem.Spec PyProof.Rows
section
variable {X : Cx} {CX : CXT} {k : Nat} {f C : Addr} {fd : FuncData} {ps ks : List Str} {sp : Sp} {E : XK} {x m : Str} {p pos apos : Pos} {e o : Expr} {es : List Expr} {kws : List Keyword} {ta : TE} {t tk : TA}
end
end L2
namespace NS
open PySem PySem.Spec PyProof.Rows L2
structure MHas (P : Program) (w : World) (K : PySem.W.Frag) (mg : Str → Option Value) (base : Heap) (m q : Str) (st : Stmt) (k : Nat) (ps : List Str) (own : Bool) (d : List D → M D) : Prop where
  ex : ∃ C f fd, stoC K C ∧ Cls K C ∧ Meth K C m f ∧ Fun K m q st f fd ∧ FnD P w K mg base (XC P w) k f fd ps own d
structure MAt (K : PySem.W.Frag) (mg : Str → Option Value) (m q : Str) (st : Stmt) : Prop where
  ex : ∃ C f fd, stoC K C ∧ Cls K C ∧ Meth K C m f ∧ Fun K m q st f fd
section
variable {X : Cx} {E : XK} {own : Bool} {pos apos : Pos} {m q : Str} {st : Stmt} {kk : Nat} {ps : List Str} {d : List D → M D} {e o : Expr} {es : List Expr} {fo : DS → M D} {fl : DS → M (List D)}
end
section
variable {P : Program} {w : World} {K : PySem.W.Frag} {mg : Str → Option Value} {base : Heap}
theorem MHas.mk' {m q : Str} {st : Stmt} {N ps : List Str} {k : Nat} {own : Bool} {b : DS → M Fl} (a : MAt K mg m q st) (Sc : FnScope N ps (defScope st))
    (hbody : ∀ (f : Addr) (cdv : Value) (A : Around) (outer : List Env) (s : Shared) (H : Hp) (E : XK) (e0 : En), RoomG k (XOf P w K mg base N q (defScope st) f cdv A outer s H E).A →
      Passes (XC P w) (XOf P w K mg base N q (defScope st) f cdv A outer s H E) E → PassesOwn (model P w) (XOf P w K mg base N q (defScope st) f cdv A outer s H E).A (XOf P w K mg base N q (defScope st) f cdv A outer s H E).env (XOf P w K mg base N q (defScope st) f cdv A outer s H E).xe →
      Takes (XOf P w K mg base N q (defScope st) f cdv A outer s H E) (fun cls d _ H => E cls d H) →
      DSs (XOf P w K mg base N q (defScope st) f cdv A outer s H E) E own e0 (defBody st) b) : MHas P w K mg base m q st (k + 1) ps own (runD N.length own b) := by
  obtain ⟨C, f, fd, h1, h2, h3, F⟩ := a.ex
  refine ⟨C, f, fd, h1, h2, h3, F, ok_def F Sc fun cdv A outer s H E e0 hr hx hp => hbody f cdv A outer s H E e0 hr hx hp (takes_of rfl rfl rfl rfl)⟩
theorem MAt.mk' {m q : Str} {st : Stmt} {C f : Addr} {oc : Value} {od an : Option Addr} {osl : Array (Option Value)} {kV doc pm cdv ct : Value} (a : PySem.W.nsIn K mainGlobals "Store" = some (some (.ref C))) (hc : Cls K C) (hf : PySem.W.findIn K (.ref C) m = some (some (.ref f))) (hi : PySem.W.isFn K (.ref f) = true)
    (l : K.lookup f = some ⟨oc, od, .func (PySem.W.fnOf m q (defArgs st) (defBody st) (defScope st) .none kV doc pm an cdv ct), osl⟩)
    (c : PySem.W.codeIn K cdv q = true) (k : PySem.W.keepIn K (.ref f) = true) : MAt K mg m q st := ⟨C, f, _, a, hc, ⟨hf, hi, k⟩, fun_mk l c k⟩
end
end NS
namespace NS
open PySem
end NS
set_option maxHeartbeats 4000000
namespace L2
open PySem PySem.Spec PyProof.Rows
section
variable {X : Cx}
end
end L2
namespace NS
open PySem PySem.Spec PyProof.Rows L2
section
variable {X : Cx} {E : XK}
end
end NS
set_option maxHeartbeats 4000000
namespace NS
open PySem PySem.Spec PyProof.Rows L2
theorem post_out {A A' : List GAdr} {S S' H H' : Hp} {p : Addr} {o : HO} (P : Post A S H A' S' H') (hs : S p = none) (hg : p ∉ gfp A) (hH : H p = some o) (nt : ∀ xs, o ≠ .tup xs) : S' p = none ∧ p ∉ gfp A' ∧ H' p = some o := by
  refine ⟨?_, fun z => ?_, P.keep p o hH hg⟩
  · cases e : S' p with
    | none => rfl
    | some u =>
      rcases P.snew p u e with z | z | ⟨_, xs, z⟩
      · rw [hs] at z; cases z
      · rw [hH] at z; cases z
      · rw [hH] at z; cases z; exact absurd rfl (nt xs)
  · rcases P.anew p z with z | z
    · exact hg z
    · rw [hH] at z; cases z
structure Raw (K : PySem.W.Frag) (A : List GAdr) (S H0 H : Hp) (x C dx ps pj : Addr) (l : List D) : Prop where
  c : stoC K C
  hx : H x = some (.ins C dx [("own_states", .ref ps), ("own_journal", .ref pj)])
  hd : H dx = some (.own x)
  hs : ∃ vs, H ps = some (.lst vs) ∧ RepL K A S vs l
  hj : H pj = some (.lst [])
  out : ∀ y ∈ [x, dx, ps, pj], S y = none ∧ y ∉ gfp A ∧ H0 y = none
  nd : [x, dx, ps, pj].Nodup
theorem srep2 {K : PySem.W.Frag} {A : List GAdr} {S H : Hp} {x : Addr} {n : Int} : SRep K A S H [some (.ref x), some (.int n)] [none, some (.sh (.int n))] := by
  refine ⟨rfl, fun i y e => ?_, fun i j d e p ne ei ej si sj => ?_⟩
  · match i, e with
    | 1, e => cases e; exact ⟨_, rfl, .int n⟩
    | 0, e => cases e
    | i + 2, e => simp at e
  · match i, ei with
    | 1, ei => cases ei
    | 0, ei => cases ei
    | i + 2, ei => simp at ei
section
variable {K : PySem.W.Frag} {mg : Str → Option Value} {A : List GAdr} {S H1 : Hp} {g g1 : G} {x C dx : Addr} {n : Int} {l : List D} {f1 : DS → M D}
theorem ini_ok (hk : StoK K) (hC : stoC K C) (hx : H1 x = none) (hd : H1 dx = none) (ne : dx ≠ x) (o : Ok K A S H1 g) (ef : f1 [none, some (.sh (.int n))] g = .ok (.lst l) g1) {Z : Ends}
    (hZ : ∀ A' S' H' ps pj σ, Post A S H1 A' S' H' → Ok K A' S' H' g1 → Raw K A' S' H1 H' x C dx ps pj l → Z.nx σ H') :
    tSeq (sFld K (tVar 0) (tE ⟨mg, K, E0⟩ true f1) "own_states") (sFld K (tVar 0) (tE ⟨mg, K, E0⟩ true (eArgs mkL lNil)) "own_journal") Z [some (.ref x), some (.int n)] (upd (upd H1 dx (.own x)) x (.ins C dx [])) := by
  have nA : ∀ {b}, H1 b = none → b ∉ gfp A := fun {b} h z => by obtain ⟨u, hu⟩ := o.there b z; rw [h] at hu; cases hu
  have nS : ∀ {b}, H1 b = none → S b = none := fun {b} h => Same.free o.ext h
  have h2x : upd H1 dx (.own x) x = none := by rw [upd_ne (Ne.symm ne)]; exact hx
  have o3 := (o.layO (o := .own x) hd).layO (o := .ins C dx []) h2x
  have P3 : Post A S H1 A S (upd (upd H1 dx (.own x)) x (.ins C dx [])) := (Post.layO hd).trans (Post.layO h2x)
  refine ⟨A, S, g, _, o3, srep2, ?_⟩
  rw [ef]
  intro A4 S4 H4 v P4 o4 rv
  obtain ⟨p1, rfl, hn1, hs1, hg1, vs1, hv1, rl1⟩ := rv
  have x3 : upd (upd H1 dx (.own x)) x (.ins C dx []) x = some (.ins C dx []) := upd_same
  have d3 : upd (upd H1 dx (.own x)) x (.ins C dx []) dx = some (.own x) := by rw [upd_ne ne, upd_same]
  obtain ⟨xs4, xg4, xh4⟩ := post_out P4 (nS hx) (nA hx) x3 (fun xs z => by cases z)
  obtain ⟨ds4, dg4, dh4⟩ := post_out P4 (nS hd) (nA hd) d3 (fun xs z => by cases z)
  have nx1 : p1 ≠ x := fun z => by rw [z, x3] at hn1; cases hn1
  have nd1 : p1 ≠ dx := fun z => by rw [z, d3] at hn1; cases hn1
  have h1p1 : H1 p1 = none := none_back P3.dom hn1
  refine ⟨.ref x, rfl, x, C, dx, [], rfl, xh4, hk.cls C hC, hk.no C hC true, by simp, ?_⟩
  have e5 : putF "own_states" (V.ref p1) [] = ([("own_states", V.ref p1)] : List (Str × V)) := rfl
  rw [e5]
  have o5 := o4.writeO (o := .ins C dx [("own_states", V.ref p1)]) xs4 xg4
  have P5 : Post A S H1 A4 S4 (upd H4 x (.ins C dx [("own_states", V.ref p1)])) := (P3.trans P4).writeNew hx
  refine ⟨A4, S4, g1, _, o5, srep2, ?_⟩
  show KE ⟨mg, K, E0⟩ true A4 S4 _ (.ok (.lst []) g1) _
  intro A6 S6 H6 v P6 o6 rv
  obtain ⟨p2, rfl, hn2, hs2, hg2, vs2, hv2, rl2⟩ := rv
  cases rl2
  have x5 : upd H4 x (.ins C dx [("own_states", V.ref p1)]) x = some (.ins C dx [("own_states", V.ref p1)]) := upd_same
  have d5 : upd H4 x (.ins C dx [("own_states", V.ref p1)]) dx = some (.own x) := by rw [upd_ne ne]; exact dh4
  have p5 : upd H4 x (.ins C dx [("own_states", V.ref p1)]) p1 = some (.lst vs1) := by rw [upd_ne nx1]; exact hv1
  obtain ⟨xs6, xg6, xh6⟩ := post_out P6 xs4 xg4 x5 (fun xs z => by cases z)
  obtain ⟨ds6, dg6, dh6⟩ := post_out P6 ds4 dg4 d5 (fun xs z => by cases z)
  obtain ⟨ps6, pg6, ph6⟩ := post_out P6 hs1 hg1 p5 (fun xs z => by cases z)
  have nx2 : p2 ≠ x := fun z => by rw [z, x5] at hn2; cases hn2
  have nd2 : p2 ≠ dx := fun z => by rw [z, d5] at hn2; cases hn2
  have np2 : p2 ≠ p1 := fun z => by rw [z, p5] at hn2; cases hn2
  have h1p2 : H1 p2 = none := none_back P5.dom hn2
  refine ⟨.ref x, rfl, x, C, dx, _, rfl, xh6, hk.cls C hC, hk.no C hC false, by simp, ?_⟩
  have e7 : putF "own_journal" (V.ref p2) ([("own_states", V.ref p1)] : List (Str × V)) = ([("own_states", V.ref p1), ("own_journal", V.ref p2)] : List (Str × V)) := by
    unfold putF; rw [if_neg (by decide)]; rfl
  rw [e7]
  refine hZ A6 S6 _ p1 p2 _ ((P5.trans P6).writeNew hx) (o6.writeO xs6 xg6) ⟨hC, upd_same, by rw [upd_ne ne]; exact dh6, ⟨vs1, by rw [upd_ne nx1]; exact ph6, rl1.mono P6.a P6.s⟩, by rw [upd_ne nx2]; exact hv2, ?_, ?_⟩
  · intro y hy
    simp only [List.mem_cons, List.not_mem_nil, or_false] at hy
    rcases hy with rfl | rfl | rfl | rfl
    · exact ⟨xs6, xg6, hx⟩
    · exact ⟨ds6, dg6, hd⟩
    · exact ⟨ps6, pg6, h1p1⟩
    · exact ⟨hs2, hg2, h1p2⟩
  · simp only [List.nodup_cons, List.mem_cons, List.not_mem_nil, or_false, not_or, not_false_eq_true, List.nodup_nil, and_true]
    exact ⟨⟨Ne.symm ne, Ne.symm nx1, Ne.symm nx2⟩, ⟨Ne.symm nd1, Ne.symm nd2⟩, Ne.symm np2⟩
end
def spIni (K : PySem.W.Frag) (f1 : DS → M D) : Sp := fun vs H Q E => vs.length = 2 ∧ ∃ x C dx n H1 A S g l g1, vs = [.ref x, .int n] ∧ H = upd (upd H1 dx (.own x)) x (.ins C dx []) ∧ stoC K C ∧ H1 x = none ∧ H1 dx = none ∧ dx ≠ x ∧ Ok K A S H1 g ∧
  f1 [none, some (.sh (.int n))] g = .ok (.lst l) g1 ∧ ∀ A' S' H' ps pj, Post A S H1 A' S' H' → Ok K A' S' H' g1 → Raw K A' S' H1 H' x C dx ps pj l → Q .non H'
structure StoMk (P : Program) (w : World) (K : PySem.W.Frag) (mg : Str → Option Value) (base : Heap) (f1 : DS → M D) : Prop where
  ex : ∃ C f fd, stoC K C ∧ StoK K ∧ mg "Store" = some (.ref C) ∧ Mk K C f ∧ Binds K fd ["self", "size"] [] ∧ (∀ ws, ∀ s : Shared, ws.length = 1 → K.In s.heap → ∀ v : Value, BindsTo s fd ⟨[v], (["size"] : List Str).zip ws⟩ ((["self", "size"] : List Str).zip (v :: ws))) ∧ FnOkG P w K mg base (XC P w) 1 f fd ["self", "size"] (spIni K f1)
section
variable {P : Program} {w : World} {K : PySem.W.Frag} {mg : Str → Option Value} {base : Heap}
theorem StoMk.mk' {f1 : DS → M D} {C f : Addr} {fd : FuncData} {st : Stmt} (hC : stoC K C) (hk : StoK K) (hm : mg "Store" = some (.ref C)) (M : Mk K C f) {qual : Str} (F : L2.Fun K "__init__" qual st f fd) (Sc : FnScope ["self", "size"] ["self", "size"] (defScope st))
    (hb : ∀ (kV doc pm : Value) (an : Option Addr) (cdv ct : Value) (us : List Value), us.length = 2 → bindArgs (PySem.W.fnOf "__init__" qual (defArgs st) (defBody st) (defScope st) .none kV doc pm an cdv ct) ⟨us, []⟩ = pure ((["self", "size"] : List Str).zip us))
    (hb2 : ∀ (kV doc pm : Value) (an : Option Addr) (cdv ct v u : Value), bindArgs (PySem.W.fnOf "__init__" qual (defArgs st) (defBody st) (defScope st) .none kV doc pm an cdv ct) ⟨[v], [("size", u)]⟩ = pure ([("self", v), ("size", u)] : List (Str × Value)))
    (hbody : ∀ (cdv : Value) (A : Around) (outer : List Env) (s : Shared) (H : Hp) (E : XK), PSs (cxOf (XC P w) P w K mg base ["self", "size"] qual (defScope st) f cdv A outer s H E) (defBody st)
      (tSeq (sFld K (tVar 0) (tE ⟨mg, K, E0⟩ true f1) "own_states") (sFld K (tVar 0) (tE ⟨mg, K, E0⟩ true (eArgs mkL lNil)) "own_journal"))) : StoMk P w K mg base f1 := by
  refine ⟨C, f, fd, hC, hk, hm, M, F.binds hb, ?_, fnG F Sc (fun vs H Q E h => h.1) fun cdv A outer s H vs Q E hr h => ⟨_, hbody cdv A outer s H E, ?_⟩⟩
  · obtain ⟨oc, od, kV, doc, pm, an, cdv, ct, osl, rfl, lk, hcd⟩ := F.ex
    intro ws s hl hK v
    match ws, hl with
    | [u], _ => exact .of_eq (hb2 _ _ _ _ _ _ v u)
  · obtain ⟨_, x, C', dx, n, H1, A1, S1, g, l, g1, rfl, rfl, hC', hx, hd, ne, o, ef, q⟩ := h
    exact ini_ok hk hC' hx hd ne o ef fun A' S' H' ps pj σ p o' r => q A' S' H' ps pj p o' r
end
section
variable {X : Cx} {E : XK} {f1 : DS → M D} {e : Expr} {fl : DS → M (List D)} {p pos : Pos}
end
end NS
set_option maxHeartbeats 4000000
namespace L2
open PySem PySem.Spec PyProof.Rows
structure PR (X : Cx) (ss : List Stmt) (t : (V → St → Hp → Prop) → St → Hp → Prop) : Prop where
  run : ∀ (pins : List (Addr × Obj)) (s : Shared) (σ : St) (H : Hp) (R : V → St → Hp → Prop), Inv X pins σ H s → t R σ H →
    wpAny (model X.prog X.w) X.A (execs ss X.env) (fun g s' => ∃ u v σ' H', g = .ret u ∧ Inv X pins σ' H' s' ∧ RelV v u ∧ R v σ' H') X.xe s
section
variable {X : Cx} {st : Stmt} {rest : List Stmt} {e : Expr} {te : TE} {pos : Pos}
variable {body : List Stmt} {f₀ : Stmt} {fs : List Stmt} {tb : WX → (V → St → Hp → Prop) → St → Hp → Prop} {tf tfs : TS} {Wout : WX}
end
section
variable {X : Cx} {CX : CXT} {k : Nat} {f : Addr} {fd : FuncData} {ps : List Str} {sp : Sp} {E : St → XK} {x : Str} {p pos : Pos} {e : Expr} {es : List Expr} {t : TA}
end
end L2
namespace NS
open PySem PySem.Spec PyProof.Rows L2
def slot0 (k : Nat) (A : List GAdr) (σ : L2.St) : Prop := ∃ ga, A[k]? = some ga ∧ σ[0]? = some (some (.ref ga.a))
def KX (mg : Str → Option Value) (K : PySem.W.Frag) (W : WX) (k : Nat) (e0 : En) (A : List GAdr) (S : Hp) (r : Res Fl) (Z : Ends) : Prop := match r with
  | .err x g' => ∀ A' S' H' c dd σ', Post e0.A e0.S e0.H A' S' H' → Ok K A' S' H' g' → XRep mg K A' S' H' x c dd → slot0 k A' σ' → W c dd σ' H'
  | .ok fl g' => KS ⟨mg, K, E0⟩ false e0 A S (.ok fl g') Z
  | .bad => False
def slotAt0 (k : Nat) (σ : DS) : Bool := match (σ[0]? : Option (Option DV)) with
  | some (some (.sh (.hdl j))) => j == k
  | _ => false
theorem slot0.mono {k : Nat} {A A' : List GAdr} {σ : L2.St} (h : slot0 k A σ) (p : A <+: A') : slot0 k A' σ := by
  obtain ⟨ga, h1, h2⟩ := h; exact ⟨ga, prefix_get p h1, h2⟩
def sX (k : Nat) (f : DS → M Fl) : DS → M Fl := fun σ => if slotAt0 k σ = true then f σ else M.bad
section
variable {X : Cx} {W : WX} {k : Nat} {e0 : En} {st : Stmt} {rest : List Stmt} {f : DS → M Fl} {pos p : Pos} {e : Expr} {es : List Expr} {fe : DS → M D} {fl : DS → M (List D)}
end
section
variable {X : Cx} {W : WX} {k : Nat} {e0 : En} {st : Stmt} {rest : List Stmt} {f : DS → M Fl} {h : DS → M (D × DS)} {pos : Pos} {e : Expr} {fe : DS → M D}
theorem PR.impD {ss : List Stmt} {t t' : (V → L2.St → Hp → Prop) → L2.St → Hp → Prop} (h : L2.PR X ss t) (i : ∀ R σ H, t' R σ H → t R σ H) : L2.PR X ss t' := ⟨fun pins s σ H R I q => h.run pins s σ H R I (i R σ H q)⟩
theorem XRep.mono {mg : Str → Option Value} {K : PySem.W.Frag} {A A' : List GAdr} {S S' H H' : Hp} {x : Exn} {c : Value} {dd : Option Addr} (a : A <+: A') (b : Same S S') (h : XRep mg K A S H x c dd) : XRep mg K A' S' H' x c dd := by
  obtain ⟨h1, h2, h3⟩ := h
  refine ⟨h1, h2, fun f d e => ?_⟩
  obtain ⟨p, v, e1, e2, e3⟩ := h3 f d e
  exact ⟨p, v, e1, b _ _ e2, e3.mono a b⟩
end
end NS
set_option maxHeartbeats 4000000
namespace L2
open PySem PySem.Spec PyProof.Rows
open Builtin
section
variable {prog : Program} {w : World} {A : Around} {E : Value → Shared → Prop} {s : Shared} {K : PySem.W.Frag} {x C f : Addr} {o : Obj}
end
section
variable {X : Cx} {CX : CXT} {k : Nat} {f C : Addr} {fd : FuncData} {ps : List Str} {sp : Sp} {E : XK}
end
end L2
namespace NS
open PySem PySem.Spec PyProof.Rows L2
section
variable {X : Cx} {E : XK} {st : Stmt} {kk : Nat} {d : List D → M D} {m q : Str} {p pos : Pos} {o : Expr} {fl : DS → M (List D)}
variable {e1 e2 : Expr} {fx fy : DS → M D} {a b c : Str} {j1 j2 j3 : Nat} {p1 p2 p3 p4 p5 : Pos}
end
theorem RepL.dropLast {K : PySem.W.Frag} {A : List GAdr} {S : Hp} {vs : List V} {ds : List D} (r : RepL K A S vs ds) : RepL K A S vs.dropLast ds.dropLast := by
  rw [List.dropLast_eq_take, List.dropLast_eq_take, r.length]; exact r.take _
section
variable {X : Cx} {E : XK} {m : Bool} {e0 : En} {pos apos bpos cpos : Pos} {eo e : Expr} {fo fe fc : DS → M D}
end
end NS
set_option maxHeartbeats 4000000
namespace L2
open PySem PySem.Spec PyProof.Rows
abbrev KAV := List Key × Addr × Value
def mergedH (xs more : List KAV) : List KAV := more.foldl (fun acc q => storedH acc q.1 q.2.1 q.2.2) xs
def mergeT (kvs more : List (List Key × V)) : List (List Key × V) := more.foldl (fun acc kv => putK acc kv.1 kv.2) kvs
section
variable {prog : Program} {w : World} {A : Around} {E : Value → Shared → Prop}
end
section
variable {X : Cx}
theorem KT.merge {H : Hp} : ∀ {more : List (List Key × V)} {rs : List KAV} {kvs : List (List Key × V)} {xs : List KAV}, KT H more rs → KT H kvs xs → KT H (mergeT kvs more) (mergedH xs rs)
  | _, _, _, _, .nil, r => r
  | (k, v) :: more, q :: rs, kvs, xs, .cons h t, r => by
    obtain ⟨h1, h2, h3⟩ := h
    have h1 : k = q.1 := h1
    have z := KT.merge t (r.put k (b := q.2.1) h2 h3)
    show KT H (mergeT (putK kvs k v) more) (mergedH (storedH xs q.1 q.2.1 q.2.2) rs)
    rw [← h1]; exact z
end
end L2
namespace NS
open PySem PySem.Spec PyProof.Rows L2
section
variable {K : PySem.W.Frag} {A : List GAdr} {S H : Hp}
end
section
variable {X : Cx} {E : XK} {m : Bool}
end
end NS
set_option maxHeartbeats 4000000
namespace L2
open PySem PySem.Spec PyProof.Rows
open Builtin
section
variable {prog : Program} {w : World} {A : Around} {E : Value → Shared → Prop} {s : Shared} {K : PySem.W.Frag} {x y C fA : Addr} {o oy : Obj}
end
section
variable {X : Cx} {CX : CXT} {k : Nat} {f C : Addr} {fd : FuncData} {ps : List Str} {sp : Sp} {E : XK}
end
end L2
namespace NS
open PySem PySem.Spec PyProof.Rows L2
section
variable {X : Cx} {E : XK} {st : Stmt} {kk : Nat} {d : List D → M D} {m q : Str} {p p1 pos : Pos} {e o : Expr} {fe : DS → M D}
end
end NS
set_option maxHeartbeats 4000000
namespace NS
open PySem PySem.Spec PyProof.Rows L2
section
variable {U : Sur} {e0 : En} {A : List GAdr} {S : Hp} {i : Nat} {f1 : DS → M D} {fl : DS → M (List D)} {fv : DS → M D} {σd : DS} {g : G} {Z : Ends}
end
section
variable {X : Cx} {E : XK} {m : Bool} {pos apos p2 : Pos} {eo : Expr} {lo hi : Option Expr} {fo : DS → M D} {fl fh : FO}
end
section
variable {X : Cx} {E : XK} {e0 : En} {f1 : DS → M D} {e v : Expr} {fl : DS → M (List D)} {fv : DS → M D} {p p1 p3 p4 p6 pos pos2 pos5 pos7 : Pos} {x : Str} {i : Nat}
end
end NS
set_option maxHeartbeats 4000000
namespace L2
open PySem PySem.Spec PyProof.Rows
open Builtin
section
variable {prog : Program} {w : World} {A : Around} {E : Value → Shared → Prop} {s : Shared} {K : PySem.W.Frag} {x y C fA : Addr} {o oy : Obj} {v : Value}
end
end L2
namespace L2
open PySem PySem.Spec PyProof.Rows
section
variable {X : Cx} {CX : CXT} {k : Nat} {f C : Addr} {fd : FuncData} {ps : List Str} {sp : Sp} {E : XK}
inductive PlainV (H : Hp) : V → String → Prop where
  | non : PlainV H .non "NoneType"
  | int (i : Int) : PlainV H (.int i) "int"
  | str (x : Str) : PlainV H (.str x) "str"
  | lst {a : Addr} {xs : List V} (e : H a = some (.lst xs)) : PlainV H (.ref a) "list"
  | tup {a : Addr} {xs : List V} (e : H a = some (.tup xs)) : PlainV H (.ref a) "tuple"
  | ftup {a : Addr} {o : Obj} {xs : List V} (e : H a = some (.frz o (.tup xs))) : PlainV H (.ref a) "tuple"
theorem PlainV.sub {H : Hp} {v : V} {T : String} (h : PlainV H v T) (C : Addr) : isSubtype (.type T) (.ref C) = pure false := by
  cases h <;> (rw [isSubtype_type]; rfl)
theorem PlainV.mro {H : Hp} {v : V} {T : String} (h : PlainV H v T) (C : Addr) : (fastBuiltinMro T).map (·.contains (.ref C)) = some false := by
  cases h <;> rfl
theorem PlainV.ty {pins : List (Addr × Obj)} {σ : St} {H : Hp} {s : Shared} {v : V} {u : Value} {T : String} (I : Inv X pins σ H s) (h : PlainV H v T) (r : RelV v u) (a : Addr) :
    oneThing? .Eq (.ref a) u = none ∧ ∀ {M : Model} {A : Around} {E : Value → Shared → Prop} {Q : Value → Shared → Prop}, Q (.type T) s → wpAny M A (typeOf u) Q E s := by
  cases h with
  | non => cases (show u = Value.none from r); exact ⟨rfl, fun q => wpAny_pure q⟩
  | int i => obtain ⟨t, rfl⟩ := (show ∃ t, u = Value.int i t from r); exact ⟨rfl, fun q => wpAny_pure q⟩
  | str y => obtain ⟨t, rfl⟩ := (show ∃ t, u = Value.str y t from r); exact ⟨rfl, fun q => wpAny_pure q⟩
  | @lst b xs e =>
    cases (show u = Value.ref b from r)
    obtain ⟨_, _, n, _, h1⟩ := (show ObjOk X.prog X.w H s.heap b (.lst xs) from I.hok b _ e)
    exact ⟨rfl, fun q => wpAny_typeOf_ref h1 q⟩
  | @tup b xs e =>
    cases (show u = Value.ref b from r)
    obtain ⟨_, _, _, o, h1, h2, _⟩ := (show ObjOk X.prog X.w H s.heap b (.tup xs) from I.hok b _ e)
    exact ⟨rfl, fun q => wpAny_typeOf_ref h1 (by rw [h2]; exact q)⟩
  | @ftup b ob xs e =>
    cases (show u = Value.ref b from r)
    obtain ⟨_, _, _, _, o, h1, h2, _⟩ := (show ObjOk X.prog X.w H s.heap b (.frz ob (.tup xs)) from I.hok b _ e)
    exact ⟨rfl, fun q => wpAny_typeOf_ref h1 (by rw [h2]; exact q)⟩
end
end L2
namespace NS
open PySem PySem.Spec PyProof.Rows L2
section
variable {X : Cx} {E : XK} {st : Stmt} {kk : Nat} {d : List D → M D} {m q : Str} {p p1 pos : Pos} {e o : Expr} {fe : DS → M D}
end
end NS
set_option maxHeartbeats 4000000
namespace NS
open PySem PySem.Spec PyProof.Rows L2
theorem jk_at0 {α : Type} (a : α) (l : List α) : L2.atI (a :: l) 0 = some a := by
  have : ixN (a :: l).length 0 = some 0 := by unfold ixN; simp
  unfold L2.atI
  rw [this]; rfl
theorem SRep.unset' {K : PySem.W.Frag} {A : List GAdr} {S H : Hp} {σ : L2.St} {σd : DS} (r : SRep K A S H σ σd) (i : Nat) (v : Option V) : SRep K A S H (σ.set i v) (σd.set i none) := by
  have ne : ∀ (j : Nat) (x : DV), (σd.set i none)[j]? = some (some x) → i ≠ j ∧ σd[j]? = some (some x) := by
    intro j x e
    by_cases h : i = j
    · subst h
      rw [List.getElem?_set] at e
      simp at e
    · exact ⟨h, by rw [List.getElem?_set_ne h] at e; exact e⟩
  refine ⟨by simp [r.len], fun j x e => ?_, fun j k d e p hjk ej ek sj sk => ?_⟩
  · obtain ⟨h, e⟩ := ne j x e
    rw [List.getElem?_set_ne h]
    exact r.at_ j x e
  · obtain ⟨h1, ej⟩ := ne j _ ej
    obtain ⟨h2, ek⟩ := ne k _ ek
    rw [List.getElem?_set_ne h1] at sj
    rw [List.getElem?_set_ne h2] at sk
    exact r.sep j k d e p hjk ej ek sj sk
def lls (ds : List D) : Bool := (fit ds.length && D.plas ds) && ds.all fun d => match d with
  | .lst es => fit es.length
  | _ => false
def retOnly (f : DS → M Fl) : DS → M Fl := fun σ g => match f σ g with
  | .ok (.rt d) g' => .ok (.rt d) g'
  | _ => .bad
def junkS (S S2 : Hp) : Hp := fun x => match S x with
  | some u => some u
  | none => tupH S2 x
section
variable {K : PySem.W.Frag} {A A2 : List GAdr} {S S2 H H2 : Hp} {g2 : G}
theorem junk_sub (h : Same S S2) : Same (junkS S S2) S2 := fun x u e => by
  unfold junkS at e
  cases es : S x with
  | some w => rw [es] at e; cases e; exact h _ _ es
  | none => rw [es] at e; exact tupH_same _ _ e
theorem junk_old : Same S (junkS S S2) := fun x u e => by unfold junkS; rw [e]
theorem junk_tup (h : Same S S2) : Same (tupH S2) (junkS S S2) := fun x u e => by
  unfold junkS
  cases es : S x with
  | some w =>
    have a := h _ _ es
    have b := tupH_same _ _ e
    rw [a] at b
    exact b
  | none => exact e
theorem junk_ok (h : Same S S2) (o : Ok K A2 S2 H2 g2) (q : Gpur g2 = true) : Ok K A2 (junkS S S2) H2 g2 := by
  have o' := o.res q
  exact ⟨fun x u e => o.ext _ _ (junk_sub h _ _ e), o.len, fun k ga c e1 e2 => (o'.cel k ga c e1 e2).mono (List.prefix_refl _) (junk_tup h) fun _ _ => rfl, o.nd, fun x hx => by
    cases e : junkS S S2 x with
    | none => rfl
    | some u => have := junk_sub h _ _ e; rw [o.out x hx] at this; cases this⟩
theorem junk_post {A0 : List GAdr} {S0 H0 : Hp} (h : Same S S2) (h0 : Same S0 S) (p : Post A0 S0 H0 A2 S2 H2) : Post A0 S0 H0 A2 (junkS S S2) H2 :=
  ⟨p.a, h0.trans junk_old, fun x u e => p.snew x u (junk_sub h _ _ e), p.keep, p.dom, p.anew⟩
theorem junk_none {p : Addr} {vs : List V} (h1 : S p = none) (h2 : S2 p = some (.lst vs)) : junkS S S2 p = none := by
  unfold junkS
  rw [h1]
  unfold tupH
  rw [h2]
end
section
variable {X : Cx} {E : XK} {m : Bool} {e0 : En} {x : Str} {i : Nat} {call tst tst2 : Expr} {a2 rest : List Stmt} {fe : DS → M D} {ft ft2 : DS → M Bool} {f2 fr : DS → M Fl} {z3 z4 : Str} {j3 j4 j5 : Nat}
  {p1 pos1 pos2 p3 ap3 q3 cp3 pos3 p4 q5 sp4 ap4 q4 cp4 pos4 pos5 : Pos}
end
end NS
set_option maxHeartbeats 4000000
namespace NS
open PySem PySem.Spec PyProof.Rows L2
def ExO (K : PySem.W.Frag) (mg : Str → Option Value) (cls : Str) : Prop := ∃ C, PySem.W.nsIn K mainGlobals cls = some (some (.ref C)) ∧ mg cls = some (.ref C) ∧ PySem.W.exmOne K (.ref C) (.ref C) = some true
def exoChk (K : PySem.W.Frag) (cls : Str) : Bool := match exAt K cls with
  | some C => decide (PySem.W.exmOne K (.ref C) (.ref C) = some true)
  | none => false
theorem ExO.of {K : PySem.W.Frag} {h : Heap} {mg : Str → Option Value} {cls : Str} (X : K.In h) (G : h.Ns mainGlobals mg) (e : exoChk K cls = true) : ExO K mg cls := by
  unfold exoChk at e
  cases hC : exAt K cls with
  | none => rw [hC] at e; cases e
  | some C =>
    rw [hC] at e
    exact ⟨C, exAt_ns hC, PySem.W.mg_of X G (exAt_ns hC), of_decide_eq_true e⟩
section
variable {X : Cx} {E : XK} {e0 : En} {p pos' pos : Pos} {e : Expr} {es : List Expr} {fl : DS → M (List D)}
end
end NS
set_option maxHeartbeats 4000000
namespace L2
open PySem PySem.Spec PyProof.Rows
section
variable {X : Cx} {a b c : Expr} {ta : TA} {p p2 pos pos2 : Pos}
end
end L2
namespace NS
open PySem PySem.Spec PyProof.Rows L2
section
variable {X : Cx} {E : XK} {a b c : Expr} {fl : DS → M (List D)} {p p2 pos pos2 : Pos}
end
end NS
namespace NS
open PySem PySem.Spec PyProof.Rows L2
def b_is_integer : DS → M Fl :=
  (sRet (eAndV (eIsi ["int"] (eVar 0)) (eNotV (eIsi ["bool"] (eVar 0)))))
def d_is_integer : List D → M D := runD 1 false b_is_integer
def b_Lsource : DS → M Fl :=
  (sSeq (sSet false 2 (eC (.int 0)))
    (sSeq (sIf (eTst (eBin kLt (eVar 1) (eArgs kLen (lCons (eVar 0) lNil))))
    (sSet false 2 (eBin kIx (eVar 0) (eVar 1)))
    sNil)
    (sRetH (eArgs mkL (lCons (eBin kMul (eArgs kAbs (lCons (eVar 2) lNil)) (eArgs kInt (lCons (eBin kGe (eArgs kAbs (lCons (eVar 2) lNil)) (eBin kPow (eC (.int 10)) (eC (.int 18)))) lNil))) (lCons (eBin kMod (eBin kMul (eBin kAdd (eBin kAdd (eBin kMod (eVar 2) (eC (.int 2147483563))) (eBin kMul (eC (.int 90007)) (eVar 1))) (eC (.int 67))) (eC (.int 39971))) (eC (.int 2147483543))) (lCons (eC (.int 0)) lNil)))))))
def d_Lsource : List D → M D := runD 3 false b_Lsource
def b_Ldraw (self : List D → M D) : DS → M Fl :=
  (sSeq (sIf (eTst (eBin kGt (eBin kIx (eVar 0) (eC (.int 0))) (eC (.int 0))))
    (sSeq (sSet false 2 (eBin kMod (eBin kIx (eVar 0) (eC (.int 0))) (eVar 1)))
    (sSeq (sSetIxH 0 (eBin kFdiv (eBin kIx (eVar 0) (eC (.int 0))) (eVar 1)) (eC (.int 0)))
    (sRet (eVar 2))))
    sNil)
    (sSeq (sIf (eTst (eBin kGt (eVar 1) (eBin kPow (eC (.int 10)) (eC (.int 7)))))
    (sRet (eBin kMod (eBin kAdd (eArgs (callN 2 self) (lCons (eVar 0) (lCons (eBin kPow (eC (.int 10)) (eC (.int 7))) lNil))) (eBin kMul (eBin kPow (eC (.int 10)) (eC (.int 7))) (eArgs (callN 2 self) (lCons (eVar 0) (lCons (eBin kAdd (eBin kFdiv (eVar 1) (eBin kPow (eC (.int 10)) (eC (.int 7)))) (eC (.int 1))) lNil))))) (eVar 1)))
    sNil)
    (sSeq (sSetIxH 0 (eBin kAdd (eBin kIx (eVar 0) (eC (.int 2))) (eC (.int 1))) (eC (.int 2)))
    (sSeq (sSet false 3 (eBin kMod (eBin kPow (eBin kAdd (eBin kIx (eVar 0) (eC (.int 1))) (eBin kMul (eC (.int 62003)) (eBin kIx (eVar 0) (eC (.int 2))))) (eC (.int 3))) (eC (.int 2147483579))))
    (sRet (eBin kMod (eBin kFdiv (eBin kMod (eBin kAdd (eBin kMul (eVar 3) (eBin kAdd (eBin kMod (eVar 3) (eC (.int 40009))) (eC (.int 13)))) (eBin kMul (eBin kIx (eVar 0) (eC (.int 2))) (eC (.int 7561)))) (eC (.int 2147483647))) (eC (.int 32))) (eVar 1)))))))
def d_Ldraw : Nat → List D → M D
  | 0 => fun _ => M.bad
  | n + 1 => runD 4 false (b_Ldraw (d_Ldraw n))
def b_Lchoice : DS → M Fl :=
  (sRet (eBin kIx (eVar 1) (eArgs (callN 2 (d_Ldraw 3)) (lCons (eVar 0) (lCons (eArgs kLen (lCons (eVar 1) lNil)) lNil)))))
def d_Lchoice : List D → M D := runD 2 false b_Lchoice
def b_Lequal (self : List D → M D) : DS → M Fl :=
  (sSeq (sIf (eTst (eIsi ["list", "tuple"] (eVar 1)))
    (sSeq (sIf (eOr (eTst (eBin kNe (eIsi ["list"] (eVar 0)) (eIsi ["list"] (eVar 1)))) (eTst (eBin kNe (eIsi ["tuple"] (eVar 0)) (eIsi ["tuple"] (eVar 1)))))
    (sRet (eC (.bl false)))
    sNil)
    (sRet (eAndV (eBin kEq (eArgs kLen (lCons (eVar 0) lNil)) (eArgs kLen (lCons (eVar 1) lNil))) (eArgs (kOfBls fun bs => M.pure (.bl (bs.all id))) (lCons (eComp (iArgs zipK2 (lCons (eVar 0) (lCons (eVar 1) lNil))) [2, 3] (gNs [2, 3]) tYesD (eArgs (callN 2 self) (lCons (eVar 2) (lCons (eVar 3) lNil)))) lNil)))))
    sNil)
    (sSeq (sIf (eOr (eTst (eBin kIs (eVar 1) (eC .non))) (eTst (eIsi ["str"] (eVar 1))))
    (sRet (eAndV (eBin kEq (eVar 0) (eVar 1)) (eBin kEq (eIsi ["str"] (eVar 0)) (eIsi ["str"] (eVar 1)))))
    sNil)
    (sRet (eAndV (eIsi ["int"] (eVar 0)) (eAndV (eBin kEq (eIsi ["bool"] (eVar 0)) (eIsi ["bool"] (eVar 1))) (eBin kEq (eVar 0) (eVar 1)))))))
def d_Lequal : Nat → List D → M D
  | 0 => fun _ => M.bad
  | n + 1 => runD 4 false (b_Lequal (d_Lequal n))
def b_Lodd : DS → M Fl :=
  (sSeq (sSet false 2 (eArgs mkL (lCons (eC .non) (lCons (eC (.bl true)) (lCons (eC (.bl false)) (lCons (eC (.int 0)) (lCons (eC (.int 1)) (lCons (eNeg (eC (.int 1))) (lCons (eC (.str "")) (lCons (eC (.str "node")) (lCons (eArgs mkT lNil) (lCons (eArgs mkL lNil) (lCons (eArgs mkT (lCons (eC (.int 0)) lNil)) (lCons (eArgs mkL (lCons (eC (.int 1)) lNil)) (lCons (eArgs mkT (lCons (eArgs mkT lNil) lNil)) (lCons (eArgs mkT (lCons (eArgs mkT lNil) (lCons (eArgs mkT lNil) lNil))) (lCons (eArgs mkT (lCons (eC (.int 0)) (lCons (eC (.int 1)) lNil))) lNil)))))))))))))))))
    (sSeq (sSet false 2 (eBin kAdd (eVar 2) (eArgs mkL (lCons (eArgs mkT (lCons (eC .non) (lCons (eC (.int 0)) lNil))) (lCons (eArgs mkT (lCons (eC .non) lNil)) (lCons (eC (.str "?")) (lCons (eC (.int 2)) (lCons (eC (.int 3)) lNil))))))))
    (sSeq (sIf (eTst (eIsi ["int"] (eVar 1)))
    (sSet false 2 (eBin kAdd (eVar 2) (eBin kMul (eArgs mkL (lCons (eBin kAddV (eVar 1) (eC (.int 1))) (lCons (eBin kSubV (eVar 1) (eC (.int 1))) (lCons (eBin kSubV (eC (.int 0)) (eVar 1)) (lCons (eArgs kStr (lCons (eVar 1) lNil)) (lCons (eBin kEq (eVar 1) (eC (.int 1))) lNil)))))) (eC (.int 2)))))
    sNil)
    (sSeq (sIf (eTst (eIsi ["list", "tuple"] (eVar 1)))
    (sSet false 2 (eBin kAdd (eVar 2) (eBin kMul (eArgs mkL (lCons (eArgs kList (lCons (eVar 1) lNil)) (lCons (eArgs kTuple (lCons (eVar 1) lNil)) (lCons (eRevV (eVar 1)) (lCons (eSl kSl (eVar 1) (oSome (eC (.int 1))) oNone) (lCons (eSl kSl (eVar 1) oNone (oSome (eNeg (eC (.int 1))))) lNil)))))) (eC (.int 2)))))
    sNil)
    (sRet (eArgs (callN 2 d_Lchoice) (lCons (eVar 0) (lCons (eVar 2) lNil))))))))
def d_Lodd : List D → M D := runD 3 false b_Lodd
def b_Lbent (self : List D → M D) : DS → M Fl :=
  (sSeq (sIf (eOr (eNot (eTst (eIsi ["list", "tuple"] (eVar 1)))) (eOr (eTst (eBin kEq (eArgs kLen (lCons (eVar 1) lNil)) (eC (.int 0)))) (eTst (eBin kEq (eArgs (callN 2 (d_Ldraw 3)) (lCons (eVar 0) (lCons (eC (.int 6)) lNil))) (eC (.int 0))))))
    (sRet (eArgs (callN 2 d_Lodd) (lCons (eVar 0) (lCons (eVar 1) lNil))))
    sNil)
    (sSeq (sPar [2, 3, 4] [false, true, false] (lCons (eArgs (callN 2 (d_Ldraw 3)) (lCons (eVar 0) (lCons (eArgs kLen (lCons (eVar 1) lNil)) lNil))) (lCons (eArgs kList (lCons (eVar 1) lNil)) (lCons (eArgs (callN 2 (d_Ldraw 3)) (lCons (eVar 0) (lCons (eC (.int 8)) lNil))) lNil))))
    (sSeq (sIf (eTst (eBin kEq (eVar 4) (eC (.int 0))))
    (sOwnL 3 kPopS (lCons (eVar 2) lNil))
    (sIf (eTst (eBin kEq (eVar 4) (eC (.int 1))))
    (sOwnL 3 kIns (lCons (eVar 2) (lCons (eIxO 3 (eVar 2)) lNil)))
    (sIf (eTst (eBin kEq (eVar 4) (eC (.int 2))))
    (sSetSl 3 (eRev (eSlO 3 (oSome (eVar 2)) (oSome (eBin kAdd (eVar 2) (eC (.int 2)))))) (eVar 2) (eBin kAdd (eVar 2) (eC (.int 2))))
    (sSetIx 3 (eArgs (callN 2 self) (lCons (eVar 0) (lCons (eIxO 3 (eVar 2)) lNil))) (eVar 2)))))
    (sFrz 3 (sRet (eIf (eTst (eIsi ["list"] (eVar 1))) (eVar 3) (eArgs kTuple (lCons (eVar 3) lNil))))))))
def d_Lbent : Nat → List D → M D
  | 0 => fun _ => M.bad
  | n + 1 => runD 5 false (b_Lbent (d_Lbent n))
def b_Linteger : DS → M Fl :=
  (sRet (eAndV (eIsi ["int"] (eVar 0)) (eNotV (eIsi ["bool"] (eVar 0)))))
def d_Linteger : List D → M D := runD 1 false b_Linteger
def b_Lfill : DS → M Fl :=
  (sSeq (sPar [2, 3] [true, true] (lCons (eBin kRep (eArgs mkL (lCons (eC .non) lNil)) (eVar 0)) (lCons (eArgs mkL lNil) lNil)))
    (sSeq (sFor (iSeq (eVar 1)) (gN 4)
    (sSeq (sSet false 5 (eBor 2 (eBin kIx (eArgs kMinP (lCons (eComp (iArgs rng1 (lCons (eVar 0) lNil)) [6] (gN 6) (eTst (eBin kIs (eBin kIx (eVar 2) (eVar 6)) (eC .non))) (eArgs mkT (lCons (eArgs kAbs (lCons (eBin kSub (eVar 6) (eVar 4)) lNil)) (lCons (eVar 6) lNil)))) lNil)) (eC (.int 1)))))
    (sSeq (sSetIx 2 (eVar 4) (eVar 5))
    (sOwn 3 kApp (eVar 5)))))
    (sFrz 3 (sFrz 2 (sRet (eArgs mkT (lCons (eArgs kTuple (lCons (eVar 2) lNil)) (lCons (eArgs kTuple (lCons (eVar 3) lNil)) lNil))))))))
def d_Lfill : List D → M D := runD 7 false b_Lfill
def b_Lhopes : DS → M Fl :=
  (sSeq (sPar [2, 3] [false, false] (lCons (eArgs (callN 2 (d_Ldraw 3)) (lCons (eVar 0) (lCons (eVar 1) lNil))) (lCons (eArgs (callN 2 (d_Ldraw 3)) (lCons (eVar 0) (lCons (eC (.int 3)) lNil))) lNil)))
    (sSeq (sSet true 4 (eArgs mkL lNil))
    (sSeq (sFor (iArgs rng1 (lCons (eArgs (callN 2 (d_Ldraw 3)) (lCons (eVar 0) (lCons (eBin kAdd (eVar 1) (eC (.int 1))) lNil))) lNil)) (gN 5)
    (sSeq (sSet false 6 (eIf (eTst (eBin kGt (eVar 3) (eC (.int 0)))) (eArgs (callN 2 (d_Ldraw 3)) (lCons (eVar 0) (lCons (eVar 1) lNil))) (eBin kSub (eBin kAdd (eVar 2) (eArgs (callN 2 (d_Ldraw 3)) (lCons (eVar 0) (lCons (eC (.int 3)) lNil)))) (eC (.int 1)))))
    (sOwn 4 kApp (eArgs kMax2 (lCons (eC (.int 0)) (lCons (eArgs kMin2 (lCons (eBin kSub (eVar 1) (eC (.int 1))) (lCons (eVar 6) lNil))) lNil))))))
    (sRetO 4))))
def d_Lhopes : List D → M D := runD 7 true b_Lhopes
def b_Lveiled : DS → M Fl :=
  (sSeq (sSet false 2 (eArgs (callN 2 d_Lchoice) (lCons (eVar 0) (lCons (eArgs mkL (lCons (eC (.int 0)) (lCons (eC (.int 2)) (lCons (eC (.int 5)) (lCons (eC (.int 8)) lNil))))) lNil))))
    (sRet (eArgs kTuple (lCons (eComp (iSeq (eVar 1)) [3] (gN 3) tYesD (eIf (eAnd (eTst (eBin kIsNot (eVar 3) (eC .non))) (eTst (eBin kLt (eArgs (callN 2 (d_Ldraw 3)) (lCons (eVar 0) (lCons (eC (.int 9)) lNil))) (eVar 2)))) (eC (.str "?")) (eVar 3))) lNil))))
def d_Lveiled : List D → M D := runD 4 false b_Lveiled
def b_Lcase : DS → M Fl :=
  (sSeq (sSet false 2 (eBin kAdd (eC (.int 1)) (eArgs (callN 2 (d_Ldraw 3)) (lCons (eVar 0) (lCons (eVar 1) lNil)))))
    (sSeq (sAsg (eArgs (callN 2 d_Lfill) (lCons (eVar 2) (lCons (eArgs (callN 2 d_Lhopes) (lCons (eVar 0) (lCons (eVar 2) lNil))) lNil))) (gNs [3, 4]))
    (sRet (eArgs mkT (lCons (eArgs (callN 2 d_Lveiled) (lCons (eVar 0) (lCons (eVar 3) lNil))) (lCons (eVar 4) lNil))))))
def d_Lcase : List D → M D := runD 5 false b_Lcase
def b_Lspoiled : DS → M Fl :=
  (sSeq (sSet true 2 (eArgs kList (lCons (eVar 1) lNil)))
    (sSeq (sFor (iArgs rng1 (lCons (eBin kAdd (eC (.int 1)) (eArgs (callN 2 (d_Ldraw 3)) (lCons (eVar 0) (lCons (eC (.int 3)) lNil)))) lNil)) (gN 3)
    (sSetIx 2 (eArgs (callN 2 d_Lchoice) (lCons (eVar 0) (lCons (eBin kAdd (eBin kMul (eLRg (r1D (eArgs kLen (lCons (eVar 1) lNil)))) (eC (.int 2))) (eArgs mkL (lCons (eC .non) (lCons (eC (.str "?")) lNil)))) lNil))) (eArgs (callN 2 (d_Ldraw 3)) (lCons (eVar 0) (lCons (eArgs kLen (lCons (eVar 1) lNil)) lNil)))))
    (sFrz 2 (sRet (eArgs kTuple (lCons (eVar 2) lNil))))))
def d_Lspoiled : List D → M D := runD 4 false b_Lspoiled
def b_Lany : DS → M Fl :=
  (sSeq (sAsg (eArgs (callN 2 d_Lcase) (lCons (eVar 0) (lCons (eVar 1) lNil))) (gNs [2, 3]))
    (sRet (eIf (eTst (eBin kEq (eArgs (callN 2 (d_Ldraw 3)) (lCons (eVar 0) (lCons (eC (.int 2)) lNil))) (eC (.int 0)))) (eArgs (callN 2 d_Lspoiled) (lCons (eVar 0) (lCons (eVar 2) lNil))) (eVar 2))))
def d_Lany : List D → M D := runD 4 false b_Lany
def b_needs : DS → M Fl :=
  (sSeq (sIf (eTst (eBin kGe (eVar 1) (eVar 2)))
    (sRet (eTRg (r2D (eArgs kMax2 (lCons (eC (.int 0)) (lCons (eBin kSub (eBin kMul (eC (.int 2)) (eVar 2)) (eVar 1)) lNil))) (eVar 1))))
    sNil)
    (sRet (eTRg (r2D (eBin kAdd (eVar 1) (eC (.int 1))) (eArgs kMin2 (lCons (eVar 0) (lCons (eBin kSub (eBin kMul (eC (.int 2)) (eVar 2)) (eVar 1)) lNil)))))))
def d_needs : List D → M D := runD 3 false b_needs
def b_Lneeds : DS → M Fl :=
  (sRet (eComp (iArgs rng1 (lCons (eVar 0) lNil)) [3] (gN 3) (eTst (eBin kLt (eArgs mkT (lCons (eArgs kAbs (lCons (eBin kSub (eVar 3) (eVar 2)) lNil)) (lCons (eVar 3) lNil))) (eArgs mkT (lCons (eArgs kAbs (lCons (eBin kSub (eVar 1) (eVar 2)) lNil)) (lCons (eVar 1) lNil))))) (eVar 3)))
def d_Lneeds : List D → M D := runD 4 true b_Lneeds
def b_taken : DS → M Fl :=
  (sRet (eComp (iArgs enumK (lCons (eVar 0) lNil)) [1, 2] (gNs [1, 2]) (eTst (eBin kIsNot (eVar 2) (eC .non))) (eVar 1)))
def d_taken : List D → M D := runD 3 true b_taken
def b_need_of : DS → M Fl :=
  (sSeq (sSet false 2 (eBin kIx (eVar 0) (eVar 1)))
    (sRet (eIf (eTst (eBin kEq (eVar 2) (eC (.str "?")))) (eArgs mkT lNil) (eArgs (callN 3 d_needs) (lCons (eArgs kLen (lCons (eVar 0) lNil)) (lCons (eVar 1) (lCons (eVar 2) lNil)))))))
def d_need_of : List D → M D := runD 3 false b_need_of
def b_choose : DS → M Fl :=
  (sSeq (sSet false 2 (eC (.int 1)))
    (sSeq (sFor (iArgs rng1 (lCons (eVar 1) lNil)) (gN 3)
    (sSet false 2 (eBin kFdiv (eBin kMul (eVar 2) (eBin kSub (eVar 0) (eVar 3))) (eBin kAdd (eVar 3) (eC (.int 1))))))
    (sRet (eVar 2))))
def d_choose : List D → M D := runD 4 false b_choose
def b_gaps : DS → M Fl :=
  (sSeq (sSet false 1 (eComp (iSeq (eArgs (callN 1 d_taken) (lCons (eVar 0) lNil))) [3] (gN 3) tYesD (eArgs mkT (lCons (eVar 3) (lCons (eComp (iSeq (eArgs (callN 2 d_need_of) (lCons (eVar 0) (lCons (eVar 3) lNil)))) [2] (gN 2) (eTst (eBin kIs (eBin kIx (eVar 0) (eVar 2)) (eC .non))) (eVar 2)) lNil)))))
    (sRet (eComp2 (iSeq (eVar 1)) [3, 4, 2] (gNs [3, 4]) tYesD (iSeq (eVar 4)) [2] (gN 2) tYesD (eArgs mkT (lCons (eVar 3) (lCons (eVar 2) lNil))))))
def d_gaps : List D → M D := runD 5 true b_gaps
def b_bounds : DS → M Fl :=
  (sSeq (sSet true 2 (eArgs mkL lNil))
    (sSeq (sFor (iArgs enumK (lCons (eVar 1) lNil)) (gNs [3, 4])
    (sSeq (sSet false 5 (eBin kAdd (eArgs mkL (lCons (eVar 3) lNil)) (eComp (iArgs enumK (lCons (eVar 1) lNil)) [6, 7] (gNs [6, 7]) (eTst (eBin kIn (eVar 7) (eArgs (callN 2 d_need_of) (lCons (eVar 0) (lCons (eVar 4) lNil))))) (eVar 6))))
    (sOwn 2 kApp (eArgs mkT (lCons (eArgs (kOfInts fun ns => M.opt ((minI ns).map .int)) (lCons (eVar 5) lNil)) (lCons (eBin kAdd (eArgs (kOfInts fun ns => M.opt ((maxI ns).map .int)) (lCons (eVar 5) lNil)) (eC (.int 1))) lNil))))))
    (sRetO 2)))
def d_bounds : List D → M D := runD 8 true b_bounds
def b_is_inside : DS → M Fl :=
  (sRet (eAndV (eBin kLe (eVar 1) (eBin kIx (eVar 0) (eC (.int 0)))) (eBin kLe (eBin kIx (eVar 0) (eC (.int 1))) (eVar 2))))
def d_is_inside : List D → M D := runD 3 false b_is_inside
def b_part_table : DS → M Fl :=
  (sSeq (sSet false 1 (eArgs kLen (lCons (eVar 0) lNil)))
    (sSeq (sSet true 2 (eC (.dT [])))
    (sSeq (sFor (iArgs rng1 (lCons (eBin kAdd (eVar 1) (eC (.int 1))) lNil)) (gN 3)
    (sDPut' 2 (eC (.int 1)) (eArgs mkT (lCons (eVar 3) (lCons (eVar 3) lNil)))))
    (sSeq (sFor (iArgs rng2 (lCons (eC (.int 1)) (lCons (eBin kAdd (eVar 1) (eC (.int 1))) lNil))) (gN 4)
    (sFor (iArgs rng1 (lCons (eBin kAdd (eBin kSub (eVar 1) (eVar 4)) (eC (.int 1))) lNil)) (gN 3)
    (sSeq (sSet false 5 (eBin kAdd (eVar 3) (eVar 4)))
    (sSeq (sSet false 6 (eC (.int 0)))
    (sSeq (sFor (iSeq (eComp (iArgs rng2 (lCons (eVar 3) (lCons (eVar 5) lNil))) [7] (gN 7) (eTst (eArgs (callN 3 d_is_inside) (lCons (eBin kIx (eVar 0) (eVar 7)) (lCons (eVar 3) (lCons (eVar 5) lNil))))) (eVar 7))) (gN 7)
    (sAug kAddI 6 (eBor 2 (eBin kMul (eBin kMul (eArgs (callN 2 d_choose) (lCons (eBin kSub (eVar 4) (eC (.int 1))) (lCons (eBin kSub (eVar 7) (eVar 3)) lNil))) (eBin kIxD (eVar 2) (eArgs mkT (lCons (eVar 3) (lCons (eVar 7) lNil))))) (eBin kIxD (eVar 2) (eArgs mkT (lCons (eBin kAdd (eVar 7) (eC (.int 1))) (lCons (eVar 5) lNil))))))))
    (sDPut' 2 (eVar 6) (eArgs mkT (lCons (eVar 3) (lCons (eVar 5) lNil)))))))))
    (sRetO 2)))))
def d_part_table : List D → M D := runD 8 true b_part_table
def b_count_of : DS → M Fl :=
  (sRet (eBin kIxD (eArgs (callN 1 d_part_table) (lCons (eArgs (callN 2 d_bounds) (lCons (eVar 0) (lCons (eVar 1) lNil))) lNil)) (eArgs mkT (lCons (eC (.int 0)) (lCons (eArgs kLen (lCons (eVar 1) lNil)) lNil)))))
def d_count_of : List D → M D := runD 2 false b_count_of
def b_Lfull_spots : DS → M Fl :=
  (sRet (eComp (iArgs enumK (lCons (eVar 0) lNil)) [1, 2] (gNs [1, 2]) (eTst (eBin kIsNot (eVar 2) (eC .non))) (eVar 1)))
def d_Lfull_spots : List D → M D := runD 3 true b_Lfull_spots
def b_Lwanted : DS → M Fl :=
  (sRet (eIf (eTst (eBin kEq (eBin kIx (eVar 0) (eVar 1)) (eC (.str "?")))) (eArgs mkL lNil) (eArgs (callN 3 d_Lneeds) (lCons (eArgs kLen (lCons (eVar 0) lNil)) (lCons (eVar 1) (lCons (eBin kIx (eVar 0) (eVar 1)) lNil))))))
def d_Lwanted : List D → M D := runD 2 true b_Lwanted
def b_Lfitting : DS → M Fl :=
  (sSeq (sPar [1, 2] [false, false] (lCons (eArgs mkL (lCons (eArgs mkT lNil) lNil)) (lCons (eArgs (callN 1 d_Lfull_spots) (lCons (eVar 0) lNil)) lNil)))
    (sSeq (sSet false 3 (eArgs kDictP (lCons (eComp (iSeq (eVar 2)) [4] (gN 4) tYesD (eArgs mkT (lCons (eVar 4) (lCons (eArgs (callN 2 d_Lwanted) (lCons (eVar 0) (lCons (eVar 4) lNil))) lNil)))) lNil)))
    (sSeq (sFor (iSeq (eVar 2)) (gN 5)
    (sSeq (sSet true 6 (eArgs mkL lNil))
    (sSeq (sFor (iSeq (eVar 1)) (gN 7)
    (sSeq (sSet false 8 (eComp (iSeq (eVar 2)) [4] (gN 4) (eAnd (eTst (eBin kNotIn (eVar 4) (eVar 7))) (eTst (eArgs (kOfBls fun bs => M.pure (.bl (bs.all id))) (lCons (eComp (iSeq (eBin kIxD (eVar 3) (eVar 4))) [9] (gN 9) tYesD (eBin kIn (eVar 9) (eVar 7))) lNil)))) (eVar 4)))
    (sOwn 6 kExt (eComp (iSeq (eVar 8)) [4] (gN 4) tYesD (eBin kAdd (eVar 7) (eArgs mkT (lCons (eVar 4) lNil)))))))
    (sFrz 6 (sSet false 1 (eVar 6))))))
    (sRet (eVar 1)))))
def d_Lfitting : List D → M D := runD 10 false b_Lfitting
def b_Lshuffled : DS → M Fl :=
  (sSeq (sPar [2, 3] [true, true] (lCons (eArgs kList (lCons (eVar 1) lNil)) (lCons (eArgs mkL lNil) lNil)))
    (sSeq (whileM (tBor 2 (eTst (eBin kNe (eVar 2) (eArgs mkL lNil))))
    (sAppPop 3 2 (eBor 2 (eArgs (callN 2 (d_Ldraw 3)) (lCons (eVar 0) (lCons (eArgs kLen (lCons (eVar 2) lNil)) lNil))))) 100)
    (sRetO 3)))
def d_Lshuffled : List D → M D := runD 4 true b_Lshuffled
def b_is_possible : DS → M Fl :=
  (sRet (eAndV (eBin kEq (eArgs (callN 1 d_gaps) (lCons (eVar 0) lNil)) (eArgs mkL lNil)) (eBin kGt (eArgs (callN 2 d_count_of) (lCons (eVar 0) (lCons (eArgs (callN 1 d_taken) (lCons (eVar 0) lNil)) lNil))) (eC (.int 0)))))
def d_is_possible : List D → M D := runD 1 false b_is_possible
def b_is_closed : DS → M Fl :=
  (sRet (eArgs (kOfBls fun bs => M.pure (.bl (bs.all id))) (lCons (eComp2 (iSeq (eVar 1)) [2, 3] (gN 2) tYesD (iSeq (eArgs (callN 2 d_need_of) (lCons (eVar 0) (lCons (eVar 2) lNil)))) [3] (gN 3) tYesD (eBin kIn (eVar 3) (eVar 1))) lNil)))
def d_is_closed : List D → M D := runD 4 false b_is_closed
def b_is_view : DS → M Fl :=
  (sSeq (sIf (eOr (eNot (eTst (eIsi ["tuple"] (eVar 1)))) (eNot (eTst (eArgs (kOfBls fun bs => M.pure (.bl (bs.all id))) (lCons (eComp (iSeq (eVar 1)) [2] (gN 2) tYesD (eArgs (callN 1 d_is_integer) (lCons (eVar 2) lNil))) lNil)))))
    (sRet (eC (.bl false)))
    sNil)
    (sSeq (sIf (eOr (eNot (eTst (eArgs (callN 1 d_is_possible) (lCons (eVar 0) lNil)))) (eNot (eTst (eArgs (kOfBls fun bs => M.pure (.bl (bs.all id))) (lCons (eComp (iSeq (eVar 1)) [2] (gN 2) tYesD (eBin kIn (eVar 2) (eArgs (callN 1 d_taken) (lCons (eVar 0) lNil)))) lNil)))))
    (sRet (eC (.bl false)))
    sNil)
    (sRet (eAndV (eArgs (kOfBls fun bs => M.pure (.bl (bs.all id))) (lCons (eComp (iArgs zipK2 (lCons (eVar 1) (lCons (eSl kSl (eVar 1) (oSome (eC (.int 1))) oNone) lNil))) [3, 4] (gNs [3, 4]) tYesD (eBin kLt (eVar 3) (eVar 4))) lNil)) (eArgs (callN 2 d_is_closed) (lCons (eVar 0) (lCons (eVar 1) lNil)))))))
def d_is_view : List D → M D := runD 5 false b_is_view
def b_all_views : DS → M Fl :=
  (sSeq (sIf (eNot (eTst (eArgs (callN 1 d_is_possible) (lCons (eVar 0) lNil))))
    (sRet (eArgs mkL lNil))
    sNil)
    (sSeq (sSet false 1 (eArgs mkL (lCons (eArgs mkT lNil) lNil)))
    (sSeq (sFor (iSeq (eArgs (callN 1 d_taken) (lCons (eVar 0) lNil))) (gN 2)
    (sSet false 1 (eBin kAdd (eVar 1) (eComp (iSeq (eVar 1)) [3] (gN 3) tYesD (eBin kAdd (eVar 3) (eArgs mkT (lCons (eVar 2) lNil)))))))
    (sRet (eComp (iSeq (eVar 1)) [3] (gN 3) (eTst (eArgs (callN 2 d_is_closed) (lCons (eVar 0) (lCons (eVar 3) lNil)))) (eVar 3))))))
def d_all_views : List D → M D := runD 4 true b_all_views
def b_views : DS → M Fl :=
  (sSeq (sSet false 2 (eComp (iSeq (eArgs (callN 1 d_all_views) (lCons (eVar 0) lNil))) [3] (gN 3) (eTst (eBin kEq (eArgs kLen (lCons (eVar 3) lNil)) (eVar 1))) (eVar 3)))
    (sSeq (sIf (eTst (eBin kGt (eArgs kLen (lCons (eVar 2) lNil)) (eC (.int 300))))
    (sRaise1 "TooMany" "many" (eArgs kLen (lCons (eVar 2) lNil)))
    sNil)
    (sRet (eArgs kSorted (lCons (eVar 2) lNil)))))
def d_views : List D → M D := runD 4 true b_views
def b_count_views : DS → M Fl :=
  (sSeq (sSet false 1 (eComp (iSeq (eArgs (callN 1 d_all_views) (lCons (eVar 0) lNil))) [2] (gN 2) tYesD (eArgs kLen (lCons (eVar 2) lNil))))
    (sRet (eComp (iArgs rng1 (lCons (eBin kAdd (eArgs kLen (lCons (eArgs (callN 1 d_taken) (lCons (eVar 0) lNil)) lNil)) (eC (.int 1))) lNil)) [3] (gN 3) tYesD (eMeth isL kCount (eVar 1) (lCons (eVar 3) lNil)))))
def d_count_views : List D → M D := runD 4 true b_count_views
def b_Lvalues_right : DS → M Fl :=
  (sSeq (sSet false 3 (eArgs (callN 1 d_Lfull_spots) (lCons (eVar 1) lNil)))
    (sSeq (sSet true 4 (eArgs mkL (lCons (eArgs mkT lNil) (lCons (eArgs mkL lNil) (lCons (eC .non) (lCons (eC (.int 0)) (lCons (eC (.str "view")) (lCons (eArgs kTuple (lCons (eVar 3) lNil)) (lCons (eVar 3) (lCons (eArgs kTuple (lCons (eRev (eVar 3)) lNil)) (lCons (eArgs mkT (lCons (eC (.bl true)) lNil)) (lCons (eArgs mkT (lCons (eNeg (eC (.int 1))) lNil)) lNil))))))))))))
    (sSeq (sFrz 4 (sSet true 4 (eBin kCat (eVar 4) (eArgs mkL (lCons (eArgs mkT (lCons (eBin kPow (eC (.int 10)) (eC (.int 20))) lNil)) (lCons (eArgs mkT (lCons (eC (.int 0)) (lCons (eC (.int 0)) lNil))) lNil))))))
    (sSeq (sFor (iArgs rng1 (lCons (eC (.int 12)) lNil)) (gN 5)
    (sOwn 4 kApp (eArgs kTuple (lCons (eArgs kSorted (lCons (eSl kSl (eArgs (callN 2 d_Lshuffled) (lCons (eVar 0) (lCons (eVar 3) lNil))) oNone (oSome (eArgs (callN 2 (d_Ldraw 3)) (lCons (eVar 0) (lCons (eBin kAdd (eArgs kLen (lCons (eVar 3) lNil)) (eC (.int 1))) lNil))))) lNil)) lNil))))
    (sSeq (sFor (iArgs rng1 (lCons (eC (.int 8)) lNil)) (gN 5)
    (sOwn 4 kApp (eArgs (callN 2 (d_Lbent 36)) (lCons (eVar 0) (lCons (eBorS 4 (eArgs (callN 2 d_Lchoice) (lCons (eVar 0) (lCons (eVar 4) lNil)))) lNil)))))
    (sSeq (sFrz 4 (sFor (iSeq (eVar 4)) (gN 6)
    (sSeq (sSet false 7 (eArgs kRepr (lCons (eVar 6) lNil)))
    (sSeq (sSet false 8 (eAndV (eIsi ["tuple"] (eVar 6)) (eAndV (eArgs (kOfBls fun bs => M.pure (.bl (bs.all id))) (lCons (eComp (iSeq (eVar 6)) [9] (gN 9) tYesD (eArgs (callN 1 d_Linteger) (lCons (eVar 9) lNil))) lNil)) (eDIn (eVar 6) (eVar 2)))))
    (sSeq (sIf (eNot (eTst (eArgs (callN 2 (d_Lequal 8)) (lCons (eArgs mkL (lCons (eArgs (callN 2 d_is_view) (lCons (eVar 1) (lCons (eVar 6) lNil))) (lCons (eArgs (kwN 2 [1, 0] 2 d_is_view) (lCons (eVar 6) (lCons (eArgs kList (lCons (eVar 1) lNil)) lNil))) lNil))) (lCons (eArgs mkL (lCons (eVar 8) (lCons (eVar 8) lNil))) lNil)))))
    (sRet (eC (.bl false)))
    sNil)
    (sIf (eTst (eBin kNe (eArgs kRepr (lCons (eVar 6) lNil)) (eVar 7)))
    (sRet (eC (.bl false)))
    sNil))))))
    (sRet (eC (.bl true)))))))))
def d_Lvalues_right : List D → M D := runD 10 false b_Lvalues_right
end NS
namespace NS
open PySem PySem.Spec PyProof.Rows L2
theorem ints_repL {K : PySem.W.Frag} {A : List GAdr} {S : Hp} : ∀ ns : List Int, RepL K A S (ns.map V.int) (ns.map D.int)
  | [] => .nil
  | n :: ns => .cons (.int n) (ints_repL ns)
def topH (K : PySem.W.Frag) (a : Addr) (o : Obj) (xs : List V) : Hp := fun b => if b = a ∧ K.lookup a = none then some (.frz o (.lst xs)) else none
theorem topH_in {K : PySem.W.Frag} {a b : Addr} {o : Obj} {xs : List V} {u : HO} (h : topH K a o xs b = some u) : b = a ∧ K.lookup a = none ∧ u = .frz o (.lst xs) := by
  unfold topH at h
  split at h
  · rename_i c; cases h; exact ⟨c.1, c.2, rfl⟩
  · cases h
theorem law_callG {P : Program} {w : World} {K : PySem.W.Frag} {mg mb : Str → Option Value} {CX : CXT} {k : Nat} {fa a : Addr} {fd : FuncData} {x : Str} {sp : Sp} {s₁ : Shared} {vs : List Value} {ns : List Int}
    (KX : K.In s₁.heap) (hns : s₁.heap.Ns mainGlobals mg) (hb : s₁.heap.Ns builtinsNs mb) (hbb : ∀ x : Str, x ≠ "__name__" → mb x = bootBuiltins x) (hlim : s₁.heap.NoLimit) (hg : s₁.gens = #[])
    (ha : s₁.heap.get? a = some { cls := .type "list", data := .seq vs.toArray }) (hi : IntsAre vs ns) (hl : ns.length ≤ sizeLine) (hr : RoomG k callerA)
    (F : ∀ base : Heap, K.In base → base.Ns mainGlobals mg → FnOkG P w K mg base CX k fa fd [x] sp) (hbind : ∀ (s : Shared) (u : Value), BindsTo s fd ⟨[u], []⟩ [(x, u)])
    (hsp : ∀ H : Hp, SqL K H a (ns.map V.int) → sp [.ref a] H (fun v _ => v = .bl true) fun _ _ _ => False)
    (hCX : ∀ H e s', CX [] H s₁ (fun _ _ _ => False) e s' → False) :
    codeAny (model P w) callerA (.call (.ref fa) ⟨[.ref a], []⟩) (fun r s' => r = .ok (.ret (.bool true)) ∧ OldK s₁.heap s'.heap ∧ s'.os = s₁.os ∧ AllBare s'.gens) s₁ := by
  have rv := vals_ints hi
  have nl : (ns.map V.int).length ≤ sizeLine := by rw [List.length_map]; exact hl
  generalize hH : topH K a { cls := .type "list", data := .seq vs.toArray } (ns.map V.int) = H
  have tk : ∀ {b u}, H b = some u → b = a ∧ K.lookup a = none ∧ u = .frz { cls := .type "list", data := .seq vs.toArray } (.lst (ns.map V.int)) := fun {b u} h => topH_in (by rw [hH]; exact h)
  have un : ∀ {b}, (b = a → K.lookup a = none → False) → H b = none := fun {b} h => by
    cases e : H b with
    | none => rfl
    | some u => exact (h (tk e).1 (tk e).2.1).elim
  have keep : ∀ {b o}, s₁.heap.get? b = some o → (b = a → K.lookup a = none → False) → (hidT s₁.heap H).get? b = some o := fun e h => hidT_get e (un h)
  have ns_ : ∀ {b m}, s₁.heap.Ns b m → (hidT s₁.heap H).Ns b m := fun {b m} ⟨o, es, ep, e, d, r⟩ => ⟨o, es, ep, keep e (fun z _ => (by subst z; rw [ha] at e; cases e; cases d)), d, r⟩
  have kb : K.In (hidT s₁.heap H) := fun b o e => keep (KX b o e) fun z n => by subst z; rw [n] at e; cases e
  have md : Mod K mg (hidT s₁.heap H) := ⟨kb, ns_ hns, ⟨mb, ns_ hb, hbb⟩, by obtain ⟨mc, h1, h2⟩ := hlim; exact ⟨mc, ns_ h1, h2⟩⟩
  have hok : HOk P w H s₁.heap := fun b u e => by obtain ⟨rfl, _, rfl⟩ := tk e; exact ⟨ha, nl, vs, _, rv, ha⟩
  have sq : SqL K H a (ns.map V.int) := by
    cases hk : K.lookup a with
    | none => exact .inl (.inr ⟨_, by rw [← hH]; exact if_pos ⟨rfl, hk⟩⟩)
    | some o =>
      have e := KX a o hk
      rw [ha] at e; cases e
      exact .inr ⟨_, vs.toArray, _, hk, rfl, rfl, rfl, by rw [List.size_toArray, ← rv.length]; exact nl, rv⟩
  have e0 : Env0 P w K mg (hidT s₁.heap H) callerA [] s₁ H := ⟨rfl, md, fun b o e => of_hidT e, Nat.le_of_eq (hidT_size _ _), trivial, fun b z => absurd (show b ∈ ([] : List Addr) from z) (by simp), hok, .of_eq hg⟩
  refine codeAny_mono ((F _ kb (ns_ hns)).run callerA [] s₁ H ⟨[.ref a], []⟩ [.ref a] [.ref a] _ _ hr e0 (hbind s₁ (.ref a)) (.cons rfl .nil) (hsp H sq)) fun r s' h => ?_
  match r, h with
  | .error e, h => exact (hCX H e s' h).elim
  | .ok (.ret u), ⟨v, H', os, bare, u2, hok', r', q⟩ =>
    have q : v = .bl true := q
    subst q
    have r' : u = Value.bool true := r'
    subst r'
    refine ⟨rfl, OldK.of_keep fun b o e => ?_, os, bare⟩
    cases q : H b with
    | none => exact u2.keep b o e q (fun z => absurd (show b ∈ ([] : List Addr) from z) (by simp)) (by simp)
    | some u =>
      obtain ⟨rfl, _, rfl⟩ := tk q
      have e2 := (hok' _ _ (u2.frzs _ _ _ q)).1
      rw [ha] at e; cases e
      exact e2
theorem walk_E {l : PySem.W.OpenLaw} {n k : Nat} {q : Program} {loose : List Str} {XP : (Str → Option Value) → Heap → Prop} {YP : World → Heap → Prop} {d : DefRec} {K : Params → PySem.W.Frag} {x : Str} {m : Bool} {f : List D → M D}
    (hn : l.most = some n) (hn2 : n ≤ sizeLine) (hdf : d.params.defaults = []) (hr : RoomG k callerA)
    (hY : ∀ (w : World) (h : Heap), YP w h → (K w.params).In h)
    (F : ∀ (w : World) (mg : Str → Option Value) (fa : Addr) (h : Heap), (K w.params).In h → h.Ns mainGlobals mg → mg d.name = some (.ref fa) →
      ∃ fd : FuncData, (∀ (s : Shared) (u : Value), BindsTo s fd ⟨[u], []⟩ [(x, u)]) ∧
        ∀ base : Heap, (K w.params).In base → base.Ns mainGlobals mg → FnOkG l.prog w (K w.params) mg base (XC l.prog w) k fa fd [x] (spD mg (K w.params) 1 m f))
    (hd : ∀ ns : List Int, ns.length ≤ n → ∃ g', f [.slst (ns.map .int)] [] = .ok (.bl true) g') (hm : m = false := by rfl) :
    PySem.W.WalkO q loose XP YP l.row.toRowW d [] (fun f vs => PySem.call f vs) := by
  subst hm
  refine Att.attach_call hn hdf fun w s₀ s₁ mg mb fa o pm cd doc a vs ns G Y ho hd' hcd hmg hobj hints hlen hg => ?_
  have KX := hY w _ Y
  obtain ⟨fd, hb, hF⟩ := F w mg fa _ KX G.T.g hmg
  refine law_callG KX G.T.g G.T.b G.T.builtins G.T.nolimit hg hobj hints (Nat.le_trans hlen hn2) hr hF hb (fun H hS => ?_) fun H e s' h => ?_
  · refine ⟨rfl, [], H, [], [.slst (ns.map .int)], ⟨Same.refl _, rfl, fun k ga c e => ?_, List.nodup_nil, fun x hx => ?_⟩, .cons (.slst hS (ints_repL ns)) .nil, ?_⟩
    · simp at e
    · simp [gfp] at hx
    · obtain ⟨g', e⟩ := hd ns hlen
      rw [e]
      intro A' S' H' v P o r
      have r : Rep (K w.params) A' S' v (.bl true) := r
      cases r
      rfl
  · obtain ⟨_, _, _, _, _, _, _, _, _, _, _, _, h⟩ := h
    exact h
end NS
set_option maxHeartbeats 4000000
namespace NS
open PySem PySem.Spec PyProof.Rows L2
def sJunkA (i : Nat) (fe : DS → M D) (ft : DS → M Bool) (f2 : DS → M Fl) (fr : DS → M Fl) : DS → M Fl := fun σ => fun g => match fe (purS σ) g with
  | .ok (.lst ds) g1 => if (decide (i < σ.length) && (lls ds && (Gpur g && Gpur g1))) = true then
      M.bind (ft (σ.set i (some (.sh (.lst ds))))) (fun b => if b = true then retOnly f2 (σ.set i (some (.sh (.lst ds)))) else fun g2 =>
        if Gpur g2 = true then (if ds = [] then M.bad else fr (σ.set i none)) g2 else .bad) g1
    else .bad
  | _ => .bad
section
variable {X : Cx} {E : XK} {m : Bool} {e0 : En} {x : Str} {i : Nat} {call tst : Expr} {a2 rest : List Stmt} {fe : DS → M D} {ft : DS → M Bool} {f2 fr : DS → M Fl} {z4 : Str} {j4 j5 : Nat}
  {p1 pos1 pos2 p4 q5 sp4 ap4 q4 cp4 pos4 : Pos}
theorem dss_junkA (i : Nat) (he : DE X E false call fe) (ht : DT X E tst ft) (ha : DSs X E m e0 a2 f2) (hr : DSs X E m e0 rest fr)
    (hN : X.N.Nodup) (hi : X.N[i]? = some x := by rfl) (hxl : Loc X.env.scope x := by first | exact Or.inl rfl | exact Or.inr rfl)
    (hv : Vis X.env.scope x := by first | exact Or.inl rfl | exact Or.inr (Or.inl rfl) | exact Or.inr (Or.inr rfl)) (hd : (x == ("__debug__" : Str)) = false := by decide) (hcd : (x == ("__classdict__" : Str)) = false := by decide)
    (hs : swapsWith call (some (.Name x p1)) pos1.line X.env = pure false := by rfl) (hf : X.fn x = true ∨ X.env.scope.names.lookup x = some .local := by first | exact .inl rfl | exact .inr rfl | assumption)
    (hb4 : attributeBase (.Subscript (.Name x p4) (.Constant (.int 0) j5 q5) sp4) "append" X.env (eval (.Subscript (.Name x p4) (.Constant (.int 0) j5 q5) sp4) X.env) = eval (.Subscript (.Name x p4) (.Constant (.int 0) j5 q5) sp4) X.env := by rfl)
    (hw4 : ((backTo cp4 (starEach [.Constant (.str z4) j4 q4] X.env)).all (fun x => !x.1) && (backToKw cp4 (keywordEach [] X.env)).all (fun x => x.1.isSome)
      && decide (([.Constant (.str z4) j4 q4] : List Expr).length + ([] : List Keyword).length + (if ([] : List Keyword).isEmpty then 0 else 1) < 30)) = true := by rfl)
    (hl4 : (ap4.endLine == cp4.line) = true := by rfl) (hs4 : starEach [.Constant (.str z4) j4 q4] X.env = (false, eval (.Constant (.str z4) j4 q4) X.env) :: starEach [] X.env := by rfl) (hp4 : (backTo cp4 (starEach [] X.env)).any (·.1) = false := by rfl)
    (hx4 : swapsWith (.Call (.Attribute (.Subscript (.Name x p4) (.Constant (.int 0) j5 q5) sp4) "append" ap4) [.Constant (.str z4) j4 q4] [] cp4) none pos4.line X.env = pure false := by rfl)
    (hix : PlainIx (.Constant (.int 0) j5 q5) := by exact fun _ _ => rfl) :
    DSs X E m e0 (.Assign [.Name x p1] call pos1 :: .If tst a2 [] pos2 :: .Expr (.Call (.Attribute (.Subscript (.Name x p4) (.Constant (.int 0) j5 q5) sp4) "append" ap4) [.Constant (.str z4) j4 q4] [] cp4) pos4 :: rest) (sJunkA i fe ft f2 fr) :=
  (pss_cons (ps_set hN hi hxl he hs hf) (pss_cons (ps_if ht ha pss_nil)
    (pss_cons (ps_expr (pe_bm PySem.F.plainAttrs_list PySem.F.slot_list_append PySem.F.type_list_append mt_append (pe_ix ix_seq (pe_var hi hv hd hcd) pe_int hix) (pa_cons pe_str pa_nil hs4) hb4 hw4 hl4 hs4 hp4) hx4) hr))).impD fun Z σ H ⟨A, S, g, σd, s, q⟩ => by
  unfold sJunkA at q
  cases e1 : fe (purS σd) g with
  | bad => rw [e1] at q; exact q.elim
  | err x g' => rw [e1] at q; exact q.elim
  | ok d g1 =>
    rw [e1] at q
    cases d with
    | lst ds =>
      by_cases c : (decide (i < σd.length) && (lls ds && (Gpur g && Gpur g1))) = true
      · have q : KS (Cx.sur X E) m e0 A S (if (decide (i < σd.length) && (lls ds && (Gpur g && Gpur g1))) = true then _ else .bad) Z := q
        rw [if_pos c] at q
        obtain ⟨c1, c2⟩ := Bool.and_eq_true_iff.mp c
        obtain ⟨c2, c3⟩ := Bool.and_eq_true_iff.mp c2
        obtain ⟨c3, c4⟩ := Bool.and_eq_true_iff.mp c3
        have li : i < σ.length := by rw [s.rep.len]; exact of_decide_eq_true c1
        refine ⟨A, tupH S, g, purS σd, s.ok.res c3, s.rep.res, ?_⟩
        rw [e1]
        intro A1 S1 H1 v P o1 rv
        have rv : Rep X.K A1 S1 v (.lst ds) := rv
        -- the call's lists are new
        have newl : ∀ p vs, S1 p = some (.lst vs) → H p = none := fun p vs hp => by
          have hHp : H1 p = some (.lst vs) := o1.ext _ _ hp
          rcases P.snew p _ hp with z | z | ⟨nz, xs, z⟩
          · rcases (tupH_some z).2 with ⟨xs, w⟩ | ⟨ob, xs, w⟩ | ⟨φ, w⟩ <;> cases w
          · exact z
          · have := P.keep p _ z nz; rw [hHp] at this; cases this
        have keepS : ∀ x u, S x = some u → H1 x = some u := fun x u h => P.keep x u (s.ok.ext _ _ h) fun z => by rw [s.ok.out x z] at h; cases h
        -- all of it, for the check
        have sm1 : Same S1 (fun x => match S x with | some u => some u | none => S1 x) := fun x u h => by
          cases es : S x with
          | some w =>
            have a := keepS x w es
            have b := o1.ext _ _ h
            rw [a] at b
            simp only [es]; exact b
          | none => simp only [es]; exact h
        generalize hS' : (fun x => match S x with | some u => some u | none => S1 x : Hp) = S' at sm1
        have S'some : ∀ x u, S' x = some u → S x = some u ∨ S1 x = some u := fun x u h => by
          rw [← hS'] at h
          cases es : S x with
          | some w => simp only [es] at h; exact .inl h
          | none => simp only [es] at h; exact .inr h
        have so : Same S S' := fun x u h => by rw [← hS']; simp only [h]
        have oS : Ok X.K A1 S' H1 g1 := ⟨fun x u h => by
            rcases S'some x u h with h | h
            · exact keepS x u h
            · exact o1.ext _ _ h, o1.len, fun k ga c' e1 e2 => (o1.cel k ga c' e1 e2).mono (List.prefix_refl _) sm1 fun _ _ => rfl, o1.nd, fun x hx => by
            cases hu : S' x with
            | none => rfl
            | some u =>
              rcases S'some x u hu with h | h
              · rcases P.anew x hx with z | z
                · rw [s.ok.out x z] at h; cases h
                · rw [s.ok.ext _ _ h] at z; cases z
              · rw [o1.out x hx] at h; cases h⟩
        have PS : Post A S H A1 S' H1 := ⟨P.a, so, fun x u h => by
            rcases S'some x u h with h | h
            · exact .inl h
            · rcases P.snew x u h with z | z
              · exact .inl (tupH_some z).1
              · exact .inr z, P.keep, P.dom, P.anew⟩
        have s1 := (s.post' PS oS).setSh (rv.mono (List.prefix_refl _) sm1) i
        obtain ⟨p0, vs0, rfl, hp0, rr⟩ : ∃ p0 vs0, v = .ref p0 ∧ S1 p0 = some (.lst vs0) ∧ RepL X.K A1 S1 vs0 ds := by
          cases rv with
          | @lst p vs _ h r => exact ⟨p, vs, rfl, h, r⟩
        have hn0 := newl p0 vs0 hp0
        have at0 : (σ.set i (some (V.ref p0)))[i]? = some (some (V.ref p0)) := List.getElem?_set_self li
        have l0 : vs0.length < 1000000 := by
          obtain ⟨f1, _⟩ := Bool.and_eq_true_iff.mp c2
          obtain ⟨f1, _⟩ := Bool.and_eq_true_iff.mp f1
          rw [rr.length]
          exact of_decide_eq_true f1
        refine ⟨A1, S', g1, _, s1.ok, s1.rep, ?_⟩
        cases e2 : ft (σd.set i (some (.sh (.lst ds)))) g1 with
        | bad => rw [bind_bad e2] at q; exact q.elim
        | err y g' =>
          rw [bind_err e2] at q
          exact fun A2 S2 H2 c' dd p2 o2 xr => q A2 S2 H2 c' dd (s1.post.trans p2) o2 xr
        | ok b g2 =>
          rw [bind_ok e2] at q
          intro A2 S2 H2 p2 o2
          cases b with
          | true =>
            show tS (Cx.sur X E) m e0 f2 _ _ _
            refine ⟨A2, S2, g2, _, s1.post' p2 o2, ?_⟩
            have q : KS (Cx.sur X E) m e0 A S (retOnly f2 (σd.set i (some (.sh (.lst ds)))) g2) Z := q
            unfold retOnly at q
            cases e3 : f2 (σd.set i (some (.sh (.lst ds)))) g2 with
            | bad => rw [e3] at q; exact q.elim
            | err y g' => rw [e3] at q; exact q.elim
            | ok fl g' =>
              rw [e3] at q
              cases fl with
              | rt d => exact q
              | nx _ => exact q.elim
              | bk _ => exact q.elim
              | ct _ => exact q.elim
          | false =>
            have q : KS (Cx.sur X E) m e0 A S (if Gpur g2 = true then _ else .bad) Z := q
            by_cases cg : Gpur g2 = true
            · rw [if_pos cg] at q
              have sub : Same S S2 := so.trans p2.s
              have p02 : S2 p0 = some (.lst vs0) := p2.s _ _ (sm1 _ _ hp0)
              have sp0 : S p0 = none := Same.free s.ok.ext hn0
              have j0 : junkS S S2 p0 = none := junk_none sp0 p02
              have h20 : H2 p0 = some (.lst vs0) := o2.ext _ _ p02
              have ng0 : p0 ∉ gfp A2 := fun z => by rw [o2.out p0 z] at p02; cases p02
              have o3 := junk_ok sub o2 cg
              have P2 : Post A S H A2 S2 H2 := PS.trans p2
              have P3 : Post A S H A2 (junkS S S2) H2 := junk_post sub (Same.refl _) P2
              have E3 : Post e0.A e0.S e0.H A2 (junkS S S2) H2 := junk_post sub s.post.s (s.post.trans P2)
              have r3 : SRep X.K A2 (junkS S S2) H2 (σ.set i (some (V.ref p0))) (σd.set i none) := (s.rep.post P3).unset' i _
              have no0 : ∀ (p : Addr), H p = none → ∀ (j : Nat) (d : D), (σd.set i none)[j]? = some (some (.ow d)) → (σ.set i (some (V.ref p0)))[j]? = some (some (.ref p)) → False := fun p hp j d ed es => by
                by_cases h : i = j
                · subst h
                  rw [List.getElem?_set] at ed
                  simp at ed
                · rw [List.getElem?_set_ne h] at ed es
                  obtain ⟨p', e1, _, _, e4⟩ := s.rep.ow ed
                  rw [es] at e1; cases e1
                  obtain ⟨u, hu⟩ := e4.some
                  rw [hp] at hu; cases hu
              have own3 : ∀ (j : Nat) (d : D) (p : Addr), (σd.set i none)[j]? = some (some (.ow d)) → (σ.set i (some (V.ref p0)))[j]? = some (some (.ref p)) → e0.H p = none := fun j d p ed es => by
                by_cases h : i = j
                · subst h
                  rw [List.getElem?_set] at ed
                  simp at ed
                · rw [List.getElem?_set_ne h] at ed es
                  exact s.own j d p ed es
              have q : KS (Cx.sur X E) m e0 A S ((if ds = [] then M.bad else fr (σd.set i none)) g2) Z := q
              have fl2 : A <+: A2 ∧ Same S (junkS S S2) := ⟨P3.a, junk_old⟩
              by_cases hds : ds = []
              · rw [if_pos hds] at q; exact q.elim
              · rw [if_neg hds] at q
                obtain ⟨d1, dr, rfl⟩ : ∃ d1 dr, ds = d1 :: dr := by
                  cases ds with
                  | nil => exact absurd rfl hds
                  | cons a b => exact ⟨a, b, rfl⟩
                obtain ⟨p1', vs1, vr, rfl, hp1, l1, ne10⟩ : ∃ p1' vs1 vr, vs0 = .ref p1' :: vr ∧ S1 p1' = some (.lst vs1) ∧ vs1.length < 1000000 ∧ p1' ≠ p0 := by
                  obtain ⟨f1, f2⟩ := Bool.and_eq_true_iff.mp c2
                  obtain ⟨_, f1⟩ := Bool.and_eq_true_iff.mp f1
                  have f3 := List.all_eq_true.mp f2 d1 List.mem_cons_self
                  have rr0 := rr
                  cases rr with
                  | cons h1 _ =>
                    cases d1 with
                    | lst es =>
                      cases h1 with
                      | @lst p vs _ h r =>
                        refine ⟨p, vs, _, rfl, h, by rw [r.length]; exact of_decide_eq_true f3, fun z => ?_⟩
                        rw [z, hp0] at h
                        cases h
                        have f4 : D.plas es = true := (Bool.and_eq_true_iff.mp f1).1
                        have e := RepL.nod_eq r rr0 f4 f1
                        have e2 : D.nods (.lst es :: dr) = (1 + D.nods es) + D.nods dr := rfl
                        omega
                    | _ => cases f3
                have hn1 := newl p1' vs1 hp1
                have p12 : S2 p1' = some (.lst vs1) := p2.s _ _ (sm1 _ _ hp1)
                have j1 : junkS S S2 p1' = none := junk_none (Same.free s.ok.ext hn1) p12
                have h21 : H2 p1' = some (.lst vs1) := o2.ext _ _ p12
                have ng1 : p1' ∉ gfp A2 := fun z => by rw [o2.out p1' z] at p12; cases p12
                refine ⟨.ref p0, at0, ?_⟩
                refine .inl ⟨p0, _, 0, .ref p1', rfl, rfl, .inl (.inl h20), jk_at0 _ _, tyV_lst h21, ?_⟩
                refine ⟨p1', vs1, .str z4, rfl, rfl, h21, by rw [sizeLine_eq]; omega, ?_⟩
                refine ⟨A2, junkS S S2, g2, _, ⟨o3.writeO j1 ng1, r3.loose j1 (no0 p1' hn1), E3.writeNew (none_back s.post.dom hn1), own3⟩, q.floor fl2.1 fl2.2⟩
            · rw [if_neg cg] at q; exact q.elim
      · have q : KS (Cx.sur X E) m e0 A S (if (decide (i < σd.length) && (lls ds && (Gpur g && Gpur g1))) = true then _ else .bad) Z := q
        rw [if_neg c] at q; exact q.elim
    | _ => exact q.elim
end
end NS
set_option maxHeartbeats 4000000
namespace NS
open PySem PySem.Spec PyProof.Rows L2
def topS (i : Nat) : Stmt := PySem.Challenge.pw_nearslot_k23_views_of_small_tables.main.body.getD i (.Pass ⟨0, 0, 0, 0⟩)
abbrev s_TooMany : Stmt := iniOf (topS 1)
theorem sc_TooMany : FnScope ["self", "many"] ["self", "many"] (defScope s_TooMany) := ⟨rfl, rfl, rfl, by decide +kernel, rfl, by decide +kernel, by decide +kernel⟩
theorem ex_TooMany {P : Program} {w : World} {K : PySem.W.Frag} {mg : Str → Option Value} {base : Heap} {C fI : Addr} {fd : FuncData} (hm : mg "TooMany" = some (.ref C)) (T : OexG K C "OverflowError.__new__" [.type "OverflowError", .type "ArithmeticError", .type "Exception", .type "BaseException", .type "object"]) (hi : PySem.W.findIn K (.ref C) "__init__" = some (some (.ref fI))) (ht : PySem.W.typeIn K (.ref fI) = some (.type "function")) (hno : PySem.W.findIn K (.ref C) "many" = some none) (F : L2.Fun K "__init__" "TooMany.__init__" s_TooMany fI fd)
    (n_OverflowError : mg "OverflowError" = none) (vV : PySem.W.findCls K (.type "OverflowError") (.type "type") "__init__" = some (.val (.builtin "OverflowError.__init__"))) : Ex1 P w K mg base "TooMany" "many" :=
  Ex1.mk' xb_OE T hm hi ht hno F sc_TooMany (fun _ _ _ _ _ _ us hl => match us, hl with | [_, _], _ => rfl) fun cdv A outer s H E => ⟨"there are too many to list", pss_cons (ps_expr (pe_exI xb_OE rfl n_OverflowError rfl vV (pa_cons (pe_var (i := 0) rfl (.inl rfl)) (pa_cons pe_str pa_nil)) rfl)) (pss_one (ps_exS xb_OE (pe_var (i := 0) rfl (.inl rfl)) (pe_var (i := 1) rfl (.inl rfl))))⟩
abbrev s_is_integer : Stmt := topS 4
theorem sc_is_integer : FnScope ["thing"] ["thing"] (defScope s_is_integer) := ⟨rfl, rfl, rfl, by decide +kernel, rfl, by decide +kernel, by decide +kernel⟩
theorem ok_is_integer {P : Program} {w : World} {K : PySem.W.Frag} {mg : Str → Option Value} {base : Heap} (a_is_integer : At K mg "is_integer" s_is_integer) (n_bool : mg "bool" = none) (n_int : mg "int" = none) (n_isinstance : mg "isinstance" = none) : Has P w K mg base "is_integer" s_is_integer 1 ["thing"] false d_is_integer :=
  Has.mk' (k := 0) a_is_integer sc_is_integer fun f cdv A outer s H E e0 hr hx hp =>
    (ds_one (ds_ret (de_and (de_isi (n := "int") n_isinstance n_int (de_var 0)) (de_and1 (de_not (de_isi (n := "bool") n_isinstance n_bool (de_var 0)))))))
abbrev s_needs : Stmt := topS 5
theorem sc_needs : FnScope ["size", "cell", "wish"] ["size", "cell", "wish"] (defScope s_needs) := ⟨rfl, rfl, rfl, by decide +kernel, rfl, by decide +kernel, by decide +kernel⟩
theorem ok_needs {P : Program} {w : World} {K : PySem.W.Frag} {mg : Str → Option Value} {base : Heap} (a_needs : At K mg "needs" s_needs) (n_max : mg "max" = none) (n_min : mg "min" = none) (n_range : mg "range" = none) (n_tuple : mg "tuple" = none) : Has P w K mg base "needs" s_needs 1 ["size", "cell", "wish"] false d_needs :=
  Has.mk' (k := 0) a_needs sc_needs fun f cdv A outer s H E e0 hr hx hp =>
    (ds_cons (ds_if (dt_cmp op_geD (de_var 1) (de_var 2))
    (ds_one (ds_ret (de_tupRg n_tuple (dr_2 n_range (de_callB cl_max2 n_max (dl_cons de_int (dl_cons (de_bin op_subD (de_bin op_mulD de_int (de_var 2)) (de_var 1)) dl_nil))) (de_var 1)))))
    ds_nil)
    (ds_one (ds_ret (de_tupRg n_tuple (dr_2 n_range (de_bin op_addD (de_var 1) de_int) (de_callB cl_min2 n_min (dl_cons (de_var 0) (dl_cons (de_bin op_subD (de_bin op_mulD de_int (de_var 2)) (de_var 1)) dl_nil))))))))
abbrev s_taken : Stmt := topS 6
theorem sc_taken : FnScope ["table", "cell", "entry"] ["table"] (defScope s_taken) := ⟨rfl, rfl, rfl, by decide +kernel, rfl, by decide +kernel, by decide +kernel⟩
theorem ok_taken {P : Program} {w : World} {K : PySem.W.Frag} {mg : Str → Option Value} {base : Heap} (a_taken : At K mg "taken" s_taken) (n_enumerate : mg "enumerate" = none) : Has P w K mg base "taken" s_taken 1 ["table"] true d_taken :=
  Has.mk' (k := 0) a_taken sc_taken fun f cdv A outer s H E e0 hr hx hp =>
    (ds_one (ds_ret (de_comp (m := true) (own := [("cell", 1), ("entry", 2)]) sc_taken.nd (di_enum n_enumerate (dl_cons (de_var 0) dl_nil)) (blkOk_by (by kernel_rfl)) (gNs_noerr [1, 2]) (fun _ _ _ _ _ => (dg_tup (pgs_consN (i := 1) sc_taken.nd (pgs_consN (i := 2) sc_taken.nd pgs_nilN)))) (fun _ _ _ _ _ => (dts_one (dt_cmp op_isnotD (de_var 2) de_non))) (fun _ _ _ _ _ => (de_var 1)))))
abbrev s_need_of : Stmt := topS 7
theorem sc_need_of : FnScope ["table", "cell", "wish"] ["table", "cell"] (defScope s_need_of) := ⟨rfl, rfl, rfl, by decide +kernel, rfl, by decide +kernel, by decide +kernel⟩
theorem ok_need_of {P : Program} {w : World} {K : PySem.W.Frag} {mg : Str → Option Value} {base : Heap} (a_need_of : At K mg "need_of" s_need_of) (n_len : mg "len" = none) (c_UNKNOWN : GStr mg "UNKNOWN" "?") (h_needs : Has P w K mg base "needs" s_needs 1 ["size", "cell", "wish"] false d_needs) : Has P w K mg base "need_of" s_need_of 2 ["table", "cell"] false d_need_of :=
  Has.mk' (k := 1) a_need_of sc_need_of fun f cdv A outer s H E e0 hr hx hp =>
    (ds_cons (ds_set (m1 := false) (i := 2) sc_need_of.nd (de_ix (de_var 0) (de_var 1)))
    (ds_one (ds_ret (de_if (dt_cmp (op_eqDD (room64 hr)) (de_var 2) (de_gstr c_UNKNOWN)) (de_tup dl_nil) (de_fn h_needs (by exact hr.mono (by omega)) (by exact hx) (dl_cons (de_callB cl_len n_len (dl_cons (de_var 0) dl_nil)) (dl_cons (de_var 1) (dl_cons (de_var 2) dl_nil))) (by exact fun _ _ _ _ _ _ us hl => match us, hl with | [_, _, _], _ => rfl))))))
abbrev s_choose : Stmt := topS 10
theorem sc_choose : FnScope ["many", "few", "found", "turn"] ["many", "few"] (defScope s_choose) := ⟨rfl, rfl, rfl, by decide +kernel, rfl, by decide +kernel, by decide +kernel⟩
theorem ok_choose {P : Program} {w : World} {K : PySem.W.Frag} {mg : Str → Option Value} {base : Heap} (a_choose : At K mg "choose" s_choose) (n_range : mg "range" = none) : Has P w K mg base "choose" s_choose 1 ["many", "few"] false d_choose :=
  Has.mk' (k := 0) a_choose sc_choose fun f cdv A outer s H E e0 hr hx hp =>
    (ds_cons (ds_set (m1 := false) (i := 2) sc_choose.nd de_int)
    (ds_cons (ds_for (vs := [3]) hp (di_range1 n_range (dl_cons (de_var 1) dl_nil)) (dg_name (i := 3) sc_choose.nd) (tg_name 3)
    (ds_one (ds_set (m1 := false) (i := 2) sc_choose.nd (de_bin op_fdivD (de_bin op_mulD (de_var 2) (de_bin op_subD (de_var 0) (de_var 3))) (de_bin op_addD (de_var 3) de_int)))))
    (ds_one (ds_ret (de_var 2)))))
abbrev s_gaps : Stmt := topS 11
theorem sc_gaps : FnScope ["table", "pairs", "other", "cell", "empty"] ["table"] (defScope s_gaps) := ⟨rfl, rfl, rfl, by decide +kernel, rfl, by decide +kernel, by decide +kernel⟩
theorem ok_gaps {P : Program} {w : World} {K : PySem.W.Frag} {mg : Str → Option Value} {base : Heap} (a_gaps : At K mg "gaps" s_gaps) (h_taken : Has P w K mg base "taken" s_taken 1 ["table"] true d_taken) (h_need_of : Has P w K mg base "need_of" s_need_of 2 ["table", "cell"] false d_need_of) : Has P w K mg base "gaps" s_gaps 3 ["table"] true d_gaps :=
  Has.mk' (k := 2) a_gaps sc_gaps fun f cdv A outer s H E e0 hr hx hp =>
    (ds_cons (ds_setComp (m1 := false) (i := 1) (own := [("cell", 3)]) sc_gaps.nd (di_seq (DE.sh (de_fn h_taken (by exact hr.mono (by omega)) (by exact hx) (dl_cons (de_var 0) dl_nil) (by exact fun _ _ _ _ _ _ us hl => match us, hl with | [_], _ => rfl)))) (blkOk_by (by kernel_rfl)) (gN_noerr 3) (fun _ _ _ _ _ => (dg_name (i := 3) sc_gaps.nd)) (fun _ _ _ _ _ => dts_nil) (fun _ _ _ _ _ => (de_tup (dl_cons (de_var 3) (dl_cons (de_comp (m := false) (own := [("other", 2)]) sc_gaps.nd (di_seq (de_fn h_need_of (by exact hr.mono (by omega)) (by exact passD) (dl_cons (de_var 0) (dl_cons (de_var 3) dl_nil)) (by exact fun _ _ _ _ _ _ us hl => match us, hl with | [_, _], _ => rfl))) (blkOk_by (by kernel_rfl)) (gN_noerr 2) (fun _ _ _ _ _ => (dg_name (i := 2) sc_gaps.nd)) (fun _ _ _ _ _ => (dts_one (dt_cmp op_isD (de_ix (de_var 0) (de_var 2)) de_non))) (fun _ _ _ _ _ => (de_var 2))) dl_nil)))))
    (ds_one (ds_ret (de_comp2 (m := true) (own := [("cell", 3), ("empty", 4), ("other", 2)]) (vs1 := [2]) sc_gaps.nd (di_seq (de_var 1)) (blkOk_by (by kernel_rfl)) (tg_names [3, 4]) (gN_noerr 2) (by decide) (fun _ _ _ _ _ => (dg_tup (pgs_consN (i := 3) sc_gaps.nd (pgs_consN (i := 4) sc_gaps.nd pgs_nilN)))) (fun _ _ _ _ _ => dts_nil) (fun _ _ _ _ _ => (di_seq (de_var 4))) (fun _ _ _ _ _ => (dg_name (i := 2) sc_gaps.nd)) (fun _ _ _ _ _ => dts_nil) (fun _ _ _ _ _ => (de_tup (dl_cons (de_var 3) (dl_cons (de_var 2) dl_nil))))))))
abbrev s_bounds : Stmt := topS 12
theorem sc_bounds : FnScope ["table", "cells", "found", "at", "cell", "wanted", "index", "other"] ["table", "cells"] (defScope s_bounds) := ⟨rfl, rfl, rfl, by decide +kernel, rfl, by decide +kernel, by decide +kernel⟩
theorem ok_bounds {P : Program} {w : World} {K : PySem.W.Frag} {mg : Str → Option Value} {base : Heap} (a_bounds : At K mg "bounds" s_bounds) (n_enumerate : mg "enumerate" = none) (n_max : mg "max" = none) (n_min : mg "min" = none) (h_need_of : Has P w K mg base "need_of" s_need_of 2 ["table", "cell"] false d_need_of) : Has P w K mg base "bounds" s_bounds 3 ["table", "cells"] true d_bounds :=
  Has.mk' (k := 2) a_bounds sc_bounds fun f cdv A outer s H E e0 hr hx hp =>
    (ds_cons (ds_set (m1 := true) (i := 2) sc_bounds.nd (de_lst (m := true) dl_nil))
    (ds_cons (ds_for (vs := [3, 4]) hp (di_enum n_enumerate (dl_cons (de_var 1) dl_nil)) (dg_tup (pgs_consN (i := 3) sc_bounds.nd (pgs_consN (i := 4) sc_bounds.nd pgs_nilN))) (tg_names [3, 4])
    (ds_cons (ds_set (m1 := false) (i := 5) sc_bounds.nd (de_bin op_addD (de_lst (m := false) (dl_cons (de_var 3) dl_nil)) (de_comp (m := false) (own := [("index", 6), ("other", 7)]) sc_bounds.nd (di_enum n_enumerate (dl_cons (de_var 1) dl_nil)) (blkOk_by (by kernel_rfl)) (gNs_noerr [6, 7]) (fun _ _ _ _ _ => (dg_tup (pgs_consN (i := 6) sc_bounds.nd (pgs_consN (i := 7) sc_bounds.nd pgs_nilN)))) (fun _ _ _ _ _ => (dts_one (dt_cmp (op_inDD (room65 hr)) (de_var 7) (de_fn h_need_of (by exact hr.mono (by omega)) (by exact passD) (dl_cons (de_var 0) (dl_cons (de_var 4) dl_nil)) (by exact fun _ _ _ _ _ _ us hl => match us, hl with | [_, _], _ => rfl))))) (fun _ _ _ _ _ => (de_var 6)))))
    (ds_one (ds_append 2 (de_tup (dl_cons (de_callB cl_min n_min (dl_cons (de_var 5) dl_nil)) (dl_cons (de_bin op_addD (de_callB cl_max n_max (dl_cons (de_var 5) dl_nil)) de_int) dl_nil)))))))
    (ds_one (ds_retO 2))))
abbrev s_is_inside : Stmt := topS 13
theorem sc_is_inside : FnScope ["bound", "first", "end"] ["bound", "first", "end"] (defScope s_is_inside) := ⟨rfl, rfl, rfl, by decide +kernel, rfl, by decide +kernel, by decide +kernel⟩
theorem ok_is_inside {P : Program} {w : World} {K : PySem.W.Frag} {mg : Str → Option Value} {base : Heap} (a_is_inside : At K mg "is_inside" s_is_inside) : Has P w K mg base "is_inside" s_is_inside 1 ["bound", "first", "end"] false d_is_inside :=
  Has.mk' (k := 0) a_is_inside sc_is_inside fun f cdv A outer s H E e0 hr hx hp =>
    (ds_one (ds_ret (de_and (de_cmp op_leD (de_var 1) (de_ix (de_var 0) de_int)) (de_and1 (de_cmp op_leD (de_ix (de_var 0) de_int) (de_var 2))))))
abbrev s_part_table : Stmt := topS 14
theorem sc_part_table : FnScope ["limits", "size", "found", "first", "length", "end", "total", "last"] ["limits"] (defScope s_part_table) := ⟨rfl, rfl, rfl, by decide +kernel, rfl, by decide +kernel, by decide +kernel⟩
theorem ok_part_table {P : Program} {w : World} {K : PySem.W.Frag} {mg : Str → Option Value} {base : Heap} (a_part_table : At K mg "part_table" s_part_table) (n_len : mg "len" = none) (n_range : mg "range" = none) (h_is_inside : Has P w K mg base "is_inside" s_is_inside 1 ["bound", "first", "end"] false d_is_inside) (h_choose : Has P w K mg base "choose" s_choose 1 ["many", "few"] false d_choose) : Has P w K mg base "part_table" s_part_table 2 ["limits"] true d_part_table :=
  Has.mk' (k := 1) a_part_table sc_part_table fun f cdv A outer s H E e0 hr hx hp =>
    (ds_cons (ds_set (m1 := false) (i := 1) sc_part_table.nd (de_callB cl_len n_len (dl_cons (de_var 0) dl_nil)))
    (ds_cons (ds_set (m1 := true) (i := 2) sc_part_table.nd (de_dnewT (m := true)))
    (ds_cons (ds_for (vs := [3]) hp (di_range1 n_range (dl_cons (de_bin op_addD (de_var 1) de_int) dl_nil)) (dg_name (i := 3) sc_part_table.nd) (tg_name 3)
    (ds_one (ds_dput 2 (room65 hr) de_int (de_tup (dl_cons (de_var 3) (dl_cons (de_var 3) dl_nil))))))
    (ds_cons (ds_for (vs := [4]) hp (di_range2 n_range (dl_cons de_int (dl_cons (de_bin op_addD (de_var 1) de_int) dl_nil))) (dg_name (i := 4) sc_part_table.nd) (tg_name 4)
    (ds_one (ds_for (vs := [3]) hp (di_range1 n_range (dl_cons (de_bin op_addD (de_bin op_subD (de_var 1) (de_var 4)) de_int) dl_nil)) (dg_name (i := 3) sc_part_table.nd) (tg_name 3)
    (ds_cons (ds_set (m1 := false) (i := 5) sc_part_table.nd (de_bin op_addD (de_var 3) (de_var 4)))
    (ds_cons (ds_set (m1 := false) (i := 6) sc_part_table.nd de_int)
    (ds_cons (ds_for (vs := [7]) hp (di_seq (de_comp (m := false) (own := [("last", 7)]) sc_part_table.nd (di_range2 n_range (dl_cons (de_var 3) (dl_cons (de_var 5) dl_nil))) (blkOk_by (by kernel_rfl)) (gN_noerr 7) (fun _ _ _ _ _ => (dg_name (i := 7) sc_part_table.nd)) (fun _ _ _ _ _ => (dts_one (dt_val (de_fn h_is_inside (by exact hr.mono (by omega)) (by exact passD) (dl_cons (de_ix (de_var 0) (de_var 7)) (dl_cons (de_var 3) (dl_cons (de_var 5) dl_nil))) (by exact fun _ _ _ _ _ _ us hl => match us, hl with | [_, _, _], _ => rfl))))) (fun _ _ _ _ _ => (de_var 7)))) (dg_name (i := 7) sc_part_table.nd) (tg_name 7)
    (ds_one (ds_aug 6 sc_part_table.nd iop_addD (de_bor 2 (de_bin op_mulD (de_bin op_mulD (de_fn h_choose (by exact hr.mono (by omega)) (by exact hx) (dl_cons (de_bin op_subD (de_var 4) de_int) (dl_cons (de_bin op_subD (de_var 7) (de_var 3)) dl_nil)) (by exact fun _ _ _ _ _ _ us hl => match us, hl with | [_, _], _ => rfl)) (de_ixD (room65 hr) (de_var 2) (de_tup (dl_cons (de_var 3) (dl_cons (de_var 7) dl_nil))))) (de_ixD (room65 hr) (de_var 2) (de_tup (dl_cons (de_bin op_addD (de_var 7) de_int) (dl_cons (de_var 5) dl_nil)))))))))
    (ds_one (ds_dput 2 (room65 hr) (de_var 6) (de_tup (dl_cons (de_var 3) (dl_cons (de_var 5) dl_nil)))))))))))
    (ds_one (ds_retO 2))))))
abbrev s_count_of : Stmt := topS 15
theorem sc_count_of : FnScope ["table", "cells"] ["table", "cells"] (defScope s_count_of) := ⟨rfl, rfl, rfl, by decide +kernel, rfl, by decide +kernel, by decide +kernel⟩
theorem ok_count_of {P : Program} {w : World} {K : PySem.W.Frag} {mg : Str → Option Value} {base : Heap} (a_count_of : At K mg "count_of" s_count_of) (n_len : mg "len" = none) (h_part_table : Has P w K mg base "part_table" s_part_table 2 ["limits"] true d_part_table) (h_bounds : Has P w K mg base "bounds" s_bounds 3 ["table", "cells"] true d_bounds) : Has P w K mg base "count_of" s_count_of 4 ["table", "cells"] false d_count_of :=
  Has.mk' (k := 3) a_count_of sc_count_of fun f cdv A outer s H E e0 hr hx hp =>
    (ds_one (ds_ret (de_ixD (room65 hr) (DE.sh (de_fn h_part_table (by exact hr.mono (by omega)) (by exact hx) (dl_cons (DE.sh (de_fn h_bounds (by exact hr.mono (by omega)) (by exact hx) (dl_cons (de_var 0) (dl_cons (de_var 1) dl_nil)) (by exact fun _ _ _ _ _ _ us hl => match us, hl with | [_, _], _ => rfl))) dl_nil) (by exact fun _ _ _ _ _ _ us hl => match us, hl with | [_], _ => rfl))) (de_tup (dl_cons de_int (dl_cons (de_callB cl_len n_len (dl_cons (de_var 1) dl_nil)) dl_nil))))))
abbrev s_is_possible : Stmt := topS 16
theorem sc_is_possible : FnScope ["table"] ["table"] (defScope s_is_possible) := ⟨rfl, rfl, rfl, by decide +kernel, rfl, by decide +kernel, by decide +kernel⟩
theorem ok_is_possible {P : Program} {w : World} {K : PySem.W.Frag} {mg : Str → Option Value} {base : Heap} (a_is_possible : At K mg "is_possible" s_is_possible) (h_gaps : Has P w K mg base "gaps" s_gaps 3 ["table"] true d_gaps) (h_count_of : Has P w K mg base "count_of" s_count_of 4 ["table", "cells"] false d_count_of) (h_taken : Has P w K mg base "taken" s_taken 1 ["table"] true d_taken) : Has P w K mg base "is_possible" s_is_possible 5 ["table"] false d_is_possible :=
  Has.mk' (k := 4) a_is_possible sc_is_possible fun f cdv A outer s H E e0 hr hx hp =>
    (ds_one (ds_ret (de_and (de_cmp (op_eqDD (room64 hr)) (DE.sh (de_fn h_gaps (by exact hr.mono (by omega)) (by exact hx) (dl_cons (de_var 0) dl_nil) (by exact fun _ _ _ _ _ _ us hl => match us, hl with | [_], _ => rfl))) (de_lst (m := false) dl_nil)) (de_and1 (de_cmp op_gtD (de_fn h_count_of (by exact hr.mono (by omega)) (by exact hx) (dl_cons (de_var 0) (dl_cons (DE.sh (de_fn h_taken (by exact hr.mono (by omega)) (by exact hx) (dl_cons (de_var 0) dl_nil) (by exact fun _ _ _ _ _ _ us hl => match us, hl with | [_], _ => rfl))) dl_nil)) (by exact fun _ _ _ _ _ _ us hl => match us, hl with | [_, _], _ => rfl)) de_int)))))
abbrev s_is_closed : Stmt := topS 18
theorem sc_is_closed : FnScope ["table", "cells", "cell", "other"] ["table", "cells"] (defScope s_is_closed) := ⟨rfl, rfl, rfl, by decide +kernel, rfl, by decide +kernel, by decide +kernel⟩
theorem ok_is_closed {P : Program} {w : World} {K : PySem.W.Frag} {mg : Str → Option Value} {base : Heap} (a_is_closed : At K mg "is_closed" s_is_closed) (n_all : mg "all" = none) (h_need_of : Has P w K mg base "need_of" s_need_of 2 ["table", "cell"] false d_need_of) : Has P w K mg base "is_closed" s_is_closed 3 ["table", "cells"] false d_is_closed :=
  Has.mk' (k := 2) a_is_closed sc_is_closed fun f cdv A outer s H E e0 hr hx hp =>
    (ds_one (ds_ret (de_callB cl_all n_all (dl_cons (de_comp2 (m := false) (own := [("cell", 2), ("other", 3)]) (vs1 := [3]) sc_is_closed.nd (di_seq (de_var 1)) (blkOk_by (by kernel_rfl)) (tg_name 2) (gN_noerr 3) (by decide) (fun _ _ _ _ _ => (dg_name (i := 2) sc_is_closed.nd)) (fun _ _ _ _ _ => dts_nil) (fun _ _ _ _ _ => (di_seq (de_fn h_need_of (by exact hr.mono (by omega)) (by exact passD) (dl_cons (de_var 0) (dl_cons (de_var 2) dl_nil)) (by exact fun _ _ _ _ _ _ us hl => match us, hl with | [_, _], _ => rfl)))) (fun _ _ _ _ _ => (dg_name (i := 3) sc_is_closed.nd)) (fun _ _ _ _ _ => dts_nil) (fun _ _ _ _ _ => (de_cmp (op_inDD (room65 hr)) (de_var 3) (de_var 1)))) dl_nil))))
abbrev s_is_view : Stmt := topS 19
theorem sc_is_view : FnScope ["table", "thing", "cell", "one", "other"] ["table", "thing"] (defScope s_is_view) := ⟨rfl, rfl, rfl, by decide +kernel, rfl, by decide +kernel, by decide +kernel⟩
theorem ok_is_view {P : Program} {w : World} {K : PySem.W.Frag} {mg : Str → Option Value} {base : Heap} (a_is_view : At K mg "is_view" s_is_view) (n_all : mg "all" = none) (n_isinstance : mg "isinstance" = none) (n_tuple : mg "tuple" = none) (n_zip : mg "zip" = none) (h_is_integer : Has P w K mg base "is_integer" s_is_integer 1 ["thing"] false d_is_integer) (h_is_possible : Has P w K mg base "is_possible" s_is_possible 5 ["table"] false d_is_possible) (h_taken : Has P w K mg base "taken" s_taken 1 ["table"] true d_taken) (h_is_closed : Has P w K mg base "is_closed" s_is_closed 3 ["table", "cells"] false d_is_closed) : Has P w K mg base "is_view" s_is_view 6 ["table", "thing"] false d_is_view :=
  Has.mk' (k := 5) a_is_view sc_is_view fun f cdv A outer s H E e0 hr hx hp =>
    (ds_cons (ds_if (dt_w (dw_or (dt_not (dt_val (de_isi (n := "tuple") n_isinstance n_tuple (de_var 1)))) (dw_or1 (dt_not (dt_val (de_callB cl_all n_all (dl_cons (de_comp (m := false) (own := [("cell", 2)]) sc_is_view.nd (di_seq (de_var 1)) (blkOk_by (by kernel_rfl)) (gN_noerr 2) (fun _ _ _ _ _ => (dg_name (i := 2) sc_is_view.nd)) (fun _ _ _ _ _ => dts_nil) (fun _ _ _ _ _ => (de_fn h_is_integer (by exact hr.mono (by omega)) (by exact passD) (dl_cons (de_var 2) dl_nil) (by exact fun _ _ _ _ _ _ us hl => match us, hl with | [_], _ => rfl)))) dl_nil)))))))
    (ds_one (ds_ret de_bl))
    ds_nil)
    (ds_cons (ds_if (dt_w (dw_or (dt_not (dt_val (de_fn h_is_possible (by exact hr.mono (by omega)) (by exact hx) (dl_cons (de_var 0) dl_nil) (by exact fun _ _ _ _ _ _ us hl => match us, hl with | [_], _ => rfl)))) (dw_or1 (dt_not (dt_val (de_callB cl_all n_all (dl_cons (de_comp (m := false) (own := [("cell", 2)]) sc_is_view.nd (di_seq (de_var 1)) (blkOk_by (by kernel_rfl)) (gN_noerr 2) (fun _ _ _ _ _ => (dg_name (i := 2) sc_is_view.nd)) (fun _ _ _ _ _ => dts_nil) (fun _ _ _ _ _ => (de_cmp (op_inDD (room65 hr)) (de_var 2) (DE.sh (de_fn h_taken (by exact hr.mono (by omega)) (by exact passD) (dl_cons (de_var 0) dl_nil) (by exact fun _ _ _ _ _ _ us hl => match us, hl with | [_], _ => rfl)))))) dl_nil)))))))
    (ds_one (ds_ret de_bl))
    ds_nil)
    (ds_one (ds_ret (de_and (de_callB cl_all n_all (dl_cons (de_comp (m := false) (own := [("one", 3), ("other", 4)]) sc_is_view.nd (di_zip2 n_zip (dl_cons (de_var 1) (dl_cons (de_sl (de_var 1) (do_some de_int) do_none) dl_nil))) (blkOk_by (by kernel_rfl)) (gNs_noerr [3, 4]) (fun _ _ _ _ _ => (dg_tup (pgs_consN (i := 3) sc_is_view.nd (pgs_consN (i := 4) sc_is_view.nd pgs_nilN)))) (fun _ _ _ _ _ => dts_nil) (fun _ _ _ _ _ => (de_cmp (op_ltD (room0 hr)) (de_var 3) (de_var 4)))) dl_nil)) (de_and1 (de_fn h_is_closed (by exact hr.mono (by omega)) (by exact hx) (dl_cons (de_var 0) (dl_cons (de_var 1) dl_nil)) (by exact fun _ _ _ _ _ _ us hl => match us, hl with | [_, _], _ => rfl))))))))
abbrev s_all_views : Stmt := topS 20
theorem sc_all_views : FnScope ["table", "found", "cell", "cells"] ["table"] (defScope s_all_views) := ⟨rfl, rfl, rfl, by decide +kernel, rfl, by decide +kernel, by decide +kernel⟩
theorem ok_all_views {P : Program} {w : World} {K : PySem.W.Frag} {mg : Str → Option Value} {base : Heap} (a_all_views : At K mg "all_views" s_all_views) (h_is_possible : Has P w K mg base "is_possible" s_is_possible 5 ["table"] false d_is_possible) (h_taken : Has P w K mg base "taken" s_taken 1 ["table"] true d_taken) (h_is_closed : Has P w K mg base "is_closed" s_is_closed 3 ["table", "cells"] false d_is_closed) : Has P w K mg base "all_views" s_all_views 6 ["table"] true d_all_views :=
  Has.mk' (k := 5) a_all_views sc_all_views fun f cdv A outer s H E e0 hr hx hp =>
    (ds_cons (ds_if (dt_not (dt_val (de_fn h_is_possible (by exact hr.mono (by omega)) (by exact hx) (dl_cons (de_var 0) dl_nil) (by exact fun _ _ _ _ _ _ us hl => match us, hl with | [_], _ => rfl))))
    (ds_one (ds_ret (de_lst (m := true) dl_nil)))
    ds_nil)
    (ds_cons (ds_set (m1 := false) (i := 1) sc_all_views.nd (de_lst (m := false) (dl_cons (de_tup dl_nil) dl_nil)))
    (ds_cons (ds_for (vs := [2]) hp (di_seq (DE.sh (de_fn h_taken (by exact hr.mono (by omega)) (by exact hx) (dl_cons (de_var 0) dl_nil) (by exact fun _ _ _ _ _ _ us hl => match us, hl with | [_], _ => rfl)))) (dg_name (i := 2) sc_all_views.nd) (tg_name 2)
    (ds_one (ds_set (m1 := false) (i := 1) sc_all_views.nd (de_bin op_addD (de_var 1) (de_comp (m := false) (own := [("cells", 3)]) sc_all_views.nd (di_seq (de_var 1)) (blkOk_by (by kernel_rfl)) (gN_noerr 3) (fun _ _ _ _ _ => (dg_name (i := 3) sc_all_views.nd)) (fun _ _ _ _ _ => dts_nil) (fun _ _ _ _ _ => (de_bin op_addD (de_var 3) (de_tup (dl_cons (de_var 2) dl_nil)))))))))
    (ds_one (ds_ret (de_comp (m := true) (own := [("cells", 3)]) sc_all_views.nd (di_seq (de_var 1)) (blkOk_by (by kernel_rfl)) (gN_noerr 3) (fun _ _ _ _ _ => (dg_name (i := 3) sc_all_views.nd)) (fun _ _ _ _ _ => (dts_one (dt_val (de_fn h_is_closed (by exact hr.mono (by omega)) (by exact passD) (dl_cons (de_var 0) (dl_cons (de_var 3) dl_nil)) (by exact fun _ _ _ _ _ _ us hl => match us, hl with | [_, _], _ => rfl))))) (fun _ _ _ _ _ => (de_var 3))))))))
abbrev s_views : Stmt := topS 21
theorem sc_views : FnScope ["table", "many", "found", "cells"] ["table", "many"] (defScope s_views) := ⟨rfl, rfl, rfl, by decide +kernel, rfl, by decide +kernel, by decide +kernel⟩
theorem ok_views {P : Program} {w : World} {K : PySem.W.Frag} {mg : Str → Option Value} {base : Heap} (a_views : At K mg "views" s_views) (n_len : mg "len" = none) (n_sorted : mg "sorted" = none) (c_MOST_LISTED : GInt mg "MOST_LISTED" 300) (x_TooMany : Ex1 P w K mg base "TooMany" "many") (hK : K.In base) (hN : base.Ns mainGlobals mg) (h_all_views : Has P w K mg base "all_views" s_all_views 6 ["table"] true d_all_views) : Has P w K mg base "views" s_views 7 ["table", "many"] true d_views :=
  Has.mkX (k := 6) a_views sc_views hK hN fun f cdv A outer s H E e0 hr hx hp htk hcd =>
    (ds_cons (ds_setComp (m1 := false) (i := 2) (own := [("cells", 3)]) sc_views.nd (di_seq (DE.sh (de_fn h_all_views (by exact hr.mono (by omega)) (by exact hx) (dl_cons (de_var 0) dl_nil) (by exact fun _ _ _ _ _ _ us hl => match us, hl with | [_], _ => rfl)))) (blkOk_by (by kernel_rfl)) (gN_noerr 3) (fun _ _ _ _ _ => (dg_name (i := 3) sc_views.nd)) (fun _ _ _ _ _ => (dts_one (dt_cmp (op_eqDD (room64 hr)) (de_callB cl_len n_len (dl_cons (de_var 3) dl_nil)) (de_var 1)))) (fun _ _ _ _ _ => (de_var 3)))
    (ds_cons (ds_if (dt_cmp op_gtD (de_callB cl_len n_len (dl_cons (de_var 2) dl_nil)) (de_gint c_MOST_LISTED))
    (ds_one (ds_raise1 x_TooMany (by exact hr.mono (by omega)) htk (de_callB cl_len n_len (dl_cons (de_var 2) dl_nil))))
    ds_nil)
    (ds_one (ds_ret (de_callB (cl_sorted (m := true) (room65 hr)) n_sorted (dl_cons (de_var 2) dl_nil))))))
abbrev s_count_views : Stmt := topS 22
theorem sc_count_views : FnScope ["table", "lengths", "cells", "size"] ["table"] (defScope s_count_views) := ⟨rfl, rfl, rfl, by decide +kernel, rfl, by decide +kernel, by decide +kernel⟩
theorem ok_count_views {P : Program} {w : World} {K : PySem.W.Frag} {mg : Str → Option Value} {base : Heap} (a_count_views : At K mg "count_views" s_count_views) (n_len : mg "len" = none) (n_range : mg "range" = none) (h_all_views : Has P w K mg base "all_views" s_all_views 6 ["table"] true d_all_views) (h_taken : Has P w K mg base "taken" s_taken 1 ["table"] true d_taken) : Has P w K mg base "count_views" s_count_views 7 ["table"] true d_count_views :=
  Has.mk' (k := 6) a_count_views sc_count_views fun f cdv A outer s H E e0 hr hx hp =>
    (ds_cons (ds_set (i := 1) sc_count_views.nd (de_comp (m := false) (own := [("cells", 2)]) sc_count_views.nd (di_seq (DE.sh (de_fn h_all_views (by exact hr.mono (by omega)) (by exact hx) (dl_cons (de_var 0) dl_nil) (by exact fun _ _ _ _ _ _ us hl => match us, hl with | [_], _ => rfl)))) (blkOk_by (by kernel_rfl)) (gN_noerr 2) (fun _ _ _ _ _ => (dg_name (i := 2) sc_count_views.nd)) (fun _ _ _ _ _ => dts_nil) (fun _ _ _ _ _ => (de_callB cl_len n_len (dl_cons (de_var 2) dl_nil)))))
    (ds_one (ds_ret (de_comp (m := true) (own := [("size", 3)]) sc_count_views.nd (di_range1 n_range (dl_cons (de_bin op_addD (de_callB cl_len n_len (dl_cons (DE.sh (de_fn h_taken (by exact hr.mono (by omega)) (by exact hx) (dl_cons (de_var 0) dl_nil) (by exact fun _ _ _ _ _ _ us hl => match us, hl with | [_], _ => rfl))) dl_nil)) de_int) dl_nil)) (blkOk_by (by kernel_rfl)) (gN_noerr 3) (fun _ _ _ _ _ => (dg_name (i := 3) sc_count_views.nd)) (fun _ _ _ _ _ => dts_nil) (fun _ _ _ _ _ => (de_methL (k := kCount) F.slot_list_count F.type_list_count (mt_countD (room65 hr)) (de_var 1) (dl_cons (de_var 3) dl_nil)))))))
abbrev s_Lsource : Stmt := topS 24
theorem sc_Lsource : FnScope ["_law_script", "_law_index", "_law_core"] ["_law_script", "_law_index"] (defScope s_Lsource) := ⟨rfl, rfl, rfl, by decide +kernel, rfl, by decide +kernel, by decide +kernel⟩
theorem ok_Lsource {P : Program} {w : World} {K : PySem.W.Frag} {mg : Str → Option Value} {base : Heap} (a_Lsource : At K mg "_law_source" s_Lsource) (n_abs : mg "abs" = none) (n_int : mg "int" = none) (n_len : mg "len" = none) : Has P w K mg base "_law_source" s_Lsource 1 ["_law_script", "_law_index"] false d_Lsource :=
  Has.mk' (k := 0) a_Lsource sc_Lsource fun f cdv A outer s H E e0 hr hx hp =>
    (ds_cons (ds_set (m1 := false) (i := 2) sc_Lsource.nd de_int)
    (ds_cons (ds_if (dt_cmp (op_ltD (room0 hr)) (de_var 1) (de_callB cl_len n_len (dl_cons (de_var 0) dl_nil)))
    (ds_one (ds_set (m1 := false) (i := 2) sc_Lsource.nd (de_ix (de_var 0) (de_var 1))))
    ds_nil)
    (ds_one (ds_retH (de_lst (m := true) (dl_cons (de_bin op_mulD (de_callB cl_abs n_abs (dl_cons (de_var 2) dl_nil)) (de_callTy cl_int n_int (dl_cons (de_cmp op_geD (de_callB cl_abs n_abs (dl_cons (de_var 2) dl_nil)) (de_bin op_powD de_int de_int)) dl_nil))) (dl_cons (de_bin op_modD (de_bin op_mulD (de_bin op_addD (de_bin op_addD (de_bin op_modD (de_var 2) de_int) (de_bin op_mulD de_int (de_var 1))) de_int) de_int) de_int) (dl_cons de_int dl_nil))))))))
abbrev s_Ldraw : Stmt := topS 25
theorem sc_Ldraw : FnScope ["_law_source_here", "_law_bound", "_law_found", "_law_once"] ["_law_source_here", "_law_bound"] (defScope s_Ldraw) := ⟨rfl, rfl, rfl, by decide +kernel, rfl, by decide +kernel, by decide +kernel⟩
theorem ok_Ldraw {P : Program} {w : World} {K : PySem.W.Frag} {mg : Str → Option Value} {base : Heap} (a_Ldraw : At K mg "_law_draw" s_Ldraw) : ∀ n, Has P w K mg base "_law_draw" s_Ldraw (1 + n) ["_law_source_here", "_law_bound"] false (d_Ldraw n)
  | 0 => Has.bad a_Ldraw _ _ _
  | n + 1 => by
    have h_self := ok_Ldraw (P := P) (w := w) (base := base) a_Ldraw n
    exact Has.mk' (k := 1 + n) a_Ldraw sc_Ldraw fun f cdv A outer s H E e0 hr hx hp =>
    (ds_cons (ds_if (dt_cmp op_gtD (de_ix (de_var 0) de_int) de_int)
    (ds_cons (ds_set (m1 := false) (i := 2) sc_Ldraw.nd (de_bin op_modD (de_ix (de_var 0) de_int) (de_var 1)))
    (ds_cons (ds_setIxH 0 (de_bin op_fdivD (de_ix (de_var 0) de_int) (de_var 1)) de_int)
    (ds_one (ds_ret (de_var 2)))))
    ds_nil)
    (ds_cons (ds_if (dt_cmp op_gtD (de_var 1) (de_bin op_powD de_int de_int))
    (ds_one (ds_ret (de_bin op_modD (de_bin op_addD (de_fn h_self (by exact hr.mono (by omega)) (by exact hx) (dl_cons (de_var 0) (dl_cons (de_bin op_powD de_int de_int) dl_nil)) (by exact fun _ _ _ _ _ _ us hl => match us, hl with | [_, _], _ => rfl)) (de_bin op_mulD (de_bin op_powD de_int de_int) (de_fn h_self (by exact hr.mono (by omega)) (by exact hx) (dl_cons (de_var 0) (dl_cons (de_bin op_addD (de_bin op_fdivD (de_var 1) (de_bin op_powD de_int de_int)) de_int) dl_nil)) (by exact fun _ _ _ _ _ _ us hl => match us, hl with | [_, _], _ => rfl)))) (de_var 1))))
    ds_nil)
    (ds_cons (ds_setIxH 0 (de_bin op_addD (de_ix (de_var 0) de_int) de_int) de_int)
    (ds_cons (ds_set (m1 := false) (i := 3) sc_Ldraw.nd (de_bin op_modD (de_bin op_powD (de_bin op_addD (de_ix (de_var 0) de_int) (de_bin op_mulD de_int (de_ix (de_var 0) de_int))) de_int) de_int))
    (ds_one (ds_ret (de_bin op_modD (de_bin op_fdivD (de_bin op_modD (de_bin op_addD (de_bin op_mulD (de_var 3) (de_bin op_addD (de_bin op_modD (de_var 3) de_int) de_int)) (de_bin op_mulD (de_ix (de_var 0) de_int) de_int)) de_int) de_int) (de_var 1))))))))
abbrev s_Lchoice : Stmt := topS 26
theorem sc_Lchoice : FnScope ["_law_source_here", "_law_row_here"] ["_law_source_here", "_law_row_here"] (defScope s_Lchoice) := ⟨rfl, rfl, rfl, by decide +kernel, rfl, by decide +kernel, by decide +kernel⟩
theorem ok_Lchoice {P : Program} {w : World} {K : PySem.W.Frag} {mg : Str → Option Value} {base : Heap} (a_Lchoice : At K mg "_law_choice" s_Lchoice) (n_len : mg "len" = none) (h_Ldraw : Has P w K mg base "_law_draw" s_Ldraw 4 ["_law_source_here", "_law_bound"] false (d_Ldraw 3)) : Has P w K mg base "_law_choice" s_Lchoice 5 ["_law_source_here", "_law_row_here"] false d_Lchoice :=
  Has.mk' (k := 4) a_Lchoice sc_Lchoice fun f cdv A outer s H E e0 hr hx hp =>
    (ds_one (ds_ret (de_ix (de_var 1) (de_fn h_Ldraw (by exact hr.mono (by omega)) (by exact hx) (dl_cons (de_var 0) (dl_cons (de_callB cl_len n_len (dl_cons (de_var 1) dl_nil)) dl_nil)) (by exact fun _ _ _ _ _ _ us hl => match us, hl with | [_, _], _ => rfl)))))
abbrev s_Lequal : Stmt := topS 27
theorem sc_Lequal : FnScope ["_law_found", "_law_due", "_law_lone", "_law_mate"] ["_law_found", "_law_due"] (defScope s_Lequal) := ⟨rfl, rfl, rfl, by decide +kernel, rfl, by decide +kernel, by decide +kernel⟩
theorem ok_Lequal {P : Program} {w : World} {K : PySem.W.Frag} {mg : Str → Option Value} {base : Heap} (a_Lequal : At K mg "_law_equal" s_Lequal) (n_all : mg "all" = none) (n_bool : mg "bool" = none) (n_int : mg "int" = none) (n_isinstance : mg "isinstance" = none) (n_len : mg "len" = none) (n_list : mg "list" = none) (n_str : mg "str" = none) (n_tuple : mg "tuple" = none) (n_zip : mg "zip" = none) : ∀ n, Has P w K mg base "_law_equal" s_Lequal (1 + n) ["_law_found", "_law_due"] false (d_Lequal n)
  | 0 => Has.bad a_Lequal _ _ _
  | n + 1 => by
    have h_self := ok_Lequal (P := P) (w := w) (base := base) a_Lequal n_all n_bool n_int n_isinstance n_len n_list n_str n_tuple n_zip n
    exact Has.mk' (k := 1 + n) a_Lequal sc_Lequal fun f cdv A outer s H E e0 hr hx hp =>
    (ds_cons (ds_if (dt_val (de_isi2 (n1 := "list") (n2 := "tuple") n_isinstance n_list n_tuple (de_var 1)))
    (ds_cons (ds_if (dt_w (dw_or (dt_cmp (op_neDD (room64 hr)) (de_isi (n := "list") n_isinstance n_list (de_var 0)) (de_isi (n := "list") n_isinstance n_list (de_var 1))) (dw_or1 (dt_cmp (op_neDD (room64 hr)) (de_isi (n := "tuple") n_isinstance n_tuple (de_var 0)) (de_isi (n := "tuple") n_isinstance n_tuple (de_var 1))))))
    (ds_one (ds_ret de_bl))
    ds_nil)
    (ds_one (ds_ret (de_and (de_cmp (op_eqDD (room64 hr)) (de_callB cl_len n_len (dl_cons (de_var 0) dl_nil)) (de_callB cl_len n_len (dl_cons (de_var 1) dl_nil))) (de_and1 (de_callB cl_all n_all (dl_cons (de_comp (m := false) (own := [("_law_lone", 2), ("_law_mate", 3)]) sc_Lequal.nd (di_zip2 n_zip (dl_cons (de_var 0) (dl_cons (de_var 1) dl_nil))) (blkOk_by (by kernel_rfl)) (gNs_noerr [2, 3]) (fun _ _ _ _ _ => (dg_tup (pgs_consN (i := 2) sc_Lequal.nd (pgs_consN (i := 3) sc_Lequal.nd pgs_nilN)))) (fun _ _ _ _ _ => dts_nil) (fun _ _ _ _ _ => (de_fn h_self (by exact hr.mono (by omega)) (by exact passD) (dl_cons (de_var 2) (dl_cons (de_var 3) dl_nil)) (by exact fun _ _ _ _ _ _ us hl => match us, hl with | [_, _], _ => rfl)))) dl_nil)))))))
    ds_nil)
    (ds_cons (ds_if (dt_w (dw_or (dt_cmp op_isD (de_var 1) de_non) (dw_or1 (dt_val (de_isi (n := "str") n_isinstance n_str (de_var 1))))))
    (ds_one (ds_ret (de_and (de_cmp (op_eqDD (room64 hr)) (de_var 0) (de_var 1)) (de_and1 (de_cmp (op_eqDD (room64 hr)) (de_isi (n := "str") n_isinstance n_str (de_var 0)) (de_isi (n := "str") n_isinstance n_str (de_var 1)))))))
    ds_nil)
    (ds_one (ds_ret (de_and (de_isi (n := "int") n_isinstance n_int (de_var 0)) (de_and (de_cmp (op_eqDD (room64 hr)) (de_isi (n := "bool") n_isinstance n_bool (de_var 0)) (de_isi (n := "bool") n_isinstance n_bool (de_var 1))) (de_and1 (de_cmp (op_eqDD (room64 hr)) (de_var 0) (de_var 1)))))))))
abbrev s_Lshuffled : Stmt := topS 28
theorem sc_Lshuffled : FnScope ["_law_source_here", "_law_row_here", "_law_rest", "_law_found"] ["_law_source_here", "_law_row_here"] (defScope s_Lshuffled) := ⟨rfl, rfl, rfl, by decide +kernel, rfl, by decide +kernel, by decide +kernel⟩
theorem ok_Lshuffled {P : Program} {w : World} {K : PySem.W.Frag} {mg : Str → Option Value} {base : Heap} (a_Lshuffled : At K mg "_law_shuffled" s_Lshuffled) (n_len : mg "len" = none) (n_list : mg "list" = none) (h_Ldraw : Has P w K mg base "_law_draw" s_Ldraw 4 ["_law_source_here", "_law_bound"] false (d_Ldraw 3)) : Has P w K mg base "_law_shuffled" s_Lshuffled 5 ["_law_source_here", "_law_row_here"] true d_Lshuffled :=
  Has.mk' (k := 4) a_Lshuffled sc_Lshuffled fun f cdv A outer s H E e0 hr hx hp =>
    (ds_cons (ds_par2 sc_Lshuffled.nd (dms_cons (de_callTy (cl_list (m := true)) n_list (dl_cons (de_var 1) dl_nil)) (dms_cons (de_lst (m := true) dl_nil) dms_nil)))
    (ds_cons (ds_while 100 hp (dt_bor 2 (dt_cmp (op_neDD (room64 hr)) (de_var 2) (de_lst (m := false) dl_nil)))
    (ds_one (ds_appPop 3 2 (de_bor 2 (de_fn h_Ldraw (by exact hr.mono (by omega)) (by exact hx) (dl_cons (de_var 0) (dl_cons (de_callB cl_len n_len (dl_cons (de_var 2) dl_nil)) dl_nil)) (by exact fun _ _ _ _ _ _ us hl => match us, hl with | [_, _], _ => rfl))))))
    (ds_one (ds_retO 3))))
abbrev s_Lodd : Stmt := topS 29
theorem sc_Lodd : FnScope ["_law_source_here", "_law_value", "_law_some"] ["_law_source_here", "_law_value"] (defScope s_Lodd) := ⟨rfl, rfl, rfl, by decide +kernel, rfl, by decide +kernel, by decide +kernel⟩
theorem ok_Lodd {P : Program} {w : World} {K : PySem.W.Frag} {mg : Str → Option Value} {base : Heap} (a_Lodd : At K mg "_law_odd" s_Lodd) (n_int : mg "int" = none) (n_isinstance : mg "isinstance" = none) (n_list : mg "list" = none) (n_str : mg "str" = none) (n_tuple : mg "tuple" = none) (h_Lchoice : Has P w K mg base "_law_choice" s_Lchoice 5 ["_law_source_here", "_law_row_here"] false d_Lchoice) : Has P w K mg base "_law_odd" s_Lodd 6 ["_law_source_here", "_law_value"] false d_Lodd :=
  Has.mk' (k := 5) a_Lodd sc_Lodd fun f cdv A outer s H E e0 hr hx hp =>
    (ds_cons (ds_set (m1 := false) (i := 2) sc_Lodd.nd (de_lst (m := false) (dl_cons de_non (dl_cons de_bl (dl_cons de_bl (dl_cons de_int (dl_cons de_int (dl_cons (de_neg de_int) (dl_cons de_str (dl_cons de_str (dl_cons (de_tup dl_nil) (dl_cons (de_lst (m := false) dl_nil) (dl_cons (de_tup (dl_cons de_int dl_nil)) (dl_cons (de_lst (m := false) (dl_cons de_int dl_nil)) (dl_cons (de_tup (dl_cons (de_tup dl_nil) dl_nil)) (dl_cons (de_tup (dl_cons (de_tup dl_nil) (dl_cons (de_tup dl_nil) dl_nil))) (dl_cons (de_tup (dl_cons de_int (dl_cons de_int dl_nil))) dl_nil)))))))))))))))))
    (ds_cons (ds_set (m1 := false) (i := 2) sc_Lodd.nd (de_bin op_addD (de_var 2) (de_lst (m := false) (dl_cons (de_tup (dl_cons de_non (dl_cons de_int dl_nil))) (dl_cons (de_tup (dl_cons de_non dl_nil)) (dl_cons de_str (dl_cons de_int (dl_cons de_int dl_nil))))))))
    (ds_cons (ds_if (dt_val (de_isi (n := "int") n_isinstance n_int (de_var 1)))
    (ds_one (ds_set (m1 := false) (i := 2) sc_Lodd.nd (de_bin op_addD (de_var 2) (de_bin op_mulD (de_lst (m := false) (dl_cons (de_bin op_addV (de_var 1) de_int) (dl_cons (de_bin op_subV (de_var 1) de_int) (dl_cons (de_bin op_subV de_int (de_var 1)) (dl_cons (de_callTy cl_str n_str (dl_cons (de_var 1) dl_nil)) (dl_cons (de_cmp (op_eqDD (room64 hr)) (de_var 1) de_int) dl_nil)))))) de_int))))
    ds_nil)
    (ds_cons (ds_if (dt_val (de_isi2 (n1 := "list") (n2 := "tuple") n_isinstance n_list n_tuple (de_var 1)))
    (ds_one (ds_set (m1 := false) (i := 2) sc_Lodd.nd (de_bin op_addD (de_var 2) (de_bin op_mulD (de_lst (m := false) (dl_cons (de_callTy (cl_list (m := false)) n_list (dl_cons (de_var 1) dl_nil)) (dl_cons (de_callTy cl_tuple n_tuple (dl_cons (de_var 1) dl_nil)) (dl_cons (de_revV (de_var 1)) (dl_cons (de_sl (de_var 1) (do_some de_int) do_none) (dl_cons (de_sl (de_var 1) do_none (do_some (de_neg de_int))) dl_nil)))))) de_int))))
    ds_nil)
    (ds_one (ds_ret (de_fn h_Lchoice (by exact hr.mono (by omega)) (by exact hx) (dl_cons (de_var 0) (dl_cons (de_var 2) dl_nil)) (by exact fun _ _ _ _ _ _ us hl => match us, hl with | [_, _], _ => rfl))))))))
abbrev s_Lbent : Stmt := topS 30
theorem sc_Lbent : FnScope ["_law_source_here", "_law_value", "_law_at", "_law_made", "_law_way"] ["_law_source_here", "_law_value"] (defScope s_Lbent) := ⟨rfl, rfl, rfl, by decide +kernel, rfl, by decide +kernel, by decide +kernel⟩
theorem ok_Lbent {P : Program} {w : World} {K : PySem.W.Frag} {mg : Str → Option Value} {base : Heap} (a_Lbent : At K mg "_law_bent" s_Lbent) (n_isinstance : mg "isinstance" = none) (n_len : mg "len" = none) (n_list : mg "list" = none) (n_tuple : mg "tuple" = none) (h_Ldraw : Has P w K mg base "_law_draw" s_Ldraw 4 ["_law_source_here", "_law_bound"] false (d_Ldraw 3)) (h_Lodd : Has P w K mg base "_law_odd" s_Lodd 6 ["_law_source_here", "_law_value"] false d_Lodd) : ∀ n, Has P w K mg base "_law_bent" s_Lbent (7 + n) ["_law_source_here", "_law_value"] false (d_Lbent n)
  | 0 => Has.bad a_Lbent _ _ _
  | n + 1 => by
    have h_self := ok_Lbent (P := P) (w := w) (base := base) a_Lbent n_isinstance n_len n_list n_tuple h_Ldraw h_Lodd n
    exact Has.mk' (k := 7 + n) a_Lbent sc_Lbent fun f cdv A outer s H E e0 hr hx hp =>
    (ds_cons (ds_if (dt_w (dw_or (dt_not (dt_val (de_isi2 (n1 := "list") (n2 := "tuple") n_isinstance n_list n_tuple (de_var 1)))) (dw_or (dt_cmp (op_eqDD (room64 hr)) (de_callB cl_len n_len (dl_cons (de_var 1) dl_nil)) de_int) (dw_or1 (dt_cmp (op_eqDD (room64 hr)) (de_fn h_Ldraw (by exact hr.mono (by omega)) (by exact hx) (dl_cons (de_var 0) (dl_cons de_int dl_nil)) (by exact fun _ _ _ _ _ _ us hl => match us, hl with | [_, _], _ => rfl)) de_int)))))
    (ds_one (ds_ret (de_fn h_Lodd (by exact hr.mono (by omega)) (by exact hx) (dl_cons (de_var 0) (dl_cons (de_var 1) dl_nil)) (by exact fun _ _ _ _ _ _ us hl => match us, hl with | [_, _], _ => rfl))))
    ds_nil)
    (ds_cons (ds_par3 sc_Lbent.nd (dms_cons (de_fn h_Ldraw (by exact hr.mono (by omega)) (by exact hx) (dl_cons (de_var 0) (dl_cons (de_callB cl_len n_len (dl_cons (de_var 1) dl_nil)) dl_nil)) (by exact fun _ _ _ _ _ _ us hl => match us, hl with | [_, _], _ => rfl)) (dms_cons (de_callTy (cl_list (m := true)) n_list (dl_cons (de_var 1) dl_nil)) (dms_cons (de_fn h_Ldraw (by exact hr.mono (by omega)) (by exact hx) (dl_cons (de_var 0) (dl_cons de_int dl_nil)) (by exact fun _ _ _ _ _ _ us hl => match us, hl with | [_, _], _ => rfl)) dms_nil))))
    (ds_cons (ds_if (dt_cmp (op_eqDD (room64 hr)) (de_var 4) de_int)
    (ds_one (ds_ownL 3 F.slot_list_pop F.type_list_pop mt_popAt eff_pop (dl_cons (de_var 2) dl_nil)))
    (ds_one (ds_if (dt_cmp (op_eqDD (room64 hr)) (de_var 4) de_int)
    (ds_one (ds_ownL 3 F.slot_list_insert F.type_list_insert mt_insert eff_insert (dl_cons (de_var 2) (dl_cons (de_ixO 3 (de_var 2)) dl_nil))))
    (ds_one (ds_if (dt_cmp (op_eqDD (room64 hr)) (de_var 4) de_int)
    (ds_one (ds_setSl 3 (de_rev (m := false) (de_slO 3 (do_some (de_var 2)) (do_some (de_bin op_addD (de_var 2) de_int)))) (de_var 2) (de_bin op_addD (de_var 2) de_int)))
    (ds_one (ds_setIx 3 (de_fn h_self (by exact hr.mono (by omega)) (by exact hx) (dl_cons (de_var 0) (dl_cons (de_ixO 3 (de_var 2)) dl_nil)) (by exact fun _ _ _ _ _ _ us hl => match us, hl with | [_, _], _ => rfl)) (de_var 2))))))))
    (ds_one (ds_frz 3 (ds_ret (de_if (dt_val (de_isi (n := "list") n_isinstance n_list (de_var 1))) (de_var 3) (de_callTy cl_tuple n_tuple (dl_cons (de_var 3) dl_nil)))))))))
abbrev s_Linteger : Stmt := topS 31
theorem sc_Linteger : FnScope ["_law_value"] ["_law_value"] (defScope s_Linteger) := ⟨rfl, rfl, rfl, by decide +kernel, rfl, by decide +kernel, by decide +kernel⟩
theorem ok_Linteger {P : Program} {w : World} {K : PySem.W.Frag} {mg : Str → Option Value} {base : Heap} (a_Linteger : At K mg "_law_integer" s_Linteger) (n_bool : mg "bool" = none) (n_int : mg "int" = none) (n_isinstance : mg "isinstance" = none) : Has P w K mg base "_law_integer" s_Linteger 1 ["_law_value"] false d_Linteger :=
  Has.mk' (k := 0) a_Linteger sc_Linteger fun f cdv A outer s H E e0 hr hx hp =>
    (ds_one (ds_ret (de_and (de_isi (n := "int") n_isinstance n_int (de_var 0)) (de_and1 (de_not (de_isi (n := "bool") n_isinstance n_bool (de_var 0)))))))
abbrev s_Lneeds : Stmt := topS 32
theorem sc_Lneeds : FnScope ["_law_width", "_law_spot", "_law_hope", "_law_at"] ["_law_width", "_law_spot", "_law_hope"] (defScope s_Lneeds) := ⟨rfl, rfl, rfl, by decide +kernel, rfl, by decide +kernel, by decide +kernel⟩
theorem ok_Lneeds {P : Program} {w : World} {K : PySem.W.Frag} {mg : Str → Option Value} {base : Heap} (a_Lneeds : At K mg "_law_needs" s_Lneeds) (n_abs : mg "abs" = none) (n_range : mg "range" = none) : Has P w K mg base "_law_needs" s_Lneeds 1 ["_law_width", "_law_spot", "_law_hope"] true d_Lneeds :=
  Has.mk' (k := 0) a_Lneeds sc_Lneeds fun f cdv A outer s H E e0 hr hx hp =>
    (ds_one (ds_ret (de_comp (m := true) (own := [("_law_at", 3)]) sc_Lneeds.nd (di_range1 n_range (dl_cons (de_var 0) dl_nil)) (blkOk_by (by kernel_rfl)) (gN_noerr 3) (fun _ _ _ _ _ => (dg_name (i := 3) sc_Lneeds.nd)) (fun _ _ _ _ _ => (dts_one (dt_cmp (op_ltD (room0 hr)) (de_tup (dl_cons (de_callB cl_abs n_abs (dl_cons (de_bin op_subD (de_var 3) (de_var 2)) dl_nil)) (dl_cons (de_var 3) dl_nil))) (de_tup (dl_cons (de_callB cl_abs n_abs (dl_cons (de_bin op_subD (de_var 1) (de_var 2)) dl_nil)) (dl_cons (de_var 1) dl_nil)))))) (fun _ _ _ _ _ => (de_var 3)))))
abbrev s_Lfill : Stmt := topS 33
theorem sc_Lfill : FnScope ["_law_width", "_law_hopes_here", "_law_shelf", "_law_queue", "_law_hope", "_law_spot", "_law_at"] ["_law_width", "_law_hopes_here"] (defScope s_Lfill) := ⟨rfl, rfl, rfl, by decide +kernel, rfl, by decide +kernel, by decide +kernel⟩
theorem ok_Lfill {P : Program} {w : World} {K : PySem.W.Frag} {mg : Str → Option Value} {base : Heap} (a_Lfill : At K mg "_law_fill" s_Lfill) (n_abs : mg "abs" = none) (n_min : mg "min" = none) (n_range : mg "range" = none) (n_tuple : mg "tuple" = none) : Has P w K mg base "_law_fill" s_Lfill 1 ["_law_width", "_law_hopes_here"] false d_Lfill :=
  Has.mk' (k := 0) a_Lfill sc_Lfill fun f cdv A outer s H E e0 hr hx hp =>
    (ds_cons (ds_parT (is := [2, 3]) (bs := [true, true]) (dms_cons (de_bin op_repD (de_lst (m := false) (dl_cons de_non dl_nil)) (de_var 0)) (dms_cons (de_lst (m := true) dl_nil) dms_nil)) (pgs_consN (i := 2) sc_Lfill.nd (pgs_consN (i := 3) sc_Lfill.nd pgs_nilN)))
    (ds_cons (ds_for (vs := [4]) hp (di_seq (de_var 1)) (dg_name (i := 4) sc_Lfill.nd) (tg_name 4)
    (ds_cons (ds_set (m1 := false) (i := 5) sc_Lfill.nd (de_bor 2 (de_ix (de_callB (cl_minP (room65 hr)) n_min (dl_cons (de_comp (m := false) (own := [("_law_at", 6)]) sc_Lfill.nd (di_range1 n_range (dl_cons (de_var 0) dl_nil)) (blkOk_by (by kernel_rfl)) (gN_noerr 6) (fun _ _ _ _ _ => (dg_name (i := 6) sc_Lfill.nd)) (fun _ _ _ _ _ => (dts_one (dt_cmp op_isD (de_ix (de_var 2) (de_var 6)) de_non))) (fun _ _ _ _ _ => (de_tup (dl_cons (de_callB cl_abs n_abs (dl_cons (de_bin op_subD (de_var 6) (de_var 4)) dl_nil)) (dl_cons (de_var 6) dl_nil))))) dl_nil)) de_int)))
    (ds_cons (ds_setIx 2 (de_var 4) (de_var 5))
    (ds_one (ds_append 3 (de_var 5))))))
    (ds_one (ds_frz 3 (ds_frz 2 (ds_ret (de_tup (dl_cons (de_callTy cl_tuple n_tuple (dl_cons (de_var 2) dl_nil)) (dl_cons (de_callTy cl_tuple n_tuple (dl_cons (de_var 3) dl_nil)) dl_nil)))))))))
abbrev s_Lhopes : Stmt := topS 34
theorem sc_Lhopes : FnScope ["_law_source_here", "_law_width", "_law_near", "_law_way", "_law_found", "_law_turn", "_law_hope"] ["_law_source_here", "_law_width"] (defScope s_Lhopes) := ⟨rfl, rfl, rfl, by decide +kernel, rfl, by decide +kernel, by decide +kernel⟩
theorem ok_Lhopes {P : Program} {w : World} {K : PySem.W.Frag} {mg : Str → Option Value} {base : Heap} (a_Lhopes : At K mg "_law_hopes" s_Lhopes) (n_max : mg "max" = none) (n_min : mg "min" = none) (n_range : mg "range" = none) (h_Ldraw : Has P w K mg base "_law_draw" s_Ldraw 4 ["_law_source_here", "_law_bound"] false (d_Ldraw 3)) : Has P w K mg base "_law_hopes" s_Lhopes 5 ["_law_source_here", "_law_width"] true d_Lhopes :=
  Has.mk' (k := 4) a_Lhopes sc_Lhopes fun f cdv A outer s H E e0 hr hx hp =>
    (ds_cons (ds_par2 sc_Lhopes.nd (dms_cons (de_fn h_Ldraw (by exact hr.mono (by omega)) (by exact hx) (dl_cons (de_var 0) (dl_cons (de_var 1) dl_nil)) (by exact fun _ _ _ _ _ _ us hl => match us, hl with | [_, _], _ => rfl)) (dms_cons (de_fn h_Ldraw (by exact hr.mono (by omega)) (by exact hx) (dl_cons (de_var 0) (dl_cons de_int dl_nil)) (by exact fun _ _ _ _ _ _ us hl => match us, hl with | [_, _], _ => rfl)) dms_nil)))
    (ds_cons (ds_set (m1 := true) (i := 4) sc_Lhopes.nd (de_lst (m := true) dl_nil))
    (ds_cons (ds_for (vs := [5]) hp (di_range1 n_range (dl_cons (de_fn h_Ldraw (by exact hr.mono (by omega)) (by exact hx) (dl_cons (de_var 0) (dl_cons (de_bin op_addD (de_var 1) de_int) dl_nil)) (by exact fun _ _ _ _ _ _ us hl => match us, hl with | [_, _], _ => rfl)) dl_nil)) (dg_name (i := 5) sc_Lhopes.nd) (tg_name 5)
    (ds_cons (ds_set (m1 := false) (i := 6) sc_Lhopes.nd (de_if (dt_cmp op_gtD (de_var 3) de_int) (de_fn h_Ldraw (by exact hr.mono (by omega)) (by exact hx) (dl_cons (de_var 0) (dl_cons (de_var 1) dl_nil)) (by exact fun _ _ _ _ _ _ us hl => match us, hl with | [_, _], _ => rfl)) (de_bin op_subD (de_bin op_addD (de_var 2) (de_fn h_Ldraw (by exact hr.mono (by omega)) (by exact hx) (dl_cons (de_var 0) (dl_cons de_int dl_nil)) (by exact fun _ _ _ _ _ _ us hl => match us, hl with | [_, _], _ => rfl))) de_int)))
    (ds_one (ds_append 4 (de_callB cl_max2 n_max (dl_cons de_int (dl_cons (de_callB cl_min2 n_min (dl_cons (de_bin op_subD (de_var 1) de_int) (dl_cons (de_var 6) dl_nil))) dl_nil)))))))
    (ds_one (ds_retO 4)))))
abbrev s_Lveiled : Stmt := topS 35
theorem sc_Lveiled : FnScope ["_law_source_here", "_law_shelf", "_law_odds", "_law_part"] ["_law_source_here", "_law_shelf"] (defScope s_Lveiled) := ⟨rfl, rfl, rfl, by decide +kernel, rfl, by decide +kernel, by decide +kernel⟩
theorem ok_Lveiled {P : Program} {w : World} {K : PySem.W.Frag} {mg : Str → Option Value} {base : Heap} (a_Lveiled : At K mg "_law_veiled" s_Lveiled) (n_tuple : mg "tuple" = none) (h_Lchoice : Has P w K mg base "_law_choice" s_Lchoice 5 ["_law_source_here", "_law_row_here"] false d_Lchoice) (h_Ldraw : Has P w K mg base "_law_draw" s_Ldraw 4 ["_law_source_here", "_law_bound"] false (d_Ldraw 3)) : Has P w K mg base "_law_veiled" s_Lveiled 6 ["_law_source_here", "_law_shelf"] false d_Lveiled :=
  Has.mk' (k := 5) a_Lveiled sc_Lveiled fun f cdv A outer s H E e0 hr hx hp =>
    (ds_cons (ds_set (m1 := false) (i := 2) sc_Lveiled.nd (de_fn h_Lchoice (by exact hr.mono (by omega)) (by exact hx) (dl_cons (de_var 0) (dl_cons (de_lst (m := false) (dl_cons de_int (dl_cons de_int (dl_cons de_int (dl_cons de_int dl_nil))))) dl_nil)) (by exact fun _ _ _ _ _ _ us hl => match us, hl with | [_, _], _ => rfl)))
    (ds_one (ds_ret (de_callTy cl_tuple n_tuple (dl_cons (de_comp (m := false) (own := [("_law_part", 3)]) sc_Lveiled.nd (di_seq (de_var 1)) (blkOk_by (by kernel_rfl)) (gN_noerr 3) (fun _ _ _ _ _ => (dg_name (i := 3) sc_Lveiled.nd)) (fun _ _ _ _ _ => dts_nil) (fun _ _ _ _ _ => (de_if (dt_w (dw_and (dt_cmp op_isnotD (de_var 3) de_non) (dw_and1 (dt_cmp (op_ltD (room0 hr)) (de_fn h_Ldraw (by exact hr.mono (by omega)) (by exact passD) (dl_cons (de_var 0) (dl_cons de_int dl_nil)) (by exact fun _ _ _ _ _ _ us hl => match us, hl with | [_, _], _ => rfl)) (de_var 2))))) de_str (de_var 3)))) dl_nil)))))
abbrev s_Lcase : Stmt := topS 36
theorem sc_Lcase : FnScope ["_law_source_here", "_law_most", "_law_width", "_law_shelf", "_law_queue"] ["_law_source_here", "_law_most"] (defScope s_Lcase) := ⟨rfl, rfl, rfl, by decide +kernel, rfl, by decide +kernel, by decide +kernel⟩
theorem ok_Lcase {P : Program} {w : World} {K : PySem.W.Frag} {mg : Str → Option Value} {base : Heap} (a_Lcase : At K mg "_law_case" s_Lcase) (h_Ldraw : Has P w K mg base "_law_draw" s_Ldraw 4 ["_law_source_here", "_law_bound"] false (d_Ldraw 3)) (h_Lfill : Has P w K mg base "_law_fill" s_Lfill 1 ["_law_width", "_law_hopes_here"] false d_Lfill) (h_Lhopes : Has P w K mg base "_law_hopes" s_Lhopes 5 ["_law_source_here", "_law_width"] true d_Lhopes) (h_Lveiled : Has P w K mg base "_law_veiled" s_Lveiled 6 ["_law_source_here", "_law_shelf"] false d_Lveiled) : Has P w K mg base "_law_case" s_Lcase 7 ["_law_source_here", "_law_most"] false d_Lcase :=
  Has.mk' (k := 6) a_Lcase sc_Lcase fun f cdv A outer s H E e0 hr hx hp =>
    (ds_cons (ds_set (m1 := false) (i := 2) sc_Lcase.nd (de_bin op_addD de_int (de_fn h_Ldraw (by exact hr.mono (by omega)) (by exact hx) (dl_cons (de_var 0) (dl_cons (de_var 1) dl_nil)) (by exact fun _ _ _ _ _ _ us hl => match us, hl with | [_, _], _ => rfl))))
    (ds_cons (ds_asg (vs := [3, 4]) (de_fn h_Lfill (by exact hr.mono (by omega)) (by exact hx) (dl_cons (de_var 2) (dl_cons (DE.sh (de_fn h_Lhopes (by exact hr.mono (by omega)) (by exact hx) (dl_cons (de_var 0) (dl_cons (de_var 2) dl_nil)) (by exact fun _ _ _ _ _ _ us hl => match us, hl with | [_, _], _ => rfl))) dl_nil)) (by exact fun _ _ _ _ _ _ us hl => match us, hl with | [_, _], _ => rfl)) (dg_tup (pgs_consN (i := 3) sc_Lcase.nd (pgs_consN (i := 4) sc_Lcase.nd pgs_nilN))) (tg_names [3, 4]))
    (ds_one (ds_ret (de_tup (dl_cons (de_fn h_Lveiled (by exact hr.mono (by omega)) (by exact hx) (dl_cons (de_var 0) (dl_cons (de_var 3) dl_nil)) (by exact fun _ _ _ _ _ _ us hl => match us, hl with | [_, _], _ => rfl)) (dl_cons (de_var 4) dl_nil)))))))
abbrev s_Lspoiled : Stmt := topS 37
theorem sc_Lspoiled : FnScope ["_law_source_here", "_law_shelf", "_law_found", "_law_turn"] ["_law_source_here", "_law_shelf"] (defScope s_Lspoiled) := ⟨rfl, rfl, rfl, by decide +kernel, rfl, by decide +kernel, by decide +kernel⟩
theorem ok_Lspoiled {P : Program} {w : World} {K : PySem.W.Frag} {mg : Str → Option Value} {base : Heap} (a_Lspoiled : At K mg "_law_spoiled" s_Lspoiled) (n_len : mg "len" = none) (n_list : mg "list" = none) (n_range : mg "range" = none) (n_tuple : mg "tuple" = none) (h_Ldraw : Has P w K mg base "_law_draw" s_Ldraw 4 ["_law_source_here", "_law_bound"] false (d_Ldraw 3)) (h_Lchoice : Has P w K mg base "_law_choice" s_Lchoice 5 ["_law_source_here", "_law_row_here"] false d_Lchoice) : Has P w K mg base "_law_spoiled" s_Lspoiled 6 ["_law_source_here", "_law_shelf"] false d_Lspoiled :=
  Has.mk' (k := 5) a_Lspoiled sc_Lspoiled fun f cdv A outer s H E e0 hr hx hp =>
    (ds_cons (ds_set (m1 := true) (i := 2) sc_Lspoiled.nd (de_callTy (cl_list (m := true)) n_list (dl_cons (de_var 1) dl_nil)))
    (ds_cons (ds_for (vs := [3]) hp (di_range1 n_range (dl_cons (de_bin op_addD de_int (de_fn h_Ldraw (by exact hr.mono (by omega)) (by exact hx) (dl_cons (de_var 0) (dl_cons de_int dl_nil)) (by exact fun _ _ _ _ _ _ us hl => match us, hl with | [_, _], _ => rfl))) dl_nil)) (dg_name (i := 3) sc_Lspoiled.nd) (tg_name 3)
    (ds_one (ds_setIx 2 (de_fn h_Lchoice (by exact hr.mono (by omega)) (by exact hx) (dl_cons (de_var 0) (dl_cons (de_bin op_addD (de_bin op_mulD (de_listRg (m := false) n_list (dr_1 n_range (de_callB cl_len n_len (dl_cons (de_var 1) dl_nil)))) de_int) (de_lst (m := false) (dl_cons de_non (dl_cons de_str dl_nil)))) dl_nil)) (by exact fun _ _ _ _ _ _ us hl => match us, hl with | [_, _], _ => rfl)) (de_fn h_Ldraw (by exact hr.mono (by omega)) (by exact hx) (dl_cons (de_var 0) (dl_cons (de_callB cl_len n_len (dl_cons (de_var 1) dl_nil)) dl_nil)) (by exact fun _ _ _ _ _ _ us hl => match us, hl with | [_, _], _ => rfl)))))
    (ds_one (ds_frz 2 (ds_ret (de_callTy cl_tuple n_tuple (dl_cons (de_var 2) dl_nil)))))))
abbrev s_Lany : Stmt := topS 38
theorem sc_Lany : FnScope ["_law_source_here", "_law_most", "_law_shelf", "_law_queue"] ["_law_source_here", "_law_most"] (defScope s_Lany) := ⟨rfl, rfl, rfl, by decide +kernel, rfl, by decide +kernel, by decide +kernel⟩
theorem ok_Lany {P : Program} {w : World} {K : PySem.W.Frag} {mg : Str → Option Value} {base : Heap} (a_Lany : At K mg "_law_any" s_Lany) (h_Lcase : Has P w K mg base "_law_case" s_Lcase 7 ["_law_source_here", "_law_most"] false d_Lcase) (h_Ldraw : Has P w K mg base "_law_draw" s_Ldraw 4 ["_law_source_here", "_law_bound"] false (d_Ldraw 3)) (h_Lspoiled : Has P w K mg base "_law_spoiled" s_Lspoiled 6 ["_law_source_here", "_law_shelf"] false d_Lspoiled) : Has P w K mg base "_law_any" s_Lany 8 ["_law_source_here", "_law_most"] false d_Lany :=
  Has.mk' (k := 7) a_Lany sc_Lany fun f cdv A outer s H E e0 hr hx hp =>
    (ds_cons (ds_asg (vs := [2, 3]) (de_fn h_Lcase (by exact hr.mono (by omega)) (by exact hx) (dl_cons (de_var 0) (dl_cons (de_var 1) dl_nil)) (by exact fun _ _ _ _ _ _ us hl => match us, hl with | [_, _], _ => rfl)) (dg_tup (pgs_consN (i := 2) sc_Lany.nd (pgs_consN (i := 3) sc_Lany.nd pgs_nilN))) (tg_names [2, 3]))
    (ds_one (ds_ret (de_if (dt_cmp (op_eqDD (room64 hr)) (de_fn h_Ldraw (by exact hr.mono (by omega)) (by exact hx) (dl_cons (de_var 0) (dl_cons de_int dl_nil)) (by exact fun _ _ _ _ _ _ us hl => match us, hl with | [_, _], _ => rfl)) de_int) (de_fn h_Lspoiled (by exact hr.mono (by omega)) (by exact hx) (dl_cons (de_var 0) (dl_cons (de_var 2) dl_nil)) (by exact fun _ _ _ _ _ _ us hl => match us, hl with | [_, _], _ => rfl)) (de_var 2)))))
abbrev s_Lfull_spots : Stmt := topS 39
theorem sc_Lfull_spots : FnScope ["_law_shelf", "_law_spot", "_law_part"] ["_law_shelf"] (defScope s_Lfull_spots) := ⟨rfl, rfl, rfl, by decide +kernel, rfl, by decide +kernel, by decide +kernel⟩
theorem ok_Lfull_spots {P : Program} {w : World} {K : PySem.W.Frag} {mg : Str → Option Value} {base : Heap} (a_Lfull_spots : At K mg "_law_full_spots" s_Lfull_spots) (n_enumerate : mg "enumerate" = none) : Has P w K mg base "_law_full_spots" s_Lfull_spots 1 ["_law_shelf"] true d_Lfull_spots :=
  Has.mk' (k := 0) a_Lfull_spots sc_Lfull_spots fun f cdv A outer s H E e0 hr hx hp =>
    (ds_one (ds_ret (de_comp (m := true) (own := [("_law_spot", 1), ("_law_part", 2)]) sc_Lfull_spots.nd (di_enum n_enumerate (dl_cons (de_var 0) dl_nil)) (blkOk_by (by kernel_rfl)) (gNs_noerr [1, 2]) (fun _ _ _ _ _ => (dg_tup (pgs_consN (i := 1) sc_Lfull_spots.nd (pgs_consN (i := 2) sc_Lfull_spots.nd pgs_nilN)))) (fun _ _ _ _ _ => (dts_one (dt_cmp op_isnotD (de_var 2) de_non))) (fun _ _ _ _ _ => (de_var 1)))))
abbrev s_Lwanted : Stmt := topS 40
theorem sc_Lwanted : FnScope ["_law_shelf", "_law_spot"] ["_law_shelf", "_law_spot"] (defScope s_Lwanted) := ⟨rfl, rfl, rfl, by decide +kernel, rfl, by decide +kernel, by decide +kernel⟩
theorem ok_Lwanted {P : Program} {w : World} {K : PySem.W.Frag} {mg : Str → Option Value} {base : Heap} (a_Lwanted : At K mg "_law_wanted" s_Lwanted) (n_len : mg "len" = none) (h_Lneeds : Has P w K mg base "_law_needs" s_Lneeds 1 ["_law_width", "_law_spot", "_law_hope"] true d_Lneeds) : Has P w K mg base "_law_wanted" s_Lwanted 2 ["_law_shelf", "_law_spot"] true d_Lwanted :=
  Has.mk' (k := 1) a_Lwanted sc_Lwanted fun f cdv A outer s H E e0 hr hx hp =>
    (ds_one (ds_ret (de_if (dt_cmp (op_eqDD (room64 hr)) (de_ix (de_var 0) (de_var 1)) de_str) (de_lst (m := true) dl_nil) (de_fn h_Lneeds (by exact hr.mono (by omega)) (by exact hx) (dl_cons (de_callB cl_len n_len (dl_cons (de_var 0) dl_nil)) (dl_cons (de_var 1) (dl_cons (de_ix (de_var 0) (de_var 1)) dl_nil))) (by exact fun _ _ _ _ _ _ us hl => match us, hl with | [_, _, _], _ => rfl)))))
abbrev s_Lfitting : Stmt := topS 41
theorem sc_Lfitting : FnScope ["_law_shelf", "_law_found", "_law_spots", "_law_wants", "_law_spot", "_law_turn", "_law_longer", "_law_some", "_law_ready_spots", "_law_at"] ["_law_shelf"] (defScope s_Lfitting) := ⟨rfl, rfl, rfl, by decide +kernel, rfl, by decide +kernel, by decide +kernel⟩
theorem ok_Lfitting {P : Program} {w : World} {K : PySem.W.Frag} {mg : Str → Option Value} {base : Heap} (a_Lfitting : At K mg "_law_fitting" s_Lfitting) (n_all : mg "all" = none) (n_dict : mg "dict" = none) (h_Lfull_spots : Has P w K mg base "_law_full_spots" s_Lfull_spots 1 ["_law_shelf"] true d_Lfull_spots) (h_Lwanted : Has P w K mg base "_law_wanted" s_Lwanted 2 ["_law_shelf", "_law_spot"] true d_Lwanted) : Has P w K mg base "_law_fitting" s_Lfitting 3 ["_law_shelf"] false d_Lfitting :=
  Has.mk' (k := 2) a_Lfitting sc_Lfitting fun f cdv A outer s H E e0 hr hx hp =>
    (ds_cons (ds_par2 sc_Lfitting.nd (dms_cons (de_lst (m := false) (dl_cons (de_tup dl_nil) dl_nil)) (dms_cons (DE.sh (de_fn h_Lfull_spots (by exact hr.mono (by omega)) (by exact hx) (dl_cons (de_var 0) dl_nil) (by exact fun _ _ _ _ _ _ us hl => match us, hl with | [_], _ => rfl))) dms_nil)))
    (ds_cons (ds_set (m1 := false) (i := 3) sc_Lfitting.nd (de_callTy (cl_dictP (m := false)) n_dict (dl_cons (de_comp (m := false) (own := [("_law_spot", 4)]) sc_Lfitting.nd (di_seq (de_var 2)) (blkOk_by (by kernel_rfl)) (gN_noerr 4) (fun _ _ _ _ _ => (dg_name (i := 4) sc_Lfitting.nd)) (fun _ _ _ _ _ => dts_nil) (fun _ _ _ _ _ => (de_tup (dl_cons (de_var 4) (dl_cons (DE.sh (de_fn h_Lwanted (by exact hr.mono (by omega)) (by exact passD) (dl_cons (de_var 0) (dl_cons (de_var 4) dl_nil)) (by exact fun _ _ _ _ _ _ us hl => match us, hl with | [_, _], _ => rfl))) dl_nil))))) dl_nil)))
    (ds_cons (ds_for (vs := [5]) hp (di_seq (de_var 2)) (dg_name (i := 5) sc_Lfitting.nd) (tg_name 5)
    (ds_cons (ds_set (m1 := true) (i := 6) sc_Lfitting.nd (de_lst (m := true) dl_nil))
    (ds_cons (ds_for (vs := [7]) hp (di_seq (de_var 1)) (dg_name (i := 7) sc_Lfitting.nd) (tg_name 7)
    (ds_cons (ds_setComp (m1 := false) (i := 8) (own := [("_law_spot", 4)]) sc_Lfitting.nd (di_seq (de_var 2)) (blkOk_by (by kernel_rfl)) (gN_noerr 4) (fun _ _ _ _ _ => (dg_name (i := 4) sc_Lfitting.nd)) (fun _ _ _ _ _ => (dts_one (dt_w (dw_and (dt_cmp (op_notInDD (room65 hr)) (de_var 4) (de_var 7)) (dw_and1 (dt_val (de_callB cl_all n_all (dl_cons (de_comp (m := false) (own := [("_law_at", 9)]) sc_Lfitting.nd (di_seq (de_ixD (room65 hr) (de_var 3) (de_var 4))) (blkOk_by (by kernel_rfl)) (gN_noerr 9) (fun _ _ _ _ _ => (dg_name (i := 9) sc_Lfitting.nd)) (fun _ _ _ _ _ => dts_nil) (fun _ _ _ _ _ => (de_cmp (op_inDD (room65 hr)) (de_var 9) (de_var 7)))) dl_nil)))))))) (fun _ _ _ _ _ => (de_var 4)))
    (ds_one (ds_extend 6 (de_comp (m := false) (own := [("_law_spot", 4)]) sc_Lfitting.nd (di_seq (de_var 8)) (blkOk_by (by kernel_rfl)) (gN_noerr 4) (fun _ _ _ _ _ => (dg_name (i := 4) sc_Lfitting.nd)) (fun _ _ _ _ _ => dts_nil) (fun _ _ _ _ _ => (de_bin op_addD (de_var 7) (de_tup (dl_cons (de_var 4) dl_nil)))))))))
    (ds_one (ds_frz 6 (ds_set (m1 := false) (i := 1) sc_Lfitting.nd (de_var 6)))))))
    (ds_one (ds_ret (de_var 1))))))
abbrev s_Lvalues_right : Stmt := topS 42
theorem sc_Lvalues_right : FnScope ["_law_source_here", "_law_shelf", "_law_found", "_law_spots", "_law_values", "_law_turn", "_law_value", "_law_kept", "_law_fine", "_law_part"] ["_law_source_here", "_law_shelf", "_law_found"] (defScope s_Lvalues_right) := ⟨rfl, rfl, rfl, by decide +kernel, rfl, by decide +kernel, by decide +kernel⟩
theorem ok_Lvalues_right {P : Program} {w : World} {K : PySem.W.Frag} {mg : Str → Option Value} {base : Heap} (a_Lvalues_right : At K mg "_law_values_right" s_Lvalues_right) (n_all : mg "all" = none) (n_isinstance : mg "isinstance" = none) (n_len : mg "len" = none) (n_list : mg "list" = none) (n_range : mg "range" = none) (n_repr : mg "repr" = none) (n_sorted : mg "sorted" = none) (n_tuple : mg "tuple" = none) (h_Lfull_spots : Has P w K mg base "_law_full_spots" s_Lfull_spots 1 ["_law_shelf"] true d_Lfull_spots) (h_Lshuffled : Has P w K mg base "_law_shuffled" s_Lshuffled 5 ["_law_source_here", "_law_row_here"] true d_Lshuffled) (h_Ldraw : Has P w K mg base "_law_draw" s_Ldraw 4 ["_law_source_here", "_law_bound"] false (d_Ldraw 3)) (h_Lbent : Has P w K mg base "_law_bent" s_Lbent 43 ["_law_source_here", "_law_value"] false (d_Lbent 36)) (h_Lchoice : Has P w K mg base "_law_choice" s_Lchoice 5 ["_law_source_here", "_law_row_here"] false d_Lchoice) (h_Linteger : Has P w K mg base "_law_integer" s_Linteger 1 ["_law_value"] false d_Linteger) (h_Lequal : Has P w K mg base "_law_equal" s_Lequal 9 ["_law_found", "_law_due"] false (d_Lequal 8)) (h_is_view : Has P w K mg base "is_view" s_is_view 6 ["table", "thing"] false d_is_view) : Has P w K mg base "_law_values_right" s_Lvalues_right 44 ["_law_source_here", "_law_shelf", "_law_found"] false d_Lvalues_right :=
  Has.mk' (k := 43) a_Lvalues_right sc_Lvalues_right fun f cdv A outer s H E e0 hr hx hp =>
    (ds_cons (ds_set (m1 := false) (i := 3) sc_Lvalues_right.nd (DE.sh (de_fn h_Lfull_spots (by exact hr.mono (by omega)) (by exact hx) (dl_cons (de_var 1) dl_nil) (by exact fun _ _ _ _ _ _ us hl => match us, hl with | [_], _ => rfl))))
    (ds_cons (ds_set (m1 := true) (i := 4) sc_Lvalues_right.nd (de_lst (m := true) (dl_cons (de_tup dl_nil) (dl_cons (de_lst (m := false) dl_nil) (dl_cons de_non (dl_cons de_int (dl_cons de_str (dl_cons (de_callTy cl_tuple n_tuple (dl_cons (de_var 3) dl_nil)) (dl_cons (de_var 3) (dl_cons (de_callTy cl_tuple n_tuple (dl_cons (de_rev (m := false) (de_var 3)) dl_nil)) (dl_cons (de_tup (dl_cons de_bl dl_nil)) (dl_cons (de_tup (dl_cons (de_neg de_int) dl_nil)) dl_nil))))))))))))
    (ds_cons (ds_frz 4 (ds_set (m1 := true) (i := 4) sc_Lvalues_right.nd (de_bin op_catD (de_var 4) (de_lst (m := false) (dl_cons (de_tup (dl_cons (de_bin op_powD de_int de_int) dl_nil)) (dl_cons (de_tup (dl_cons de_int (dl_cons de_int dl_nil))) dl_nil))))))
    (ds_cons (ds_for (vs := [5]) hp (di_range1 n_range (dl_cons de_int dl_nil)) (dg_name (i := 5) sc_Lvalues_right.nd) (tg_name 5)
    (ds_one (ds_append 4 (de_callTy cl_tuple n_tuple (dl_cons (de_callB (cl_sorted (m := false) (room65 hr)) n_sorted (dl_cons (de_sl (DE.sh (de_fn h_Lshuffled (by exact hr.mono (by omega)) (by exact hx) (dl_cons (de_var 0) (dl_cons (de_var 3) dl_nil)) (by exact fun _ _ _ _ _ _ us hl => match us, hl with | [_, _], _ => rfl))) do_none (do_some (de_fn h_Ldraw (by exact hr.mono (by omega)) (by exact hx) (dl_cons (de_var 0) (dl_cons (de_bin op_addD (de_callB cl_len n_len (dl_cons (de_var 3) dl_nil)) de_int) dl_nil)) (by exact fun _ _ _ _ _ _ us hl => match us, hl with | [_, _], _ => rfl)))) dl_nil)) dl_nil)))))
    (ds_cons (ds_for (vs := [5]) hp (di_range1 n_range (dl_cons de_int dl_nil)) (dg_name (i := 5) sc_Lvalues_right.nd) (tg_name 5)
    (ds_one (ds_append 4 (de_fn h_Lbent (by exact hr.mono (by omega)) (by exact hx) (dl_cons (de_var 0) (dl_cons (de_borS 4 (de_fn h_Lchoice (by exact hr.mono (by omega)) (by exact hx) (dl_cons (de_var 0) (dl_cons (de_var 4) dl_nil)) (by exact fun _ _ _ _ _ _ us hl => match us, hl with | [_, _], _ => rfl))) dl_nil)) (by exact fun _ _ _ _ _ _ us hl => match us, hl with | [_, _], _ => rfl)))))
    (ds_cons (ds_frz 4 (ds_for (vs := [6]) hp (di_seq (de_var 4)) (dg_name (i := 6) sc_Lvalues_right.nd) (tg_name 6)
    (ds_cons (ds_set (m1 := false) (i := 7) sc_Lvalues_right.nd (de_callB (cl_repr (room65 hr) hr.g) n_repr (dl_cons (de_var 6) dl_nil)))
    (ds_cons (ds_set (m1 := false) (i := 8) sc_Lvalues_right.nd (de_and (de_isi (n := "tuple") n_isinstance n_tuple (de_var 6)) (de_and (de_callB cl_all n_all (dl_cons (de_comp (m := false) (own := [("_law_part", 9)]) sc_Lvalues_right.nd (di_seq (de_var 6)) (blkOk_by (by kernel_rfl)) (gN_noerr 9) (fun _ _ _ _ _ => (dg_name (i := 9) sc_Lvalues_right.nd)) (fun _ _ _ _ _ => dts_nil) (fun _ _ _ _ _ => (de_fn h_Linteger (by exact hr.mono (by omega)) (by exact passD) (dl_cons (de_var 9) dl_nil) (by exact fun _ _ _ _ _ _ us hl => match us, hl with | [_], _ => rfl)))) dl_nil)) (de_and1 (de_din (room65 hr) (de_var 6) (de_var 2))))))
    (ds_cons (ds_if (dt_not (dt_val (de_fn h_Lequal (by exact hr.mono (by omega)) (by exact hx) (dl_cons (de_lst (m := false) (dl_cons (de_fn h_is_view (by exact hr.mono (by omega)) (by exact hx) (dl_cons (de_var 1) (dl_cons (de_var 6) dl_nil)) (by exact fun _ _ _ _ _ _ us hl => match us, hl with | [_, _], _ => rfl)) (dl_cons (de_fnK ["thing", "table"] [1, 0] h_is_view (by exact hr.mono (by omega)) (by exact hx) (dk_cons (de_var 6) (dk_cons (de_callTy (cl_list (m := false)) n_list (dl_cons (de_var 1) dl_nil)) dk_nil)) (by exact fun _ _ _ _ _ _ us hl => match us, hl with | [_, _], _ => rfl)) dl_nil))) (dl_cons (de_lst (m := false) (dl_cons (de_var 8) (dl_cons (de_var 8) dl_nil))) dl_nil)) (by exact fun _ _ _ _ _ _ us hl => match us, hl with | [_, _], _ => rfl))))
    (ds_one (ds_ret de_bl))
    ds_nil)
    (ds_one (ds_if (dt_cmp (op_neDD (room64 hr)) (de_callB (cl_repr (room65 hr) hr.g) n_repr (dl_cons (de_var 6) dl_nil)) (de_var 7))
    (ds_one (ds_ret de_bl))
    ds_nil)))))))
    (ds_one (ds_ret de_bl))))))))
abbrev s_Lholds : Stmt := topS 43
theorem sc_Lholds : FnScope ["_law_source_here", "_law_shelf", "_law_found", "_law_spots", "_law_queue", "_law_k", "_law_due", "_law_some", "_law_told"] ["_law_source_here"] (defScope s_Lholds) := ⟨rfl, rfl, rfl, by decide +kernel, rfl, by decide +kernel, by decide +kernel⟩
def b_Lholds_k23 : DS → M Fl :=
  (sSeq (sSet false 1 (eArgs (callN 2 d_Lany) (lCons (eVar 0) (lCons (eC (.int 6)) lNil))))
    (sSeq (sPar [2, 3] [true, false] (lCons (eC (.dT [])) (lCons (eArgs (callN 1 d_Lfull_spots) (lCons (eVar 1) lNil)) lNil)))
    (sSeq (sFor (iSeq (eArgs (callN 1 d_Lfitting) (lCons (eVar 1) lNil))) (gN 4)
    (sFor (iArgs rng1 (lCons (eBin kAdd (eArgs kLen (lCons (eVar 3) lNil)) (eC (.int 1))) lNil)) (gN 5)
    (sDPut' 2 (eC (.bl true)) (eArgs kTuple (lCons (eArgs kSorted (lCons (eSl kSl (eVar 4) oNone (oSome (eVar 5))) lNil)) lNil)))))
    (sSeq (sLk 2 (sFrz 2 (sFrz 7 (sSet false 6 (eComp (iArgs rng1 (lCons (eBin kAdd (eArgs kLen (lCons (eVar 3) lNil)) (eC (.int 1))) lNil)) [5] (gN 5) tYesD (eArgs kSorted (lCons (eComp (iKeysF (eVar 2)) [7] (gN 7) (eTst (eBin kEq (eArgs kLen (lCons (eVar 7) lNil)) (eVar 5))) (eVar 7)) lNil)))))))
    (sJunkA 8 (eArgs mkL (lCons (eArgs (callN 1 d_count_views) (lCons (eVar 1) lNil)) (lCons (eArgs (kwN 1 [0] 1 d_count_views) (lCons (eArgs kList (lCons (eVar 1) lNil)) lNil)) lNil))) (eNot (eTst (eArgs (callN 2 (d_Lequal 8)) (lCons (eVar 8) (lCons (eBin kMul (eArgs mkL (lCons (eComp (iSeq (eVar 6)) [7] (gN 7) tYesD (eArgs kLen (lCons (eVar 7) lNil))) lNil)) (eC (.int 2))) lNil)))))
    (sRet (eC (.bl false)))
    (sSeq (sFor (iArgs rng1 (lCons (eBin kAdd (eArgs kLen (lCons (eVar 3) lNil)) (eC (.int 1))) lNil)) (gN 5)
    (sSeq (sSet true 7 (eArgs (callN 2 d_views) (lCons (eVar 1) (lCons (eVar 5) lNil))))
    (sSeq (sIf (tBor 7 (eNot (eTst (eArgs (callN 2 (d_Lequal 8)) (lCons (eVar 7) (lCons (eBin kIx (eVar 6) (eVar 5)) lNil))))))
    (sRet (eC (.bl false)))
    sNil)
    (sSeq (sOwn 7 kApp (eC (.str "more")))
    (sIf (eNot (eTst (eArgs (callN 2 (d_Lequal 8)) (lCons (eArgs (kwN 2 [1, 0] 2 d_views) (lCons (eVar 5) (lCons (eArgs kList (lCons (eVar 1) lNil)) lNil))) (lCons (eBin kIx (eVar 6) (eVar 5)) lNil)))))
    (sRet (eC (.bl false)))
    sNil)))))
    (sSeq (sSet false 8 (eArgs mkL (lCons (eArgs (callN 2 d_views) (lCons (eVar 1) (lCons (eNeg (eC (.int 1))) lNil))) (lCons (eArgs (callN 2 d_views) (lCons (eVar 1) (lCons (eBin kAdd (eArgs kLen (lCons (eVar 3) lNil)) (eC (.int 1))) lNil))) (lCons (eArgs (callN 2 d_views) (lCons (eVar 1) (lCons (eBin kPow (eC (.int 10)) (eC (.int 20))) lNil))) lNil)))))
    (sLk 2 (sFrz 2 (sRet (eAndV (eArgs (callN 2 (d_Lequal 8)) (lCons (eVar 8) (lCons (eArgs mkL (lCons (eArgs mkL lNil) (lCons (eArgs mkL lNil) (lCons (eArgs mkL lNil) lNil)))) lNil))) (eArgs (callN 3 d_Lvalues_right) (lCons (eVar 0) (lCons (eVar 1) (lCons (eVar 2) lNil)))))))))))))))
def d_Lholds_k23 : List D → M D := runD 9 false b_Lholds_k23
theorem ok_Lholds {P : Program} {w : World} {K : PySem.W.Frag} {mg : Str → Option Value} {base : Heap} (a_Lholds : At K mg "_law_holds" s_Lholds) (n_len : mg "len" = none) (n_list : mg "list" = none) (n_range : mg "range" = none) (n_sorted : mg "sorted" = none) (n_tuple : mg "tuple" = none) (h_Lany : Has P w K mg base "_law_any" s_Lany 8 ["_law_source_here", "_law_most"] false d_Lany) (h_Lfull_spots : Has P w K mg base "_law_full_spots" s_Lfull_spots 1 ["_law_shelf"] true d_Lfull_spots) (h_Lfitting : Has P w K mg base "_law_fitting" s_Lfitting 3 ["_law_shelf"] false d_Lfitting) (h_count_views : Has P w K mg base "count_views" s_count_views 7 ["table"] true d_count_views) (h_Lequal : Has P w K mg base "_law_equal" s_Lequal 9 ["_law_found", "_law_due"] false (d_Lequal 8)) (h_views : Has P w K mg base "views" s_views 7 ["table", "many"] true d_views) (h_Lvalues_right : Has P w K mg base "_law_values_right" s_Lvalues_right 44 ["_law_source_here", "_law_shelf", "_law_found"] false d_Lvalues_right) : Has P w K mg base "_law_holds" s_Lholds 45 ["_law_source_here"] false d_Lholds_k23 :=
  Has.mk' (k := 44) a_Lholds sc_Lholds fun f cdv A outer s H E e0 hr hx hp =>
    (ds_cons (ds_set (m1 := false) (i := 1) sc_Lholds.nd (de_fn h_Lany (by exact hr.mono (by omega)) (by exact hx) (dl_cons (de_var 0) (dl_cons de_int dl_nil)) (by exact fun _ _ _ _ _ _ us hl => match us, hl with | [_, _], _ => rfl)))
    (ds_cons (ds_parT (is := [2, 3]) (bs := [true, false]) (dms_cons (de_dnewT (m := true)) (dms_cons (DE.sh (de_fn h_Lfull_spots (by exact hr.mono (by omega)) (by exact hx) (dl_cons (de_var 1) dl_nil) (by exact fun _ _ _ _ _ _ us hl => match us, hl with | [_], _ => rfl))) dms_nil)) (pgs_consN (i := 2) sc_Lholds.nd (pgs_consN (i := 3) sc_Lholds.nd pgs_nilN)))
    (ds_cons (ds_for (vs := [4]) hp (di_seq (de_fn h_Lfitting (by exact hr.mono (by omega)) (by exact hx) (dl_cons (de_var 1) dl_nil) (by exact fun _ _ _ _ _ _ us hl => match us, hl with | [_], _ => rfl))) (dg_name (i := 4) sc_Lholds.nd) (tg_name 4)
    (ds_one (ds_for (vs := [5]) hp (di_range1 n_range (dl_cons (de_bin op_addD (de_callB cl_len n_len (dl_cons (de_var 3) dl_nil)) de_int) dl_nil)) (dg_name (i := 5) sc_Lholds.nd) (tg_name 5)
    (ds_one (ds_dput 2 (room65 hr) de_bl (de_callTy cl_tuple n_tuple (dl_cons (de_callB (cl_sorted (m := false) (room65 hr)) n_sorted (dl_cons (de_sl (de_var 4) do_none (do_some (de_var 5))) dl_nil)) dl_nil)))))))
    (ds_cons (ds_lk 2 (ds_frz 2 (ds_frz 7 (ds_setComp (m1 := false) (i := 6) (own := [("_law_k", 5)]) sc_Lholds.nd (di_range1 n_range (dl_cons (de_bin op_addD (de_callB cl_len n_len (dl_cons (de_var 3) dl_nil)) de_int) dl_nil)) (blkOk_by (by kernel_rfl)) (gN_noerr 5) (fun _ _ _ _ _ => (dg_name (i := 5) sc_Lholds.nd)) (fun _ _ _ _ _ => dts_nil) (fun _ _ _ _ _ => (de_callB (cl_sorted (m := false) (room65 hr)) n_sorted (dl_cons (de_comp (m := false) (own := [("_law_some", 7)]) sc_Lholds.nd (di_keysF (de_var 2)) (blkOk_by (by kernel_rfl)) (gN_noerr 7) (fun _ _ _ _ _ => (dg_name (i := 7) sc_Lholds.nd)) (fun _ _ _ _ _ => (dts_one (dt_cmp (op_eqDD (room64 hr)) (de_callB cl_len n_len (dl_cons (de_var 7) dl_nil)) (de_var 5)))) (fun _ _ _ _ _ => (de_var 7))) dl_nil)))))))
    (dss_junkA 8 (de_lst (m := false) (dl_cons (DE.sh (de_fn h_count_views (by exact hr.mono (by omega)) (by exact hx) (dl_cons (de_var 1) dl_nil) (by exact fun _ _ _ _ _ _ us hl => match us, hl with | [_], _ => rfl))) (dl_cons (DE.sh (de_fnK ["table"] [0] h_count_views (by exact hr.mono (by omega)) (by exact hx) (dk_cons (de_callTy (cl_list (m := false)) n_list (dl_cons (de_var 1) dl_nil)) dk_nil) (by exact fun _ _ _ _ _ _ us hl => match us, hl with | [_], _ => rfl))) dl_nil))) (dt_not (dt_val (de_fn h_Lequal (by exact hr.mono (by omega)) (by exact hx) (dl_cons (de_var 8) (dl_cons (de_bin op_mulD (de_lst (m := false) (dl_cons (de_comp (m := false) (own := [("_law_some", 7)]) sc_Lholds.nd (di_seq (de_var 6)) (blkOk_by (by kernel_rfl)) (gN_noerr 7) (fun _ _ _ _ _ => (dg_name (i := 7) sc_Lholds.nd)) (fun _ _ _ _ _ => dts_nil) (fun _ _ _ _ _ => (de_callB cl_len n_len (dl_cons (de_var 7) dl_nil)))) dl_nil)) de_int) dl_nil)) (by exact fun _ _ _ _ _ _ us hl => match us, hl with | [_, _], _ => rfl))))
    (ds_one (ds_ret de_bl))
    (ds_cons (ds_for (vs := [5]) hp (di_range1 n_range (dl_cons (de_bin op_addD (de_callB cl_len n_len (dl_cons (de_var 3) dl_nil)) de_int) dl_nil)) (dg_name (i := 5) sc_Lholds.nd) (tg_name 5)
    (ds_cons (ds_set (m1 := true) (i := 7) sc_Lholds.nd (de_fn h_views (by exact hr.mono (by omega)) (by exact hx) (dl_cons (de_var 1) (dl_cons (de_var 5) dl_nil)) (by exact fun _ _ _ _ _ _ us hl => match us, hl with | [_, _], _ => rfl)))
    (ds_cons (ds_if (dt_bor 7 (dt_not (dt_val (de_fn h_Lequal (by exact hr.mono (by omega)) (by exact hx) (dl_cons (de_var 7) (dl_cons (de_ix (de_var 6) (de_var 5)) dl_nil)) (by exact fun _ _ _ _ _ _ us hl => match us, hl with | [_, _], _ => rfl)))))
    (ds_one (ds_ret de_bl))
    ds_nil)
    (ds_cons (ds_append 7 de_str)
    (ds_one (ds_if (dt_not (dt_val (de_fn h_Lequal (by exact hr.mono (by omega)) (by exact hx) (dl_cons (DE.sh (de_fnK ["many", "table"] [1, 0] h_views (by exact hr.mono (by omega)) (by exact hx) (dk_cons (de_var 5) (dk_cons (de_callTy (cl_list (m := false)) n_list (dl_cons (de_var 1) dl_nil)) dk_nil)) (by exact fun _ _ _ _ _ _ us hl => match us, hl with | [_, _], _ => rfl))) (dl_cons (de_ix (de_var 6) (de_var 5)) dl_nil)) (by exact fun _ _ _ _ _ _ us hl => match us, hl with | [_, _], _ => rfl))))
    (ds_one (ds_ret de_bl))
    ds_nil))))))
    (ds_cons (ds_set (m1 := false) (i := 8) sc_Lholds.nd (de_lst (m := false) (dl_cons (DE.sh (de_fn h_views (by exact hr.mono (by omega)) (by exact hx) (dl_cons (de_var 1) (dl_cons (de_neg de_int) dl_nil)) (by exact fun _ _ _ _ _ _ us hl => match us, hl with | [_, _], _ => rfl))) (dl_cons (DE.sh (de_fn h_views (by exact hr.mono (by omega)) (by exact hx) (dl_cons (de_var 1) (dl_cons (de_bin op_addD (de_callB cl_len n_len (dl_cons (de_var 3) dl_nil)) de_int) dl_nil)) (by exact fun _ _ _ _ _ _ us hl => match us, hl with | [_, _], _ => rfl))) (dl_cons (DE.sh (de_fn h_views (by exact hr.mono (by omega)) (by exact hx) (dl_cons (de_var 1) (dl_cons (de_bin op_powD de_int de_int) dl_nil)) (by exact fun _ _ _ _ _ _ us hl => match us, hl with | [_, _], _ => rfl))) dl_nil)))))
    (ds_one (ds_lk 2 (ds_frz 2 (ds_ret (de_and (de_fn h_Lequal (by exact hr.mono (by omega)) (by exact hx) (dl_cons (de_var 8) (dl_cons (de_lst (m := false) (dl_cons (de_lst (m := false) dl_nil) (dl_cons (de_lst (m := false) dl_nil) (dl_cons (de_lst (m := false) dl_nil) dl_nil)))) dl_nil)) (by exact fun _ _ _ _ _ _ us hl => match us, hl with | [_, _], _ => rfl)) (de_and1 (de_fn h_Lvalues_right (by exact hr.mono (by omega)) (by exact hx) (dl_cons (de_var 0) (dl_cons (de_var 1) (dl_cons (de_var 2) dl_nil))) (by exact fun _ _ _ _ _ _ us hl => match us, hl with | [_, _, _], _ => rfl)))))))))) sc_Lholds.nd)))))
abbrev s_law : Stmt := topS 44
theorem sc_law : FnScope ["_law_script", "_law_index"] ["_law_script"] (defScope s_law) := ⟨rfl, rfl, rfl, by decide +kernel, rfl, by decide +kernel, by decide +kernel⟩
def b_law_k23 : DS → M Fl :=
  (sRet (eArgs (kOfBls fun bs => M.pure (.bl (bs.all id))) (lCons (eComp (iArgs rng1 (lCons (eArgs kMax2 (lCons (eC (.int 1)) (lCons (eArgs kMin2 (lCons (eC (.int 3)) (lCons (eArgs kLen (lCons (eVar 0) lNil)) lNil))) lNil))) lNil)) [1] (gN 1) tYesD (eArgs (callN 1 d_Lholds_k23) (lCons (eArgs (callN 2 d_Lsource) (lCons (eVar 0) (lCons (eVar 1) lNil))) lNil))) lNil)))
def d_law_k23 : List D → M D := runD 2 false b_law_k23
theorem ok_law {P : Program} {w : World} {K : PySem.W.Frag} {mg : Str → Option Value} {base : Heap} (a_law : At K mg "law" s_law) (n_all : mg "all" = none) (n_len : mg "len" = none) (n_max : mg "max" = none) (n_min : mg "min" = none) (n_range : mg "range" = none) (h_Lholds : Has P w K mg base "_law_holds" s_Lholds 45 ["_law_source_here"] false d_Lholds_k23) (h_Lsource : Has P w K mg base "_law_source" s_Lsource 1 ["_law_script", "_law_index"] false d_Lsource) : Has P w K mg base "law" s_law 46 ["_law_script"] false d_law_k23 :=
  Has.mk' (k := 45) a_law sc_law fun f cdv A outer s H E e0 hr hx hp =>
    (ds_one (ds_ret (de_callB cl_all n_all (dl_cons (de_comp (m := false) (own := [("_law_index", 1)]) sc_law.nd (di_range1 n_range (dl_cons (de_callB cl_max2 n_max (dl_cons de_int (dl_cons (de_callB cl_min2 n_min (dl_cons de_int (dl_cons (de_callB cl_len n_len (dl_cons (de_var 0) dl_nil)) dl_nil))) dl_nil))) dl_nil)) (blkOk_by (by kernel_rfl)) (gN_noerr 1) (fun _ _ _ _ _ => (dg_name (i := 1) sc_law.nd)) (fun _ _ _ _ _ => dts_nil) (fun _ _ _ _ _ => (de_fn h_Lholds (by exact hr.mono (by omega)) (by exact passD) (dl_cons (de_fn h_Lsource (by exact hr.mono (by omega)) (by exact passD) (dl_cons (de_var 0) (dl_cons (de_var 1) dl_nil)) (by exact fun _ _ _ _ _ _ us hl => match us, hl with | [_, _], _ => rfl)) dl_nil) (by exact fun _ _ _ _ _ _ us hl => match us, hl with | [_], _ => rfl)))) dl_nil))))
theorem all_mk {l : PySem.W.OpenLaw} {w : World} {K : PySem.W.Frag} {h : Heap} {mg : Str → Option Value} {fa : Addr} (X : K.In h) (G : h.Ns mainGlobals mg) (hfa : mg "law" = some (.ref fa))
    {f0 : Addr} {od0 an0 : Option Addr} {sl0 : Array (Option Value)} {oc0 kV0 dc0 pm0 cd0 ct0 : Value}
    {f1 : Addr} {od1 an1 : Option Addr} {sl1 : Array (Option Value)} {oc1 kV1 dc1 pm1 cd1 ct1 : Value}
    {f2 : Addr} {od2 an2 : Option Addr} {sl2 : Array (Option Value)} {oc2 kV2 dc2 pm2 cd2 ct2 : Value}
    {f3 : Addr} {od3 an3 : Option Addr} {sl3 : Array (Option Value)} {oc3 kV3 dc3 pm3 cd3 ct3 : Value}
    {f4 : Addr} {od4 an4 : Option Addr} {sl4 : Array (Option Value)} {oc4 kV4 dc4 pm4 cd4 ct4 : Value}
    {f5 : Addr} {od5 an5 : Option Addr} {sl5 : Array (Option Value)} {oc5 kV5 dc5 pm5 cd5 ct5 : Value}
    {f6 : Addr} {od6 an6 : Option Addr} {sl6 : Array (Option Value)} {oc6 kV6 dc6 pm6 cd6 ct6 : Value}
    {f7 : Addr} {od7 an7 : Option Addr} {sl7 : Array (Option Value)} {oc7 kV7 dc7 pm7 cd7 ct7 : Value}
    {f8 : Addr} {od8 an8 : Option Addr} {sl8 : Array (Option Value)} {oc8 kV8 dc8 pm8 cd8 ct8 : Value}
    {f9 : Addr} {od9 an9 : Option Addr} {sl9 : Array (Option Value)} {oc9 kV9 dc9 pm9 cd9 ct9 : Value}
    {f10 : Addr} {od10 an10 : Option Addr} {sl10 : Array (Option Value)} {oc10 kV10 dc10 pm10 cd10 ct10 : Value}
    {f11 : Addr} {od11 an11 : Option Addr} {sl11 : Array (Option Value)} {oc11 kV11 dc11 pm11 cd11 ct11 : Value}
    {f12 : Addr} {od12 an12 : Option Addr} {sl12 : Array (Option Value)} {oc12 kV12 dc12 pm12 cd12 ct12 : Value}
    {f13 : Addr} {od13 an13 : Option Addr} {sl13 : Array (Option Value)} {oc13 kV13 dc13 pm13 cd13 ct13 : Value}
    {f14 : Addr} {od14 an14 : Option Addr} {sl14 : Array (Option Value)} {oc14 kV14 dc14 pm14 cd14 ct14 : Value}
    {f15 : Addr} {od15 an15 : Option Addr} {sl15 : Array (Option Value)} {oc15 kV15 dc15 pm15 cd15 ct15 : Value}
    {f16 : Addr} {od16 an16 : Option Addr} {sl16 : Array (Option Value)} {oc16 kV16 dc16 pm16 cd16 ct16 : Value}
    {f17 : Addr} {od17 an17 : Option Addr} {sl17 : Array (Option Value)} {oc17 kV17 dc17 pm17 cd17 ct17 : Value}
    {f18 : Addr} {od18 an18 : Option Addr} {sl18 : Array (Option Value)} {oc18 kV18 dc18 pm18 cd18 ct18 : Value}
    {f19 : Addr} {od19 an19 : Option Addr} {sl19 : Array (Option Value)} {oc19 kV19 dc19 pm19 cd19 ct19 : Value}
    {f20 : Addr} {od20 an20 : Option Addr} {sl20 : Array (Option Value)} {oc20 kV20 dc20 pm20 cd20 ct20 : Value}
    {f21 : Addr} {od21 an21 : Option Addr} {sl21 : Array (Option Value)} {oc21 kV21 dc21 pm21 cd21 ct21 : Value}
    {f22 : Addr} {od22 an22 : Option Addr} {sl22 : Array (Option Value)} {oc22 kV22 dc22 pm22 cd22 ct22 : Value}
    {f23 : Addr} {od23 an23 : Option Addr} {sl23 : Array (Option Value)} {oc23 kV23 dc23 pm23 cd23 ct23 : Value}
    {f24 : Addr} {od24 an24 : Option Addr} {sl24 : Array (Option Value)} {oc24 kV24 dc24 pm24 cd24 ct24 : Value}
    {f25 : Addr} {od25 an25 : Option Addr} {sl25 : Array (Option Value)} {oc25 kV25 dc25 pm25 cd25 ct25 : Value}
    {f26 : Addr} {od26 an26 : Option Addr} {sl26 : Array (Option Value)} {oc26 kV26 dc26 pm26 cd26 ct26 : Value}
    {f27 : Addr} {od27 an27 : Option Addr} {sl27 : Array (Option Value)} {oc27 kV27 dc27 pm27 cd27 ct27 : Value}
    {f28 : Addr} {od28 an28 : Option Addr} {sl28 : Array (Option Value)} {oc28 kV28 dc28 pm28 cd28 ct28 : Value}
    {f29 : Addr} {od29 an29 : Option Addr} {sl29 : Array (Option Value)} {oc29 kV29 dc29 pm29 cd29 ct29 : Value}
    {f30 : Addr} {od30 an30 : Option Addr} {sl30 : Array (Option Value)} {oc30 kV30 dc30 pm30 cd30 ct30 : Value}
    {f31 : Addr} {od31 an31 : Option Addr} {sl31 : Array (Option Value)} {oc31 kV31 dc31 pm31 cd31 ct31 : Value}
    {f32 : Addr} {od32 an32 : Option Addr} {sl32 : Array (Option Value)} {oc32 kV32 dc32 pm32 cd32 ct32 : Value}
    {f33 : Addr} {od33 an33 : Option Addr} {sl33 : Array (Option Value)} {oc33 kV33 dc33 pm33 cd33 ct33 : Value}
    {f34 : Addr} {od34 an34 : Option Addr} {sl34 : Array (Option Value)} {oc34 kV34 dc34 pm34 cd34 ct34 : Value}
    {f35 : Addr} {od35 an35 : Option Addr} {sl35 : Array (Option Value)} {oc35 kV35 dc35 pm35 cd35 ct35 : Value}
    {f36 : Addr} {od36 an36 : Option Addr} {sl36 : Array (Option Value)} {oc36 kV36 dc36 pm36 cd36 ct36 : Value}
    {C_TooMany f_TooMany : Addr} {nm_TooMany q_TooMany : Str} {N_TooMany : Addr} {bs_TooMany bm_TooMany su_TooMany : List Value} {sn_TooMany : List Str} {ab_TooMany : Bool} {co_TooMany : Option Bool} {dd_TooMany : Option Addr} {k0_TooMany k1_TooMany k2_TooMany k3_TooMany k5_TooMany : Option Value} {od_TooMany an_TooMany : Option Addr} {sl_TooMany : Array (Option Value)} {oc_TooMany kV_TooMany dc_TooMany pm_TooMany cd_TooMany ct_TooMany : Value}
    {t_MOST_LISTED : Tok}
    {t_UNKNOWN : Tok}
    (a0 : PySem.W.nsIn K mainGlobals "is_integer" = some (some (.ref f0))) (l0 : K.lookup f0 = some ⟨oc0, od0, .func (PySem.W.fnOf "is_integer" "is_integer" (defArgs s_is_integer) (defBody s_is_integer) (defScope s_is_integer) .none kV0 dc0 pm0 an0 cd0 ct0), sl0⟩) (c0 : PySem.W.codeIn K cd0 "is_integer" = true) (k0 : PySem.W.keepIn K (.ref f0) = true)
    (a1 : PySem.W.nsIn K mainGlobals "needs" = some (some (.ref f1))) (l1 : K.lookup f1 = some ⟨oc1, od1, .func (PySem.W.fnOf "needs" "needs" (defArgs s_needs) (defBody s_needs) (defScope s_needs) .none kV1 dc1 pm1 an1 cd1 ct1), sl1⟩) (c1 : PySem.W.codeIn K cd1 "needs" = true) (k1 : PySem.W.keepIn K (.ref f1) = true)
    (a2 : PySem.W.nsIn K mainGlobals "taken" = some (some (.ref f2))) (l2 : K.lookup f2 = some ⟨oc2, od2, .func (PySem.W.fnOf "taken" "taken" (defArgs s_taken) (defBody s_taken) (defScope s_taken) .none kV2 dc2 pm2 an2 cd2 ct2), sl2⟩) (c2 : PySem.W.codeIn K cd2 "taken" = true) (k2 : PySem.W.keepIn K (.ref f2) = true)
    (a3 : PySem.W.nsIn K mainGlobals "need_of" = some (some (.ref f3))) (l3 : K.lookup f3 = some ⟨oc3, od3, .func (PySem.W.fnOf "need_of" "need_of" (defArgs s_need_of) (defBody s_need_of) (defScope s_need_of) .none kV3 dc3 pm3 an3 cd3 ct3), sl3⟩) (c3 : PySem.W.codeIn K cd3 "need_of" = true) (k3 : PySem.W.keepIn K (.ref f3) = true)
    (a4 : PySem.W.nsIn K mainGlobals "choose" = some (some (.ref f4))) (l4 : K.lookup f4 = some ⟨oc4, od4, .func (PySem.W.fnOf "choose" "choose" (defArgs s_choose) (defBody s_choose) (defScope s_choose) .none kV4 dc4 pm4 an4 cd4 ct4), sl4⟩) (c4 : PySem.W.codeIn K cd4 "choose" = true) (k4 : PySem.W.keepIn K (.ref f4) = true)
    (a5 : PySem.W.nsIn K mainGlobals "gaps" = some (some (.ref f5))) (l5 : K.lookup f5 = some ⟨oc5, od5, .func (PySem.W.fnOf "gaps" "gaps" (defArgs s_gaps) (defBody s_gaps) (defScope s_gaps) .none kV5 dc5 pm5 an5 cd5 ct5), sl5⟩) (c5 : PySem.W.codeIn K cd5 "gaps" = true) (k5 : PySem.W.keepIn K (.ref f5) = true)
    (a6 : PySem.W.nsIn K mainGlobals "bounds" = some (some (.ref f6))) (l6 : K.lookup f6 = some ⟨oc6, od6, .func (PySem.W.fnOf "bounds" "bounds" (defArgs s_bounds) (defBody s_bounds) (defScope s_bounds) .none kV6 dc6 pm6 an6 cd6 ct6), sl6⟩) (c6 : PySem.W.codeIn K cd6 "bounds" = true) (k6 : PySem.W.keepIn K (.ref f6) = true)
    (a7 : PySem.W.nsIn K mainGlobals "is_inside" = some (some (.ref f7))) (l7 : K.lookup f7 = some ⟨oc7, od7, .func (PySem.W.fnOf "is_inside" "is_inside" (defArgs s_is_inside) (defBody s_is_inside) (defScope s_is_inside) .none kV7 dc7 pm7 an7 cd7 ct7), sl7⟩) (c7 : PySem.W.codeIn K cd7 "is_inside" = true) (k7 : PySem.W.keepIn K (.ref f7) = true)
    (a8 : PySem.W.nsIn K mainGlobals "part_table" = some (some (.ref f8))) (l8 : K.lookup f8 = some ⟨oc8, od8, .func (PySem.W.fnOf "part_table" "part_table" (defArgs s_part_table) (defBody s_part_table) (defScope s_part_table) .none kV8 dc8 pm8 an8 cd8 ct8), sl8⟩) (c8 : PySem.W.codeIn K cd8 "part_table" = true) (k8 : PySem.W.keepIn K (.ref f8) = true)
    (a9 : PySem.W.nsIn K mainGlobals "count_of" = some (some (.ref f9))) (l9 : K.lookup f9 = some ⟨oc9, od9, .func (PySem.W.fnOf "count_of" "count_of" (defArgs s_count_of) (defBody s_count_of) (defScope s_count_of) .none kV9 dc9 pm9 an9 cd9 ct9), sl9⟩) (c9 : PySem.W.codeIn K cd9 "count_of" = true) (k9 : PySem.W.keepIn K (.ref f9) = true)
    (a10 : PySem.W.nsIn K mainGlobals "is_possible" = some (some (.ref f10))) (l10 : K.lookup f10 = some ⟨oc10, od10, .func (PySem.W.fnOf "is_possible" "is_possible" (defArgs s_is_possible) (defBody s_is_possible) (defScope s_is_possible) .none kV10 dc10 pm10 an10 cd10 ct10), sl10⟩) (c10 : PySem.W.codeIn K cd10 "is_possible" = true) (k10 : PySem.W.keepIn K (.ref f10) = true)
    (a11 : PySem.W.nsIn K mainGlobals "is_closed" = some (some (.ref f11))) (l11 : K.lookup f11 = some ⟨oc11, od11, .func (PySem.W.fnOf "is_closed" "is_closed" (defArgs s_is_closed) (defBody s_is_closed) (defScope s_is_closed) .none kV11 dc11 pm11 an11 cd11 ct11), sl11⟩) (c11 : PySem.W.codeIn K cd11 "is_closed" = true) (k11 : PySem.W.keepIn K (.ref f11) = true)
    (a12 : PySem.W.nsIn K mainGlobals "is_view" = some (some (.ref f12))) (l12 : K.lookup f12 = some ⟨oc12, od12, .func (PySem.W.fnOf "is_view" "is_view" (defArgs s_is_view) (defBody s_is_view) (defScope s_is_view) .none kV12 dc12 pm12 an12 cd12 ct12), sl12⟩) (c12 : PySem.W.codeIn K cd12 "is_view" = true) (k12 : PySem.W.keepIn K (.ref f12) = true)
    (a13 : PySem.W.nsIn K mainGlobals "all_views" = some (some (.ref f13))) (l13 : K.lookup f13 = some ⟨oc13, od13, .func (PySem.W.fnOf "all_views" "all_views" (defArgs s_all_views) (defBody s_all_views) (defScope s_all_views) .none kV13 dc13 pm13 an13 cd13 ct13), sl13⟩) (c13 : PySem.W.codeIn K cd13 "all_views" = true) (k13 : PySem.W.keepIn K (.ref f13) = true)
    (a14 : PySem.W.nsIn K mainGlobals "views" = some (some (.ref f14))) (l14 : K.lookup f14 = some ⟨oc14, od14, .func (PySem.W.fnOf "views" "views" (defArgs s_views) (defBody s_views) (defScope s_views) .none kV14 dc14 pm14 an14 cd14 ct14), sl14⟩) (c14 : PySem.W.codeIn K cd14 "views" = true) (k14 : PySem.W.keepIn K (.ref f14) = true)
    (a15 : PySem.W.nsIn K mainGlobals "count_views" = some (some (.ref f15))) (l15 : K.lookup f15 = some ⟨oc15, od15, .func (PySem.W.fnOf "count_views" "count_views" (defArgs s_count_views) (defBody s_count_views) (defScope s_count_views) .none kV15 dc15 pm15 an15 cd15 ct15), sl15⟩) (c15 : PySem.W.codeIn K cd15 "count_views" = true) (k15 : PySem.W.keepIn K (.ref f15) = true)
    (a16 : PySem.W.nsIn K mainGlobals "_law_source" = some (some (.ref f16))) (l16 : K.lookup f16 = some ⟨oc16, od16, .func (PySem.W.fnOf "_law_source" "_law_source" (defArgs s_Lsource) (defBody s_Lsource) (defScope s_Lsource) .none kV16 dc16 pm16 an16 cd16 ct16), sl16⟩) (c16 : PySem.W.codeIn K cd16 "_law_source" = true) (k16 : PySem.W.keepIn K (.ref f16) = true)
    (a17 : PySem.W.nsIn K mainGlobals "_law_draw" = some (some (.ref f17))) (l17 : K.lookup f17 = some ⟨oc17, od17, .func (PySem.W.fnOf "_law_draw" "_law_draw" (defArgs s_Ldraw) (defBody s_Ldraw) (defScope s_Ldraw) .none kV17 dc17 pm17 an17 cd17 ct17), sl17⟩) (c17 : PySem.W.codeIn K cd17 "_law_draw" = true) (k17 : PySem.W.keepIn K (.ref f17) = true)
    (a18 : PySem.W.nsIn K mainGlobals "_law_choice" = some (some (.ref f18))) (l18 : K.lookup f18 = some ⟨oc18, od18, .func (PySem.W.fnOf "_law_choice" "_law_choice" (defArgs s_Lchoice) (defBody s_Lchoice) (defScope s_Lchoice) .none kV18 dc18 pm18 an18 cd18 ct18), sl18⟩) (c18 : PySem.W.codeIn K cd18 "_law_choice" = true) (k18 : PySem.W.keepIn K (.ref f18) = true)
    (a19 : PySem.W.nsIn K mainGlobals "_law_equal" = some (some (.ref f19))) (l19 : K.lookup f19 = some ⟨oc19, od19, .func (PySem.W.fnOf "_law_equal" "_law_equal" (defArgs s_Lequal) (defBody s_Lequal) (defScope s_Lequal) .none kV19 dc19 pm19 an19 cd19 ct19), sl19⟩) (c19 : PySem.W.codeIn K cd19 "_law_equal" = true) (k19 : PySem.W.keepIn K (.ref f19) = true)
    (a20 : PySem.W.nsIn K mainGlobals "_law_shuffled" = some (some (.ref f20))) (l20 : K.lookup f20 = some ⟨oc20, od20, .func (PySem.W.fnOf "_law_shuffled" "_law_shuffled" (defArgs s_Lshuffled) (defBody s_Lshuffled) (defScope s_Lshuffled) .none kV20 dc20 pm20 an20 cd20 ct20), sl20⟩) (c20 : PySem.W.codeIn K cd20 "_law_shuffled" = true) (k20 : PySem.W.keepIn K (.ref f20) = true)
    (a21 : PySem.W.nsIn K mainGlobals "_law_odd" = some (some (.ref f21))) (l21 : K.lookup f21 = some ⟨oc21, od21, .func (PySem.W.fnOf "_law_odd" "_law_odd" (defArgs s_Lodd) (defBody s_Lodd) (defScope s_Lodd) .none kV21 dc21 pm21 an21 cd21 ct21), sl21⟩) (c21 : PySem.W.codeIn K cd21 "_law_odd" = true) (k21 : PySem.W.keepIn K (.ref f21) = true)
    (a22 : PySem.W.nsIn K mainGlobals "_law_bent" = some (some (.ref f22))) (l22 : K.lookup f22 = some ⟨oc22, od22, .func (PySem.W.fnOf "_law_bent" "_law_bent" (defArgs s_Lbent) (defBody s_Lbent) (defScope s_Lbent) .none kV22 dc22 pm22 an22 cd22 ct22), sl22⟩) (c22 : PySem.W.codeIn K cd22 "_law_bent" = true) (k22 : PySem.W.keepIn K (.ref f22) = true)
    (a23 : PySem.W.nsIn K mainGlobals "_law_integer" = some (some (.ref f23))) (l23 : K.lookup f23 = some ⟨oc23, od23, .func (PySem.W.fnOf "_law_integer" "_law_integer" (defArgs s_Linteger) (defBody s_Linteger) (defScope s_Linteger) .none kV23 dc23 pm23 an23 cd23 ct23), sl23⟩) (c23 : PySem.W.codeIn K cd23 "_law_integer" = true) (k23 : PySem.W.keepIn K (.ref f23) = true)
    (a24 : PySem.W.nsIn K mainGlobals "_law_needs" = some (some (.ref f24))) (l24 : K.lookup f24 = some ⟨oc24, od24, .func (PySem.W.fnOf "_law_needs" "_law_needs" (defArgs s_Lneeds) (defBody s_Lneeds) (defScope s_Lneeds) .none kV24 dc24 pm24 an24 cd24 ct24), sl24⟩) (c24 : PySem.W.codeIn K cd24 "_law_needs" = true) (k24 : PySem.W.keepIn K (.ref f24) = true)
    (a25 : PySem.W.nsIn K mainGlobals "_law_fill" = some (some (.ref f25))) (l25 : K.lookup f25 = some ⟨oc25, od25, .func (PySem.W.fnOf "_law_fill" "_law_fill" (defArgs s_Lfill) (defBody s_Lfill) (defScope s_Lfill) .none kV25 dc25 pm25 an25 cd25 ct25), sl25⟩) (c25 : PySem.W.codeIn K cd25 "_law_fill" = true) (k25 : PySem.W.keepIn K (.ref f25) = true)
    (a26 : PySem.W.nsIn K mainGlobals "_law_hopes" = some (some (.ref f26))) (l26 : K.lookup f26 = some ⟨oc26, od26, .func (PySem.W.fnOf "_law_hopes" "_law_hopes" (defArgs s_Lhopes) (defBody s_Lhopes) (defScope s_Lhopes) .none kV26 dc26 pm26 an26 cd26 ct26), sl26⟩) (c26 : PySem.W.codeIn K cd26 "_law_hopes" = true) (k26 : PySem.W.keepIn K (.ref f26) = true)
    (a27 : PySem.W.nsIn K mainGlobals "_law_veiled" = some (some (.ref f27))) (l27 : K.lookup f27 = some ⟨oc27, od27, .func (PySem.W.fnOf "_law_veiled" "_law_veiled" (defArgs s_Lveiled) (defBody s_Lveiled) (defScope s_Lveiled) .none kV27 dc27 pm27 an27 cd27 ct27), sl27⟩) (c27 : PySem.W.codeIn K cd27 "_law_veiled" = true) (k27 : PySem.W.keepIn K (.ref f27) = true)
    (a28 : PySem.W.nsIn K mainGlobals "_law_case" = some (some (.ref f28))) (l28 : K.lookup f28 = some ⟨oc28, od28, .func (PySem.W.fnOf "_law_case" "_law_case" (defArgs s_Lcase) (defBody s_Lcase) (defScope s_Lcase) .none kV28 dc28 pm28 an28 cd28 ct28), sl28⟩) (c28 : PySem.W.codeIn K cd28 "_law_case" = true) (k28 : PySem.W.keepIn K (.ref f28) = true)
    (a29 : PySem.W.nsIn K mainGlobals "_law_spoiled" = some (some (.ref f29))) (l29 : K.lookup f29 = some ⟨oc29, od29, .func (PySem.W.fnOf "_law_spoiled" "_law_spoiled" (defArgs s_Lspoiled) (defBody s_Lspoiled) (defScope s_Lspoiled) .none kV29 dc29 pm29 an29 cd29 ct29), sl29⟩) (c29 : PySem.W.codeIn K cd29 "_law_spoiled" = true) (k29 : PySem.W.keepIn K (.ref f29) = true)
    (a30 : PySem.W.nsIn K mainGlobals "_law_any" = some (some (.ref f30))) (l30 : K.lookup f30 = some ⟨oc30, od30, .func (PySem.W.fnOf "_law_any" "_law_any" (defArgs s_Lany) (defBody s_Lany) (defScope s_Lany) .none kV30 dc30 pm30 an30 cd30 ct30), sl30⟩) (c30 : PySem.W.codeIn K cd30 "_law_any" = true) (k30 : PySem.W.keepIn K (.ref f30) = true)
    (a31 : PySem.W.nsIn K mainGlobals "_law_full_spots" = some (some (.ref f31))) (l31 : K.lookup f31 = some ⟨oc31, od31, .func (PySem.W.fnOf "_law_full_spots" "_law_full_spots" (defArgs s_Lfull_spots) (defBody s_Lfull_spots) (defScope s_Lfull_spots) .none kV31 dc31 pm31 an31 cd31 ct31), sl31⟩) (c31 : PySem.W.codeIn K cd31 "_law_full_spots" = true) (k31 : PySem.W.keepIn K (.ref f31) = true)
    (a32 : PySem.W.nsIn K mainGlobals "_law_wanted" = some (some (.ref f32))) (l32 : K.lookup f32 = some ⟨oc32, od32, .func (PySem.W.fnOf "_law_wanted" "_law_wanted" (defArgs s_Lwanted) (defBody s_Lwanted) (defScope s_Lwanted) .none kV32 dc32 pm32 an32 cd32 ct32), sl32⟩) (c32 : PySem.W.codeIn K cd32 "_law_wanted" = true) (k32 : PySem.W.keepIn K (.ref f32) = true)
    (a33 : PySem.W.nsIn K mainGlobals "_law_fitting" = some (some (.ref f33))) (l33 : K.lookup f33 = some ⟨oc33, od33, .func (PySem.W.fnOf "_law_fitting" "_law_fitting" (defArgs s_Lfitting) (defBody s_Lfitting) (defScope s_Lfitting) .none kV33 dc33 pm33 an33 cd33 ct33), sl33⟩) (c33 : PySem.W.codeIn K cd33 "_law_fitting" = true) (k33 : PySem.W.keepIn K (.ref f33) = true)
    (a34 : PySem.W.nsIn K mainGlobals "_law_values_right" = some (some (.ref f34))) (l34 : K.lookup f34 = some ⟨oc34, od34, .func (PySem.W.fnOf "_law_values_right" "_law_values_right" (defArgs s_Lvalues_right) (defBody s_Lvalues_right) (defScope s_Lvalues_right) .none kV34 dc34 pm34 an34 cd34 ct34), sl34⟩) (c34 : PySem.W.codeIn K cd34 "_law_values_right" = true) (k34 : PySem.W.keepIn K (.ref f34) = true)
    (a35 : PySem.W.nsIn K mainGlobals "_law_holds" = some (some (.ref f35))) (l35 : K.lookup f35 = some ⟨oc35, od35, .func (PySem.W.fnOf "_law_holds" "_law_holds" (defArgs s_Lholds) (defBody s_Lholds) (defScope s_Lholds) .none kV35 dc35 pm35 an35 cd35 ct35), sl35⟩) (c35 : PySem.W.codeIn K cd35 "_law_holds" = true) (k35 : PySem.W.keepIn K (.ref f35) = true)
    (a36 : PySem.W.nsIn K mainGlobals "law" = some (some (.ref f36))) (l36 : K.lookup f36 = some ⟨oc36, od36, .func (PySem.W.fnOf "law" "law" (defArgs s_law) (defBody s_law) (defScope s_law) .none kV36 dc36 pm36 an36 cd36 ct36), sl36⟩) (c36 : PySem.W.codeIn K cd36 "law" = true) (k36 : PySem.W.keepIn K (.ref f36) = true)
    (xa_TooMany : PySem.W.nsIn K mainGlobals "TooMany" = some (some (.ref C_TooMany))) (xl_TooMany : K.lookup C_TooMany = some (excClassObj nm_TooMany q_TooMany C_TooMany N_TooMany bs_TooMany bm_TooMany true sn_TooMany su_TooMany ab_TooMany co_TooMany dd_TooMany k0_TooMany k1_TooMany k2_TooMany k3_TooMany k5_TooMany "OverflowError.__new__")) (xr_TooMany : refsT [.type "OverflowError", .type "ArithmeticError", .type "Exception", .type "BaseException", .type "object"] bm_TooMany = true) (xs_TooMany : PySem.W.findIn K (.ref C_TooMany) "__setattr__" = some (some (.builtin "object.__setattr__")))
    (xe_TooMany : PySem.W.subIn K (.ref C_TooMany) (.type "BaseException") = some true) (xt_TooMany : PySem.W.typeIn K (.ref C_TooMany) = some (.type "type")) (xk_TooMany : PySem.W.keepIn K (.ref C_TooMany) = true) (xi_TooMany : PySem.W.findIn K (.ref C_TooMany) "__init__" = some (some (.ref f_TooMany))) (xy_TooMany : PySem.W.typeIn K (.ref f_TooMany) = some (.type "function"))
    (xf_TooMany : K.lookup f_TooMany = some ⟨oc_TooMany, od_TooMany, .func (PySem.W.fnOf "__init__" "TooMany.__init__" (defArgs s_TooMany) (defBody s_TooMany) (defScope s_TooMany) .none kV_TooMany dc_TooMany pm_TooMany an_TooMany cd_TooMany ct_TooMany), sl_TooMany⟩) (xc_TooMany : PySem.W.codeIn K cd_TooMany "TooMany.__init__" = true) (xq_TooMany : PySem.W.keepIn K (.ref f_TooMany) = true) (xd_TooMany : PySem.W.findIn K (.ref C_TooMany) "many" = some none)
    (xv_OverflowError : PySem.W.findCls K (.type "OverflowError") (.type "type") "__init__" = some (.val (.builtin "OverflowError.__init__")))
    (z_OverflowError : PySem.W.nsIn K mainGlobals "OverflowError" = some none)
    (z_abs : PySem.W.nsIn K mainGlobals "abs" = some none)
    (z_all : PySem.W.nsIn K mainGlobals "all" = some none)
    (z_bool : PySem.W.nsIn K mainGlobals "bool" = some none)
    (z_dict : PySem.W.nsIn K mainGlobals "dict" = some none)
    (z_enumerate : PySem.W.nsIn K mainGlobals "enumerate" = some none)
    (z_int : PySem.W.nsIn K mainGlobals "int" = some none)
    (z_isinstance : PySem.W.nsIn K mainGlobals "isinstance" = some none)
    (z_len : PySem.W.nsIn K mainGlobals "len" = some none)
    (z_list : PySem.W.nsIn K mainGlobals "list" = some none)
    (z_max : PySem.W.nsIn K mainGlobals "max" = some none)
    (z_min : PySem.W.nsIn K mainGlobals "min" = some none)
    (z_range : PySem.W.nsIn K mainGlobals "range" = some none)
    (z_repr : PySem.W.nsIn K mainGlobals "repr" = some none)
    (z_sorted : PySem.W.nsIn K mainGlobals "sorted" = some none)
    (z_str : PySem.W.nsIn K mainGlobals "str" = some none)
    (z_tuple : PySem.W.nsIn K mainGlobals "tuple" = some none)
    (z_zip : PySem.W.nsIn K mainGlobals "zip" = some none)
    (y_MOST_LISTED : PySem.W.nsIn K mainGlobals "MOST_LISTED" = some (some (.int 300 t_MOST_LISTED)))
    (y_UNKNOWN : PySem.W.nsIn K mainGlobals "UNKNOWN" = some (some (.str "?" t_UNKNOWN)))
    : ∃ fd : FuncData, (∀ (s : Shared) (v : Value), BindsTo s fd ⟨[v], []⟩ [("_law_script", v)]) ∧ ∀ base : Heap, K.In base → base.Ns mainGlobals mg → FnOkG l.prog w K mg base (XC l.prog w) 46 fa fd ["_law_script"] (spD mg K 1 false d_law_k23) := by
  have A0 := At.mk' (st := s_is_integer) X G a0 l0 c0 k0
  have A1 := At.mk' (st := s_needs) X G a1 l1 c1 k1
  have A2 := At.mk' (st := s_taken) X G a2 l2 c2 k2
  have A3 := At.mk' (st := s_need_of) X G a3 l3 c3 k3
  have A4 := At.mk' (st := s_choose) X G a4 l4 c4 k4
  have A5 := At.mk' (st := s_gaps) X G a5 l5 c5 k5
  have A6 := At.mk' (st := s_bounds) X G a6 l6 c6 k6
  have A7 := At.mk' (st := s_is_inside) X G a7 l7 c7 k7
  have A8 := At.mk' (st := s_part_table) X G a8 l8 c8 k8
  have A9 := At.mk' (st := s_count_of) X G a9 l9 c9 k9
  have A10 := At.mk' (st := s_is_possible) X G a10 l10 c10 k10
  have A11 := At.mk' (st := s_is_closed) X G a11 l11 c11 k11
  have A12 := At.mk' (st := s_is_view) X G a12 l12 c12 k12
  have A13 := At.mk' (st := s_all_views) X G a13 l13 c13 k13
  have A14 := At.mk' (st := s_views) X G a14 l14 c14 k14
  have A15 := At.mk' (st := s_count_views) X G a15 l15 c15 k15
  have A16 := At.mk' (st := s_Lsource) X G a16 l16 c16 k16
  have A17 := At.mk' (st := s_Ldraw) X G a17 l17 c17 k17
  have A18 := At.mk' (st := s_Lchoice) X G a18 l18 c18 k18
  have A19 := At.mk' (st := s_Lequal) X G a19 l19 c19 k19
  have A20 := At.mk' (st := s_Lshuffled) X G a20 l20 c20 k20
  have A21 := At.mk' (st := s_Lodd) X G a21 l21 c21 k21
  have A22 := At.mk' (st := s_Lbent) X G a22 l22 c22 k22
  have A23 := At.mk' (st := s_Linteger) X G a23 l23 c23 k23
  have A24 := At.mk' (st := s_Lneeds) X G a24 l24 c24 k24
  have A25 := At.mk' (st := s_Lfill) X G a25 l25 c25 k25
  have A26 := At.mk' (st := s_Lhopes) X G a26 l26 c26 k26
  have A27 := At.mk' (st := s_Lveiled) X G a27 l27 c27 k27
  have A28 := At.mk' (st := s_Lcase) X G a28 l28 c28 k28
  have A29 := At.mk' (st := s_Lspoiled) X G a29 l29 c29 k29
  have A30 := At.mk' (st := s_Lany) X G a30 l30 c30 k30
  have A31 := At.mk' (st := s_Lfull_spots) X G a31 l31 c31 k31
  have A32 := At.mk' (st := s_Lwanted) X G a32 l32 c32 k32
  have A33 := At.mk' (st := s_Lfitting) X G a33 l33 c33 k33
  have A34 := At.mk' (st := s_Lvalues_right) X G a34 l34 c34 k34
  have A35 := At.mk' (st := s_Lholds) X G a35 l35 c35 k35
  have A36 := At.mk' (st := s_law) X G a36 l36 c36 k36
  have n_OverflowError := PySem.W.mg_none_of X G z_OverflowError
  have n_abs := PySem.W.mg_none_of X G z_abs
  have n_all := PySem.W.mg_none_of X G z_all
  have n_bool := PySem.W.mg_none_of X G z_bool
  have n_dict := PySem.W.mg_none_of X G z_dict
  have n_enumerate := PySem.W.mg_none_of X G z_enumerate
  have n_int := PySem.W.mg_none_of X G z_int
  have n_isinstance := PySem.W.mg_none_of X G z_isinstance
  have n_len := PySem.W.mg_none_of X G z_len
  have n_list := PySem.W.mg_none_of X G z_list
  have n_max := PySem.W.mg_none_of X G z_max
  have n_min := PySem.W.mg_none_of X G z_min
  have n_range := PySem.W.mg_none_of X G z_range
  have n_repr := PySem.W.mg_none_of X G z_repr
  have n_sorted := PySem.W.mg_none_of X G z_sorted
  have n_str := PySem.W.mg_none_of X G z_str
  have n_tuple := PySem.W.mg_none_of X G z_tuple
  have n_zip := PySem.W.mg_none_of X G z_zip
  have c_MOST_LISTED : GInt mg "MOST_LISTED" 300 := ⟨t_MOST_LISTED, PySem.W.mg_of X G y_MOST_LISTED⟩
  have c_UNKNOWN : GStr mg "UNKNOWN" "?" := ⟨t_UNKNOWN, PySem.W.mg_of X G y_UNKNOWN⟩
  have e := hfa.symm.trans (PySem.W.mg_of X G a36)
  cases e
  refine ⟨PySem.W.fnOf "law" "law" (defArgs s_law) (defBody s_law) (defScope s_law) .none kV36 dc36 pm36 an36 cd36 ct36, fun s v => .of_eq rfl, fun base hK hN => ?_⟩
  have x_TooMany := ex_TooMany (P := l.prog) (w := w) (base := base) (PySem.W.mg_of X G xa_TooMany) (OexG.mk' xl_TooMany xr_TooMany xs_TooMany xe_TooMany xt_TooMany xk_TooMany) xi_TooMany xy_TooMany xd_TooMany (fun_mk xf_TooMany xc_TooMany xq_TooMany) n_OverflowError xv_OverflowError
  have h_is_integer := ok_is_integer (P := l.prog) (w := w) (base := base) A0 n_bool n_int n_isinstance
  have h_needs := ok_needs (P := l.prog) (w := w) (base := base) A1 n_max n_min n_range n_tuple
  have h_taken := ok_taken (P := l.prog) (w := w) (base := base) A2 n_enumerate
  have h_need_of := ok_need_of (P := l.prog) (w := w) (base := base) A3 n_len c_UNKNOWN h_needs
  have h_choose := ok_choose (P := l.prog) (w := w) (base := base) A4 n_range
  have h_gaps := ok_gaps (P := l.prog) (w := w) (base := base) A5 h_taken h_need_of
  have h_bounds := ok_bounds (P := l.prog) (w := w) (base := base) A6 n_enumerate n_max n_min h_need_of
  have h_is_inside := ok_is_inside (P := l.prog) (w := w) (base := base) A7
  have h_part_table := ok_part_table (P := l.prog) (w := w) (base := base) A8 n_len n_range h_is_inside h_choose
  have h_count_of := ok_count_of (P := l.prog) (w := w) (base := base) A9 n_len h_part_table h_bounds
  have h_is_possible := ok_is_possible (P := l.prog) (w := w) (base := base) A10 h_gaps h_count_of h_taken
  have h_is_closed := ok_is_closed (P := l.prog) (w := w) (base := base) A11 n_all h_need_of
  have h_is_view := ok_is_view (P := l.prog) (w := w) (base := base) A12 n_all n_isinstance n_tuple n_zip h_is_integer h_is_possible h_taken h_is_closed
  have h_all_views := ok_all_views (P := l.prog) (w := w) (base := base) A13 h_is_possible h_taken h_is_closed
  have h_views := ok_views (P := l.prog) (w := w) (base := base) A14 n_len n_sorted c_MOST_LISTED x_TooMany hK hN h_all_views
  have h_count_views := ok_count_views (P := l.prog) (w := w) (base := base) A15 n_len n_range h_all_views h_taken
  have h_Lsource := ok_Lsource (P := l.prog) (w := w) (base := base) A16 n_abs n_int n_len
  have h_Ldraw := ok_Ldraw (P := l.prog) (w := w) (base := base) A17 3
  have h_Lchoice := ok_Lchoice (P := l.prog) (w := w) (base := base) A18 n_len h_Ldraw
  have h_Lequal := ok_Lequal (P := l.prog) (w := w) (base := base) A19 n_all n_bool n_int n_isinstance n_len n_list n_str n_tuple n_zip 8
  have h_Lshuffled := ok_Lshuffled (P := l.prog) (w := w) (base := base) A20 n_len n_list h_Ldraw
  have h_Lodd := ok_Lodd (P := l.prog) (w := w) (base := base) A21 n_int n_isinstance n_list n_str n_tuple h_Lchoice
  have h_Lbent := ok_Lbent (P := l.prog) (w := w) (base := base) A22 n_isinstance n_len n_list n_tuple h_Ldraw h_Lodd 36
  have h_Linteger := ok_Linteger (P := l.prog) (w := w) (base := base) A23 n_bool n_int n_isinstance
  have h_Lneeds := ok_Lneeds (P := l.prog) (w := w) (base := base) A24 n_abs n_range
  have h_Lfill := ok_Lfill (P := l.prog) (w := w) (base := base) A25 n_abs n_min n_range n_tuple
  have h_Lhopes := ok_Lhopes (P := l.prog) (w := w) (base := base) A26 n_max n_min n_range h_Ldraw
  have h_Lveiled := ok_Lveiled (P := l.prog) (w := w) (base := base) A27 n_tuple h_Lchoice h_Ldraw
  have h_Lcase := ok_Lcase (P := l.prog) (w := w) (base := base) A28 h_Ldraw h_Lfill h_Lhopes h_Lveiled
  have h_Lspoiled := ok_Lspoiled (P := l.prog) (w := w) (base := base) A29 n_len n_list n_range n_tuple h_Ldraw h_Lchoice
  have h_Lany := ok_Lany (P := l.prog) (w := w) (base := base) A30 h_Lcase h_Ldraw h_Lspoiled
  have h_Lfull_spots := ok_Lfull_spots (P := l.prog) (w := w) (base := base) A31 n_enumerate
  have h_Lwanted := ok_Lwanted (P := l.prog) (w := w) (base := base) A32 n_len h_Lneeds
  have h_Lfitting := ok_Lfitting (P := l.prog) (w := w) (base := base) A33 n_all n_dict h_Lfull_spots h_Lwanted
  have h_Lvalues_right := ok_Lvalues_right (P := l.prog) (w := w) (base := base) A34 n_all n_isinstance n_len n_list n_range n_repr n_sorted n_tuple h_Lfull_spots h_Lshuffled h_Ldraw h_Lbent h_Lchoice h_Linteger h_Lequal h_is_view
  have h_Lholds := ok_Lholds (P := l.prog) (w := w) (base := base) A35 n_len n_list n_range n_sorted n_tuple h_Lany h_Lfull_spots h_Lfitting h_count_views h_Lequal h_views h_Lvalues_right
  have h_law := ok_law (P := l.prog) (w := w) (base := base) A36 n_all n_len n_max n_min n_range h_Lholds h_Lsource
  obtain ⟨f, fd, F, hm, FF⟩ := h_law.ex
  have e2 : f = fa := by have := hm.symm.trans (PySem.W.mg_of X G a36); injection this with this; injection this
  subst e2
  obtain ⟨oc, od, kV, doc, pm, an, cdv, ct, osl, e3, lk, hcd⟩ := F.ex
  have e4 := lk.symm.trans l36
  have e5 : fd = PySem.W.fnOf "law" "law" (defArgs s_law) (defBody s_law) (defScope s_law) .none kV36 dc36 pm36 an36 cd36 ct36 := by
    injection e4 with e4; injection e4 with _ _ e6 _; injection e6
  rw [e5] at FF
  exact FF
end NS
namespace NS
open PySem PySem.Spec PyProof.Rows L2
def T {α : Type} (x : M α) (g : G) (Q : α → G → Prop) : Prop := ∃ a g', x g = .ok a g' ∧ Q a g'
theorem T.imp {α : Type} {x : M α} {g : G} {Q R : α → G → Prop} (h : T x g Q) (i : ∀ a g', Q a g' → R a g') : T x g R := by
  obtain ⟨a, g', e, q⟩ := h; exact ⟨a, g', e, i _ _ q⟩
@[simp] theorem T_pure {α : Type} (a : α) (g : G) (Q : α → G → Prop) : T (M.pure a) g Q ↔ Q a g :=
  ⟨fun ⟨_, _, e, q⟩ => by cases e; exact q, fun q => ⟨a, g, rfl, q⟩⟩
@[simp] theorem T_bind {α β : Type} (x : M α) (f : α → M β) (g : G) (Q : β → G → Prop) : T (M.bind x f) g Q ↔ T x g (fun a g' => T (f a) g' Q) := by
  constructor
  · rintro ⟨b, g', e, q⟩
    unfold M.bind at e
    cases h : x g with
    | ok a g1 => rw [h] at e; exact ⟨a, g1, h, b, g', e, q⟩
    | err z g1 => rw [h] at e; cases e
    | bad => rw [h] at e; cases e
  · rintro ⟨a, g1, h, b, g', e, q⟩
    exact ⟨b, g', by rw [bind_ok h]; exact e, q⟩
@[simp] theorem T_noerr {α : Type} (x : M α) (g : G) (Q : α → G → Prop) : T (M.noerr x) g Q ↔ T x g Q := by
  constructor
  · rintro ⟨b, g', e, q⟩
    cases h : x g with
    | ok a g1 => rw [noerr_ok h] at e; cases e; exact ⟨_, _, h, q⟩
    | err z g1 => rw [noerr_err h] at e; cases e
    | bad => rw [noerr_bad h] at e; cases e
  · rintro ⟨a, g1, h, q⟩
    exact ⟨a, g1, noerr_ok h, q⟩
@[simp] theorem T_if {α : Type} (c : Prop) [Decidable c] (x y : M α) (g : G) (Q : α → G → Prop) : T (if c then x else y) g Q ↔ (c → T x g Q) ∧ (¬ c → T y g Q) := by split <;> simp [*]
@[simp] theorem T_bad {α : Type} (g : G) (Q : α → G → Prop) : T M.bad g Q ↔ False := ⟨fun ⟨_, _, e, _⟩ => (nomatch e), False.elim⟩
@[simp high] theorem T_guard {α : Type} (c : Prop) [Decidable c] (x : M α) (g : G) (Q : α → G → Prop) : T (if c then x else M.bad) g Q ↔ c ∧ T x g Q := by
  by_cases h : c
  · simp [h]
  · rw [if_neg h]; simp [h]
@[simp] theorem T_some {α : Type} (a : α) (g : G) (Q : α → G → Prop) : T (M.opt (some a)) g Q ↔ Q a g := T_pure a g Q
@[simp] theorem and_as (a b c : Prop) : (a ∧ b) ∧ c ↔ a ∧ b ∧ c := and_assoc
@[simp] theorem T_opt {α : Type} (o : Option α) (g : G) (Q : α → G → Prop) : T (M.opt o) g Q ↔ ∃ a, o = some a ∧ Q a g := by cases o <;> simp [M.opt]
@[simp] theorem pure_bind' {α β : Type} (a : α) (f : α → M β) : M.bind (M.pure a) f = f a := rfl
@[simp] theorem bad_bind' {α β : Type} (f : α → M β) : M.bind M.bad f = M.bad := rfl
@[simp] theorem ite_bind' {α β : Type} (c : Prop) [Decidable c] (x y : M α) (f : α → M β) : M.bind (if c then x else y) f = if c then M.bind x f else M.bind y f := by split <;> rfl
@[simp] theorem bind_bind' {α β γ : Type} (x : M α) (f : α → M β) (h : β → M γ) : M.bind (M.bind x f) h = M.bind x (fun a => M.bind (f a) h) := by
  funext g
  unfold M.bind
  cases x g <;> rfl
@[simp] theorem noerr_pure' {α : Type} (a : α) : M.noerr (M.pure a) = M.pure a := rfl
@[simp] theorem noerr_bad' {α : Type} : M.noerr (M.bad : M α) = M.bad := rfl
@[simp] theorem noerr_ite {α : Type} (c : Prop) [Decidable c] (x y : M α) : M.noerr (if c then x else y) = if c then M.noerr x else M.noerr y := by split <;> rfl
@[simp] theorem opt_some' {α : Type} (a : α) : M.opt (some a) = M.pure a := rfl
@[simp] theorem opt_none' {α : Type} : (M.opt none : M α) = M.bad := rfl
@[simp] theorem eVar0 (x : DV) (σ : DS) : eVar 0 (some x :: σ) = (match x with | .sh d => M.pure d | _ => M.bad) := by cases x <;> rfl
@[simp] theorem eVarS (i : Nat) (x : Option DV) (σ : DS) : eVar (i + 1) (x :: σ) = eVar i σ := rfl
@[simp] theorem eC_ap (d : D) (σ : DS) : eC d σ = M.pure d := rfl
@[simp] theorem eBin_ap (k : D → D → M D) (fa fb : DS → M D) (σ : DS) : eBin k fa fb σ = M.bind (fa σ) fun x => M.bind (fb σ) fun y => k x y := rfl
@[simp] theorem eArgs_ap (k : List D → M D) (fl : DS → M (List D)) (σ : DS) : eArgs k fl σ = M.bind (fl σ) k := rfl
@[simp] theorem iArgs_ap (k : List D → M (List D)) (fl : DS → M (List D)) (σ : DS) : iArgs k fl σ = M.bind (fl σ) k := rfl
@[simp] theorem iSeq_ap (f : DS → M D) (σ : DS) : iSeq f σ = M.bind (f σ) itD := rfl
@[simp] theorem lNil_ap (σ : DS) : lNil σ = M.pure [] := rfl
@[simp] theorem lCons_ap (f : DS → M D) (fl : DS → M (List D)) (σ : DS) : lCons f fl σ = M.bind (f σ) fun x => M.bind (fl σ) fun xs => M.pure (x :: xs) := rfl
@[simp] theorem eTst_ap (f : DS → M D) (σ : DS) : eTst f σ = M.bind (f σ) asB := rfl
@[simp] theorem eChain_ap (k k' : D → D → M D) (fa fb fc : DS → M D) (σ : DS) : eChain k k' fa fb fc σ = M.bind (fa σ) fun x => M.bind (fb σ) fun y => M.bind (M.bind (k x y) asB) fun t =>
  if t = true then M.bind (fc σ) fun z => k' y z else M.pure (.bl false) := rfl
@[simp] theorem eAnd_ap (f h : DS → M Bool) (σ : DS) : eAnd f h σ = M.bind (f σ) fun t => if t = true then h σ else M.pure false := rfl
@[simp] theorem eOr_ap (f h : DS → M Bool) (σ : DS) : eOr f h σ = M.bind (f σ) fun t => if t = true then M.pure true else h σ := rfl
@[simp] theorem eNot_ap (f : DS → M Bool) (σ : DS) : eNot f σ = M.bind (f σ) fun t => M.pure !t := rfl
@[simp] theorem eIf_ap (t : DS → M Bool) (fa fb : DS → M D) (σ : DS) : eIf t fa fb σ = M.bind (t σ) fun b => if b = true then fa σ else fb σ := rfl
@[simp] theorem eAndV_ap (fa fb : DS → M D) (σ : DS) : eAndV fa fb σ = M.bind (M.bind (fa σ) asB) fun t => if t = true then fb σ else M.pure (.bl false) := rfl
@[simp] theorem eOrV_ap (fa fb : DS → M D) (σ : DS) : eOrV fa fb σ = M.bind (M.bind (fa σ) asB) fun t => if t = true then M.pure (.bl true) else fb σ := rfl
@[simp] theorem eNotV_ap (fa : DS → M D) (σ : DS) : eNotV fa σ = M.bind (M.bind (fa σ) asB) fun t => M.pure (.bl !t) := rfl
@[simp] theorem eNeg_ap (fa : DS → M D) (σ : DS) : eNeg fa σ = M.bind (fa σ) kNeg := rfl
@[simp] theorem kNeg_int (i : Int) : kNeg (.int i) = M.pure (.int (-i)) := rfl
@[simp] theorem eIsi_ap (ns : List String) (fa : DS → M D) (σ : DS) : eIsi ns fa σ = M.bind (fa σ) (kIsi ns) := rfl
@[simp] theorem r1D_ap (fa : DS → M D) (σ : DS) : r1D fa σ = M.bind (M.bind (fa σ) asI) fun j => M.pure (0, j) := rfl
@[simp] theorem r2D_ap (fa fb : DS → M D) (σ : DS) : r2D fa fb σ = M.bind (fa σ) fun x => M.bind (fb σ) fun y => M.bind (asI x) fun i => M.bind (asI y) fun j => M.pure (i, j) := rfl
@[simp] theorem eLRg_ap (f : DS → M (Int × Int)) (σ : DS) : eLRg f σ = M.bind (f σ) fun p => if rgOk p.1 p.2 = true then M.pure (.lst (rngD p.1 p.2)) else M.bad := rfl
@[simp] theorem eTRg_ap (f : DS → M (Int × Int)) (σ : DS) : eTRg f σ = M.bind (f σ) fun p => if rgOk p.1 p.2 = true then M.pure (.tup (rngD p.1 p.2)) else M.bad := rfl
@[simp] theorem eSl_ap (k : Option Int → Option Int → D → M D) (fe : DS → M D) (fl fh : FO) (σ : DS) : eSl k fe fl fh σ = M.bind (fe σ) fun x => M.bind (fl σ) fun l => M.bind (fh σ) fun h => k l h x := rfl
@[simp] theorem oNone_ap (σ : DS) : oNone σ = M.pure none := rfl
@[simp] theorem oSome_ap (f : DS → M D) (σ : DS) : oSome f σ = M.bind (f σ) fun d => match d with | .int i => M.pure (some i) | _ => M.bad := rfl
@[simp] theorem eRev_ap (fa : DS → M D) (σ : DS) : eRev fa σ = M.bind (fa σ) kRev := rfl
@[simp] theorem eComp_ap (fi : DS → M (List D)) (vs : List Nat) (fg : D → DS → M DS) (ft : DS → M Bool) (fe : DS → M D) (σ : DS) : eComp fi vs fg ft fe σ = M.bind (fi σ) fun ds => if fit ds.length = true then M.bind (compM fg ft fe (wipeD σ vs) ds) fun r => M.pure (.lst r) else M.bad := rfl
@[simp] theorem eComp2_ap (fi : DS → M (List D)) (vs : List Nat) (fg : D → DS → M DS) (ft : DS → M Bool) (fi1 : DS → M (List D)) (vs1 : List Nat) (fg1 : D → DS → M DS) (ft1 : DS → M Bool) (fe : DS → M D) (σ : DS) : eComp2 fi vs fg ft fi1 vs1 fg1 ft1 fe σ =
  M.bind (fi σ) fun ds => if fit ds.length = true then M.bind (M.noerr (compM2 fg ft fi1 vs1 fg1 ft1 fe (wipeD σ vs) ds)) fun r => if fit r.length = true then M.pure (.lst r) else M.bad else M.bad := rfl
@[simp] theorem tYes_ap (σ : DS) : tYesD σ = M.pure true := rfl
@[simp] theorem callN_1 (f : List D → M D) (a : D) : callN 1 f [a] = f [a] := rfl
@[simp] theorem callN_2 (f : List D → M D) (a b : D) : callN 2 f [a, b] = f [a, b] := rfl
@[simp] theorem callN_3 (f : List D → M D) (a b c : D) : callN 3 f [a, b, c] = f [a, b, c] := rfl
@[simp] theorem callN_4 (f : List D → M D) (a b c d : D) : callN 4 f [a, b, c, d] = f [a, b, c, d] := rfl
@[simp] theorem callN_5 (f : List D → M D) (a b c d e : D) : callN 5 f [a, b, c, d, e] = f [a, b, c, d, e] := rfl
@[simp] theorem callN_0 (f : List D → M D) : callN 0 f [] = f [] := rfl
@[simp] theorem kwN_2 (f : List D → M D) (i j : Nat) (a b : D) : kwN 2 [i, j] 2 f [a, b] = callN 2 f (permL [i, j] [a, b]) := rfl
@[simp] theorem kwN_3 (f : List D → M D) (i j k : Nat) (a b c : D) : kwN 3 [i, j, k] 3 f [a, b, c] = callN 3 f (permL [i, j, k] [a, b, c]) := rfl
@[simp] theorem kwN_4 (f : List D → M D) (i j k l : Nat) (a b c d : D) : kwN 4 [i, j, k, l] 4 f [a, b, c, d] = callN 4 f (permL [i, j, k, l] [a, b, c, d]) := rfl
@[simp] theorem kwN_1 (f : List D → M D) (i : Nat) (a : D) : kwN 1 [i] 1 f [a] = callN 1 f (permL [i] [a]) := rfl
@[simp] theorem permL_nil {α : Type} (l : List α) : permL [] l = [] := rfl
@[simp] theorem permL_cons {α : Type} (i : Nat) (is : List Nat) (l : List α) : permL (i :: is) l = (match l[i]? with | some x => [x] | none => []) ++ permL is l := by
  unfold permL
  rw [List.filterMap_cons]
  cases l[i]? <;> rfl
@[simp] theorem asB_bl (b : Bool) : asB (.bl b) = M.pure b := rfl
@[simp] theorem asI_int (i : Int) : asI (.int i) = M.pure i := rfl
@[simp] theorem kII_int (f : Int → Int → Option D) (i j : Int) : kII f (.int i) (.int j) = M.opt (f i j) := rfl
@[simp] theorem kAdd_int (i j : Int) : kAdd (.int i) (.int j) = M.pure (.int (i + j)) := rfl
@[simp] theorem kAdd_tup (a b : List D) : kAdd (.tup a) (.tup b) = if fit (a.length + b.length) = true then M.pure (.tup (a ++ b)) else M.bad := rfl
@[simp] theorem kAdd_lst (a b : List D) : kAdd (.lst a) (.lst b) = if fit (a.length + b.length) = true then M.pure (.lst (a ++ b)) else M.bad := rfl
@[simp] theorem kCat_lst (a b : List D) : kCat (.lst a) (.lst b) = if fit (a.length + b.length) = true then M.pure (.lst (a ++ b)) else M.bad := rfl
@[simp] theorem kAddI_int (i j : Int) : kAddI (.int i) (.int j) = M.pure (.int (i + j)) := rfl
@[simp] theorem kMul_int (i j : Int) : kMul (.int i) (.int j) = M.opt (mulI i j) := rfl
@[simp] theorem kMul_lst (a : List D) (k : Int) : kMul (.lst a) (.int k) = if 0 ≤ k ∧ k ≤ 1000 ∧ a.length ≤ 1000 then M.pure (.lst (List.replicate k.toNat a).flatten) else M.bad := rfl
@[simp] theorem kMul_tup (a : List D) (k : Int) : kMul (.tup a) (.int k) = if k = 1 then M.pure (.tup a) else if 2 ≤ k ∧ k ≤ 1000 ∧ a.length ≤ 1000 ∧ a ≠ [] then M.pure (.tup (List.replicate k.toNat a).flatten) else M.bad := rfl
@[simp] theorem kRep_lst (a : List D) (k : Int) : kRep (.lst a) (.int k) = if 0 ≤ k ∧ k ≤ 1000 ∧ a.length ≤ 1000 then M.pure (.lst (List.replicate k.toNat a).flatten) else M.bad := rfl
@[simp] theorem kLt_int (i j : Int) : kLt (.int i) (.int j) = M.pure (.bl (decide (i < j))) := rfl
@[simp] theorem kLt_pair (i j k l : Int) : kLt (.tup [.int i, .int j]) (.tup [.int k, .int l]) = M.pure (.bl (decide (i < k ∨ (i = k ∧ j < l)))) := by
  show M.pure (D.bl (HT.lexLt [i, j] [k, l])) = _
  congr 2
  simp only [HT.lexLt]
  by_cases h1 : i = k
  · by_cases h2 : j = l
    · subst h1 h2; simp
    · subst h1; simp [h2]
  · by_cases h3 : i < k <;> simp [h1, h3]
@[simp] theorem kMax2_int (i j : Int) : kMax2 [.int i, .int j] = M.pure (.int (max i j)) := by show M.pure (D.int (if j > i then j else i)) = _; congr 2; split <;> omega
@[simp] theorem kMin2_int (i j : Int) : kMin2 [.int i, .int j] = M.pure (.int (min i j)) := by show M.pure (D.int (if j < i then j else i)) = _; congr 2; split <;> omega
@[simp] theorem kAbs_int (i : Int) : kAbs [.int i] = M.pure (.int (i.natAbs : Int)) := by show M.pure (D.int (if i < 0 then -i else i)) = _; congr 2; split <;> omega
@[simp] theorem kInt_int (i : Int) : kInt [.int i] = M.pure (.int i) := rfl
@[simp] theorem kInt_bl (b : Bool) : kInt [.bl b] = M.pure (.int (if b then 1 else 0)) := rfl
@[simp] theorem kLen_lst (a : List D) : kLen [.lst a] = M.pure (.int (a.length : Int)) := rfl
@[simp] theorem kLen_tup (a : List D) : kLen [.tup a] = M.pure (.int (a.length : Int)) := rfl
@[simp] theorem kLen_slst (a : List D) : kLen [.slst a] = M.pure (.int (a.length : Int)) := rfl
@[simp] theorem kList_lst (a : List D) : kList [.lst a] = M.pure (.lst a) := rfl
@[simp] theorem kList_tup (a : List D) : kList [.tup a] = M.pure (.lst a) := rfl
@[simp] theorem kTuple_lst (a : List D) : kTuple [.lst a] = M.pure (.tup a) := rfl
@[simp] theorem kTuple_tup (a : List D) : kTuple [.tup a] = M.pure (.tup a) := rfl
@[simp] theorem kIx_lst (a : List D) (i : Int) : kIx (.lst a) (.int i) = M.opt (L2.atI a i) := rfl
@[simp] theorem kIx_tup (a : List D) (i : Int) : kIx (.tup a) (.int i) = M.opt (L2.atI a i) := rfl
@[simp] theorem kIx_slst (a : List D) (i : Int) : kIx (.slst a) (.int i) = M.opt (L2.atI a i) := rfl
@[simp] theorem kSl_lst (a : List D) (l h : Option Int) : kSl l h (.lst a) = M.pure (.lst (cutD a l h)) := rfl
@[simp] theorem kSl_tup (a : List D) (l h : Option Int) : kSl l h (.tup a) = M.pure (.tup (cutD a l h)) := rfl
@[simp] theorem kSlL_lst (a : List D) (l h : Option Int) : kSlL l h (.lst a) = M.pure (.lst (cutD a l h)) := rfl
@[simp] theorem itD_lst (a : List D) : itD (.lst a) = M.pure a := rfl
@[simp] theorem itD_tup (a : List D) : itD (.tup a) = M.pure a := rfl
@[simp] theorem rng1_int (j : Int) : rng1 [.int j] = if inR j = true then M.pure (rngD 0 j) else M.bad := rfl
@[simp] theorem rng2_int (i j : Int) : rng2 [.int i, .int j] = if inR i = true ∧ inR j = true then M.pure (rngD i j) else M.bad := rfl
@[simp] theorem mkT_ap (a : List D) : mkT a = if fit a.length = true then M.pure (.tup a) else M.bad := rfl
@[simp] theorem mkL_ap (a : List D) : mkL a = if fit a.length = true then M.pure (.lst a) else M.bad := rfl
@[simp] theorem enumK_lst (a : List D) : enumK [.lst a] = M.pure (enumD a) := rfl
@[simp] theorem enumK_tup (a : List D) : enumK [.tup a] = M.pure (enumD a) := rfl
@[simp] theorem gN_ap (i : Nat) (d : D) (σ : DS) : gN i d σ = M.pure (σ.set i (some (.sh d))) := rfl
@[simp] theorem gNs_2 (i j : Nat) (a b : D) (σ : DS) : gNs [i, j] (.tup [a, b]) σ = M.pure ((σ.set i (some (.sh a))).set j (some (.sh b))) := rfl
@[simp] theorem gNs_3 (i j k : Nat) (a b c : D) (σ : DS) : gNs [i, j, k] (.tup [a, b, c]) σ = M.pure (((σ.set i (some (.sh a))).set j (some (.sh b))).set k (some (.sh c))) := rfl
@[simp] theorem wipeD_nil (σ : DS) : wipeD σ [] = σ := rfl
@[simp] theorem wipeD_cons (σ : DS) (v : Nat) (vs : List Nat) : wipeD σ (v :: vs) = (wipeD σ vs).set v none := rfl
@[simp] theorem fit_iff (n : Nat) : fit n = true ↔ n < 1000000 := by simp [fit]
@[simp] theorem inR_iff' (i : Int) : inR i = true ↔ -(2 ^ 62) ≤ i ∧ i < 2 ^ 62 := inR_iff
@[simp] theorem rgOk_iff (i j : Int) : rgOk i j = true ↔ (-(2 ^ 62) ≤ i ∧ i < 2 ^ 62) ∧ (-(2 ^ 62) ≤ j ∧ j < 2 ^ 62) ∧ (j - i).toNat < 1000000 := by simp [rgOk, inR, and_assoc]
@[simp] theorem mulI_ap (i j : Int) : mulI i j = if (sm i || sm j) = true then some (.int (i * j)) else none := rfl
@[simp] theorem sm_iff' (i : Int) : sm i = true ↔ -(2 ^ 64) < i ∧ i < 2 ^ 64 := sm_iff
@[simp] theorem sSeq_ap (f h : DS → M Fl) (σ : DS) : sSeq f h σ = M.bind (f σ) fun x => match x with
  | .nx σ' => h σ'
  | y => M.pure y := rfl
@[simp] theorem sNil_ap (σ : DS) : sNil σ = M.pure (.nx σ) := rfl
@[simp] theorem sNever_ap (σ : DS) : sNever σ = M.bad := rfl
@[simp] theorem sRaise1_T (c f : Str) (fe : DS → M D) (σ : DS) (g : G) (Q : Fl → G → Prop) : T (sRaise1 c f fe σ) g Q ↔ False := by
  refine ⟨fun ⟨a, g', e, _⟩ => ?_, False.elim⟩
  unfold sRaise1 M.bind at e
  cases h : fe σ g <;> rw [h] at e <;> cases e
@[simp] theorem sRaise0_T (c : Str) (σ : DS) (g : G) (Q : Fl → G → Prop) : T (sRaise0 c σ) g Q ↔ False := ⟨fun ⟨a, g', e, _⟩ => (nomatch e), False.elim⟩
@[simp] theorem sBrk_ap (σ : DS) : sBrk σ = M.pure (.bk σ) := rfl
@[simp] theorem sCnt_ap (σ : DS) : sCnt σ = M.pure (.ct σ) := rfl
@[simp] theorem sRet_ap (fe : DS → M D) (σ : DS) : sRet fe σ = M.bind (fe σ) fun d => M.pure (.rt d) := rfl
@[simp] theorem sExpr_ap (fe : DS → M D) (σ : DS) : sExpr fe σ = M.bind (fe σ) fun _ => M.pure (.nx σ) := rfl
@[simp] theorem sIf_ap (t : DS → M Bool) (f h : DS → M Fl) (σ : DS) : sIf t f h σ = M.bind (t σ) fun b => if b = true then f σ else h σ := rfl
@[simp] theorem sSet_sh (i : Nat) (fe : DS → M D) (σ : DS) : sSet false i fe σ = M.bind (fe σ) fun d => M.pure (.nx (σ.set i (some (.sh d)))) := rfl
@[simp] theorem sSet_ow (i : Nat) (fe : DS → M D) (σ : DS) : sSet true i fe σ = M.bind (fe σ) fun d => M.pure (.nx (σ.set i (some (.ow d)))) := rfl
@[simp] theorem sAsg_ap (fe : DS → M D) (fg : D → DS → M DS) (σ : DS) : sAsg fe fg σ = M.bind (fe σ) fun d => M.bind (fg d σ) fun σ' => M.pure (.nx σ') := rfl
@[simp] theorem sFor_ap (fi : DS → M (List D)) (fg : D → DS → M DS) (b : DS → M Fl) (σ : DS) : sFor fi fg b σ = M.bind (fi σ) fun ds => forM fg b ds σ := rfl
@[simp] theorem sAug_ap (k : D → D → M D) (i : Nat) (fe : DS → M D) (σ : DS) : sAug k i fe σ = M.bind (eVar i σ) fun x => M.bind (fe σ) fun y => M.bind (k x y) fun z => M.pure (.nx (σ.set i (some (.sh z)))) := rfl
@[simp] theorem sFrz_ap (i : Nat) (f : DS → M Fl) (σ : DS) : sFrz i f σ = f (frz1 i σ) := rfl
def RQ (m : Bool) (Q : D → G → Prop) : Fl → G → Prop
  | .rt d, g => Q d g
  | .nx _, g => m = false ∧ Q .non g
  | _, _ => False
@[simp] theorem RQ_rt (m : Bool) (Q : D → G → Prop) (d : D) (g : G) : RQ m Q (.rt d) g ↔ Q d g := Iff.rfl
@[simp] theorem RQ_nx (m : Bool) (Q : D → G → Prop) (σ : DS) (g : G) : RQ m Q (.nx σ) g ↔ m = false ∧ Q .non g := Iff.rfl
theorem runD_T {n : Nat} {m : Bool} {b : DS → M Fl} {ds : List D} {g : G} {Q : D → G → Prop} (h : T (b (startD n ds)) g (RQ m Q)) : T (runD n m b ds) g Q := by
  unfold runD
  rw [T_bind]
  refine h.imp fun fl g' q => ?_
  cases fl with
  | rt d => simpa using q
  | nx σ => rw [RQ_nx] at q; simp [q.1, q.2]
  | bk σ => exact q.elim
  | ct σ => exact q.elim
theorem forM_T {fg : D → DS → M DS} {b : DS → M Fl} {Q : Fl → G → Prop} (I : Nat → DS → G → Prop) : ∀ {ds : List D} {n : Nat} {σ : DS} {g : G},
    (∀ i d σ g, ds[i]? = some d → I (n + i) σ g → T (fg d σ) g fun σ1 g1 => T (b σ1) g1 fun fl g2 => match fl with
      | .nx σ' => I (n + i + 1) σ' g2
      | .ct σ' => I (n + i + 1) σ' g2
      | .bk σ' => Q (.nx σ') g2
      | .rt d => Q (.rt d) g2) → I n σ g → (∀ σ g, I (n + ds.length) σ g → Q (.nx σ) g) → T (forM fg b ds σ) g Q
  | [], n, σ, g, _, h0, hq => by unfold forM; rw [T_pure]; exact hq _ _ h0
  | d :: ds, n, σ, g, h, h0, hq => by
    unfold forM
    rw [T_bind]
    refine (h 0 d σ g rfl h0).imp fun σ1 g1 h1 => ?_
    rw [T_bind]
    refine h1.imp fun fl g2 h2 => ?_
    have rest : ∀ σ' g', I (n + 1) σ' g' → T (forM fg b ds σ') g' Q := fun σ' g' h' => forM_T I (n := n + 1) (fun i d σ g e hI => by
      have := h (i + 1) d σ g (by simpa using e) (by rw [show n + (i + 1) = n + 1 + i by omega]; exact hI)
      rw [show n + 1 + i = n + (i + 1) by omega]; exact this) h' fun σ g hI => hq σ g (by rw [show n + (d :: ds).length = n + 1 + ds.length by simp; omega]; exact hI)
    cases fl with
    | nx σ' => exact rest _ _ h2
    | ct σ' => exact rest _ _ h2
    | bk σ' => simpa using h2
    | rt d => simpa using h2
theorem compM_T {fg : D → DS → M DS} {ft : DS → M Bool} {fe : DS → M D} {σ : DS} (I : Nat → List D → G → Prop) : ∀ {ds : List D} {n : Nat} {rs : List D} {g : G} {Q : List D → G → Prop},
    (∀ i d g rs, ds[i]? = some d → I (n + i) rs g → T (fg d σ) g fun σ1 g1 => T (ft σ1) g1 fun t g2 => if t = true then T (fe σ1) g2 fun y g3 => I (n + i + 1) (rs ++ [y]) g3 else I (n + i + 1) rs g2) →
      I n rs g → (∀ rs' g', I (n + ds.length) (rs ++ rs') g' → Q rs' g') → T (compM fg ft fe σ ds) g Q
  | [], n, rs, g, Q, _, h0, hq => by unfold compM; rw [T_pure]; exact hq [] _ (by simpa using h0)
  | d :: ds, n, rs, g, Q, h, h0, hq => by
    unfold compM
    rw [T_bind]
    refine (h 0 d g rs rfl h0).imp fun σ1 g1 h1 => ?_
    rw [T_bind, T_noerr]
    refine h1.imp fun t g2 h2 => ?_
    have step : ∀ i d' g' rs', ds[i]? = some d' → I (n + 1 + i) rs' g' → _ := fun i d' g' rs' e hI => by
      have := h (i + 1) d' g' rs' (by simpa using e) (by rw [show n + (i + 1) = n + 1 + i by omega]; exact hI)
      rw [show n + (i + 1) = n + 1 + i by omega] at this
      exact this
    cases t with
    | true =>
      simp only [if_true] at h2 ⊢
      rw [T_bind, T_noerr]
      refine h2.imp fun y g3 h3 => ?_
      rw [T_bind]
      refine compM_T I (n := n + 1) (rs := rs ++ [y]) step h3 fun rs' g' hI => ?_
      rw [T_pure]
      refine hq _ _ ?_
      rw [show n + (d :: ds).length = n + 1 + ds.length by simp; omega]
      simpa using hI
    | false =>
      simp only [Bool.false_eq_true, if_false] at h2 ⊢
      refine compM_T I (n := n + 1) (rs := rs) step h2 fun rs' g' hI => hq _ _ ?_
      rw [show n + (d :: ds).length = n + 1 + ds.length by simp; omega]
      exact hI
theorem compM_pure {fg : D → DS → M DS} {ft : DS → M Bool} {fe : DS → M D} {σ : DS} {α : Type} {en : α → D} {p : α → Bool} {f : α → D} : ∀ {xs : List α},
    (∀ x ∈ xs, ∃ σ1, fg (en x) σ = M.pure σ1 ∧ ft σ1 = M.pure (p x) ∧ (p x = true → fe σ1 = M.pure (f x))) → compM fg ft fe σ (xs.map en) = M.pure ((xs.filter p).map f)
  | [], _ => rfl
  | x :: xs, h => by
    obtain ⟨σ1, e1, e2, e3⟩ := h x List.mem_cons_self
    have ih := compM_pure (fg := fg) (ft := ft) (fe := fe) (σ := σ) (en := en) (p := p) (f := f) (xs := xs) fun y hy => h y (List.mem_cons_of_mem _ hy)
    show M.bind (fg (en x) σ) _ = _
    rw [e1, pure_bind', e2]
    simp only [noerr_pure', pure_bind']
    cases hp : p x with
    | true => rw [e3 hp, ih]; simp [hp]
    | false => rw [ih]; simp [hp]
@[simp] theorem frz1_0o (d : D) (σ : DS) : frz1 0 (some (.ow d) :: σ) = some (.sh d) :: σ := rfl
@[simp] theorem frz1_0s (d : D) (σ : DS) : frz1 0 (some (.sh d) :: σ) = some (.sh d) :: σ := rfl
@[simp] theorem frz1_0n (σ : DS) : frz1 0 (none :: σ) = none :: σ := rfl
@[simp] theorem frz1_S (i : Nat) (x : Option DV) (σ : DS) : frz1 (i + 1) (x :: σ) = x :: frz1 i σ := by
  unfold frz1
  simp only [List.getElem?_cons_succ]
  rcases σ[i]? with _ | (_ | (d | d)) <;> rfl
@[simp] theorem eBor_T (i : Nat) (f : DS → M D) (σ : DS) (g : G) (Q : D → G → Prop) : T (eBor i f σ) g Q ↔ T (f (frz1 i σ)) g fun d g' => (D.pur d = true ∧ Gpur g' = true) ∧ Q d g' := by
  unfold eBor T
  cases e : f (frz1 i σ) g with
  | ok d g' =>
    by_cases c : (D.pur d && Gpur g') = true
    · have c' := Bool.and_eq_true_iff.mp c
      simp only [e, c, if_true]
      constructor
      · rintro ⟨_, _, h, q⟩; cases h; exact ⟨_, _, rfl, c', q⟩
      · rintro ⟨_, _, h, _, q⟩; cases h; exact ⟨_, _, rfl, q⟩
    · simp only [e, c, if_false]
      constructor
      · rintro ⟨_, _, h, q⟩; cases h
      · rintro ⟨_, _, h, q, _⟩; cases h; exact absurd (Bool.and_eq_true_iff.mpr q) c
  | err x g' =>
    simp only [e]
    constructor
    · rintro ⟨_, _, h, q⟩; cases h
    · rintro ⟨_, _, h, q⟩; cases h
  | bad =>
    simp only [e]
    constructor
    · rintro ⟨_, _, h, q⟩; cases h
    · rintro ⟨_, _, h, q⟩; cases h
@[simp] theorem tBor_T (i : Nat) (f : DS → M Bool) (σ : DS) (g : G) (Q : Bool → G → Prop) : T (tBor i f σ) g Q ↔ T (f (frz1 i σ)) g fun d g' => Gpur g' = true ∧ Q d g' := by
  unfold tBor T
  cases e : f (frz1 i σ) g with
  | ok d g' =>
    by_cases c : Gpur g' = true
    · simp only [e, c, if_true]
      constructor
      · rintro ⟨_, _, h, q⟩; cases h; exact ⟨_, _, rfl, c, q⟩
      · rintro ⟨_, _, h, _, q⟩; cases h; exact ⟨_, _, rfl, q⟩
    · simp only [e, c, if_false]
      constructor
      · rintro ⟨_, _, h, q⟩; cases h
      · rintro ⟨_, _, h, q, _⟩; cases h; exact absurd q c
  | err x g' =>
    simp only [e]
    constructor
    · rintro ⟨_, _, h, q⟩; cases h
    · rintro ⟨_, _, h, q⟩; cases h
  | bad =>
    simp only [e]
    constructor
    · rintro ⟨_, _, h, q⟩; cases h
    · rintro ⟨_, _, h, q⟩; cases h
theorem eBorO_T' (i : Nat) (f : DS → M D) (σ : DS) (g : G) (Q : D → G → Prop) : T (eBorO i f σ) g Q ↔ T (f (frz1 i σ)) g fun d g' => (match d with | .lst ds => D.purs ds = true | _ => False) ∧ Gpur g' = true ∧ Q d g' := by
  unfold eBorO T
  cases e : f (frz1 i σ) g with
  | ok d g' =>
    cases d with
    | lst ds =>
      by_cases c : (D.purs ds && Gpur g') = true
      · have c' := Bool.and_eq_true_iff.mp c
        simp only [e, c, if_true]
        constructor
        · rintro ⟨_, _, h, q⟩; cases h; exact ⟨_, _, rfl, c'.1, c'.2, q⟩
        · rintro ⟨_, _, h, _, _, q⟩; cases h; exact ⟨_, _, rfl, q⟩
      · simp only [e, c, if_false]
        constructor
        · rintro ⟨_, _, h, q⟩; cases h
        · rintro ⟨_, _, h, q1, q2, _⟩; cases h; exact absurd (Bool.and_eq_true_iff.mpr ⟨q1, q2⟩) c
    | _ =>
      simp only [e]
      constructor
      · rintro ⟨_, _, h, q⟩; cases h
      · rintro ⟨_, _, h, q1, _⟩; cases h; exact q1.elim
  | err x g' =>
    simp only [e]
    constructor
    · rintro ⟨_, _, h, q⟩; cases h
    · rintro ⟨_, _, h, q⟩; cases h
  | bad =>
    simp only [e]
    constructor
    · rintro ⟨_, _, h, q⟩; cases h
    · rintro ⟨_, _, h, q⟩; cases h
def purL : D → Prop
  | .lst ds => D.purs ds = true
  | _ => False
@[simp] theorem purL_lst (ds : List D) : purL (.lst ds) ↔ D.purs ds = true := Iff.rfl
@[simp] theorem eBorO_T (i : Nat) (f : DS → M D) (σ : DS) (g : G) (Q : D → G → Prop) : T (eBorO i f σ) g Q ↔ T (f (frz1 i σ)) g fun d g' => purL d ∧ Gpur g' = true ∧ Q d g' := eBorO_T' i f σ g Q
@[simp] theorem pur_non : D.pur .non = true := rfl
@[simp] theorem pur_bl (b : Bool) : D.pur (.bl b) = true := rfl
@[simp] theorem pur_int (b : Int) : D.pur (.int b) = true := rfl
@[simp] theorem pur_str (b : Str) : D.pur (.str b) = true := rfl
@[simp] theorem pur_hdl (b : Nat) : D.pur (.hdl b) = true := rfl
@[simp] theorem pur_tup (b : List D) : D.pur (.tup b) = D.purs b := rfl
@[simp] theorem purs_nil : D.purs [] = true := rfl
@[simp] theorem purs_cons (d : D) (b : List D) : D.purs (d :: b) = (D.pur d && D.purs b) := rfl
theorem purs_all : ∀ ds : List D, D.purs ds = ds.all D.pur
  | [] => rfl
  | d :: ds => by rw [purs_cons, List.all_cons, purs_all ds]
theorem purs_map {α : Type} (f : α → D) (h : ∀ a, D.pur (f a) = true) (l : List α) : D.purs (l.map f) = true := by rw [purs_all]; simp [h]
@[simp] theorem purs_ints (l : List Int) : D.purs (l.map .int) = true := purs_map _ (fun _ => rfl) l
@[simp] theorem purs_app (a b : List D) : D.purs (a ++ b) = (D.purs a && D.purs b) := by rw [purs_all, purs_all, purs_all, List.all_append]
def Src (k m : Nat) (g : G) : Prop := ∃ a b c : Int, g[k]? = some (.src a b c) ∧ 0 ≤ a ∧ 0 ≤ b ∧ b < 2147483648 ∧ 0 ≤ c ∧ c + m ≤ 1000000000 ∧ Gpur g = true
theorem Src.mono {k m n : Nat} {g : G} (h : Src k m g) (hm : n ≤ m) : Src k n g := by
  obtain ⟨a, b, c, h1, h2, h3, h4, h5, h6, h7⟩ := h
  exact ⟨a, b, c, h1, h2, h3, h4, h5, by omega, h7⟩
theorem Src.pur {k m : Nat} {g : G} (h : Src k m g) : Gpur g = true := by
  obtain ⟨a, b, c, h1, h2, h3, h4, h5, h6, h7⟩ := h
  exact h7
theorem Gpur.set {g : G} (h : Gpur g = true) (k : Nat) (a b c : Int) : Gpur (g.set k (.src a b c)) = true := by
  unfold Gpur at *
  rw [List.all_eq_true] at *
  intro x hx
  rcases List.mem_or_eq_of_mem_set hx with h2 | rfl
  · exact h x h2
  · rfl
theorem Gpur.add {g : G} (h : Gpur g = true) (a b c : Int) : Gpur (g ++ [.src a b c]) = true := by
  unfold Gpur at *
  rw [List.all_append, h]; rfl
end NS
namespace NS
open PySem PySem.Spec PyProof.Rows L2
theorem T_ok {α : Type} {x : M α} {g g' : G} {a : α} {Q : α → G → Prop} (h : x g = .ok a g') : T x g Q ↔ Q a g' :=
  ⟨fun ⟨_, _, e, q⟩ => by rw [h] at e; cases e; exact q, fun q => ⟨_, _, h, q⟩⟩
theorem T_no {α : Type} {x : M α} {g : G} {Q : α → G → Prop} (h : x g = .bad) : T x g Q ↔ False := ⟨fun ⟨_, _, e, _⟩ => by (rw [h] at e; cases e), False.elim⟩
@[simp] theorem kIx_hdl_T (h : Nat) (i : Int) (g : G) (Q : D → G → Prop) : T (kIx (.hdl h) (.int i)) g Q ↔ ∃ c d, g[h]? = some c ∧ cellIx c i = some d ∧ Q d g := by
  have e0 : kIx (.hdl h) (.int i) g = M.opt (match g[h]? with | some c => cellIx c i | none => none) g := rfl
  cases e : g[h]? with
  | none => rw [T_no (by rw [e0, e]; rfl)]; simp
  | some c =>
    cases e2 : cellIx c i with
    | none => rw [T_no (by rw [e0, e]; simp [e2, M.opt, M.bad])]; simp [e2]
    | some d => rw [T_ok (a := d) (g' := g) (by rw [e0, e]; simp [e2, M.opt, M.pure])]; simp [e2]
@[simp] theorem cellIx0 (a b c : Int) : cellIx (.src a b c) 0 = some (.int a) := rfl
@[simp] theorem cellIx1 (a b c : Int) : cellIx (.src a b c) 1 = some (.int b) := rfl
@[simp] theorem cellIx2 (a b c : Int) : cellIx (.src a b c) 2 = some (.int c) := rfl
@[simp] theorem srcSet0_T (k : Nat) (v : Int) (σ : DS) (g : G) (Q : Fl → G → Prop) : T (srcSet (.hdl k) (.int 0) (.int v) σ) g Q ↔ ∃ a b c, g[k]? = some (.src a b c) ∧ Q (.nx σ) (g.set k (.src v b c)) := by
  cases e : g[k]? with
  | none => rw [T_no (by unfold srcSet; simp only [e])]; simp
  | some c =>
    cases c with
    | sto _ _ => rw [T_no (by unfold srcSet; simp only [e])]; simp
    | tab _ => rw [T_no (by unfold srcSet; simp only [e])]; simp
    | src a b c =>
      rw [T_ok (a := .nx σ) (g' := g.set k (.src v b c)) (by unfold srcSet; simp only [e]; rfl)]
      exact ⟨fun q => ⟨a, b, c, rfl, q⟩, fun ⟨a', b', c', z, q⟩ => by cases z; exact q⟩
@[simp] theorem srcSet2_T (k : Nat) (v : Int) (σ : DS) (g : G) (Q : Fl → G → Prop) : T (srcSet (.hdl k) (.int 2) (.int v) σ) g Q ↔ ∃ a b c, g[k]? = some (.src a b c) ∧ Q (.nx σ) (g.set k (.src a b v)) := by
  cases e : g[k]? with
  | none => rw [T_no (by unfold srcSet; simp only [e])]; simp
  | some c =>
    cases c with
    | sto _ _ => rw [T_no (by unfold srcSet; simp only [e])]; simp
    | tab _ => rw [T_no (by unfold srcSet; simp only [e])]; simp
    | src a b c =>
      rw [T_ok (a := .nx σ) (g' := g.set k (.src a b v)) (by unfold srcSet; simp only [e]; rfl)]
      exact ⟨fun q => ⟨a, b, c, rfl, q⟩, fun ⟨a', b', c', z, q⟩ => by cases z; exact q⟩
@[simp] theorem sSetIxH_ap (j : Nat) (fe fi : DS → M D) (σ : DS) : sSetIxH j fe fi σ = M.bind (fe σ) fun d => M.bind (eVar j σ) fun x => M.bind (fi σ) fun i => srcSet x i d σ := rfl
def Oth (k : Nat) (g g' : G) : Prop := g'.length = g.length ∧ ∀ j, j ≠ k → g'[j]? = g[j]?
theorem Oth.refl (k : Nat) (g : G) : Oth k g g := ⟨rfl, fun _ _ => rfl⟩
theorem Oth.trans {k : Nat} {g g1 g2 : G} (h : Oth k g g1) (h' : Oth k g1 g2) : Oth k g g2 := ⟨h'.1.trans h.1, fun j n => (h'.2 j n).trans (h.2 j n)⟩
theorem Oth.set (k : Nat) (g : G) (c : GCell) : Oth k g (g.set k c) := ⟨by simp, fun j n => List.getElem?_set_ne (Ne.symm n)⟩
def DrawP (k m : Nat) (b : Int) (g : G) (d : D) (g' : G) : Prop := ∃ r : Int, d = .int r ∧ 0 ≤ r ∧ r < b ∧ Src k m g' ∧ Oth k g g'
theorem drawB {k m n : Nat} {b : Int} {g : G} (h : Src k (m + 2) g) (hb : 0 < b) (hb2 : b < 2 ^ 30)
    (ih : 10 ^ 7 < b → ∀ (b : Int) (m : Nat) (g : G), Src k (m + 1) g → 0 < b → b ≤ 10 ^ 7 → T (d_Ldraw n [.hdl k, .int b]) g (DrawP k m b g)) : T (d_Ldraw (n + 1) [.hdl k, .int b]) g (DrawP k m b g) := by
  have h0 := h
  obtain ⟨x, y, z, e, h1, h2, h3, h4, h5, h6⟩ := h
  have hk : k < g.length := (List.getElem?_eq_some_iff.mp e).1
  have e' : g[k] = .src x y z := by simpa [hk] using e
  refine runD_T ?_
  unfold b_Ldraw
  simp [startD, e', hk]
  refine ⟨fun hx => ⟨hb, by omega, x % b, rfl, Int.emod_nonneg _ (by omega), Int.emod_lt_of_pos _ hb, ⟨x / b, y, z, by simp [hk], Int.ediv_nonneg h1 (by omega), h2, h3, h4, by omega, Gpur.set h6 k _ _ _⟩, Oth.set _ _ _⟩, fun hx => ⟨fun hb3 => ?_, fun hb3 => ?_⟩⟩
  · refine (ih hb3 _ (m + 1) _ h0 (by decide) (by decide)).imp fun d g1 ⟨r, e1, r1, r2, s1, o1⟩ => ?_
    subst e1
    refine (ih hb3 _ m _ s1 (by omega) (by omega)).imp fun d g2 ⟨q, e1, q1, q2, s2, o2⟩ => ?_
    subst e1
    simp
    exact ⟨hb, _, rfl, Int.emod_nonneg _ (by omega), Int.emod_lt_of_pos _ hb, s2, o1.trans o2⟩
  · have mx : ∀ a : Int, 0 ≤ a % 2147483579 ∧ a % 2147483579 < 2147483579 := fun a => ⟨Int.emod_nonneg _ (by decide), Int.emod_lt_of_pos _ (by decide)⟩
    obtain ⟨m1, m2⟩ := mx ((y + 62003 * (z + 1)) ^ 3)
    refine ⟨by omega, .inl ⟨by omega, by omega⟩, hb, _, rfl, Int.emod_nonneg _ (by omega), Int.emod_lt_of_pos _ hb, ⟨x, y, z + 1, by simp [hk], h1, h2, h3, by omega, by omega, Gpur.set h6 k _ _ _⟩, Oth.set _ _ _⟩
theorem draw1 {k m n : Nat} {b : Int} {g : G} (h : Src k (m + 1) g) (hb : 0 < b) (hb2 : b ≤ 10 ^ 7) : T (d_Ldraw (n + 1) [.hdl k, .int b]) g (DrawP k m b g) := by
  obtain ⟨x, y, z, e, h1, h2, h3, h4, h5, h6⟩ := h
  have hk : k < g.length := (List.getElem?_eq_some_iff.mp e).1
  have e' : g[k] = .src x y z := by simpa [hk] using e
  refine runD_T ?_
  unfold b_Ldraw
  simp [startD, e', hk]
  refine ⟨fun hx => ⟨hb, by omega, x % b, rfl, Int.emod_nonneg _ (by omega), Int.emod_lt_of_pos _ hb, ⟨x / b, y, z, by simp [hk], Int.ediv_nonneg h1 (by omega), h2, h3, h4, by omega, Gpur.set h6 k _ _ _⟩, Oth.set _ _ _⟩, fun hx => ⟨fun hb3 => by omega, fun hb3 => ?_⟩⟩
  have mx : ∀ a : Int, 0 ≤ a % 2147483579 ∧ a % 2147483579 < 2147483579 := fun a => ⟨Int.emod_nonneg _ (by decide), Int.emod_lt_of_pos _ (by decide)⟩
  obtain ⟨m1, m2⟩ := mx ((y + 62003 * (z + 1)) ^ 3)
  refine ⟨by omega, .inl ⟨by omega, by omega⟩, hb, _, rfl, Int.emod_nonneg _ (by omega), Int.emod_lt_of_pos _ hb, ⟨x, y, z + 1, by simp [hk], h1, h2, h3, by omega, by omega, Gpur.set h6 k _ _ _⟩, Oth.set _ _ _⟩
theorem draw_T {k m : Nat} {b : Int} {g : G} (h : Src k (m + 2) g) (hb : 0 < b) (hb2 : b < 2 ^ 30) : T (d_Ldraw 3 [.hdl k, .int b]) g (DrawP k m b g) :=
  drawB h hb hb2 fun _ b m g h h1 h2 => draw1 h h1 h2
def D.pl : Nat → D → Bool
  | _, .non => true
  | _, .bl _ => true
  | _, .int _ => true
  | _, .str x => PyData.strOk x
  | n + 1, .tup xs => decide (xs.length < 1000000) && xs.all (D.pl n)
  | n + 1, .lst xs => decide (xs.length < 1000000) && xs.all (D.pl n)
  | _, _ => false
theorem pls_py {n : Nat} (ih : ∀ d : D, D.pl n d = true → D.pyOk d = true ∧ (D.py d).canLay0 = true ∧ (D.py d).depth ≤ n) : ∀ {xs : List D}, xs.all (D.pl n) = true → D.pysOk xs = true ∧ PyData.canLayAll0 (D.pys xs) = true ∧ PyData.depthAll (D.pys xs) ≤ n
  | [], _ => ⟨rfl, rfl, by simp [D.pys, PyData.depthAll]⟩
  | x :: xs, h => by
    simp only [List.all_cons, Bool.and_eq_true] at h
    obtain ⟨h1, h2, h3⟩ := ih x h.1
    obtain ⟨g1, g2, g3⟩ := pls_py ih h.2
    exact ⟨by simp [D.pysOk, h1, g1], by simp [D.pys, PyData.canLayAll0, h2, g2], by simp only [D.pys, PyData.depthAll]; omega⟩
theorem pl_py : ∀ {n : Nat} {d : D}, D.pl n d = true → D.pyOk d = true ∧ (D.py d).canLay0 = true ∧ (D.py d).depth ≤ n
  | _, .non, _ => ⟨rfl, rfl, by simp [D.py, PyData.depth]⟩
  | _, .bl _, _ => ⟨rfl, rfl, by simp [D.py, PyData.depth]⟩
  | _, .int _, _ => ⟨rfl, rfl, by simp [D.py, PyData.depth]⟩
  | n, .str x, h => ⟨rfl, by cases n <;> exact h, by simp [D.py, PyData.depth]⟩
  | n + 1, .tup xs, h => by
    have h' := (Bool.and_eq_true_iff.mp h).2
    obtain ⟨g1, g2, g3⟩ := pls_py (fun d hd => pl_py hd) h'
    exact ⟨g1, g2, by simp only [D.py, PyData.depth]; omega⟩
  | n + 1, .lst xs, h => by
    have h' := (Bool.and_eq_true_iff.mp h).2
    obtain ⟨g1, g2, g3⟩ := pls_py (fun d hd => pl_py hd) h'
    exact ⟨g1, g2, by simp only [D.py, PyData.depth]; omega⟩
  | 0, .tup _, h => nomatch h
  | 0, .lst _, h => nomatch h
  | 0, .slst _, h => nomatch h
  | _ + 1, .slst _, h => nomatch h
  | 0, .dT _, h => nomatch h
  | _ + 1, .dT _, h => nomatch h
  | 0, .dK _, h => nomatch h
  | _ + 1, .dK _, h => nomatch h
  | 0, .hdl _, h => nomatch h
  | _ + 1, .hdl _, h => nomatch h
  | 0, .ftup _, h => nomatch h
  | _ + 1, .ftup _, h => nomatch h
  | 0, .fT _, h => nomatch h
  | _ + 1, .fT _, h => nomatch h
  | 0, .exc0 _, h => nomatch h
  | _ + 1, .exc0 _, h => nomatch h
  | 0, .exc1 _ _ _, h => nomatch h
  | _ + 1, .exc1 _ _ _, h => nomatch h
def eqD (x y : D) : Bool := PyData.eqv (D.py x) (D.py y)
theorem pl_sh {n : Nat} {d : D} (h : D.pl n d = true) (hn : n ≤ 64) : D.pyOk d = true ∧ SeqAt.shaped (D.py d) = true := by
  obtain ⟨h1, h2, h3⟩ := pl_py h
  exact ⟨h1, by simp [SeqAt.shaped, h2]; omega⟩
theorem kEq_pl {x y : D} (n m : Nat) (hx : D.pl n x = true) (hy : D.pl m y = true) (hn : n ≤ 64 := by decide) (hm : m ≤ 64 := by decide) : kEq x y = M.pure (.bl (eqD x y)) := by
  obtain ⟨a1, a2⟩ := pl_sh hx hn
  obtain ⟨b1, b2⟩ := pl_sh hy hm
  unfold kEq
  rw [if_pos ⟨a1, b1, a2, b2⟩]; rfl
theorem kNe_pl {x y : D} (n m : Nat) (hx : D.pl n x = true) (hy : D.pl m y = true) (hn : n ≤ 64 := by decide) (hm : m ≤ 64 := by decide) : kNe x y = M.pure (.bl (!eqD x y)) := by
  obtain ⟨a1, a2⟩ := pl_sh hx hn
  obtain ⟨b1, b2⟩ := pl_sh hy hm
  unfold kNe
  rw [if_pos ⟨a1, b1, a2, b2⟩]; rfl
@[simp] theorem eqD_int (i j : Int) : eqD (.int i) (.int j) = (i == j) := by simp [eqD, D.py, PyData.eqv]
@[simp] theorem eqD_bl (i j : Bool) : eqD (.bl i) (.bl j) = (i == j) := by simp [eqD, D.py, PyData.eqv]
@[simp] theorem eqD_str (i j : Str) : eqD (.str i) (.str j) = (i == j) := by simp [eqD, D.py, PyData.eqv]
@[simp] theorem eqD_non : eqD .non .non = true := rfl
@[simp] theorem eqD_non_str (x : Str) : eqD .non (.str x) = false := rfl
@[simp] theorem eqD_str_non (x : Str) : eqD (.str x) .non = false := rfl
@[simp] theorem eqD_non_int (x : Int) : eqD .non (.int x) = false := rfl
@[simp] theorem eqD_int_non (x : Int) : eqD (.int x) .non = false := rfl
@[simp] theorem eqD_str_int (x : Str) (y : Int) : eqD (.str x) (.int y) = false := rfl
@[simp] theorem eqD_int_str (x : Str) (y : Int) : eqD (.int y) (.str x) = false := rfl
theorem eqD_self {n : Nat} {d : D} (h : D.pl n d = true) : eqD d d = true := SeqAt.eqv_refl _ (pl_py h).2.1
def eqDs : List D → List D → Bool
  | [], [] => true
  | x :: xs, y :: ys => eqD x y && eqDs xs ys
  | _, _ => false
theorem eqvAll_pys : ∀ xs ys : List D, PyData.eqvAll (D.pys xs) (D.pys ys) = eqDs xs ys
  | [], [] => rfl
  | [], _ :: _ => rfl
  | _ :: _, [] => rfl
  | x :: xs, y :: ys => by simp only [D.pys, PyData.eqvAll, eqDs, eqvAll_pys xs ys]; rfl
theorem eqD_tup (xs ys : List D) : eqD (.tup xs) (.tup ys) = eqDs xs ys := by simp only [eqD, D.py, PyData.eqv]; exact eqvAll_pys xs ys
theorem eqD_lst (xs ys : List D) : eqD (.lst xs) (.lst ys) = eqDs xs ys := by simp only [eqD, D.py, PyData.eqv]; exact eqvAll_pys xs ys
@[simp] theorem eqD_lst_tup (xs ys : List D) : eqD (.lst xs) (.tup ys) = false := rfl
@[simp] theorem eqD_tup_lst (xs ys : List D) : eqD (.tup xs) (.lst ys) = false := rfl
theorem eqDs_map {α : Type} [DecidableEq α] (f : α → D) (hf : ∀ x y, eqD (f x) (f y) = decide (x = y)) : ∀ xs ys : List α, eqDs (xs.map f) (ys.map f) = decide (xs = ys)
  | [], [] => rfl
  | [], _ :: _ => rfl
  | _ :: _, [] => rfl
  | x :: xs, y :: ys => by
    simp only [List.map_cons, eqDs, hf, eqDs_map f hf xs ys, List.cons.injEq]
    by_cases h1 : x = y <;> by_cases h2 : xs = ys <;> simp [h1, h2]
@[simp] theorem pl_int (n : Nat) (i : Int) : D.pl n (.int i) = true := by cases n <;> rfl
@[simp] theorem pl_bl (n : Nat) (i : Bool) : D.pl n (.bl i) = true := by cases n <;> rfl
@[simp] theorem pl_non (n : Nat) : D.pl n .non = true := by cases n <;> rfl
@[simp] theorem pl_str (n : Nat) (x : Str) : D.pl n (.str x) = PyData.strOk x := by cases n <;> rfl
@[simp] theorem pl_tup (n : Nat) (xs : List D) : D.pl (n + 1) (.tup xs) = (decide (xs.length < 1000000) && xs.all (D.pl n)) := rfl
@[simp] theorem pl_lst (n : Nat) (xs : List D) : D.pl (n + 1) (.lst xs) = (decide (xs.length < 1000000) && xs.all (D.pl n)) := rfl
@[simp] theorem kEq_int (i j : Int) : kEq (.int i) (.int j) = M.pure (.bl (i == j)) := (kEq_pl 0 0 (by simp) (by simp)).trans (by simp)
@[simp] theorem kNe_int (i j : Int) : kNe (.int i) (.int j) = M.pure (.bl (!(i == j))) := (kNe_pl 0 0 (by simp) (by simp)).trans (by simp)
@[simp] theorem kEq_bl (i j : Bool) : kEq (.bl i) (.bl j) = M.pure (.bl (i == j)) := (kEq_pl 0 0 (by simp) (by simp)).trans (by simp)
@[simp] theorem kNe_bl (i j : Bool) : kNe (.bl i) (.bl j) = M.pure (.bl (!(i == j))) := (kNe_pl 0 0 (by simp) (by simp)).trans (by simp)
@[simp] theorem kEq_non : kEq .non .non = M.pure (.bl true) := (kEq_pl 0 0 (by simp) (by simp)).trans (by simp)
@[simp] theorem kNe_non : kNe .non .non = M.pure (.bl false) := (kNe_pl 0 0 (by simp) (by simp)).trans (by simp)
@[simp] theorem kEq_non_int (i : Int) : kEq .non (.int i) = M.pure (.bl false) := (kEq_pl 0 0 (by simp) (by simp)).trans (by simp)
@[simp] theorem kEq_int_non (i : Int) : kEq (.int i) .non = M.pure (.bl false) := (kEq_pl 0 0 (by simp) (by simp)).trans (by simp)
@[simp] theorem ints_map : ∀ ns : List Int, D.ints (ns.map .int) = some ns
  | [] => rfl
  | n :: ns => by simp [D.ints, ints_map ns]
@[simp] theorem bls_map : ∀ ns : List Bool, D.bls (ns.map .bl) = some ns
  | [] => rfl
  | n :: ns => by simp [D.bls, bls_map ns]
@[simp] theorem kOfBls_map (f : List Bool → M D) (bs : List Bool) : kOfBls f [.lst (bs.map .bl)] = f bs := by simp [kOfBls]
@[simp] theorem kOfInts_map (f : List Int → M D) (bs : List Int) : kOfInts f [.lst (bs.map .int)] = f bs := by simp [kOfInts]
theorem bls_rep' (n : Nat) (b : Bool) : D.bls (List.replicate n (.bl b)) = some (List.replicate n b) := by
  rw [show List.replicate n (D.bl b) = (List.replicate n b).map .bl by simp]; exact bls_map _
@[simp] theorem kIsi_non (ns : List String) : kIsi ns .non = M.pure (.bl (ns.any (isTy "NoneType"))) := rfl
@[simp] theorem kIsi_bl (ns : List String) (b : Bool) : kIsi ns (.bl b) = M.pure (.bl (ns.any (isTy "bool"))) := rfl
@[simp] theorem kIsi_int (ns : List String) (b : Int) : kIsi ns (.int b) = M.pure (.bl (ns.any (isTy "int"))) := rfl
@[simp] theorem kIsi_str (ns : List String) (b : Str) : kIsi ns (.str b) = M.pure (.bl (ns.any (isTy "str"))) := rfl
@[simp] theorem kIsi_tup (ns : List String) (b : List D) : kIsi ns (.tup b) = M.pure (.bl (ns.any (isTy "tuple"))) := rfl
@[simp] theorem kIsi_lst (ns : List String) (b : List D) : kIsi ns (.lst b) = M.pure (.bl (ns.any (isTy "list"))) := rfl
@[simp] theorem isTy_ap (t n : String) : isTy t n = (t == n || (t == "bool" && n == "int")) := rfl
@[simp] theorem kIs_non (x : D) : kIs x .non = M.pure (.bl (D.isN x)) := by cases x <;> rfl
@[simp] theorem kIsNot_non (x : D) : kIsNot x .non = M.pure (.bl (!D.isN x)) := by cases x <;> rfl
@[simp] theorem kIs_bl (a b : Bool) : kIs (.bl a) (.bl b) = M.pure (.bl (decide (a = b))) := rfl
@[simp] theorem isN_non : D.isN .non = true := rfl
@[simp] theorem isN_bl (b : Bool) : D.isN (.bl b) = false := rfl
@[simp] theorem isN_int (b : Int) : D.isN (.int b) = false := rfl
@[simp] theorem isN_str (b : Str) : D.isN (.str b) = false := rfl
@[simp] theorem isN_tup (b : List D) : D.isN (.tup b) = false := rfl
@[simp] theorem isN_lst (b : List D) : D.isN (.lst b) = false := rfl
theorem zipD_map (xs : List D) : zipD xs xs = xs.map fun x => .tup [x, x] := by
  unfold zipD
  induction xs with
  | nil => rfl
  | cons x xs ih => simp [ih]
theorem zipK_lst (a b : List D) : zipK2 [.lst a, .lst b] = M.pure (zipD a b) := rfl
theorem zipK_tup (a b : List D) : zipK2 [.tup a, .tup b] = M.pure (zipD a b) := rfl
theorem equal_self : ∀ (n : Nat) (x : D), D.pl n x = true → ∀ g, d_Lequal (n + 1) [x, x] g = .ok (.bl true) g := by
  intro n
  induction n with
  | zero =>
    intro x hx g
    show runD 4 false (b_Lequal (d_Lequal 0)) [x, x] g = _
    unfold runD b_Lequal
    cases x with
    | tup _ => cases hx
    | lst _ => cases hx
    | slst _ => cases hx
    | dT _ => cases hx
    | dK _ => cases hx
    | hdl _ => cases hx
    | ftup _ => cases hx
    | fT _ => cases hx
    | exc0 _ => cases hx
    | exc1 _ _ _ => cases hx
    | str s => simp [startD, kEq_pl 0 0 hx hx]; rfl
    | _ => simp [startD, M.pure]
  | succ n ih =>
    intro x hx g
    show runD 4 false (b_Lequal (d_Lequal (n + 1))) [x, x] g = _
    unfold runD b_Lequal
    have many : ∀ xs : List D, xs.all (D.pl n) = true → ∀ σ : DS, σ.length = 4 → ∀ g, compM (gNs [2, 3]) tYesD (eArgs (callN 2 (d_Lequal (n + 1))) (lCons (eVar 2) (lCons (eVar 3) lNil))) σ (xs.map fun x => .tup [x, x]) g = .ok (List.replicate xs.length (.bl true)) g := by
      intro xs hxs σ hσ
      induction xs with
      | nil => intro g; rfl
      | cons y ys ih2 =>
        intro g
        simp only [List.all_cons, Bool.and_eq_true] at hxs
        match σ, hσ with
        | [s0, s1, s2, s3], _ =>
          simp only [List.map_cons, compM, gNs_2, pure_bind', tYes_ap, noerr_pure', if_true]
          have e1 : M.noerr (eArgs (callN 2 (d_Lequal (n + 1))) (lCons (eVar 2) (lCons (eVar 3) lNil)) [s0, s1, some (.sh y), some (.sh y)]) g = .ok (.bl true) g := noerr_ok (by simpa using ih y hxs.1 g)
          have e2 := ih2 hxs.2 g
          show M.bind (M.noerr (eArgs (callN 2 (d_Lequal (n + 1))) (lCons (eVar 2) (lCons (eVar 3) lNil)) [s0, s1, some (.sh y), some (.sh y)])) _ g = _
          rw [bind_ok e1, bind_ok e2]
          simp [M.pure, List.replicate_succ]
    cases x with
    | slst _ => cases hx
    | dT _ => cases hx
    | dK _ => cases hx
    | hdl _ => cases hx
    | ftup _ => cases hx
    | fT _ => cases hx
    | exc0 _ => cases hx
    | exc1 _ _ _ => cases hx
    | str s =>
      have hs : D.pl 0 (.str s) = true := hx
      simp [startD, kEq_pl 0 0 hs hs]; rfl
    | tup xs =>
      have h2 := Bool.and_eq_true_iff.mp hx
      have hl : xs.length < 1000000 := of_decide_eq_true h2.1
      simp [startD, zipK_tup, zipD_map, hl]
      rw [bind_ok (many xs h2.2 [some (.sh (.tup xs)), some (.sh (.tup xs)), none, none] rfl g)]
      simp [kOfBls, bls_rep', M.pure]
    | lst xs =>
      have h2 := Bool.and_eq_true_iff.mp hx
      have hl : xs.length < 1000000 := of_decide_eq_true h2.1
      simp [startD, zipK_lst, zipD_map, hl]
      rw [bind_ok (many xs h2.2 [some (.sh (.lst xs)), some (.sh (.lst xs)), none, none] rfl g)]
      simp [kOfBls, bls_rep', M.pure]
    | _ => simp [startD, M.pure]
theorem pl_mono : ∀ {n : Nat} {x : D}, D.pl n x = true → ∀ m, D.pl (n + m) x = true
  | _, .non, _, m => pl_non _
  | _, .bl _, _, m => pl_bl _ _
  | _, .int _, _, m => pl_int _ _
  | n, .str _, h, m => by rw [pl_str] at h ⊢; exact h
  | n + 1, .tup xs, h, m => by
    rw [show n + 1 + m = n + m + 1 by omega]
    simp only [pl_tup, Bool.and_eq_true, List.all_eq_true] at h ⊢
    exact ⟨h.1, fun x hx => pl_mono (h.2 x hx) m⟩
  | n + 1, .lst xs, h, m => by
    rw [show n + 1 + m = n + m + 1 by omega]
    simp only [pl_lst, Bool.and_eq_true, List.all_eq_true] at h ⊢
    exact ⟨h.1, fun x hx => pl_mono (h.2 x hx) m⟩
  | 0, .tup _, h, _ => nomatch h
  | 0, .lst _, h, _ => nomatch h
  | 0, .slst _, h, _ => nomatch h
  | _ + 1, .slst _, h, _ => nomatch h
  | 0, .dT _, h, _ => nomatch h
  | _ + 1, .dT _, h, _ => nomatch h
  | 0, .dK _, h, _ => nomatch h
  | _ + 1, .dK _, h, _ => nomatch h
  | 0, .hdl _, h, _ => nomatch h
  | _ + 1, .hdl _, h, _ => nomatch h
  | 0, .ftup _, h, _ => nomatch h
  | _ + 1, .ftup _, h, _ => nomatch h
  | 0, .fT _, h, _ => nomatch h
  | _ + 1, .fT _, h, _ => nomatch h
  | 0, .exc0 _, h, _ => nomatch h
  | _ + 1, .exc0 _, h, _ => nomatch h
  | 0, .exc1 _ _ _, h, _ => nomatch h
  | _ + 1, .exc1 _ _ _, h, _ => nomatch h
theorem equal_T {x y : D} {g : G} {Q : D → G → Prop} (h : x = y) (hp : D.pl 7 y = true) (q : Q (.bl true) g) : T (d_Lequal 8 [x, y]) g Q := by
  subst h
  exact (T_ok (equal_self 7 x hp g)).mpr q
end NS
namespace NS
open PySem PySem.Spec PyProof.Rows L2
@[simp] theorem srcNew_T (a b c : Int) (g : G) (Q : Fl → G → Prop) : T (srcNew (.lst [.int a, .int b, .int c])) g Q ↔ Q (.rt (.hdl g.length)) (g ++ [.src a b c]) := T_ok rfl
@[simp] theorem sRetH_ap (fe : DS → M D) (σ : DS) : sRetH fe σ = M.bind (fe σ) srcNew := rfl
theorem atI_map_int (ns : List Int) (i : Int) (h0 : 0 ≤ i) (h : i < ns.length) : ∃ n : Int, L2.atI (ns.map D.int) i = some (.int n) := by
  obtain ⟨j, rfl⟩ := Int.eq_ofNat_of_zero_le h0
  have hj : j < ns.length := by omega
  exact ⟨ns[j], atI_nat (by simp [hj])⟩
theorem kAbs_if (i : Int) : kAbs [.int i] = M.pure (.int (if i < 0 then -i else i)) := rfl
theorem source_T (ns : List Int) (i : Int) (g : G) (h0 : 0 ≤ i) (h1 : i < 1000) (hl : ns.length ≤ 63) : T (d_Lsource [.slst (ns.map .int), .int i]) g fun d g' => ∃ a b, d = .hdl g.length ∧ g' = g ++ [.src a b 0] ∧ 0 ≤ a ∧ 0 ≤ b ∧ b < 2147483648 := by
  have m : ∀ a : Int, 0 ≤ a % 2147483543 ∧ a % 2147483543 < 2147483543 := fun a => ⟨Int.emod_nonneg _ (by decide), Int.emod_lt_of_pos _ (by decide)⟩
  have fin : ∀ n : Int, ∀ Q : D → G → Prop, (∀ a b : Int, 0 ≤ a → 0 ≤ b → b < 2147483648 → Q (.hdl g.length) (g ++ [.src a b 0])) → T (sRetH (eArgs mkL (lCons (eBin kMul (eArgs kAbs (lCons (eVar 2) lNil)) (eArgs kInt (lCons (eBin kGe (eArgs kAbs (lCons (eVar 2) lNil)) (eBin kPow (eC (.int 10)) (eC (.int 18)))) lNil))) (lCons (eBin kMod (eBin kMul (eBin kAdd (eBin kAdd (eBin kMod (eVar 2) (eC (.int 2147483563))) (eBin kMul (eC (.int 90007)) (eVar 1))) (eC (.int 67))) (eC (.int 39971))) (eC (.int 2147483543))) (lCons (eC (.int 0)) lNil)))) [some (.sh (.slst (ns.map .int))), some (.sh (.int i)), some (.sh (.int n))]) g
      (RQ false Q) := fun n Q hq => by
    by_cases h : 1000000000000000000 ≤ (if n < 0 then -n else n) <;> simp [-kAbs_int, kAbs_if, h]
    · exact hq _ _ (by omega) (m _).1 (Int.lt_trans (m _).2 (by decide))
    · exact hq _ _ (by omega) (m _).1 (Int.lt_trans (m _).2 (by decide))
  refine runD_T ?_
  unfold b_Lsource
  rw [sSeq_ap, T_bind, sSet_sh, eC_ap, pure_bind', T_pure]
  show T (sSeq _ _ [some (.sh (.slst (ns.map .int))), some (.sh (.int i)), some (.sh (.int 0))]) g _
  rw [sSeq_ap, T_bind]
  by_cases hi : i < ns.length
  · obtain ⟨n, e⟩ := atI_map_int ns i h0 hi
    simp only [sIf_ap, eTst_ap, eBin_ap, eVar0, eVarS, eArgs_ap, lCons_ap, lNil_ap, pure_bind', kLen_slst, List.length_map, kLt_int, asB_bl, hi, decide_true, if_true, sSet_sh, kIx_slst, e, opt_some', T_pure]
    exact fin n _ fun a b h1 h2 h3 => ⟨a, b, rfl, rfl, h1, h2, h3⟩
  · simp only [sIf_ap, eTst_ap, eBin_ap, eVar0, eVarS, eArgs_ap, lCons_ap, lNil_ap, pure_bind', kLen_slst, List.length_map, kLt_int, asB_bl, hi, decide_false, Bool.false_eq_true, if_false, sNil_ap, T_pure]
    exact fin 0 _ fun a b h1 h2 h3 => ⟨a, b, rfl, rfl, h1, h2, h3⟩
theorem rngD_get {lo hi : Int} {i : Nat} {d : D} (h : (rngD lo hi)[i]? = some d) : d = .int (lo + i) ∧ lo + i < hi := by
  unfold rngD at h
  rw [List.getElem?_map] at h
  by_cases hi' : i < (hi - lo).toNat
  · rw [List.getElem?_range hi'] at h
    simp at h
    exact ⟨h.symm, by omega⟩
  · rw [List.getElem?_eq_none (by simpa using hi')] at h
    cases h
@[simp] theorem rngD_len (lo hi : Int) : (rngD lo hi).length = (hi - lo).toNat := by simp [rngD]
theorem src_new (g : G) (hg : Gpur g = true) (a b : Int) (h1 : 0 ≤ a) (h2 : 0 ≤ b) (h3 : b < 2147483648) : Src g.length 1000000000 (g ++ [.src a b 0]) := ⟨a, b, 0, by simp, h1, h2, h3, by decide, by decide, Gpur.add hg a b 0⟩
def bLawA (N : Int) (H : List D → M D) : DS → M Fl :=
  (sRet (eArgs (kOfBls fun bs => M.pure (.bl (bs.all id))) (lCons (eComp (iArgs rng1 (lCons (eArgs kMax2 (lCons (eC (.int 1)) (lCons (eArgs kMin2 (lCons (eC (.int N)) (lCons (eArgs kLen (lCons (eVar 0) lNil)) lNil))) lNil))) lNil)) [1] (gN 1) tYesD (eArgs (callN 1 H) (lCons (eArgs (callN 2 d_Lsource) (lCons (eVar 0) (lCons (eVar 1) lNil))) lNil))) lNil)))
theorem law_A {N : Int} {H : List D → M D} (hH : ∀ k g, Src k 1000000000 g → T (H [.hdl k]) g fun d g' => d = .bl true ∧ Gpur g' = true) (ns : List Int) (hl : ns.length ≤ 63) (hN : 1 ≤ N ∧ N ≤ 3 := by decide) : ∃ g', runD 2 false (bLawA N H) [.slst (ns.map .int)] [] = .ok (.bl true) g' := by
  have t : T (runD 2 false (bLawA N H) [.slst (ns.map .int)]) [] fun d _ => d = .bl true := by
    refine runD_T ?_
    unfold bLawA
    generalize hm : max 1 (min N (ns.length : Int)) = m
    have hm1 : 1 ≤ m ∧ m ≤ 3 := by omega
    simp [startD]
    rw [hm]
    refine ⟨by omega, by omega, by omega, ?_⟩
    refine compM_T (fun n rs g => rs = List.replicate n (.bl true) ∧ Gpur g = true) (n := 0) (rs := []) ?_ ⟨rfl, rfl⟩ fun rs g' ⟨e, _⟩ => ?_
    · rintro i d g rs e ⟨rfl, hg⟩
      obtain ⟨rfl, h1⟩ := rngD_get e
      simp
      refine (source_T ns (i : Int) g (by omega) (by omega) hl).imp fun d g' ⟨a, b, e1, e2, h1, h2, h3⟩ => ?_
      subst e1 e2
      refine (hH _ _ (src_new g hg a b h1 h2 h3)).imp fun d _ ⟨e, hg'⟩ => ?_
      subst e
      exact ⟨by rw [List.replicate_succ'], hg'⟩
    · simp at e
      subst e
      simp [kOfBls, bls_rep']
  obtain ⟨d, g', e, h⟩ := t
  subst h
  exact ⟨g', e⟩
end NS
namespace NS
def sg {α : Type} (l : List α) (f : α → Nat) : Nat := (l.map f).sum
@[simp] theorem sg_nil {α : Type} (f : α → Nat) : sg [] f = 0 := rfl
@[simp] theorem sg_cons {α : Type} (a : α) (l : List α) (f : α → Nat) : sg (a :: l) f = f a + sg l f := by simp [sg]
theorem sg_app {α : Type} (l m : List α) (f : α → Nat) : sg (l ++ m) f = sg l f + sg m f := by simp [sg]
theorem sg_map {α β : Type} (h : α → β) (l : List α) (f : β → Nat) : sg (l.map h) f = sg l fun a => f (h a) := by simp [sg, Function.comp_def]
theorem sg_congr {α : Type} {l : List α} {f g : α → Nat} (h : ∀ a ∈ l, f a = g a) : sg l f = sg l g := by
  unfold sg; rw [List.map_congr_left h]
theorem sg_add {α : Type} (l : List α) (f g : α → Nat) : sg l (fun a => f a + g a) = sg l f + sg l g := by
  induction l with
  | nil => rfl
  | cons a l ih => simp [ih]; omega
theorem sg_mul {α : Type} (l : List α) (k : Nat) (f : α → Nat) : sg l (fun a => k * f a) = k * sg l f := by
  induction l with
  | nil => rfl
  | cons a l ih => simp [ih, Nat.mul_add]
theorem sg_mul' {α : Type} (l : List α) (k : Nat) (f : α → Nat) : sg l (fun a => f a * k) = sg l f * k := by
  induction l with
  | nil => simp
  | cons a l ih => simp [ih, Nat.add_mul]
theorem sg_zero {α : Type} {l : List α} {f : α → Nat} (h : ∀ a ∈ l, f a = 0) : sg l f = 0 := by
  rw [sg_congr h]; induction l with
  | nil => rfl
  | cons a l ih => simp [ih fun a ha => h a (List.mem_cons_of_mem _ ha)]
theorem sg_zero_iff {α : Type} {l : List α} {f : α → Nat} : sg l f = 0 ↔ ∀ a ∈ l, f a = 0 := by
  induction l with
  | nil => simp
  | cons a l ih => simp [ih]
theorem sg_swap {α β : Type} (l : List α) (m : List β) (f : α → β → Nat) : sg l (fun a => sg m (f a)) = sg m (fun b => sg l fun a => f a b) := by
  induction l with
  | nil => simp; exact (sg_zero fun _ _ => rfl).symm
  | cons a l ih => simp [ih, sg_add]
theorem sg_filter {α : Type} (l : List α) (p : α → Bool) (f : α → Nat) : sg (l.filter p) f = sg l fun a => if p a = true then f a else 0 := by
  induction l with
  | nil => rfl
  | cons a l ih => by_cases h : p a = true <;> simp [List.filter_cons, h, ih]
theorem sg_le {α : Type} {l : List α} {f g : α → Nat} (h : ∀ a ∈ l, f a ≤ g a) : sg l f ≤ sg l g := by
  induction l with
  | nil => simp
  | cons a l ih =>
    have := h a List.mem_cons_self
    have := ih fun b hb => h b (List.mem_cons_of_mem _ hb)
    simp; omega
theorem sg_const {α : Type} (l : List α) (k : Nat) : sg l (fun _ => k) = l.length * k := by
  induction l with
  | nil => simp
  | cons a l ih => simp [ih, Nat.add_mul]; omega
def rm (c : Int) (R : List Int) : List Int := R.filter fun d => d != c
theorem mem_rm {c d : Int} {R : List Int} : d ∈ rm c R ↔ d ∈ R ∧ d ≠ c := by simp [rm]
theorem rm_comm (c d : Int) (R : List Int) : rm c (rm d R) = rm d (rm c R) := by
  simp only [rm, List.filter_filter]
  congr 1; funext x; exact Bool.and_comm _ _
theorem rm_app (c : Int) (A B : List Int) : rm c (A ++ B) = rm c A ++ rm c B := by simp [rm]
theorem rm_not {c : Int} {R : List Int} (h : c ∉ R) : rm c R = R := List.filter_eq_self.mpr fun d hd => by simp; rintro rfl; exact h hd
theorem rm_nodup {c : Int} {R : List Int} (h : R.Nodup) : (rm c R).Nodup := h.filter _
theorem rm_sub (c : Int) (R : List Int) : ∀ d ∈ rm c R, d ∈ R := fun d h => (mem_rm.mp h).1
theorem rm_len {c : Int} : ∀ {R : List Int}, R.Nodup → c ∈ R → (rm c R).length + 1 = R.length
  | d :: R, h, hc => by
    have h2 := List.nodup_cons.mp h
    by_cases e : d = c
    · subst e
      have : rm d (d :: R) = R := by simp [rm, List.filter_cons]; exact fun a ha => by rintro rfl; exact h2.1 ha
      rw [this]; rfl
    · have hc' : c ∈ R := by rcases List.mem_cons.mp hc with rfl | h'; exact absurd rfl e; exact h'
      have : rm c (d :: R) = d :: rm c R := by simp [rm, List.filter_cons, e]
      rw [this]; simp [rm_len h2.2 hc']
theorem sg_rm (c : Int) (R : List Int) (f : Int → Nat) : sg (rm c R) f = sg R fun d => if (d != c) = true then f d else 0 := sg_filter _ _ _
def cnt (ok : List Int → Int → Bool) : Nat → List Int → Nat
  | _, [] => 1
  | 0, _ :: _ => 0
  | k + 1, c :: R => sg (c :: R) fun d => if ok (c :: R) d = true then cnt ok k (rm d (c :: R)) else 0
@[simp] theorem cnt_nil (ok : List Int → Int → Bool) (k : Nat) : cnt ok k [] = 1 := by cases k <;> rfl
theorem cnt_step (ok : List Int → Int → Bool) (k : Nat) {R : List Int} (h : R ≠ []) : cnt ok (k + 1) R = sg R fun d => if ok R d = true then cnt ok k (rm d R) else 0 := by
  cases R with
  | nil => exact absurd rfl h
  | cons c R => rfl
def ct (ok : List Int → Int → Bool) (R : List Int) : Nat := cnt ok R.length R
@[simp] theorem ct_nil (ok : List Int → Int → Bool) : ct ok [] = 1 := rfl
theorem ct_step (ok : List Int → Int → Bool) {R : List Int} (nd : R.Nodup) (h : R ≠ []) : ct ok R = sg R fun d => if ok R d = true then ct ok (rm d R) else 0 := by
  unfold ct
  obtain ⟨k, hk⟩ : ∃ k, R.length = k + 1 := by cases R; exact absurd rfl h; exact ⟨_, rfl⟩
  rw [hk, cnt_step _ _ h]
  refine sg_congr fun d hd => ?_
  have := rm_len nd hd
  rw [show (rm d R).length = k by omega]
theorem nodup_ind {P : List Int → Prop} (h : ∀ R : List Int, R.Nodup → (∀ c ∈ R, P (rm c R)) → P R) : ∀ {R : List Int}, R.Nodup → P R := by
  have : ∀ n, ∀ R : List Int, R.length = n → R.Nodup → P R := by
    intro n
    induction n with
    | zero => intro R hR nd; exact h R nd fun c hc => by cases R with | nil => cases hc | cons => cases hR
    | succ n ih =>
      intro R hR nd
      exact h R nd fun c hc => ih _ (by have := rm_len nd hc; omega) (rm_nodup nd)
  exact fun {R} nd => this _ R rfl nd
section
variable (nd : Int → Int → Bool)
def okF (R : List Int) (c : Int) : Bool := R.all fun d => !nd c d
def okL (R : List Int) (c : Int) : Bool := R.all fun d => !nd d c
def okW (U R : List Int) (c : Int) : Bool := U.all fun d => !nd c d || R.contains d
def LE (R : List Int) : Nat := ct (okF nd) R
variable {nd}
theorem okF_iff {R : List Int} {c : Int} : okF nd R c = true ↔ ∀ d ∈ R, nd c d = false := by simp [okF]
theorem okL_iff {R : List Int} {c : Int} : okL nd R c = true ↔ ∀ d ∈ R, nd d c = false := by simp [okL]
theorem okW_iff {U R : List Int} {c : Int} : okW nd U R c = true ↔ ∀ d ∈ U, nd c d = true → d ∈ R := by
  simp only [okW, List.all_eq_true, Bool.or_eq_true, Bool.not_eq_true', List.contains_iff_mem]
  constructor
  · intro h d hd e; rcases h d hd with h | h; rw [e] at h; cases h; exact h
  · intro h d hd; cases e : nd c d; exact .inl rfl; exact .inr (h d hd e)
theorem bool_iff {a b : Bool} (h : a = true ↔ b = true) : a = b := by cases a <;> cases b <;> simp_all
theorem first_last (irr : ∀ c, nd c c = false) {R : List Int} (h : R.Nodup) : ct (okF nd) R = ct (okL nd) R := by
  have : ∀ n, ∀ R : List Int, R.length ≤ n → R.Nodup → ct (okF nd) R = ct (okL nd) R := by
    intro n
    induction n with
    | zero =>
      intro R hR _
      cases R with
      | nil => rfl
      | cons => cases hR
    | succ n ih =>
      intro R hR hn
      match R, hR, hn with
      | [], _, _ => rfl
      | [c], _, _ => simp [ct, cnt, okF, okL, irr, rm]
      | c :: d :: R, hR, hn =>
        have ne : (c :: d :: R) ≠ [] := by simp
        have two : 2 ≤ (c :: d :: R).length := by simp
        generalize c :: d :: R = R at *
        have rne : ∀ x ∈ R, rm x R ≠ [] := fun x hx e => by have := rm_len hn hx; rw [e] at this; simp at this; omega
        rw [ct_step _ hn ne, ct_step _ hn ne]
        have eA : (sg R fun x => if okF nd R x = true then ct (okF nd) (rm x R) else 0) = sg R fun x => sg R fun y => if okF nd R x = true ∧ y ≠ x ∧ okL nd (rm x R) y = true then ct (okL nd) (rm y (rm x R)) else 0 := by
          refine sg_congr fun x hx => ?_
          by_cases hF : okF nd R x = true
          · simp only [hF, if_true, true_and]
            rw [ih _ (by have := rm_len hn hx; omega) (rm_nodup hn), ct_step _ (rm_nodup hn) (rne x hx), sg_rm]
            refine sg_congr fun y hy => ?_
            by_cases e : y = x <;> simp [e]
          · simp only [hF, false_and, if_false]
            exact (sg_zero fun _ _ => by simp).symm
        have eB : (sg R fun x => if okL nd R x = true then ct (okL nd) (rm x R) else 0) = sg R fun x => sg R fun y => if okL nd R x = true ∧ y ≠ x ∧ okF nd (rm x R) y = true then ct (okF nd) (rm y (rm x R)) else 0 := by
          refine sg_congr fun x hx => ?_
          by_cases hF : okL nd R x = true
          · simp only [hF, if_true, true_and]
            rw [← ih _ (by have := rm_len hn hx; omega) (rm_nodup hn), ct_step _ (rm_nodup hn) (rne x hx), sg_rm]
            refine sg_congr fun y hy => ?_
            by_cases e : y = x <;> simp [e]
          · simp only [hF, false_and, if_false]
            exact (sg_zero fun _ _ => by simp).symm
        rw [eA, eB, sg_swap]
        refine sg_congr fun y hy => sg_congr fun x hx => ?_
        have key : (okF nd R x = true ∧ y ≠ x ∧ okL nd (rm x R) y = true) ↔ (okL nd R y = true ∧ x ≠ y ∧ okF nd (rm y R) x = true) := by
          simp only [okF_iff, okL_iff, mem_rm]
          constructor
          · rintro ⟨h1, h2, h3⟩
            refine ⟨fun d hd => ?_, Ne.symm h2, fun d hd => h1 d hd.1⟩
            by_cases e : d = x
            · subst e; exact h1 y hy
            · exact h3 d ⟨hd, e⟩
          · rintro ⟨h1, h2, h3⟩
            refine ⟨fun d hd => ?_, Ne.symm h2, fun d hd => h1 d hd.1⟩
            by_cases e : d = y
            · subst e; exact h1 x hx
            · exact h3 d ⟨hd, e⟩
        by_cases c : (okF nd R x = true ∧ y ≠ x ∧ okL nd (rm x R) y = true)
        · rw [if_pos c, if_pos (key.mp c), rm_comm]
          refine (ih _ ?_ (rm_nodup (rm_nodup hn))).symm
          have h1 := rm_len hn hy
          have h2 := rm_len (rm_nodup (c := y) hn) (mem_rm.mpr ⟨hx, fun e => c.2.1 e.symm⟩)
          omega
        · rw [if_neg c, if_neg fun h => c (key.mpr h)]
  exact this _ R (Nat.le_refl _) h
def ch : Nat → Nat → Nat
  | _, 0 => 1
  | 0, _ + 1 => 0
  | n + 1, k + 1 => ch n k + ch n (k + 1)
@[simp] theorem ch_zero (n : Nat) : ch n 0 = 1 := by cases n <;> rfl
theorem ch_big : ∀ {n k : Nat}, n < k → ch n k = 0
  | 0, k + 1, _ => rfl
  | n + 1, k + 1, h => by rw [ch, ch_big (by omega), ch_big (by omega)]
@[simp] theorem ch_self : ∀ n : Nat, ch n n = 1
  | 0 => rfl
  | n + 1 => by rw [ch, ch_self n, ch_big (by omega)]
theorem ch_succ : ∀ n k : Nat, ch n (k + 1) * (k + 1) = ch n k * (n - k)
  | 0, k => by cases k <;> simp [ch]
  | n + 1, 0 => by simp [ch]; have := ch_succ n 0; simp at this; omega
  | n + 1, k + 1 => by
    have h1 := ch_succ n (k + 1)
    have h2 := ch_succ n k
    simp only [ch]
    by_cases hk : k + 1 ≤ n
    · obtain ⟨j, rfl⟩ : ∃ j, n = k + 1 + j := ⟨n - (k + 1), by omega⟩
      rw [show k + 1 + j - (k + 1) = j by omega] at h1
      rw [show k + 1 + j - k = j + 1 by omega] at h2
      rw [show k + 1 + j + 1 - (k + 1) = j + 1 by omega]
      rw [Nat.add_mul, h1]
      have : ch (k + 1 + j) (k + 1) * (k + 1 + 1) = ch (k + 1 + j) (k + 1) * (k + 1) + ch (k + 1 + j) (k + 1) := by rw [Nat.mul_succ]
      rw [this, h2, Nat.add_mul, Nat.mul_succ (ch (k + 1 + j) (k + 1)) j]
      omega
    · by_cases e : n = k
      · subst e; simp [ch_big (show n < n + 1 by omega), ch_big (show n < n + 1 + 1 by omega)]
      · simp [ch_big (show n < k by omega), ch_big (show n < k + 1 by omega), ch_big (show n < k + 1 + 1 by omega)]
theorem ch_symm : ∀ a b : Nat, ch (a + b) a = ch (a + b) b
  | 0, b => by simp
  | a + 1, 0 => by simp
  | a + 1, b + 1 => by
    rw [show a + 1 + (b + 1) = a + (b + 1) + 1 by omega, ch, ch, ch_symm a (b + 1)]
    have := ch_symm (a + 1) b
    rw [show a + 1 + b = a + (b + 1) by omega] at this
    rw [this]; omega
theorem ct_apart {ok : List Int → Int → Bool} {A B : List Int} (hn : (A ++ B).Nodup)
    (hA : ∀ A' B' : List Int, (∀ x ∈ A', x ∈ A) → (∀ x ∈ B', x ∈ B) → ∀ c ∈ A', ok (A' ++ B') c = ok A' c)
    (hB : ∀ A' B' : List Int, (∀ x ∈ A', x ∈ A) → (∀ x ∈ B', x ∈ B) → ∀ c ∈ B', ok (A' ++ B') c = ok B' c) :
    ct ok (A ++ B) = ch (A.length + B.length) A.length * (ct ok A * ct ok B) := by
  have : ∀ n, ∀ A B : List Int, A.length + B.length ≤ n → (A ++ B).Nodup →
    (∀ A' B' : List Int, (∀ x ∈ A', x ∈ A) → (∀ x ∈ B', x ∈ B) → ∀ c ∈ A', ok (A' ++ B') c = ok A' c) →
    (∀ A' B' : List Int, (∀ x ∈ A', x ∈ A) → (∀ x ∈ B', x ∈ B) → ∀ c ∈ B', ok (A' ++ B') c = ok B' c) →
    ct ok (A ++ B) = ch (A.length + B.length) A.length * (ct ok A * ct ok B) := by
    intro n
    induction n with
    | zero =>
      intro A B h _ _ _
      have hA : A = [] := List.length_eq_zero_iff.mp (by omega)
      have hB : B = [] := List.length_eq_zero_iff.mp (by omega)
      subst hA hB; simp
    | succ n ih =>
      intro A B h hn hA hB
      by_cases eA : A = []
      · subst eA; simp
      by_cases eB : B = []
      · subst eB; simp
      obtain ⟨nA, nB, dis⟩ := List.nodup_append.mp hn
      have dA : ∀ x ∈ A, x ∉ B := fun x hx hy => dis x hx x hy rfl
      have dB : ∀ x ∈ B, x ∉ A := fun x hx hy => dis x hy x hx rfl
      obtain ⟨a, ha⟩ : ∃ a, A.length = a + 1 := by cases A; exact absurd rfl eA; exact ⟨_, rfl⟩
      obtain ⟨b, hb⟩ : ∃ b, B.length = b + 1 := by cases B; exact absurd rfl eB; exact ⟨_, rfl⟩
      have e1 : (sg A fun d => if ok (A ++ B) d = true then ct ok (rm d (A ++ B)) else 0) = ch (a + B.length) a * (ct ok A * ct ok B) := by
        rw [ct_step ok nA eA, ← sg_mul', ← sg_mul]
        refine sg_congr fun d hd => ?_
        rw [hA A B (fun _ h => h) (fun _ h => h) d hd]
        by_cases c : ok A d = true
        · rw [if_pos c, if_pos c, rm_app, rm_not (dA d hd)]
          have l := rm_len nA hd
          rw [ih (rm d A) B (by omega) ?_ (fun A' B' h1 h2 => hA A' B' (fun x hx => rm_sub _ _ _ (h1 x hx)) h2) (fun A' B' h1 h2 => hB A' B' (fun x hx => rm_sub _ _ _ (h1 x hx)) h2)]
          · rw [show (rm d A).length = a by omega]
          · exact List.nodup_append.mpr ⟨rm_nodup nA, nB, fun x hx y hy => dis x (rm_sub _ _ _ hx) y hy⟩
        · rw [if_neg c, if_neg c]; simp
      have e2 : (sg B fun d => if ok (A ++ B) d = true then ct ok (rm d (A ++ B)) else 0) = ch (A.length + b) A.length * (ct ok A * ct ok B) := by
        rw [ct_step ok nB eB, ← sg_mul, ← sg_mul]
        refine sg_congr fun d hd => ?_
        rw [hB A B (fun _ h => h) (fun _ h => h) d hd]
        by_cases c : ok B d = true
        · rw [if_pos c, if_pos c, rm_app, rm_not (dB d hd)]
          have l := rm_len nB hd
          rw [ih A (rm d B) (by omega) ?_ (fun A' B' h1 h2 => hA A' B' h1 (fun x hx => rm_sub _ _ _ (h2 x hx))) (fun A' B' h1 h2 => hB A' B' h1 (fun x hx => rm_sub _ _ _ (h2 x hx)))]
          · rw [show (rm d B).length = b by omega]
          · exact List.nodup_append.mpr ⟨nA, rm_nodup nB, fun x hx y hy => dis x hx y (rm_sub _ _ _ hy)⟩
        · rw [if_neg c, if_neg c]; simp
      rw [ct_step ok hn (by simp [eA]), sg_app, e1, e2, ha, hb, show a + 1 + (b + 1) = (a + (b + 1)) + 1 by omega, ch, Nat.add_mul, show a + 1 + b = a + (b + 1) by omega]
  exact this _ A B (Nat.le_refl _) hn hA hB
theorem okW_open {U : List Int} {S : List Int} (hn : S.Nodup) (hU : ∀ x ∈ S, x ∈ U) (h : ∃ d ∈ S, okW nd U S d = false) : ct (okW nd U) S = 0 := by
  refine nodup_ind (P := fun S => (∀ x ∈ S, x ∈ U) → (∃ d ∈ S, okW nd U S d = false) → ct (okW nd U) S = 0) ?_ hn hU h
  intro S hn ih hU ⟨d, hd, e⟩
  rw [ct_step _ hn (by rintro rfl; cases hd)]
  refine sg_zero fun c hc => ?_
  by_cases ok : okW nd U S c = true
  · rw [if_pos ok]
    have ne : d ≠ c := by rintro rfl; rw [ok] at e; cases e
    refine ih c hc (fun x hx => hU x (rm_sub _ _ _ hx)) ⟨d, mem_rm.mpr ⟨hd, ne⟩, ?_⟩
    cases e2 : okW nd U (rm c S) d with
    | false => rfl
    | true =>
      rw [okW_iff] at e2
      have : okW nd U S d = true := okW_iff.mpr fun x hx n => (mem_rm.mp (e2 x hx n)).1
      rw [this] at e; cases e
  · rw [if_neg ok]
theorem okW_last {U : List Int} {S : List Int} (hn : S.Nodup) (hU : ∀ x ∈ S, x ∈ U) (irr : ∀ c, nd c c = false) (h : ∀ d ∈ S, okW nd U S d = true) : ct (okW nd U) S = ct (okL nd) S := by
  refine nodup_ind (P := fun S => (∀ x ∈ S, x ∈ U) → (∀ d ∈ S, okW nd U S d = true) → ct (okW nd U) S = ct (okL nd) S) ?_ hn hU h
  intro S hn ih hU h
  by_cases eS : S = []
  · subst eS; rfl
  rw [ct_step _ hn eS, ct_step _ hn eS]
  refine sg_congr fun c hc => ?_
  rw [if_pos (h c hc)]
  by_cases ok : okL nd S c = true
  · rw [if_pos ok]
    refine ih c hc (fun x hx => hU x (rm_sub _ _ _ hx)) fun d hd => okW_iff.mpr fun x hx n => mem_rm.mpr ⟨okW_iff.mp (h d (rm_sub _ _ _ hd)) x hx n, ?_⟩
    rintro rfl
    have := okL_iff.mp ok d (rm_sub _ _ _ hd)
    rw [this] at n; cases n
  · rw [if_neg ok]
    have : ¬ ∀ d ∈ S, nd d c = false := fun h => ok (okL_iff.mpr h)
    obtain ⟨d, hd, e⟩ : ∃ d ∈ S, nd d c = true := by
      apply Classical.byContradiction
      intro hh
      refine this fun d hd => ?_
      cases e : nd d c
      · rfl
      · exact absurd ⟨d, hd, e⟩ hh
    refine okW_open (rm_nodup hn) (fun x hx => hU x (rm_sub _ _ _ hx)) ⟨d, mem_rm.mpr ⟨hd, ?_⟩, ?_⟩
    · rintro rfl; rw [irr] at e; cases e
    · cases e2 : okW nd U (rm c S) d with
      | false => rfl
      | true => exact absurd rfl (mem_rm.mp (okW_iff.mp e2 c (hU c hc) e)).2
theorem LE_W (irr : ∀ c, nd c c = false) {R : List Int} (hn : R.Nodup) : ct (okW nd R) R = LE nd R := by
  rw [okW_last hn (fun _ h => h) irr fun d hd => okW_iff.mpr fun x hx _ => hx, LE, first_last irr hn]
theorem LE_first {R : List Int} (hn : R.Nodup) (h : R ≠ []) : LE nd R = sg R fun d => if okF nd R d = true then LE nd (rm d R) else 0 := ct_step _ hn h
end
end NS
namespace NS
def rI (lo hi : Int) : List Int := (List.range (hi - lo).toNat).map fun k => lo + (k : Nat)
@[simp] theorem rI_len (lo hi : Int) : (rI lo hi).length = (hi - lo).toNat := by simp [rI]
theorem mem_rI {lo hi x : Int} : x ∈ rI lo hi ↔ lo ≤ x ∧ x < hi := by
  unfold rI
  rw [List.mem_map]
  constructor
  · rintro ⟨k, hk, rfl⟩
    have := List.mem_range.mp hk
    omega
  · rintro ⟨h1, h2⟩
    exact ⟨(x - lo).toNat, List.mem_range.mpr (by omega), by omega⟩
theorem rI_nil {lo hi : Int} (h : hi ≤ lo) : rI lo hi = [] := List.length_eq_zero_iff.mp (by rw [rI_len]; omega)
theorem rI_get {lo hi : Int} {k : Nat} (h : k < (hi - lo).toNat) : (rI lo hi)[k]? = some (lo + k) := by simp [rI, h]
theorem rI_cons {lo hi : Int} (h : lo < hi) : rI lo hi = lo :: rI (lo + 1) hi := by
  apply List.ext_getElem?
  intro k
  cases k with
  | zero => rw [rI_get (by omega)]; simp
  | succ k =>
    rw [List.getElem?_cons_succ]
    by_cases hk : k + 1 < (hi - lo).toNat
    · rw [rI_get hk, rI_get (by omega)]; congr 1; omega
    · rw [List.getElem?_eq_none (by rw [rI_len]; omega), List.getElem?_eq_none (by rw [rI_len]; omega)]
theorem rI_split {lo mid hi : Int} (h1 : lo ≤ mid) (h2 : mid ≤ hi) : rI lo hi = rI lo mid ++ rI mid hi := by
  apply List.ext_getElem?
  intro k
  by_cases hk : k < (mid - lo).toNat
  · rw [List.getElem?_append_left (by rw [rI_len]; exact hk), rI_get hk, rI_get (by omega)]
  · rw [List.getElem?_append_right (by rw [rI_len]; omega), rI_len]
    by_cases hk2 : k < (hi - lo).toNat
    · rw [rI_get hk2, rI_get (by omega)]; congr 1; omega
    · rw [List.getElem?_eq_none (by rw [rI_len]; omega), List.getElem?_eq_none (by rw [rI_len]; omega)]
theorem rI_last {lo hi : Int} (h : lo < hi) : rI lo hi = rI lo (hi - 1) ++ [hi - 1] := by
  rw [rI_split (mid := hi - 1) (by omega) (by omega), rI_cons (lo := hi - 1) (by omega), rI_nil (lo := hi - 1 + 1) (by omega)]
theorem filter_rI {p : Int → Bool} {a b lo hi : Int} (h0 : a ≤ lo) (h1 : hi ≤ b) (h : ∀ x, a ≤ x → x < b → (p x = true ↔ lo ≤ x ∧ x < hi)) : (rI a b).filter p = rI lo hi := by
  by_cases hle : lo ≤ hi
  · rw [rI_split (lo := a) (mid := lo) (hi := b) h0 (by omega), rI_split (lo := lo) (mid := hi) (hi := b) hle h1, List.filter_append, List.filter_append]
    have e1 : (rI a lo).filter p = [] := List.filter_eq_nil_iff.mpr fun x hx hp => by
      have := mem_rI.mp hx
      have := (h x (by omega) (by omega)).mp hp
      omega
    have e2 : (rI lo hi).filter p = rI lo hi := List.filter_eq_self.mpr fun x hx => by
      have := mem_rI.mp hx
      exact (h x (by omega) (by omega)).mpr this
    have e3 : (rI hi b).filter p = [] := List.filter_eq_nil_iff.mpr fun x hx hp => by
      have := mem_rI.mp hx
      have := (h x (by omega) (by omega)).mp hp
      omega
    rw [e1, e2, e3]; simp
  · rw [rI_nil (lo := lo) (by omega)]
    exact List.filter_eq_nil_iff.mpr fun x hx hp => by
      have h2 := mem_rI.mp hx
      have := (h x h2.1 h2.2).mp hp
      omega
def nLo (c w : Int) : Int := if w ≤ c then max 0 (2 * w - c) else c + 1
def nHi (s c w : Int) : Int := if w ≤ c then c else min s (2 * w - c)
def needL (s c w : Int) : List Int := rI (nLo c w) (nHi s c w)
def nearer (a c w : Int) : Prop := (a - w).natAbs < (c - w).natAbs ∨ ((a - w).natAbs = (c - w).natAbs ∧ a < c)
instance (a c w : Int) : Decidable (nearer a c w) := by unfold nearer; infer_instance
theorem nearer_iff {s a c w : Int} (h0 : 0 ≤ a) (h1 : a < s) : nearer a c w ↔ nLo c w ≤ a ∧ a < nHi s c w := by
  unfold nearer nLo nHi
  split <;> omega
theorem need_eq {s c w : Int} (hc0 : 0 ≤ c) (hc : c < s) (hw : w < s) : (rI 0 s).filter (fun a => decide (nearer a c w)) = needL s c w := by
  refine filter_rI ?_ ?_ fun x h0 h1 => ?_
  · unfold nLo; split <;> omega
  · unfold nHi; split <;> omega
  · rw [decide_eq_true_eq]; exact nearer_iff h0 h1
end NS
namespace NS
open PySem PySem.Spec PyProof.Rows L2
theorem rngD_rI (lo hi : Int) : rngD lo hi = (rI lo hi).map .int := by simp [rngD, rI, Function.comp_def]
def sml (i : Int) : Prop := -1000 < i ∧ i < 1000
theorem needs_T {s c w : Int} (hs : sml s) (hc : sml c) (hw : sml w) : d_needs [.int s, .int c, .int w] = M.pure (.tup ((needL s c w).map .int)) := by
  have h : (nHi s c w - nLo c w).toNat < 1000000 := by unfold nHi nLo sml at *; split <;> omega
  unfold d_needs runD b_needs needL
  unfold sml at *
  rw [← rngD_rI]
  simp [startD]
  unfold nLo nHi at h ⊢
  by_cases hw2 : w ≤ c
  · simp only [hw2, if_true] at h ⊢
    rw [if_pos ⟨by omega, by omega, by omega, by omega, by omega⟩]
  · simp only [hw2, if_false] at h ⊢
    rw [if_pos ⟨by omega, by omega, by omega, by omega, by omega⟩]
theorem lneeds_T {s c w : Int} (hs : sml s) (hc : sml c) (hw : sml w) : d_Lneeds [.int s, .int c, .int w] = M.pure (.lst (((rI 0 s).filter (fun a => decide (nearer a c w))).map .int)) := by
  unfold d_Lneeds runD b_Lneeds
  unfold sml at *
  have hl : s.toNat < 1000000 := by omega
  simp [startD, hl]
  rw [rngD_rI, compM_pure (en := .int) (p := fun a => decide (nearer a c w)) (f := .int)]
  · rw [if_pos ⟨by omega, by omega⟩]; rfl
  · intro x hx
    refine ⟨_, rfl, ?_, ?_⟩
    · simp
      congr 1
      rw [← Bool.decide_and, ← Bool.decide_or]
      unfold nearer
      apply decide_eq_decide.mpr
      omega
    · intro _; simp
end NS
namespace NS
open PySem PySem.Spec PyProof.Rows L2
@[simp] theorem opt_if {α : Type} (c : Prop) [Decidable c] (a : α) : (M.opt (if c then some a else none) : M α) = if c then M.pure a else M.bad := by split <;> rfl
@[simp] theorem bind_pure' {α : Type} (x : M α) : M.bind x (fun a => M.pure a) = x := by
  funext g; unfold M.bind; cases x g <;> rfl
@[simp] theorem ownL_ow (ds : List D) : ownL (some (some (.ow (.lst ds)))) = some ds := rfl
@[simp] theorem ownD_ow (d : D) : ownD (some (some (.ow d))) = some d := rfl
@[simp] theorem sOwn_ap (i : Nat) (k : List D → D → Option (List D)) (fe : DS → M D) (σ : DS) : sOwn i k fe σ = M.bind (M.opt (ownL σ[i]?)) fun ds => M.bind (fe σ) fun d => M.bind (M.opt (k ds d)) fun ds' => M.pure (.nx (σ.set i (some (.ow (.lst ds'))))) := by
  unfold sOwn
  cases ownL σ[i]? with
  | none => rfl
  | some ds =>
    simp only [opt_some', pure_bind']
    congr 1; funext d
    cases k ds d <;> rfl
@[simp] theorem sOwnL_ap (i : Nat) (k : List D → List D → Option (List D)) (fl : DS → M (List D)) (σ : DS) : sOwnL i k fl σ = M.bind (M.opt (ownL σ[i]?)) fun ds => M.bind (fl σ) fun d => M.bind (M.opt (k ds d)) fun ds' => M.pure (.nx (σ.set i (some (.ow (.lst ds'))))) := by
  unfold sOwnL
  cases ownL σ[i]? with
  | none => rfl
  | some ds =>
    simp only [opt_some', pure_bind']
    congr 1; funext d
    cases k ds d <;> rfl
@[simp] theorem kApp_ap (ds : List D) (d : D) : kApp ds d = if fit ds.length = true then some (ds ++ [d]) else none := rfl
@[simp] theorem sRetO_ap (i : Nat) (σ : DS) : sRetO i σ = M.bind (M.opt (ownD σ[i]?)) fun d => M.pure (.rt d) := by
  unfold sRetO ownD
  rcases σ[i]? with _ | (_ | (d | d)) <;> rfl
@[simp] theorem sDPut_ap (j : Nat) (fe fi : DS → M D) (σ : DS) : sDPut' j fe fi σ = M.bind (fe σ) fun d => M.bind (M.opt (ownD σ[j]?)) fun x => M.bind (fi σ) fun i => M.bind (M.opt (dPut x i d)) fun x' => M.pure (.nx (σ.set j (some (.ow x')))) := by
  unfold sDPut'
  congr 1; funext d
  cases ownD σ[j]? with
  | none => rfl
  | some x =>
    simp only [opt_some', pure_bind']
    congr 1; funext i
    cases dPut x i d <;> rfl
@[simp] theorem dPut_pair (kvs : List (List Key × D)) (a b : Int) (v : D) : dPut (.dT kvs) (.tup [.int a, .int b]) v = if fit kvs.length = true then some (.dT (putD kvs [.inl a, .inl b] v)) else none := rfl
@[simp] theorem kIxD_pair (kvs : List (List Key × D)) (a b : Int) : kIxD (.dT kvs) (.tup [.int a, .int b]) = M.opt (valD kvs [.inl a, .inl b]) := rfl
@[simp] theorem kIxD_lst (xs : List D) (y : D) : kIxD (.lst xs) y = kIx (.lst xs) y := rfl
@[simp] theorem kIxD_tup (xs : List D) (y : D) : kIxD (.tup xs) y = kIx (.tup xs) y := rfl
@[simp] theorem kOfInts_cons (f : List Int → M D) (i : Int) (bs : List Int) : kOfInts f [.lst (.int i :: bs.map .int)] = f (i :: bs) := by rw [← List.map_cons, kOfInts_map]
@[simp] theorem minI_cons (i : Int) (l : List Int) : minI (i :: l) = some (l.foldl min i) := rfl
@[simp] theorem maxI_cons (i : Int) (l : List Int) : maxI (i :: l) = some (l.foldl max i) := rfl
theorem valD_cons {κ : Type} [DecidableEq κ] (x : κ × D) (xs : List (κ × D)) (k : κ) : valD (x :: xs) k = if x.1 = k then some x.2 else valD xs k := by
  unfold valD
  by_cases h : x.1 = k <;> simp [h]
theorem valD_map {κ : Type} [DecidableEq κ] {k k' : κ} {v : D} : ∀ kvs : List (κ × D), valD (kvs.map fun kv => if kv.1 = k then (kv.1, v) else kv) k' = if k = k' ∧ (kvs.any fun kv => decide (kv.1 = k)) = true then some v else valD kvs k'
  | [] => by simp [valD]
  | x :: xs => by
    rw [List.map_cons, valD_cons, valD_cons, valD_map xs]
    by_cases hx : x.1 = k
    · by_cases hk : k = k'
      · subst hk; simp [hx]
      · simp [hx, hk]
    · by_cases hk : k = k'
      · subst hk
        simp only [hx, if_false, List.any_cons, decide_false, Bool.false_or, true_and]
      · simp [hx, hk]
theorem valD_app {κ : Type} [DecidableEq κ] {k k' : κ} {v : D} : ∀ kvs : List (κ × D), (kvs.any fun kv => decide (kv.1 = k)) = false → valD (kvs ++ [(k, v)]) k' = if k = k' then some v else valD kvs k'
  | [], _ => by simp [valD_cons]
  | x :: xs, h => by
    simp only [List.any_cons, Bool.or_eq_false_iff, decide_eq_false_iff_not] at h
    rw [List.cons_append, valD_cons, valD_cons, valD_app xs h.2]
    by_cases hx : x.1 = k'
    · have : ¬ k = k' := fun e => h.1 (hx.trans e.symm)
      simp [hx, this]
    · simp [hx]
theorem valD_put {κ : Type} [DecidableEq κ] {kvs : List (κ × D)} {k k' : κ} {v : D} : valD (putD kvs k v) k' = if k = k' then some v else valD kvs k' := by
  unfold putD
  by_cases h : (kvs.any fun kv => decide (kv.1 = k)) = true
  · rw [if_pos h, valD_map]; simp [h]
  · rw [if_neg h, valD_app kvs (Bool.eq_false_iff.mpr h)]
theorem putD_len {κ : Type} [DecidableEq κ] (kvs : List (κ × D)) (k : κ) (v : D) : (putD kvs k v).length ≤ kvs.length + 1 := by
  unfold putD
  split <;> simp
theorem whileM_T (I : Nat → DS → G → Prop) {c : DS → M Bool} {b : DS → M Fl} {Q : Fl → G → Prop} (h : ∀ k σ g, I k σ g → T (c σ) g fun t g1 => (t = true → ∃ k', k = k' + 1 ∧ T (b σ) g1 fun fl g2 => match fl with
      | .nx σ' => I k' σ' g2
      | .ct σ' => I k' σ' g2
      | .bk σ' => Q (.nx σ') g2
      | .rt d => Q (.rt d) g2) ∧ (t = false → Q (.nx σ) g1)) : ∀ {n k : Nat} {σ : DS} {g : G}, I k σ g → k < n → T (whileM c b n σ) g Q
  | 0, k, σ, g, _, hn => by omega
  | n + 1, k, σ, g, h0, hn => by
    unfold whileM
    rw [T_bind]
    refine (h k σ g h0).imp fun t g1 h1 => ?_
    cases t with
    | false => simpa using h1.2 rfl
    | true =>
      obtain ⟨k', rfl, h2⟩ := h1.1 rfl
      simp only [if_true]
      rw [T_bind]
      refine h2.imp fun fl g2 h3 => ?_
      cases fl with
      | nx σ' => exact whileM_T I h h3 (by omega)
      | ct σ' => exact whileM_T I h h3 (by omega)
      | bk σ' => simpa using h3
      | rt d => simpa using h3
end NS
namespace NS
theorem rI_nodup (a b : Int) : (rI a b).Nodup := by
  unfold rI
  rw [List.nodup_iff_pairwise_ne, List.pairwise_map]
  exact (List.nodup_iff_pairwise_ne.mp List.nodup_range).imp fun h e => h (by omega)
theorem rI_sorted (a b : Int) : (rI a b).Pairwise (· < ·) := by
  unfold rI
  rw [List.pairwise_map]
  exact List.pairwise_lt_range.imp fun h => by omega
theorem rm_rI {a b l : Int} (h1 : a ≤ l) (h2 : l < b) : rm l (rI a b) = rI a l ++ rI (l + 1) b := by
  rw [rI_split (lo := a) (mid := l) (hi := b) h1 (by omega), rI_cons (lo := l) h2, rm_app]
  rw [rm_not (R := rI a l) (by rw [mem_rI]; omega)]
  congr 1
  have : rm l (l :: rI (l + 1) b) = rm l (rI (l + 1) b) := by simp [rm, List.filter_cons]
  rw [this, rm_not (by rw [mem_rI]; omega)]
theorem ct_map {f : Int → Int} {ok ok' : List Int → Int → Bool} {I : List Int} (hn : I.Nodup) (inj : ∀ x ∈ I, ∀ y ∈ I, f x = f y → x = y)
    (h : ∀ I' : List Int, (∀ x ∈ I', x ∈ I) → ∀ c ∈ I', ok (I'.map f) (f c) = ok' I' c) : ct ok (I.map f) = ct ok' I := by
  refine nodup_ind (P := fun J => (∀ x ∈ J, x ∈ I) → ct ok (J.map f) = ct ok' J) ?_ hn fun _ h => h
  intro J hJ ih hs
  by_cases e : J = []
  · subst e; rfl
  have hm : (J.map f).Nodup := by
    rw [List.nodup_iff_pairwise_ne, List.pairwise_map]
    refine (List.Pairwise.imp_of_mem ?_ (List.nodup_iff_pairwise_ne.mp hJ))
    intro a b ha hb ne e2
    exact ne (inj a (hs a ha) b (hs b hb) e2)
  rw [ct_step ok hm (by simpa using e), ct_step ok' hJ e, sg_map]
  refine sg_congr fun c hc => ?_
  rw [h J hs c hc]
  have er : rm (f c) (J.map f) = (rm c J).map f := by
    unfold rm
    rw [List.filter_map]
    congr 1
    refine List.filter_congr fun x hx => ?_
    by_cases e2 : x = c
    · subst e2; simp
    · have e4 : f x ≠ f c := fun e3 => e2 (inj x (hs x hx) c (hs c hc) e3)
      show (f x != f c) = (x != c)
      rw [bne_iff_ne.mpr e4, bne_iff_ne.mpr e2]
  rw [er, ih c hc fun x hx => hs x (rm_sub _ _ _ hx)]
section
variable {nd : Int → Int → Bool}
def Iv (nd : Int → Int → Bool) : Prop := ∀ c d e, nd c d = true → (c < e ∧ e < d ∨ d < e ∧ e < c) → nd c e = true
def pt (nd : Int → Int → Bool) (n a b : Int) : Nat := ct (okW nd (rI 0 n)) (rI a b)
theorem pt_nil (nd : Int → Int → Bool) (n a : Int) : pt nd n a a = 1 := by unfold pt; rw [rI_nil (Int.le_refl _)]; rfl
theorem pt_step (iv : Iv nd) {n a b : Int} (h0 : 0 ≤ a) (h1 : a < b) (h2 : b ≤ n) :
    pt nd n a b = sg (rI a b) fun l => if okW nd (rI 0 n) (rI a b) l = true then ch (b - a - 1).toNat (l - a).toNat * (pt nd n a l * pt nd n (l + 1) b) else 0 := by
  have ne : rI a b ≠ [] := by rw [rI_cons h1]; simp
  unfold pt
  rw [ct_step _ (rI_nodup a b) ne]
  refine sg_congr fun l hl => ?_
  have hl := mem_rI.mp hl
  by_cases c : okW nd (rI 0 n) (rI a b) l = true
  · rw [if_pos c, if_pos c, rm_rI hl.1 hl.2]
    have hd : (rI a l ++ rI (l + 1) b).Nodup := by rw [← rm_rI hl.1 hl.2]; exact rm_nodup (rI_nodup a b)
    rw [ct_apart hd, rI_len, rI_len, show (l - a).toNat + (b - (l + 1)).toNat = (b - a - 1).toNat by omega]
    · intro A' B' hA hB c hc
      refine bool_iff ?_
      rw [okW_iff, okW_iff]
      constructor
      · intro h d hd n
        rcases List.mem_append.mp (h d hd n) with h' | h'
        · exact h'
        · exfalso
          have c1 := mem_rI.mp (hA c hc)
          have d1 := mem_rI.mp (hB d h')
          have nl := iv c d l n (.inl ⟨by omega, by omega⟩)
          rcases List.mem_append.mp (h l (mem_rI.mpr ⟨by omega, by omega⟩) nl) with h3 | h3
          · have := mem_rI.mp (hA l h3); omega
          · have := mem_rI.mp (hB l h3); omega
      · intro h d hd n; exact List.mem_append_left _ (h d hd n)
    · intro A' B' hA hB c hc
      refine bool_iff ?_
      rw [okW_iff, okW_iff]
      constructor
      · intro h d hd n
        rcases List.mem_append.mp (h d hd n) with h' | h'
        · exfalso
          have c1 := mem_rI.mp (hB c hc)
          have d1 := mem_rI.mp (hA d h')
          have nl := iv c d l n (.inr ⟨by omega, by omega⟩)
          rcases List.mem_append.mp (h l (mem_rI.mpr ⟨by omega, by omega⟩) nl) with h3 | h3
          · have := mem_rI.mp (hA l h3); omega
          · have := mem_rI.mp (hB l h3); omega
        · exact h'
      · intro h d hd n; exact List.mem_append_right _ (h d hd n)
  · rw [if_neg c, if_neg c]
theorem pt_all (irr : ∀ c, nd c c = false) (n : Int) : pt nd n 0 n = LE nd (rI 0 n) := LE_W irr (rI_nodup 0 n)
theorem max_of {R : List Int} {P : Int → Prop} (h : ∃ c ∈ R, P c) : ∃ c ∈ R, P c ∧ ∀ e ∈ R, P e → e ≤ c := by
  induction R with
  | nil => obtain ⟨c, hc, _⟩ := h; cases hc
  | cons x R ih =>
    by_cases hR : ∃ c ∈ R, P c
    · obtain ⟨c, hc, p, m⟩ := ih hR
      by_cases hx : P x ∧ c < x
      · refine ⟨x, List.mem_cons_self, hx.1, fun e he pe => ?_⟩
        rcases List.mem_cons.mp he with rfl | he
        · exact Int.le_refl _
        · have := m e he pe; omega
      · refine ⟨c, List.mem_cons_of_mem _ hc, p, fun e he pe => ?_⟩
        rcases List.mem_cons.mp he with rfl | he
        · apply Classical.byContradiction; intro hh; exact hx ⟨pe, by omega⟩
        · exact m e he pe
    · obtain ⟨c, hc, p⟩ := h
      rcases List.mem_cons.mp hc with rfl | hc
      · refine ⟨c, List.mem_cons_self, p, fun e he pe => ?_⟩
        rcases List.mem_cons.mp he with rfl | he
        · exact Int.le_refl _
        · exact absurd ⟨e, he, pe⟩ hR
      · exact absurd ⟨c, hc, p⟩ hR
theorem min_of {R : List Int} {P : Int → Prop} (h : ∃ c ∈ R, P c) : ∃ c ∈ R, P c ∧ ∀ e ∈ R, P e → c ≤ e := by
  obtain ⟨c, hc, p⟩ := h
  obtain ⟨d, hd, q, m⟩ := max_of (R := R.map fun x => -x) (P := fun x => P (-x)) ⟨-c, List.mem_map.mpr ⟨c, hc, rfl⟩, by simpa using p⟩
  obtain ⟨x, hx, rfl⟩ := List.mem_map.mp hd
  refine ⟨x, hx, by simpa using q, fun e he pe => ?_⟩
  have := m (-e) (List.mem_map.mpr ⟨e, he, rfl⟩) (by simpa using pe)
  omega
def Os (nd : Int → Int → Bool) : Prop := ∀ c d e, nd c d = true → nd c e = true → (d < c ↔ e < c)
def Nm (nd : Int → Int → Bool) (R : List Int) : Prop := ∀ c ∈ R, ∀ d ∈ R, ¬ (nd c d = true ∧ nd d c = true)
theorem Nm.sub {R S : List Int} (h : Nm nd R) (hs : ∀ x ∈ S, x ∈ R) : Nm nd S := fun c hc d hd => h c (hs c hc) d (hs d hd)
theorem some_ready (irr : ∀ c, nd c c = false) (iv : Iv nd) (os : Os nd) {R : List Int} (hR : R ≠ []) (nm : Nm nd R) : ∃ c ∈ R, okF nd R c = true := by
  apply Classical.byContradiction
  intro hh
  have all : ∀ c ∈ R, ∃ d ∈ R, nd c d = true := by
    intro c hc
    apply Classical.byContradiction
    intro h2
    refine hh ⟨c, hc, okF_iff.mpr fun d hd => ?_⟩
    cases e : nd c d
    · rfl
    · exact absurd ⟨d, hd, e⟩ h2
  obtain ⟨m, hm, _, mm⟩ := min_of (R := R) (P := fun _ => True) (by cases R; exact absurd rfl hR; exact ⟨_, List.mem_cons_self, trivial⟩)
  obtain ⟨d0, hd0, n0⟩ := all m hm
  have ne0 : d0 ≠ m := by rintro rfl; rw [irr] at n0; cases n0
  obtain ⟨c, hc, ⟨d, hd, lt, nc⟩, mx⟩ := max_of (R := R) (P := fun c => ∃ d ∈ R, c < d ∧ nd c d = true) ⟨m, hm, d0, hd0, by have := mm d0 hd0 trivial; omega, n0⟩
  obtain ⟨d', hd', lt', mn⟩ := min_of (R := R) (P := fun d => c < d) ⟨d, hd, lt⟩
  have nc' : nd c d' = true := by
    have := mn d hd lt
    by_cases e : d' = d
    · rw [e]; exact nc
    · exact iv c d d' nc (.inl ⟨lt', by omega⟩)
  obtain ⟨e, he, ne⟩ := all d' hd'
  have ned : e ≠ d' := by rintro rfl; rw [irr] at ne; cases ne
  have le : e ≤ c := by
    by_cases h1 : d' < e
    · have := mx d' hd' ⟨e, he, h1, ne⟩; omega
    · apply Classical.byContradiction
      intro h2
      have := mn e he (by omega); omega
  have ne' : nd d' c = true := by
    by_cases h1 : e = c
    · rw [← h1]; exact ne
    · exact iv d' e c ne (.inr ⟨by omega, lt'⟩)
  exact nm c hc d' hd' ⟨nc', ne'⟩
theorem LE_pos (irr : ∀ c, nd c c = false) (iv : Iv nd) (os : Os nd) {R : List Int} (hn : R.Nodup) (nm : Nm nd R) : 0 < LE nd R := by
  refine nodup_ind (P := fun R => Nm nd R → 0 < LE nd R) ?_ hn nm
  intro R hn ih nm
  by_cases e : R = []
  · subst e; simp [LE]
  obtain ⟨c, hc, ok⟩ := some_ready irr iv os e nm
  rw [LE_first hn e]
  have p := ih c hc (nm.sub (rm_sub c R))
  apply Nat.pos_of_ne_zero
  intro h
  have := sg_zero_iff.mp h c hc
  rw [if_pos ok] at this; omega
theorem LE_zero {R : List Int} (hn : R.Nodup) (m : ¬ Nm nd R) : LE nd R = 0 := by
  refine nodup_ind (P := fun R => ¬ Nm nd R → LE nd R = 0) ?_ hn m
  intro R hn ih m
  obtain ⟨c, hc, d, hd, h1, h2⟩ : ∃ c ∈ R, ∃ d ∈ R, nd c d = true ∧ nd d c = true := by
    apply Classical.byContradiction
    intro hh
    exact m fun c hc d hd h => hh ⟨c, hc, d, hd, h⟩
  rw [LE_first hn (by rintro rfl; cases hc)]
  refine sg_zero fun x hx => ?_
  by_cases ok : okF nd R x = true
  · rw [if_pos ok]
    refine ih x hx fun nm => ?_
    have nc : c ≠ x := by rintro rfl; have := okF_iff.mp ok d hd; rw [h1] at this; cases this
    have nd' : d ≠ x := by rintro rfl; have := okF_iff.mp ok c hc; rw [h2] at this; cases this
    exact nm c (mem_rm.mpr ⟨hc, nc⟩) d (mem_rm.mpr ⟨hd, nd'⟩) ⟨h1, h2⟩
  · rw [if_neg ok]
theorem LE_pos_iff (irr : ∀ c, nd c c = false) (iv : Iv nd) (os : Os nd) {R : List Int} (hn : R.Nodup) : 0 < LE nd R ↔ Nm nd R :=
  ⟨fun h => Classical.byContradiction fun m => by rw [LE_zero hn m] at h; omega, LE_pos irr iv os hn⟩
def fct : Nat → Nat
  | 0 => 1
  | n + 1 => (n + 1) * fct n
theorem ct_le {ok : List Int → Int → Bool} {R : List Int} (hn : R.Nodup) : ct ok R ≤ fct R.length := by
  refine nodup_ind (P := fun R => ct ok R ≤ fct R.length) ?_ hn
  intro R hn ih
  by_cases e : R = []
  · subst e; simp [fct]
  rw [ct_step _ hn e]
  obtain ⟨k, hk⟩ : ∃ k, R.length = k + 1 := by cases R; exact absurd rfl e; exact ⟨_, rfl⟩
  refine Nat.le_trans (sg_le (g := fun _ => fct k) fun a ha => ?_) (by rw [sg_const, hk]; exact Nat.le_refl _)
  have := rm_len hn ha
  have := ih a ha
  rw [show (rm a R).length = k by omega] at this
  split <;> omega
theorem fct_mono {n m : Nat} (h : n ≤ m) : fct n ≤ fct m := by
  induction h with
  | refl => exact Nat.le_refl _
  | step _ ih => refine Nat.le_trans ih ?_; rw [fct]; exact Nat.le_mul_of_pos_left _ (by omega)
end
end NS
namespace NS
open PySem PySem.Spec PyProof.Rows L2
def Is {α : Type} (x : M α) (v : α) : Prop := ∀ g, Gpur g = true → x g = .ok v g
theorem Is.T {α : Type} {x : M α} {v : α} (h : Is x v) {g : G} (hg : Gpur g = true) {Q : α → G → Prop} : NS.T x g Q ↔ Q v g := T_ok (h g hg)
theorem Is.of_T {α : Type} {x : M α} {v : α} (h : ∀ g, Gpur g = true → NS.T x g (fun a g' => a = v ∧ g' = g)) : Is x v := fun g hg => by
  obtain ⟨a, g', e, rfl, rfl⟩ := h g hg; exact e
theorem compM2_pure {fg : D → DS → M DS} {ft : DS → M Bool} {fi1 : DS → M (List D)} {vs1 : List Nat} {fg1 : D → DS → M DS} {ft1 : DS → M Bool} {fe : DS → M D} {σ : DS} {α : Type} {en : α → D} {p : α → Bool} {f : α → List D} : ∀ {xs : List α},
    (∀ x ∈ xs, ∃ σ1, fg (en x) σ = M.pure σ1 ∧ ft σ1 = M.pure (p x) ∧ (p x = true → ∃ es, fi1 σ1 = M.pure es ∧ compM fg1 ft1 fe (wipeD σ1 vs1) es = M.pure (f x))) → compM2 fg ft fi1 vs1 fg1 ft1 fe σ (xs.map en) = M.pure ((xs.filter p).flatMap f)
  | [], _ => rfl
  | x :: xs, h => by
    obtain ⟨σ1, e1, e2, e3⟩ := h x List.mem_cons_self
    have ih := compM2_pure (fg := fg) (ft := ft) (fi1 := fi1) (vs1 := vs1) (fg1 := fg1) (ft1 := ft1) (fe := fe) (σ := σ) (en := en) (p := p) (f := f) (xs := xs) fun y hy => h y (List.mem_cons_of_mem _ hy)
    show M.bind (fg (en x) σ) _ = _
    rw [e1, pure_bind', e2]
    simp only [noerr_pure', pure_bind']
    cases hp : p x with
    | true =>
      obtain ⟨es, h1, h2⟩ := e3 hp
      rw [h1, ih]; simp [h2, hp]
    | false => rw [ih]; simp [hp]
theorem filt_true {α : Type} (l : List α) : l.filter (fun _ => true) = l := List.filter_eq_self.mpr (by simp)
theorem compM_all {fg : D → DS → M DS} {ft : DS → M Bool} {fe : DS → M D} {σ : DS} {α : Type} {en : α → D} {f : α → D} {xs : List α}
    (h : ∀ x ∈ xs, ∃ σ1, fg (en x) σ = M.pure σ1 ∧ ft σ1 = M.pure true ∧ fe σ1 = M.pure (f x)) : compM fg ft fe σ (xs.map en) = M.pure (xs.map f) := by
  have := compM_pure (fg := fg) (ft := ft) (fe := fe) (σ := σ) (en := en) (p := fun _ => true) (f := f) (xs := xs) fun x hx => by
    obtain ⟨σ1, h1, h2, h3⟩ := h x hx; exact ⟨σ1, h1, h2, fun _ => h3⟩
  rw [filt_true] at this; exact this
theorem compM2_all {fg : D → DS → M DS} {ft : DS → M Bool} {fi1 : DS → M (List D)} {vs1 : List Nat} {fg1 : D → DS → M DS} {ft1 : DS → M Bool} {fe : DS → M D} {σ : DS} {α : Type} {en : α → D} {f : α → List D} {xs : List α}
    (h : ∀ x ∈ xs, ∃ σ1, fg (en x) σ = M.pure σ1 ∧ ft σ1 = M.pure true ∧ ∃ es, fi1 σ1 = M.pure es ∧ compM fg1 ft1 fe (wipeD σ1 vs1) es = M.pure (f x)) : compM2 fg ft fi1 vs1 fg1 ft1 fe σ (xs.map en) = M.pure (xs.flatMap f) := by
  have := compM2_pure (fg := fg) (ft := ft) (fi1 := fi1) (vs1 := vs1) (fg1 := fg1) (ft1 := ft1) (fe := fe) (σ := σ) (en := en) (p := fun _ => true) (f := f) (xs := xs) fun x hx => by
    obtain ⟨σ1, h1, h2, h3⟩ := h x hx; exact ⟨σ1, h1, h2, fun _ => h3⟩
  rw [filt_true] at this; exact this
theorem eqF_int (i j : Int) : eqF (.int i) (.int j) = (i == j) := rfl
theorem inF_ints (x : Int) (xs : List Int) : inF (.int x) (xs.map .int) = xs.contains x := by
  unfold inF
  rw [List.any_map]
  induction xs with
  | nil => rfl
  | cons y ys ih => simp only [List.any_cons, ih, List.contains_cons, Function.comp_apply, eqF_int]; rw [Bool.beq_comm]
theorem flat_ints (xs : List Int) : (xs.map D.int).all D.flat = true := by simp [D.flat]
theorem kInF_ints (x : Int) (xs : List Int) : kInF (.int x) (xs.map .int) = some (xs.contains x) := by
  unfold kInF; rw [if_pos ⟨rfl, flat_ints xs⟩, inF_ints]
theorem inD_lst_ints (x : Int) (xs : List Int) : inD (.int x) (.lst (xs.map .int)) = some (xs.contains x) := by
  show (match kInF (.int x) (xs.map .int) with | some b => some b | none => kInP (.int x) (xs.map .int)) = _
  rw [kInF_ints]
@[simp] theorem kIn_lst_ints (x : Int) (xs : List Int) : kIn (.int x) (.lst (xs.map .int)) = M.pure (.bl (xs.contains x)) := by
  unfold kIn; rw [inD_lst_ints]; rfl
@[simp] theorem kNotIn_lst_ints (x : Int) (xs : List Int) : kNotIn (.int x) (.lst (xs.map .int)) = M.pure (.bl (!xs.contains x)) := by
  unfold kNotIn; rw [inD_lst_ints]; rfl
theorem inD_tup_ints (x : Int) (xs : List Int) : inD (.int x) (.tup (xs.map .int)) = some (xs.contains x) := kInF_ints x xs
@[simp] theorem kIn_tup_ints (x : Int) (xs : List Int) : kIn (.int x) (.tup (xs.map .int)) = M.pure (.bl (xs.contains x)) := by
  unfold kIn; rw [inD_tup_ints]; rfl
@[simp] theorem kNotIn_tup_ints (x : Int) (xs : List Int) : kNotIn (.int x) (.tup (xs.map .int)) = M.pure (.bl (!xs.contains x)) := by
  unfold kNotIn; rw [inD_tup_ints]; rfl
inductive Ent where
  | e | u | w (i : Int)
deriving DecidableEq
def Ent.d : Ent → D
  | .e => .non | .u => .str "?" | .w i => .int i
abbrev Tab := List Ent
def Tb (x : D) (t : Tab) : Prop := x = .tup (t.map Ent.d) ∨ x = .lst (t.map Ent.d) ∨ x = .ftup (t.map Ent.d)
@[simp] theorem kLen_ft (xs : List D) : kLen [.ftup xs] = M.pure (.int (xs.length : Int)) := rfl
@[simp] theorem kIx_ft (xs : List D) (i : Int) : kIx (.ftup xs) (.int i) = M.opt (L2.atI xs i) := rfl
@[simp] theorem enumK_ft (xs : List D) : enumK [.ftup xs] = M.pure (enumD xs) := rfl
def Sq (x : D) (R : List Int) : Prop := x = .tup (R.map .int) ∨ x = .lst (R.map .int)
def ent (t : Tab) (c : Int) : Ent := if c < 0 then .e else (t[c.toNat]?).getD .e
def tn (t : Tab) : Int := t.length
theorem ent_lt {t : Tab} {c : Int} (h : ent t c ≠ .e) : 0 ≤ c ∧ c < tn t := by
  unfold ent at h
  split at h
  · exact absurd rfl h
  · refine ⟨by omega, ?_⟩
    apply Classical.byContradiction
    intro hh
    unfold tn at hh
    rw [List.getElem?_eq_none (by omega)] at h
    exact h rfl
theorem ent_get {t : Tab} {c : Int} (h0 : 0 ≤ c) (h1 : c < tn t) : t[c.toNat]? = some (ent t c) := by
  unfold tn at h1
  unfold ent
  rw [if_neg (by omega)]
  rw [List.getElem?_eq_getElem (by omega)]; rfl
theorem atI_tab {t : Tab} {c : Int} (h0 : 0 ≤ c) (h1 : c < tn t) : L2.atI (t.map Ent.d) c = some (ent t c).d := by
  obtain ⟨k, rfl⟩ := Int.eq_ofNat_of_zero_le h0
  refine atI_nat ?_
  have := ent_get h0 h1
  simp at this ⊢
  rw [this]; exact ⟨_, rfl, rfl⟩
theorem enumD_tab (t : Tab) : enumD (t.map Ent.d) = (rI 0 (tn t)).map fun c => .tup [.int c, (ent t c).d] := by
  apply List.ext_getElem?
  intro k
  by_cases hk : k < t.length
  · have h1 := ent_get (t := t) (c := k) (by omega) (by unfold tn; omega)
    simp at h1
    rw [enumD_get (d := (ent t k).d) (by simp [h1]), List.getElem?_map, rI_get (by unfold tn; omega)]
    simp
  · rw [List.getElem?_eq_none (by rw [enumD_len]; simp; omega), List.getElem?_eq_none (by simp [tn]; omega)]
structure Tok (t : Tab) : Prop where
  len : t.length ≤ 12
  wish : ∀ c v, ent t c = .w v → 0 ≤ v ∧ v < tn t
def takenI (t : Tab) : List Int := (rI 0 (tn t)).filter fun c => ent t c != .e
theorem mem_taken {t : Tab} {c : Int} : c ∈ takenI t ↔ ent t c ≠ .e := by
  unfold takenI
  simp only [List.mem_filter, mem_rI, bne_iff_ne]
  exact ⟨fun h => h.2, fun h => ⟨ent_lt h, h⟩⟩
theorem taken_nodup (t : Tab) : (takenI t).Nodup := (rI_nodup _ _).filter _
theorem taken_sorted (t : Tab) : (takenI t).Pairwise (· < ·) := (rI_sorted _ _).filter _
theorem taken_len (t : Tab) : (takenI t).length ≤ t.length := by
  refine Nat.le_trans (List.length_filter_le _ _) ?_
  simp [tn]
def nd (t : Tab) (c d : Int) : Bool := match ent t c with
  | .w v => decide (nLo c v ≤ d ∧ d < nHi (tn t) c v)
  | _ => false
def needI (t : Tab) (c : Int) : List Int := match ent t c with
  | .w v => needL (tn t) c v
  | _ => []
theorem mem_need {t : Tab} {c d : Int} : d ∈ needI t c ↔ nd t c d = true := by
  unfold needI nd
  cases ent t c with
  | w v => simp [needL, mem_rI]
  | _ => simp
theorem contains_need (t : Tab) (c d : Int) : (needI t c).contains d = nd t c d := bool_iff (by rw [List.contains_iff_mem, mem_need])
theorem nd_lt {t : Tab} (ok : Tok t) {c d : Int} (h : nd t c d = true) : 0 ≤ d ∧ d < tn t := by
  unfold nd at h
  cases e : ent t c with
  | w v =>
    rw [e] at h
    have h := of_decide_eq_true h
    have hw := ok.wish c v e
    have hc := ent_lt (t := t) (c := c) (by rw [e]; simp)
    unfold nLo nHi at h
    split at h <;> omega
  | _ => rw [e] at h; cases h
theorem nd_irr (t : Tab) (c : Int) : nd t c c = false := by
  unfold nd
  cases ent t c with
  | w v => simp; unfold nLo nHi; split <;> omega
  | _ => rfl
theorem nd_iv (t : Tab) : Iv (nd t) := by
  intro c d e h b
  unfold nd at h ⊢
  cases e1 : ent t c with
  | w v =>
    rw [e1] at h
    have h := of_decide_eq_true h
    refine decide_eq_true ?_
    unfold nLo nHi at h ⊢
    split at h <;> simp only [*, if_true, if_false] <;> omega
  | _ => rw [e1] at h; cases h
theorem nd_os (t : Tab) : Os (nd t) := by
  intro c d e h h2
  unfold nd at h h2
  cases e1 : ent t c with
  | w v =>
    rw [e1] at h h2
    have h := of_decide_eq_true h
    have h2 := of_decide_eq_true h2
    unfold nLo nHi at h h2
    split at h <;> simp only [*, if_true, if_false] at h2 <;> omega
  | _ => rw [e1] at h; cases h
theorem nd_taken {t : Tab} {c d : Int} (h : nd t c d = true) : ent t c ≠ .e := by
  unfold nd at h
  intro e; rw [e] at h; cases h
@[simp] theorem isN_ent (x : Ent) : D.isN x.d = (x == .e) := by cases x <;> rfl
theorem kEq_ent_u (x : Ent) : kEq x.d (.str "?") = M.pure (.bl (x == .u)) := by
  have hs : PyData.strOk "?" = true := by decide +kernel
  cases x with
  | e => exact (kEq_pl 0 0 (by rfl) (by simpa using hs)).trans rfl
  | u => exact (kEq_pl 0 0 (by simpa [Ent.d] using hs) (by simpa using hs)).trans (by simp [Ent.d])
  | w i => exact (kEq_pl 0 0 (by rfl) (by simpa using hs)).trans (by simp [Ent.d]; rfl)
theorem taken_T {x : D} {t : Tab} (h : Tb x t) (hl : t.length ≤ 12) : d_taken [x] = M.pure (.lst ((takenI t).map .int)) := by
  have key : compM (gNs [1, 2]) (eTst (eBin kIsNot (eVar 2) (eC .non))) (eVar 1) [some (.sh x), none, none] (enumD (t.map Ent.d)) = M.pure ((takenI t).map .int) := by
    rw [enumD_tab, compM_pure (en := fun c => .tup [.int c, (ent t c).d]) (p := fun c => ent t c != .e) (f := .int)]
    · rfl
    · intro c hc
      refine ⟨_, rfl, ?_, fun _ => rfl⟩
      simp [bne]
  rcases h with rfl | rfl | rfl <;> (unfold d_taken runD b_taken; simp [startD, enumD_len, key]; omega)
theorem need_of_T {x : D} {t : Tab} (h : Tb x t) (ok : Tok t) {c : Int} (hc : ent t c ≠ .e) : d_need_of [x, .int c] = M.pure (.tup ((needI t c).map .int)) := by
  obtain ⟨h0, h1⟩ := ent_lt hc
  have hl := ok.len
  have hn : tn t ≤ 12 := by unfold tn; omega
  have e1 := atI_tab h0 h1
  unfold needI
  have fin : ∀ σ : DS, (if ent t c = .u then (M.pure (.tup []) : M D) else d_needs [.int (t.length : Int), .int c, (ent t c).d]) = M.pure (.tup ((match ent t c with | .w v => needL (tn t) c v | _ => []).map .int)) := by
    intro σ
    cases e : ent t c with
    | e => exact absurd e hc
    | u => rfl
    | w v =>
      have := ok.wish c v e
      rw [if_neg (by simp)]
      exact needs_T ⟨by omega, by omega⟩ ⟨by omega, by omega⟩ ⟨by omega, by omega⟩
  rcases h with rfl | rfl | rfl <;> (unfold d_need_of runD b_need_of; simp [startD, e1, kEq_ent_u]; exact fin [])
end NS
namespace NS
open PySem PySem.Spec PyProof.Rows L2
def pr (p : Int × Int) : D := .tup [.int p.1, .int p.2]
def gapOf (t : Tab) (c : Int) : List Int := (needI t c).filter fun d => ent t d == .e
def gapI (t : Tab) : List (Int × Int) := (takenI t).flatMap fun c => (gapOf t c).map fun d => (c, d)
theorem need_len {t : Tab} (ok : Tok t) (c : Int) : (needI t c).length ≤ 12 := by
  have := ok.len
  unfold needI
  cases e : ent t c with
  | w v =>
    have hw := ok.wish c v e
    have hc := ent_lt (t := t) (c := c) (by rw [e]; simp)
    simp only [needL, rI_len]
    unfold nLo nHi tn at *
    split <;> omega
  | _ => simp
theorem tl_le {t : Tab} (ok : Tok t) : (takenI t).length ≤ 12 := Nat.le_trans (taken_len t) ok.len
theorem flatMap_len {α β : Type} {l : List α} {f : α → List β} {k : Nat} (h : ∀ a ∈ l, (f a).length ≤ k) : (l.flatMap f).length ≤ l.length * k := by
  induction l with
  | nil => simp
  | cons a l ih =>
    have := h a List.mem_cons_self
    have := ih fun b hb => h b (List.mem_cons_of_mem _ hb)
    rw [List.flatMap_cons, List.length_append, List.length_cons, Nat.add_mul]; omega
theorem gap_len {t : Tab} (ok : Tok t) : (gapI t).length ≤ 144 := by
  refine Nat.le_trans (flatMap_len (k := 12) fun c hc => ?_) (by have := tl_le ok; omega)
  rw [List.length_map]
  exact Nat.le_trans (List.length_filter_le _ _) (need_len ok c)
theorem gaps_T {x : D} {t : Tab} (h : Tb x t) (ok : Tok t) : d_gaps [x] = M.pure (.lst ((gapI t).map pr)) := by
  have hl := ok.len
  have e1 : ∀ σ3 σ4 σ2 σ1, compM (gN 3) tYesD (eArgs mkT (lCons (eVar 3) (lCons (eComp (iSeq (eArgs (callN 2 d_need_of) (lCons (eVar 0) (lCons (eVar 3) lNil)))) [2] (gN 2) (eTst (eBin kIs (eBin kIx (eVar 0) (eVar 2)) (eC .non))) (eVar 2)) lNil))) [some (.sh x), σ1, σ2, σ3, σ4] ((takenI t).map .int)
      = M.pure ((takenI t).map fun c => .tup [.int c, .lst ((gapOf t c).map .int)]) := by
    intro σ3 σ4 σ2 σ1
    refine compM_all ?_
    · intro c hc
      have hc := mem_taken.mp hc
      refine ⟨_, rfl, rfl, ?_⟩
      have h2 := need_len ok c
      have e2 : compM (gN 2) (eTst (eBin kIs (eBin kIx (eVar 0) (eVar 2)) (eC .non))) (eVar 2) [some (.sh x), σ1, none, some (.sh (.int c)), σ4] ((needI t c).map .int) = M.pure ((gapOf t c).map .int) := by
        rw [compM_pure (p := fun d => ent t d == .e) (f := .int)]
        · rfl
        · intro d hd
          obtain ⟨d0, d1⟩ := nd_lt ok (mem_need.mp hd)
          refine ⟨_, rfl, ?_, fun _ => rfl⟩
          rcases h with rfl | rfl | rfl <;> simp [atI_tab d0 d1]
      simp [need_of_T h ok hc, e2]
      omega
  have e3 : compM2 (gNs [3, 4]) tYesD (iSeq (eVar 4)) [2] (gN 2) tYesD (eArgs mkT (lCons (eVar 3) (lCons (eVar 2) lNil))) [some (.sh x), some (.sh (.lst ((takenI t).map fun c => .tup [.int c, .lst ((gapOf t c).map .int)]))), none, none, none] ((takenI t).map fun c => .tup [.int c, .lst ((gapOf t c).map .int)]) = M.pure ((gapI t).map pr) := by
    rw [compM2_all (f := fun c => (gapOf t c).map fun d => pr (c, d))]
    · simp [gapI, List.map_flatMap, Function.comp_def]
    · intro c hc
      refine ⟨_, rfl, rfl, (gapOf t c).map .int, rfl, ?_⟩
      exact compM_all fun d hd => ⟨_, rfl, rfl, rfl⟩
  unfold d_gaps runD b_gaps
  have := tl_le ok
  have := gap_len ok
  simp [startD, taken_T h hl, e1, e3]
  repeat rw [if_pos (by omega)]
theorem ch_le12 {n : Nat} (h : n ≤ 12) (k : Nat) : ch n k ≤ 4096 := by
  have all : ∀ n, n < 13 → ∀ k, k < 13 → ch n k ≤ 4096 := by decide +kernel
  by_cases hk : k ≤ n
  · exact all n (by omega) k (by omega)
  · rw [ch_big (by omega)]; omega
theorem ch_next (n i : Nat) : (ch n i : Int) * ((n : Int) - i) / ((i : Int) + 1) = ch n (i + 1) := by
  by_cases h : i ≤ n
  · have e := ch_succ n i
    have e2 : (ch n i : Int) * ((n : Int) - i) = (ch n (i + 1) : Int) * ((i : Int) + 1) := by
      have e3 : ((ch n (i + 1) * (i + 1) : Nat) : Int) = ((ch n i * (n - i) : Nat) : Int) := by rw [e]
      rw [Int.natCast_mul, Int.natCast_mul, Int.natCast_add, Int.natCast_sub h] at e3
      exact e3.symm
    rw [e2, Int.mul_ediv_cancel _ (by omega)]
  · rw [ch_big (by omega), ch_big (by omega)]; simp
theorem choose_T {n k : Nat} (hn : n ≤ 12) (hk : k ≤ 12) : Is (d_choose [.int (n : Int), .int (k : Int)]) (.int (ch n k : Nat)) := by
  refine Is.of_T fun g hg => runD_T ?_
  unfold b_choose
  generalize hn' : (n : Int) = n'
  generalize hk' : (k : Int) = k'
  simp -implicitDefEqProofs [startD]
  refine ⟨by omega, by omega, ?_⟩
  refine forM_T (fun i σ g' => (∃ x, σ = [some (.sh (.int n')), some (.sh (.int k')), some (.sh (.int (ch n i : Nat))), x]) ∧ g' = g) (n := 0) ?_ ⟨⟨none, by simp⟩, rfl⟩ ?_
  · rintro i d σ g' e ⟨⟨x, rfl⟩, rfl⟩
    obtain ⟨rfl, h1⟩ := rngD_get e
    simp
    subst hn'
    exact ⟨.inr ⟨by omega, by omega⟩, by omega, ch_next n i⟩
  · rintro σ g' ⟨⟨x, rfl⟩, rfl⟩
    subst hk'
    simp
def gI (R : List Int) (k : Int) : Int := (R[k.toNat]?).getD 0
theorem gI_some {R : List Int} {k : Int} (h0 : 0 ≤ k) (h1 : k < R.length) : R[k.toNat]? = some (gI R k) := by
  unfold gI; rw [List.getElem?_eq_getElem (by omega)]; rfl
theorem gI_mem {R : List Int} {k : Int} (h0 : 0 ≤ k) (h1 : k < R.length) : gI R k ∈ R := List.mem_of_getElem? (gI_some h0 h1)
theorem enumD_ints (R : List Int) : enumD (R.map .int) = (rI 0 (R.length : Int)).map fun k => .tup [.int k, .int (gI R k)] := by
  apply List.ext_getElem?
  intro k
  by_cases hk : k < R.length
  · have h1 := gI_some (R := R) (k := k) (by omega) (by omega)
    simp at h1
    rw [enumD_get (d := .int (gI R k)) (by simp [h1]), List.getElem?_map, rI_get (by omega)]
    simp
  · rw [List.getElem?_eq_none (by rw [enumD_len]; simp; omega), List.getElem?_eq_none (by simp; omega)]
theorem map_gI (R : List Int) : (rI 0 (R.length : Int)).map (gI R) = R := by
  apply List.ext_getElem?
  intro k
  by_cases hk : k < R.length
  · have h1 := gI_some (R := R) (k := k) (by omega) (by omega)
    simp at h1
    rw [List.getElem?_map, rI_get (by omega), h1]; simp
  · rw [List.getElem?_eq_none (by simp; omega), List.getElem?_eq_none (by omega)]
def ndx (t : Tab) (R : List Int) (i j : Int) : Bool := decide (0 ≤ i ∧ i < (R.length : Int) ∧ 0 ≤ j ∧ j < (R.length : Int)) && nd t (gI R i) (gI R j)
def bdl (t : Tab) (R : List Int) (k : Int) : List Int := (rI 0 (R.length : Int)).filter fun j => nd t (gI R k) (gI R j)
def bd (t : Tab) (R : List Int) (k : Int) : Int × Int := ((bdl t R k).foldl min k, (bdl t R k).foldl max k + 1)
theorem in_bd {t : Tab} {R : List Int} {a k b : Int} (h0 : 0 ≤ a) (h1 : a ≤ k) (h2 : k < b) (h3 : b ≤ R.length) : (a ≤ (bd t R k).1 ∧ (bd t R k).2 ≤ b) ↔ okW (ndx t R) (rI 0 (R.length : Int)) (rI a b) k = true := by
  rw [okW_iff]
  obtain ⟨m1, m2, m3⟩ := foldl_min_spec (bdl t R k) k
  obtain ⟨x1, x2, x3⟩ := foldl_max_spec (bdl t R k) k
  have mem : ∀ j, j ∈ bdl t R k ↔ (j ∈ rI 0 (R.length : Int) ∧ ndx t R k j = true) := by
    intro j
    unfold bdl ndx
    rw [List.mem_filter, mem_rI]
    simp only [Bool.and_eq_true, decide_eq_true_eq]
    constructor
    · rintro ⟨h, h'⟩; exact ⟨h, ⟨by omega, by omega, by omega, by omega⟩, h'⟩
    · rintro ⟨h, _, h'⟩; exact ⟨h, h'⟩
  unfold bd
  simp only
  constructor
  · rintro ⟨p, q⟩ j hj n
    have hj' := (mem j).mpr ⟨hj, n⟩
    have := m3 j hj'
    have := x3 j hj'
    exact mem_rI.mpr ⟨by omega, by omega⟩
  · intro h
    have h' : ∀ j ∈ bdl t R k, a ≤ j ∧ j < b := fun j hj => mem_rI.mp (h j ((mem j).mp hj).1 ((mem j).mp hj).2)
    constructor
    · rcases m1 with e | e
      · rw [e]; exact h1
      · exact (h' _ e).1
    · rcases x1 with e | e
      · rw [e]; omega
      · have := (h' _ e).2; omega
theorem ndx_iv {t : Tab} {R : List Int} (hs : R.Pairwise (· < ·)) : Iv (ndx t R) := by
  intro i j k h b
  unfold ndx at h ⊢
  simp only [Bool.and_eq_true, decide_eq_true_eq] at h ⊢
  obtain ⟨⟨h1, h2, h3, h4⟩, n⟩ := h
  refine ⟨⟨by omega, by omega, by omega, by omega⟩, nd_iv t _ _ _ n ?_⟩
  have mono : ∀ x y : Int, 0 ≤ x → x < y → y < R.length → gI R x < gI R y := by
    intro x y hx hxy hy
    have e1 := gI_some (R := R) hx (by omega)
    have e2 := gI_some (R := R) (k := y) (by omega) hy
    obtain ⟨l1, e1⟩ := List.getElem?_eq_some_iff.mp e1
    obtain ⟨l2, e2⟩ := List.getElem?_eq_some_iff.mp e2
    have := List.pairwise_iff_getElem.mp hs x.toNat y.toNat l1 l2 (by omega)
    rw [e1, e2] at this; exact this
  rcases b with b | b
  · exact .inl ⟨mono _ _ h1 b.1 (by omega), mono _ _ (by omega) b.2 h4⟩
  · exact .inr ⟨mono _ _ h3 b.1 (by omega), mono _ _ (by omega) b.2 h2⟩
theorem ndx_irr (t : Tab) (R : List Int) (k : Int) : ndx t R k k = false := by unfold ndx; rw [nd_irr]; simp
theorem LE_ndx {t : Tab} {R : List Int} (hn : R.Nodup) : LE (nd t) R = LE (ndx t R) (rI 0 (R.length : Int)) := by
  have inj : ∀ x ∈ rI 0 (R.length : Int), ∀ y ∈ rI 0 (R.length : Int), gI R x = gI R y → x = y := by
    intro x hx y hy e
    have hx := mem_rI.mp hx
    have hy := mem_rI.mp hy
    have e1 := gI_some (R := R) (k := x) (by omega) (by omega)
    have e2 := gI_some (R := R) (k := y) (by omega) (by omega)
    rw [e, ← e2] at e1
    have := (List.getElem?_inj (by omega) hn).mp e1
    omega
  conv => lhs; rw [← map_gI R]
  unfold LE
  refine ct_map (rI_nodup _ _) inj fun I' hI c hc => ?_
  refine bool_iff ?_
  rw [okF_iff, okF_iff]
  have hc' := mem_rI.mp (hI c hc)
  constructor
  · intro h d hd
    have hd' := mem_rI.mp (hI d hd)
    unfold ndx
    rw [h _ (List.mem_map.mpr ⟨d, hd, rfl⟩)]; simp
  · intro h d hd
    obtain ⟨x, hx, rfl⟩ := List.mem_map.mp hd
    have hd' := mem_rI.mp (hI x hx)
    have := h x hx
    unfold ndx at this
    simp only [Bool.and_eq_false_iff, decide_eq_false_iff_not] at this
    rcases this with h | h
    · exact absurd ⟨by omega, by omega, by omega, by omega⟩ h
    · exact h
theorem pt_LE {t : Tab} {R : List Int} (hn : R.Nodup) : pt (ndx t R) (R.length : Int) 0 (R.length : Int) = LE (nd t) R := by
  rw [pt_all (ndx_irr t R), LE_ndx hn]
theorem bounds_T {x y : D} {t : Tab} {R : List Int} (h : Tb x t) (ok : Tok t) (hy : Sq y R) (hR : ∀ c ∈ R, ent t c ≠ .e) (hl : R.length ≤ 12) : Is (d_bounds [x, y]) (.lst ((rI 0 (R.length : Int)).map fun k => pr (bd t R k))) := by
  refine Is.of_T fun g hg => runD_T ?_
  have key : ∀ k : Int, 0 ≤ k → k < R.length → ∀ x2 x3 x5, compM (gNs [6, 7]) (eTst (eBin kIn (eVar 7) (eArgs (callN 2 d_need_of) (lCons (eVar 0) (lCons (eVar 4) lNil))))) (eVar 6) [some (.sh x), some (.sh y), x2, x3, some (.sh (.int (gI R k))), x5, none, none] (enumD (R.map .int)) = M.pure ((bdl t R k).map .int) := by
    intro k h0 h1 x2 x3 x5
    rw [enumD_ints, compM_pure (en := fun k => .tup [.int k, .int (gI R k)]) (p := fun j => nd t (gI R k) (gI R j)) (f := .int)]
    · rfl
    · intro j hj
      refine ⟨_, rfl, ?_, fun _ => rfl⟩
      have e := kIn_tup_ints (gI R j) (needI t (gI R k))
      rw [contains_need] at e
      simp [need_of_T h ok (hR _ (gI_mem h0 h1)), e]
  have lenb : ∀ k, (bdl t R k).length ≤ 12 := fun k => by
    refine Nat.le_trans (List.length_filter_le _ _) ?_
    simp; omega
  have en : iArgs enumK (lCons (eVar 1) lNil) [some (.sh x), some (.sh y), some (.ow (.lst [])), none, none, none, none, none] = M.pure (enumD (R.map .int)) := by
    rcases hy with rfl | rfl <;> rfl
  have en2 : ∀ x2 x3 x4 x5 x6 x7, iArgs enumK (lCons (eVar 1) lNil) [some (.sh x), some (.sh y), x2, x3, x4, x5, x6, x7] = M.pure (enumD (R.map .int)) := by
    intros; rcases hy with rfl | rfl <;> rfl
  unfold b_bounds
  simp [startD, -iArgs_ap, en]
  refine forM_T (fun i σ g' => (∃ x3 x4 x5 x6 x7, σ = [some (.sh x), some (.sh y), some (.ow (.lst ((rI 0 (i : Int)).map fun k => pr (bd t R k)))), x3, x4, x5, x6, x7]) ∧ g' = g) (n := 0) ?_ ⟨⟨_, _, _, _, _, rfl⟩, rfl⟩ ?_
  · rintro i d σ g' e ⟨⟨x3, x4, x5, x6, x7, rfl⟩, rfl⟩
    have hi : i < R.length := by have := (List.getElem?_eq_some_iff.mp e).1; rw [enumD_len] at this; simpa using this
    rw [enumD_ints, List.getElem?_map, rI_get (by omega)] at e
    simp at e
    subst e
    have k1 := key i (by omega) (by omega)
    have l1 := lenb i
    simp [-iArgs_ap, en2, k1, enumD_len]
    refine ⟨by omega, by omega, by omega, ?_⟩
    rw [rI_last (lo := 0) (hi := (i : Int) + 1) (by omega), List.map_append, show (i : Int) + 1 - 1 = i by omega]
    rfl
  · rintro σ g' ⟨⟨x3, x4, x5, x6, x7, rfl⟩, rfl⟩
    simp [enumD_len]
end NS
namespace NS
open PySem PySem.Spec PyProof.Rows L2
@[simp] theorem kLe_int (i j : Int) : kLe (.int i) (.int j) = M.pure (.bl (decide (i ≤ j))) := rfl
@[simp] theorem ix_pr0 (p : Int × Int) : kIx (pr p) (.int 0) = M.pure (.int p.1) := rfl
@[simp] theorem ix_pr1 (p : Int × Int) : kIx (pr p) (.int 1) = M.pure (.int p.2) := rfl
theorem inside_T (p : Int × Int) (a b : Int) : d_is_inside [pr p, .int a, .int b] = M.pure (.bl (decide (a ≤ p.1) && decide (p.2 ≤ b))) := by
  unfold d_is_inside runD b_is_inside
  simp [startD]
  by_cases h : a ≤ p.1 <;> simp [h]
theorem sg_drop {α : Type} {l : List α} {n : Nat} {x : α} (h : l[n]? = some x) (f : α → Nat) : sg (l.drop n) f = f x + sg (l.drop (n + 1)) f := by
  obtain ⟨hn, e⟩ := List.getElem?_eq_some_iff.mp h
  rw [List.drop_eq_getElem_cons hn, sg_cons, e]
def PT (ndr : Int → Int → Bool) (m : Int) (kvs : List (List Key × D)) (P : Int → Int → Prop) : Prop := ∀ a b, 0 ≤ a → a ≤ b → b ≤ m → P a b → valD kvs [.inl a, .inl b] = some (.int (pt ndr m a b : Nat))
theorem pt_le {ndr : Int → Int → Bool} {m : Int} (h : m ≤ 12) {a b : Int} (h0 : 0 ≤ a) (h1 : b ≤ m) : pt ndr m a b ≤ 479001600 := by
  refine Nat.le_trans (ct_le (rI_nodup a b)) (Nat.le_trans (fct_mono (m := 12) ?_) (by decide +kernel))
  rw [rI_len]; omega
theorem part_table_T {ndr : Int → Int → Bool} {m : Int} (h0 : 0 ≤ m) (hm : m ≤ 12) (iv : Iv ndr) {B : Int → Int × Int} (hB : ∀ a k b, 0 ≤ a → a ≤ k → k < b → b ≤ m → ((a ≤ (B k).1 ∧ (B k).2 ≤ b) ↔ okW ndr (rI 0 m) (rI a b) k = true)) {g : G} (hg : Gpur g = true) :
    T (d_part_table [.lst ((rI 0 m).map fun k => pr (B k))]) g fun d g' => g' = g ∧ ∃ kvs, d = .dT kvs ∧ PT ndr m kvs fun _ _ => True := by
  refine runD_T ?_
  unfold b_part_table
  generalize hx : D.lst ((rI 0 m).map fun k => pr (B k)) = x
  have ex : ∀ k : Int, 0 ≤ k → k < m → kIx x (.int k) = M.pure (pr (B k)) := by
    intro k h1 h2
    subst hx
    rw [kIx_lst]
    obtain ⟨j, rfl⟩ := Int.eq_ofNat_of_zero_le h1
    rw [atI_nat (v := pr (B j)) (by rw [List.getElem?_map, rI_get (by omega)]; simp)]; rfl
  have el : kLen [x] = M.pure (.int m) := by
    subst hx; simp [Int.max_eq_left h0]
  clear hx
  simp -implicitDefEqProofs [startD, el]
  refine ⟨by omega, by omega, ?_⟩
  refine forM_T (fun i σ g' => (∃ x3 kvs, σ = [some (.sh x), some (.sh (.int m)), some (.ow (.dT kvs)), x3, none, none, none, none] ∧ kvs.length ≤ i ∧ PT ndr m kvs fun a b => a = b ∧ a < i) ∧ g' = g) (n := 0) ?_ ⟨⟨none, [], rfl, by simp, fun a b _ _ _ h => by omega⟩, rfl⟩ ?_
  · rintro i d σ g' e ⟨⟨x3, kvs, rfl, hl, hp⟩, rfl⟩
    obtain ⟨rfl, h1⟩ := rngD_get e
    simp -implicitDefEqProofs
    refine ⟨by omega, Nat.le_trans (putD_len _ _ _) (by omega), fun a b h2 h3 h4 ⟨h5, h6⟩ => ?_⟩
    subst h5
    rw [valD_put]
    by_cases e : a = i
    · subst e; rw [if_pos rfl, pt_nil]; rfl
    · rw [if_neg (by simp; exact fun h => e h.symm)]
      exact hp a a h2 h3 h4 ⟨rfl, by omega⟩
  · rintro σ g' ⟨⟨x3, kvs, rfl, hl, hp⟩, rfl⟩
    simp at hl hp
    simp -implicitDefEqProofs
    refine ⟨by omega, by omega, ?_⟩
    refine forM_T (fun i σ g1 => (∃ x3 x4 x5 x6 x7 kvs, σ = [some (.sh x), some (.sh (.int m)), some (.ow (.dT kvs)), x3, x4, x5, x6, x7] ∧ kvs.length ≤ 20 + 20 * i ∧ PT ndr m kvs fun a b => b - a ≤ i) ∧ g1 = g') (n := 0) ?_ ⟨⟨_, _, _, _, _, kvs, rfl, by omega, fun a b h2 h3 h4 h5 => hp a b h2 h3 h4 ⟨by omega, by omega⟩⟩, rfl⟩ ?_
    · rintro i d σ g1 e ⟨⟨x3, x4, x5, x6, x7, kvs, rfl, hl, hp⟩, rfl⟩
      obtain ⟨rfl, h1⟩ := rngD_get e
      simp at hl hp
      generalize hlen : (1 : Int) + i = len at h1
      simp -implicitDefEqProofs
      refine ⟨by omega, by omega, ?_⟩
      refine forM_T (fun j σ g2 => (∃ x3 x5 x6 x7 kvs, σ = [some (.sh x), some (.sh (.int m)), some (.ow (.dT kvs)), x3, some (.sh (.int len)), x5, x6, x7] ∧ kvs.length ≤ 20 + 20 * i + j ∧ PT ndr m kvs fun a b => b - a ≤ i ∨ (b - a = len ∧ a < j)) ∧ g2 = g1) (n := 0) ?_ ⟨⟨_, _, _, _, kvs, rfl, by omega, fun a b h2 h3 h4 h5 => hp a b h2 h3 h4 (by omega)⟩, rfl⟩ ?_
      · rintro j d σ g2 e ⟨⟨x3, x5, x6, x7, kvs, rfl, hl, hp⟩, rfl⟩
        obtain ⟨rfl, h2⟩ := rngD_get e
        simp at hl hp
        generalize hf : (0 : Int) + j = f at h2
        have key : ∀ x2 x6, compM (gN 7) (eTst (eArgs (callN 3 d_is_inside) (lCons (eBin kIx (eVar 0) (eVar 7)) (lCons (eVar 3) (lCons (eVar 5) lNil))))) (eVar 7) [some (.sh x), some (.sh (.int m)), x2, some (.sh (.int f)), some (.sh (.int len)), some (.sh (.int (f + len))), x6, none] (rngD f (f + len)) = M.pure (((rI f (f + len)).filter fun l => okW ndr (rI 0 m) (rI f (f + len)) l).map .int) := by
          intro x2 x6
          rw [rngD_rI]
          refine compM_pure (p := fun l => okW ndr (rI 0 m) (rI f (f + len)) l) (f := .int) fun l hl => ?_
          have hl := mem_rI.mp hl
          refine ⟨_, rfl, ?_, fun _ => rfl⟩
          simp [ex l (by omega) (by omega), inside_T]
          congr 1
          refine bool_iff ?_
          rw [Bool.and_eq_true, decide_eq_true_eq, decide_eq_true_eq]
          exact hB f l (f + len) (by omega) hl.1 hl.2 (by omega)
        generalize hL : (rI f (f + len)).filter (fun l => okW ndr (rI 0 m) (rI f (f + len)) l) = L at key
        have hp0 : pt ndr m f (f + len) = sg L fun l => ch (len - 1).toNat (l - f).toNat * (pt ndr m f l * pt ndr m (l + 1) (f + len)) := by
          rw [pt_step iv (by omega) (by omega) (by omega), ← hL, sg_filter, show f + len - f - 1 = len - 1 by omega]
        simp -implicitDefEqProofs [key]
        refine ⟨by omega, by omega, by omega, by omega, by omega, ?_⟩
        refine forM_T (fun q σ g3 => (∃ x7 total, σ = [some (.sh x), some (.sh (.int m)), some (.ow (.dT kvs)), some (.sh (.int f)), some (.sh (.int len)), some (.sh (.int (f + len))), some (.sh (.int (total : Nat))), x7] ∧ total + sg (L.drop q) (fun l => ch (len - 1).toNat (l - f).toNat * (pt ndr m f l * pt ndr m (l + 1) (f + len))) = pt ndr m f (f + len)) ∧ g3 = g2) (n := 0) ?_ ⟨⟨_, 0, rfl, by rw [hp0]; simp⟩, rfl⟩ ?_
        · rintro q d σ g3 e ⟨⟨x7, total, rfl, ht⟩, rfl⟩
          rw [List.getElem?_map] at e
          obtain ⟨l, el, rfl⟩ := Option.map_eq_some_iff.mp e
          have ml : l ∈ rI f (f + len) := by
            have := List.mem_of_getElem? el
            rw [← hL] at this
            exact (List.mem_filter.mp this).1
          have ml := mem_rI.mp ml
          rw [Nat.zero_add, sg_drop el] at ht
          have v1 := hp f l (by omega) (by omega) (by omega) (.inl (by omega))
          have v2 := hp (l + 1) (f + len) (by omega) (by omega) (by omega) (.inl (by omega))
          have c1 := choose_T (n := (len - 1).toNat) (k := (l - f).toNat) (by omega) (by omega)
          rw [show (((len - 1).toNat : Nat) : Int) = len - 1 by omega, show (((l - f).toNat : Nat) : Int) = l - f by omega] at c1
          have b1 := ch_le12 (n := (len - 1).toNat) (by omega) (l - f).toNat
          have b2 := pt_le (ndr := ndr) hm (a := f) (b := l) (by omega) (by omega)
          have b3 := pt_le (ndr := ndr) hm (a := l + 1) (b := f + len) (by omega) (by omega)
          generalize ch (len - 1).toNat (l - f).toNat = C at *
          generalize pt ndr m f l = P1 at *
          generalize pt ndr m (l + 1) (f + len) = P2 at *
          simp -implicitDefEqProofs [c1.T hg, v1, v2]
          refine ⟨.inl ⟨by omega, by omega⟩, .inr ⟨by omega, by omega⟩, hg, ?_⟩
          refine ⟨_, total + C * (P1 * P2), by simp [Int.mul_assoc], rfl, ?_⟩
          rw [show len.toNat - 1 = (len - 1).toNat by omega]
          omega
        · rintro σ g3 ⟨⟨x7, total, rfl, ht⟩, rfl⟩
          simp at ht
          simp -implicitDefEqProofs
          refine ⟨by omega, Nat.le_trans (putD_len _ _ _) (by omega), fun a b h2 h3 h4 h5 => ?_⟩
          rw [valD_put]
          by_cases e : a = f ∧ b = f + len
          · obtain ⟨rfl, rfl⟩ := e
            rw [if_pos rfl, ← ht]
          · rw [if_neg (by simp; intro h6 h7; exact e ⟨h6.symm, h7.symm⟩)]
            exact hp a b h2 h3 h4 (by omega)
      · rintro σ g2 ⟨⟨x3, x5, x6, x7, kvs, rfl, hl, hp⟩, rfl⟩
        simp at hl hp
        refine ⟨⟨_, _, _, _, _, kvs, rfl, by omega, fun a b h2 h3 h4 h5 => hp a b h2 h3 h4 (by omega)⟩, rfl⟩
    · rintro σ g1 ⟨⟨x3, x4, x5, x6, x7, kvs, rfl, hl, hp⟩, rfl⟩
      simp at hl hp
      simp -implicitDefEqProofs
      exact fun a b h2 h3 h4 _ => hp a b h2 h3 h4 (by omega)
theorem count_of_T {x y : D} {t : Tab} {R : List Int} (h : Tb x t) (ok : Tok t) (hy : Sq y R) (hs : R.Pairwise (· < ·)) (hR : ∀ c ∈ R, ent t c ≠ .e) (hl : R.length ≤ 12) : Is (d_count_of [x, y]) (.int (LE (nd t) R : Nat)) := by
  refine Is.of_T fun g hg => runD_T ?_
  unfold b_count_of
  have hn : R.Nodup := List.nodup_iff_pairwise_ne.mpr (hs.imp fun h e => by omega)
  have e1 : ∀ y, Sq y R → kLen [y] = M.pure (.int (R.length : Int)) := by rintro y (rfl | rfl) <;> simp
  have pt' := part_table_T (ndr := ndx t R) (m := (R.length : Int)) (by omega) (by omega) (ndx_iv hs) (B := bd t R) (fun a k b h0 h1 h2 h3 => in_bd h0 h1 h2 h3) hg
  simp -implicitDefEqProofs [startD, (bounds_T h ok hy hR hl).T hg, e1 y hy]
  refine pt'.imp fun d g' ⟨e, kvs, ed, hp⟩ => ?_
  subst e ed
  have := hp 0 (R.length : Int) (by omega) (by omega) (by omega) trivial
  rw [pt_LE hn] at this
  simp -implicitDefEqProofs [this]
end NS
namespace NS
open PySem PySem.Spec PyProof.Rows L2
theorem leD_int (a b : Int) : leD (.int a) (.int b) = decide (a ≤ b) := by
  show (!(PyProof.Rows.lexLt PyProof.Rows.itemOrd [.inl b] [.inl a])) = _
  unfold PyProof.Rows.lexLt
  by_cases h1 : b < a
  · have : PyProof.Rows.itemLt (.inl b) (.inl a) = true := decide_eq_true h1
    rw [show decide (a ≤ b) = false from decide_eq_false (by omega)]
    simp [this]
  · have : PyProof.Rows.itemLt (.inl b) (.inl a) = false := decide_eq_false h1
    rw [show decide (a ≤ b) = true from decide_eq_true (by omega)]
    simp [this, PyProof.Rows.lexLt]
def insI (x : Int) : List Int → List Int
  | [] => [x]
  | y :: ys => if x ≤ y then x :: y :: ys else y :: insI x ys
def sortI : List Int → List Int
  | [] => []
  | x :: xs => insI x (sortI xs)
theorem insD_int (x : Int) : ∀ l : List Int, insD leD (.int x) (l.map .int) = (insI x l).map .int
  | [] => rfl
  | y :: ys => by
    simp only [List.map_cons, insD, insI, leD_int, decide_eq_true_eq]
    split
    · rfl
    · rw [insD_int x ys]; rfl
theorem isrt_int : ∀ l : List Int, isrt leD (l.map .int) = (sortI l).map .int
  | [] => rfl
  | x :: xs => by rw [List.map_cons, isrt, isrt_int xs, insD_int]; rfl
theorem insI_perm (x : Int) : ∀ l : List Int, (insI x l).Perm (x :: l)
  | [] => .refl _
  | y :: ys => by
    unfold insI
    split
    · exact .refl _
    · exact (List.Perm.cons y (insI_perm x ys)).trans (List.Perm.swap x y ys)
theorem sortI_perm : ∀ l : List Int, (sortI l).Perm l
  | [] => .refl _
  | x :: xs => (insI_perm x _).trans (List.Perm.cons x (sortI_perm xs))
theorem insI_sorted (x : Int) : ∀ {l : List Int}, l.Pairwise (· ≤ ·) → (insI x l).Pairwise (· ≤ ·)
  | [], _ => by simp [insI]
  | y :: ys, h => by
    have h2 := List.pairwise_cons.mp h
    unfold insI
    split
    · rename_i hxy
      refine List.pairwise_cons.mpr ⟨fun a ha => ?_, h⟩
      rcases List.mem_cons.mp ha with rfl | ha
      · exact hxy
      · have := h2.1 a ha; omega
    · refine List.pairwise_cons.mpr ⟨fun a ha => ?_, insI_sorted x h2.2⟩
      rcases List.mem_cons.mp ((insI_perm x ys).mem_iff.mp ha) with rfl | ha
      · omega
      · exact h2.1 a ha
theorem sortI_sorted : ∀ l : List Int, (sortI l).Pairwise (· ≤ ·)
  | [] => .nil
  | x :: xs => insI_sorted x (sortI_sorted xs)
theorem sortI_eq {l m : List Int} (hm : m.Pairwise (· < ·)) : sortI l = m ↔ l.Perm m := by
  constructor
  · rintro rfl; exact (sortI_perm l).symm
  · intro h
    exact List.Perm.eq_of_pairwise (le := (· ≤ ·)) (fun a b _ _ h1 h2 => by omega) (sortI_sorted l) (hm.imp fun h => by omega) ((sortI_perm l).trans h)
theorem srtOk_ints (l : List Int) (h : l.length < 1000000) : srtOk (l.map .int) = true := by
  have ok : ∀ l : List Int, D.pysOk (l.map .int) = true := fun l => by induction l with | nil => rfl | cons x xs ih => simp [D.pysOk, ih, D.pyOk]
  have e : ∀ l : List Int, D.pys (l.map .int) = l.map .int := fun l => by induction l with | nil => rfl | cons x xs ih => simp [D.pys, ih, D.py]
  have dp : ∀ l : List Int, PyData.depthAll (l.map .int) ≤ 60 := fun l => by induction l with | nil => simp [PyData.depthAll] | cons x xs ih => simp [PyData.depthAll, PyData.depth]; exact ih
  unfold srtOk
  rw [ok, e]
  simp [dp, PySem.W.alike, notTN, h]
@[simp] theorem kSorted_tup_ints (l : List Int) (h : l.length < 1000000) : kSorted [.tup (l.map .int)] = M.pure (.lst ((sortI l).map .int)) := by
  unfold kSorted; simp only [srtOk_ints l h, if_true, isrt_int]
@[simp] theorem kSorted_lst_ints (l : List Int) (h : l.length < 1000000) : kSorted [.lst (l.map .int)] = M.pure (.lst ((sortI l).map .int)) := by
  unfold kSorted; simp only [srtOk_ints l h, if_true, isrt_int]
theorem eqD_lst_ints (xs ys : List Int) : eqD (.lst (xs.map .int)) (.lst (ys.map .int)) = decide (xs = ys) := by
  rw [eqD_lst, eqDs_map]; intro x y; simp [eqD_int, Bool.beq_eq_decide_eq]
theorem pl_lst_ints (n : Nat) (xs : List Int) (h : xs.length < 1000000) : D.pl (n + 1) (.lst (xs.map .int)) = true := by simp [h]
theorem kNe_lst_ints {xs ys : List Int} (h : xs.length < 1000000) (h2 : ys.length < 1000000) : kNe (.lst (xs.map .int)) (.lst (ys.map .int)) = M.pure (.bl (!decide (xs = ys))) := by
  rw [kNe_pl 1 1 (pl_lst_ints 0 _ h) (pl_lst_ints 0 _ h2), eqD_lst_ints]
theorem eqD_pr (p q : Int × Int) : eqD (pr p) (pr q) = decide (p = q) := by
  obtain ⟨a, b⟩ := p
  obtain ⟨c, d⟩ := q
  unfold pr
  rw [eqD_tup]
  simp only [eqDs, eqD_int, Bool.and_true, Prod.mk.injEq]
  by_cases h1 : a = c <;> by_cases h2 : b = d <;> simp [h1, h2]
@[simp] theorem pl_pr (n : Nat) (p : Int × Int) : D.pl (n + 1) (pr p) = true := by simp [pr]
theorem pl_prs (n : Nat) (xs : List (Int × Int)) (h : xs.length < 1000000) : D.pl (n + 2) (.lst (xs.map pr)) = true := by simp [h]
theorem kEq_prs {xs ys : List (Int × Int)} (h : xs.length < 1000000) (h2 : ys.length < 1000000) : kEq (.lst (xs.map pr)) (.lst (ys.map pr)) = M.pure (.bl (decide (xs = ys))) := by
  rw [kEq_pl 2 2 (pl_prs 0 _ h) (pl_prs 0 _ h2), eqD_lst, eqDs_map pr eqD_pr]
theorem kEq_prs_nil {xs : List (Int × Int)} (h : xs.length < 1000000) : kEq (.lst (xs.map pr)) (.lst []) = M.pure (.bl (decide (xs = []))) := kEq_prs (ys := []) h (by decide)
end NS
namespace NS
open PySem PySem.Spec PyProof.Rows L2
def restI (t : Tab) (P : List Int) : List Int := (takenI t).filter fun c => !P.contains c
def readyI (t : Tab) (P : List Int) : List Int := (restI t P).filter fun c => (needI t c).all fun d => P.contains d
theorem mem_rest {t : Tab} {P : List Int} {c : Int} : c ∈ restI t P ↔ c ∈ takenI t ∧ c ∉ P := by
  unfold restI; simp only [List.mem_filter, Bool.not_eq_true', ← Bool.not_eq_true, List.contains_iff_mem]
theorem mem_ready {t : Tab} {P : List Int} {c : Int} : c ∈ readyI t P ↔ c ∈ takenI t ∧ c ∉ P ∧ ∀ d, nd t c d = true → d ∈ P := by
  unfold readyI
  simp only [List.mem_filter, mem_rest, List.all_eq_true, List.contains_iff_mem, mem_need]
  exact ⟨fun ⟨⟨a, b⟩, c⟩ => ⟨a, b, c⟩, fun ⟨a, b, c⟩ => ⟨⟨a, b⟩, c⟩⟩
theorem rest_nodup (t : Tab) (P : List Int) : (restI t P).Nodup := (taken_nodup t).filter _
theorem rest_sorted (t : Tab) (P : List Int) : (restI t P).Pairwise (· < ·) := (taken_sorted t).filter _
theorem rest_nil (t : Tab) : restI t [] = takenI t := by unfold restI; simp
theorem rest_snoc (t : Tab) (P : List Int) (c : Int) : restI t (P ++ [c]) = rm c (restI t P) := by
  unfold restI rm
  rw [List.filter_filter]
  congr 1; funext d
  refine bool_iff ?_
  simp only [Bool.not_eq_true', ← Bool.not_eq_true, List.contains_iff_mem, Bool.and_eq_true, bne_iff_ne, List.mem_append, List.mem_singleton, not_or]
  exact And.comm
def Ngap (t : Tab) : Prop := ∀ c d, nd t c d = true → ent t d ≠ .e
theorem ready_okF {t : Tab} (ng : Ngap t) (P : List Int) : readyI t P = (restI t P).filter fun c => okF (nd t) (restI t P) c := by
  unfold readyI
  refine List.filter_congr fun c hc => bool_iff ?_
  simp only [List.all_eq_true, List.contains_iff_mem, mem_need, okF_iff]
  constructor
  · intro h d hd
    cases e : nd t c d
    · rfl
    · exact absurd (h d e) (mem_rest.mp hd).2
  · intro h d n
    apply Classical.byContradiction
    intro hd
    have := h d (mem_rest.mpr ⟨mem_taken.mpr (ng c d n), hd⟩)
    rw [n] at this; cases this
structure Good (t : Tab) (P : List Int) : Prop where
  nodup : P.Nodup
  sub : ∀ c ∈ P, c ∈ takenI t
  ag : ∀ k c, P[k]? = some c → ∀ d, nd t c d = true → d ∈ P.take k
theorem Good.nil (t : Tab) : Good t [] := ⟨List.nodup_nil, fun _ h => (nomatch h), fun _ _ h => (nomatch h)⟩
theorem Good.snoc {t : Tab} {P : List Int} (h : Good t P) {c : Int} (hc : c ∈ readyI t P) : Good t (P ++ [c]) := by
  obtain ⟨h1, h2, h3⟩ := mem_ready.mp hc
  refine ⟨?_, fun x hx => ?_, fun k x e d n => ?_⟩
  · refine List.nodup_append.mpr ⟨h.nodup, by simp, fun a ha b hb => ?_⟩
    rw [List.mem_singleton.mp hb]; rintro rfl; exact h2 ha
  · rcases List.mem_append.mp hx with hx | hx
    · exact h.sub x hx
    · rw [List.mem_singleton.mp hx]; exact h1
  · by_cases hk : k < P.length
    · rw [List.getElem?_append_left hk] at e
      rw [List.take_append_of_le_length (by omega)]
      exact h.ag k x e d n
    · have hk2 : k = P.length := by
        have := (List.getElem?_eq_some_iff.mp e).1
        simp at this; omega
      subst hk2
      rw [List.getElem?_append_right (by omega)] at e
      simp at e
      subst e
      simp
      exact h3 d n
theorem Good.pre {t : Tab} {P : List Int} {c : Int} (h : Good t (P ++ [c])) : Good t P ∧ c ∈ readyI t P := by
  have nd := List.nodup_append.mp h.nodup
  refine ⟨⟨nd.1, fun x hx => h.sub x (List.mem_append_left _ hx), fun k x e d n => ?_⟩, mem_ready.mpr ⟨h.sub c (by simp), fun hc => nd.2.2 c hc c (by simp) rfl, fun d n => ?_⟩⟩
  · have hk := (List.getElem?_eq_some_iff.mp e).1
    have := h.ag k x (by rw [List.getElem?_append_left hk]; exact e) d n
    rw [List.take_append_of_le_length (by omega)] at this
    exact this
  · have := h.ag P.length c (by simp) d n
    simpa using this
theorem perm_of {l m : List Int} (hl : l.Nodup) (hm : m.Nodup) (h : ∀ x ∈ l, x ∈ m) (e : m.length ≤ l.length) : l.Perm m := by
  induction l generalizing m with
  | nil => cases m with | nil => exact .refl _ | cons => simp at e
  | cons a l ih =>
    have h2 := List.nodup_cons.mp hl
    have ha := h a List.mem_cons_self
    have p := List.perm_cons_erase ha
    refine (List.Perm.cons a (ih h2.2 (hm.erase a) (fun x hx => ?_) ?_)).trans p.symm
    · exact (List.mem_erase_of_ne (fun e => by subst e; exact h2.1 hx)).mpr (h x (List.mem_cons_of_mem _ hx))
    · rw [List.length_erase_of_mem ha]; simp at e; omega
theorem sub_len {l m : List Int} (hl : l.Nodup) (h : ∀ x ∈ l, x ∈ m) : l.length ≤ m.length := by
  induction l generalizing m with
  | nil => simp
  | cons a l ih =>
    have h2 := List.nodup_cons.mp hl
    have ha := h a List.mem_cons_self
    have := ih (m := m.erase a) h2.2 fun x hx => (List.mem_erase_of_ne (fun e => by subst e; exact h2.1 hx)).mpr (h x (List.mem_cons_of_mem _ hx))
    rw [List.length_erase_of_mem ha] at this
    have : 0 < m.length := List.length_pos_of_mem ha
    simp; omega
theorem Good.len {t : Tab} {P : List Int} (h : Good t P) : P.length ≤ (takenI t).length := sub_len h.nodup h.sub
theorem Good.rest_ne {t : Tab} {P : List Int} (h : Good t P) (hl : P.length < (takenI t).length) : restI t P ≠ [] := by
  intro e
  have := sub_len (taken_nodup t) (m := P) fun c hc => by
    apply Classical.byContradiction
    intro hn
    have := mem_rest.mpr ⟨hc, hn⟩
    rw [e] at this; cases this
  omega
theorem Good.rest_len {t : Tab} {P : List Int} (h : Good t P) : (restI t P).length + P.length = (takenI t).length := by
  have h1 : ∀ {P : List Int}, P.Nodup → (∀ c ∈ P, c ∈ takenI t) → (restI t P).length + P.length = (takenI t).length := by
    intro P hn hs
    induction P with
    | nil => rw [rest_nil]; simp
    | cons c P ih =>
      have h2 := List.nodup_cons.mp hn
      have := ih h2.2 fun x hx => hs x (List.mem_cons_of_mem _ hx)
      have e : restI t (c :: P) = rm c (restI t P) := by
        rw [← rest_snoc]; unfold restI; congr 1; funext d
        refine bool_iff ?_
        simp only [Bool.not_eq_true', ← Bool.not_eq_true, List.contains_iff_mem, List.mem_append, List.mem_cons, List.mem_singleton, List.not_mem_nil, or_false]
        exact not_congr Or.comm
      have := rm_len (rest_nodup t P) (mem_rest.mpr ⟨hs c List.mem_cons_self, h2.1⟩)
      rw [e]; simp; omega
  exact h1 h.nodup h.sub
theorem ready_ne {t : Tab} (ng : Ngap t) (nm : Nm (nd t) (takenI t)) {P : List Int} (h : Good t P) (hl : P.length < (takenI t).length) : readyI t P ≠ [] := by
  obtain ⟨c, hc, ok⟩ := some_ready (nd_irr t) (nd_iv t) (nd_os t) (h.rest_ne hl) (nm.sub fun x hx => (mem_rest.mp hx).1)
  rw [ready_okF ng]
  intro e
  have := List.mem_filter.mpr ⟨hc, ok⟩
  rw [e] at this; cases this
def foN (t : Tab) : Nat → List Int → List Int
  | 0, P => P
  | n + 1, P => match readyI t P with
    | [] => P
    | c :: _ => foN t n (P ++ [c])
def foI (t : Tab) : List Int := foN t (takenI t).length []
theorem foN_good {t : Tab} (ng : Ngap t) (nm : Nm (nd t) (takenI t)) : ∀ {n : Nat} {P : List Int}, Good t P → P.length + n = (takenI t).length → Good t (foN t n P) ∧ (foN t n P).length = (takenI t).length
  | 0, P, h, e => ⟨h, e⟩
  | n + 1, P, h, e => by
    have ne := ready_ne ng nm h (by omega)
    unfold foN
    cases hr : readyI t P with
    | nil => exact absurd hr ne
    | cons c r => exact foN_good ng nm (h.snoc (by rw [hr]; exact List.mem_cons_self)) (by simp; omega)
theorem foI_good {t : Tab} (ng : Ngap t) (nm : Nm (nd t) (takenI t)) : Good t (foI t) ∧ (foI t).length = (takenI t).length := foN_good ng nm (Good.nil t) (by simp)
theorem mem_gap {t : Tab} {p : Int × Int} : p ∈ gapI t ↔ nd t p.1 p.2 = true ∧ ent t p.2 = .e := by
  obtain ⟨c, d⟩ := p
  unfold gapI gapOf
  simp only [List.mem_flatMap, List.mem_map, List.mem_filter, beq_iff_eq, mem_need, Prod.mk.injEq]
  constructor
  · rintro ⟨a, ha, b, ⟨h1, h2⟩, rfl, rfl⟩; exact ⟨h1, h2⟩
  · rintro ⟨h1, h2⟩; exact ⟨c, mem_taken.mpr (nd_taken h1), d, ⟨h1, h2⟩, rfl, rfl⟩
theorem ngap_iff {t : Tab} : gapI t = [] ↔ Ngap t := by
  constructor
  · intro h c d n e
    have : (c, d) ∈ gapI t := mem_gap.mpr ⟨n, e⟩
    rw [h] at this; cases this
  · intro h
    apply List.eq_nil_iff_forall_not_mem.mpr
    intro p hp
    obtain ⟨h1, h2⟩ := mem_gap.mp hp
    exact h _ _ h1 h2
def Pos (t : Tab) : Prop := Ngap t ∧ Nm (nd t) (takenI t)
theorem pos_iff {t : Tab} : Pos t ↔ gapI t = [] ∧ 0 < LE (nd t) (takenI t) := by
  unfold Pos
  rw [ngap_iff, LE_pos_iff (nd_irr t) (nd_iv t) (nd_os t) (taken_nodup t)]
def cI (t : Tab) (P : List Int) : Nat := LE (nd t) (restI t P)
theorem cI_step {t : Tab} (ng : Ngap t) {P : List Int} (h : restI t P ≠ []) : cI t P = sg (readyI t P) fun c => cI t (P ++ [c]) := by
  unfold cI
  rw [LE_first (rest_nodup t P) h, ready_okF ng, sg_filter]
  refine sg_congr fun c hc => ?_
  rw [rest_snoc]
end NS
namespace NS
open PySem PySem.Spec PyProof.Rows L2
theorem gap_lt {t : Tab} (ok : Tok t) : (gapI t).length < 1000000 := by have := gap_len ok; omega
theorem possible_T {x : D} {t : Tab} (h : Tb x t) (ok : Tok t) : Is (d_is_possible [x]) (.bl (decide (gapI t = []) && decide (0 < LE (nd t) (takenI t)))) := by
  refine Is.of_T fun g hg => runD_T ?_
  unfold b_is_possible
  have cc := count_of_T h ok (y := .lst ((takenI t).map .int)) (.inr rfl) (taken_sorted t) (fun c hc => mem_taken.mp hc) (tl_le ok)
  simp -implicitDefEqProofs [startD, gaps_T h ok, kEq_prs_nil (gap_lt ok)]
  refine ⟨fun e => ?_, fun e => by simp [e]⟩
  simp -implicitDefEqProofs [taken_T h ok.len, cc.T hg, e]
end NS
namespace NS
open PySem PySem.Spec PyProof.Rows L2
theorem cutD_take (xs : List D) (k : Int) (h : 0 ≤ k) : cutD xs none (some k) = xs.take k.toNat := by
  unfold cutD HT.sIx
  simp [show ¬ k < 0 by omega]
theorem cutD_drop (xs : List D) (k : Int) (h : 0 ≤ k) : cutD xs (some k) none = xs.drop k.toNat := by
  unfold cutD HT.sIx
  simp [show ¬ k < 0 by omega]
  rw [List.take_of_length_le (by simp)]
  by_cases hk : k.toNat ≤ xs.length
  · rw [Nat.min_eq_left hk]
  · rw [Nat.min_eq_right (by omega), List.drop_length, List.drop_eq_nil_of_le (by omega)]
theorem is_integer_int (i : Int) : d_is_integer [.int i] = M.pure (.bl true) := rfl
def plt (p q : Int × Int) : Prop := p.1 < q.1 ∨ (p.1 = q.1 ∧ p.2 < q.2)
end NS
namespace NS
open PySem PySem.Spec PyProof.Rows L2
theorem flat_all {α β : Type} (l : List α) (f : α → List β) (p : α → β → Bool) : ((l.flatMap fun a => (f a).map (p a)).all id) = l.all fun a => (f a).all (p a) := by
  induction l with
  | nil => rfl
  | cons a l ih => simp [List.all_append, ih, Function.comp_def, List.all_map]
theorem Lneeds_t {t : Tab} (ok : Tok t) {c w : Int} (hc : ent t c = .w w) : d_Lneeds [.int (t.length : Int), .int c, .int w] = M.pure (.lst ((needI t c).map .int)) := by
  have hw := ok.wish c w hc
  have h := ent_lt (t := t) (c := c) (by rw [hc]; simp)
  have hl := ok.len
  unfold tn at *
  rw [lneeds_T ⟨by omega, by omega⟩ ⟨by omega, by omega⟩ ⟨by omega, by omega⟩, need_eq h.1 h.2 hw.2]
  unfold needI; rw [hc]; rfl
theorem Lwanted_T {x : D} {t : Tab} (h : Tb x t) (ok : Tok t) {c : Int} (hc : ent t c ≠ .e) : d_Lwanted [x, .int c] = M.pure (.lst ((needI t c).map .int)) := by
  obtain ⟨h0, h1⟩ := ent_lt hc
  have e1 := atI_tab h0 h1
  have fin : (if ent t c = .u then (M.pure (.lst []) : M D) else d_Lneeds [.int (t.length : Int), .int c, (ent t c).d]) = M.pure (.lst ((needI t c).map .int)) := by
    cases e : ent t c with
    | e => exact absurd e hc
    | u => unfold needI; rw [e]; rfl
    | w v => rw [if_neg (by simp)]; exact Lneeds_t ok e
  rcases h with rfl | rfl | rfl <;> (unfold d_Lwanted runD b_Lwanted; simp -implicitDefEqProofs [startD, e1, kEq_ent_u]; exact fin)
theorem Lfull_T {x : D} {t : Tab} (h : Tb x t) (ok : Tok t) : d_Lfull_spots [x] = M.pure (.lst ((takenI t).map .int)) := taken_T h ok.len
end NS
namespace NS
open PySem PySem.Spec PyProof.Rows L2
@[simp] theorem sPar_ap (is : List Nat) (bs : List Bool) (fl : DS → M (List D)) (σ : DS) : sPar is bs fl σ = M.bind (fl σ) fun ds => if ds.length = is.length then M.pure (.nx (setMs is bs ds σ)) else M.bad := rfl
@[simp] theorem setMs_cons (i : Nat) (is : List Nat) (b : Bool) (bs : List Bool) (d : D) (ds : List D) (σ : DS) : setMs (i :: is) (b :: bs) (d :: ds) σ = setMs is bs ds (σ.set i (some (mkV b d))) := rfl
@[simp] theorem setMs_nil (bs : List Bool) (ds : List D) (σ : DS) : setMs [] bs ds σ = σ := by cases bs <;> cases ds <;> rfl
@[simp] theorem mkV_t (d : D) : mkV true d = .ow d := rfl
@[simp] theorem mkV_f (d : D) : mkV false d = .sh d := rfl
theorem ixN_nat {n k : Nat} (h : k < n) : ixN n (k : Int) = some k := by unfold ixN; simp; omega
theorem sSetIx_T {j : Nat} {fe fi : DS → M D} {σ : DS} {g : G} {Q : Fl → G → Prop} (h : T (fe σ) g fun d g1 => ∃ ds, ownL σ[j]? = some ds ∧ T (fi σ) g1 fun i g2 => ∃ k : Nat, i = .int (k : Int) ∧ k < ds.length ∧ Q (.nx (σ.set j (some (.ow (.lst (ds.set k d)))))) g2) : T (sSetIx j fe fi σ) g Q := by
  unfold sSetIx
  rw [T_bind]
  refine h.imp fun d g1 ⟨ds, e, h1⟩ => ?_
  rw [e]
  show T (M.bind (fi σ) _) g1 Q
  rw [T_bind]
  refine h1.imp fun i g2 ⟨k, e, hk, q⟩ => ?_
  subst e
  simp only [ixN_nat hk]
  rw [T_pure]; exact q
def Go (k m : Nat) (g g' : G) : Prop := Src k m g' ∧ Oth k g g'
theorem Go.trans {k m n : Nat} {g g1 g2 : G} (h : Go k m g g1) (h' : Go k n g1 g2) : Go k n g g2 := ⟨h'.1, h.2.trans h'.2⟩
theorem Go.refl {k m : Nat} {g : G} (h : Src k m g) : Go k m g g := ⟨h, Oth.refl k g⟩
theorem Go.mono {k m n : Nat} {g g' : G} (h : Go k m g g') (hm : n ≤ m) : Go k n g g' := ⟨h.1.mono hm, h.2⟩
theorem draw_G {k m : Nat} {b : Int} {g : G} (h : Src k (m + 2) g) (hb : 0 < b) (hb2 : b < 2 ^ 30) {Q : D → G → Prop} (q : ∀ (r : Int) g', 0 ≤ r → r < b → Go k m g g' → Q (.int r) g') : T (d_Ldraw 3 [.hdl k, .int b]) g Q :=
  (draw_T h hb hb2).imp fun d g' ⟨r, e, h1, h2, h3, h4⟩ => by subst e; exact q r g' h1 h2 ⟨h3, h4⟩
theorem choice_T {k m : Nat} {g : G} {xs : List D} (h : Src k (m + 2) g) (hx : xs ≠ []) (hl : xs.length < 1000000) {Q : D → G → Prop} (q : ∀ d ∈ xs, ∀ g', Go k m g g' → Q d g') : T (d_Lchoice [.hdl k, .lst xs]) g Q := by
  have hp : 0 < xs.length := by cases xs; exact absurd rfl hx; simp
  refine runD_T ?_
  unfold b_Lchoice
  simp -implicitDefEqProofs [startD]
  refine draw_G h (by omega) (by omega) fun r g' h1 h2 go => ?_
  simp
  obtain ⟨j, rfl⟩ := Int.eq_ofNat_of_zero_le h1
  have hj : j < xs.length := by omega
  exact ⟨xs[j], atI_nat (by simp [hj]), q _ (List.getElem_mem hj) _ go⟩
theorem hopes_T {k m : Nat} {g : G} {w : Int} (h : Src k (m + 40) g) (h1 : 1 ≤ w) (h2 : w ≤ 12) {Q : D → G → Prop} (q : ∀ (hs : List Int) g', hs.length ≤ w → (∀ v ∈ hs, 0 ≤ v ∧ v < w) → Go k m g g' → Q (.lst (hs.map .int)) g') : T (d_Lhopes [.hdl k, .int w]) g Q := by
  refine runD_T ?_
  unfold b_Lhopes
  simp -implicitDefEqProofs [startD]
  refine draw_G (m := m + 38) h (by omega) (by omega) fun r1 g1 a1 b1 o1 => ?_
  refine draw_G (m := m + 36) o1.1 (by omega) (by omega) fun r2 g2 a2 b2 o2 => ?_
  refine draw_G (m := m + 34) o2.1 (by omega) (by omega) fun r3 g3 a3 b3 o3 => ?_
  simp -implicitDefEqProofs
  refine ⟨by omega, by omega, ?_⟩
  refine forM_T (fun i σ g' => (∃ x5 x6, ∃ hs : List Int, σ = [some (.sh (.hdl k)), some (.sh (.int w)), some (.sh (.int r1)), some (.sh (.int r2)), some (.ow (.lst (hs.map .int))), x5, x6] ∧ hs.length = i ∧ ∀ v ∈ hs, 0 ≤ v ∧ v < w) ∧ Go k (m + 34 - 2 * i) g g') (n := 0) ?_ ⟨⟨_, _, [], rfl, rfl, by simp⟩, (o1.trans o2).trans o3⟩ ?_
  · rintro i d σ g' e ⟨⟨x5, x6, hs, rfl, hl, hv⟩, go⟩
    obtain ⟨rfl, hi⟩ := rngD_get e
    have nx : ∀ v : Int, ∀ u ∈ hs ++ [max 0 (min (w - 1) v)], 0 ≤ u ∧ u < w := by
      intro v u hu
      rcases List.mem_append.mp hu with hu | hu
      · exact hv u hu
      · simp at hu; omega
    simp -implicitDefEqProofs
    refine ⟨fun hr => ?_, fun hr => ?_⟩
    · refine draw_G (m := m + 34 - 2 * (i + 1)) (go.1.mono (by omega)) (by omega) (by omega) fun r4 g4 a4 b4 o4 => ?_
      simp -implicitDefEqProofs
      exact ⟨by omega, ⟨_, _, hs ++ [max 0 (min (w - 1) r4)], by simp, rfl, rfl, by simp; omega, nx r4⟩, go.trans o4⟩
    · refine draw_G (m := m + 34 - 2 * (i + 1)) (go.1.mono (by omega)) (by omega) (by omega) fun r4 g4 a4 b4 o4 => ?_
      simp -implicitDefEqProofs
      exact ⟨by omega, ⟨_, _, hs ++ [max 0 (min (w - 1) (r1 + r4 - 1))], by simp, rfl, rfl, by simp; omega, nx _⟩, go.trans o4⟩
  · rintro σ g' ⟨⟨x5, x6, hs, rfl, hl, hv⟩, go⟩
    simp at hl
    simp
    exact q hs g' (by omega) hv (go.mono (by simp; omega))
theorem minPr_spec : ∀ (l : List (Int × Int)) (p : Int × Int), (minPr p l = p ∨ minPr p l ∈ l) ∧ ∀ q, q = p ∨ q ∈ l → ¬ plt q (minPr p l)
  | [], p => ⟨.inl rfl, fun q h => by
      rcases h with rfl | h
      · unfold minPr plt; omega
      · cases h⟩
  | x :: l, p => by
    unfold minPr
    by_cases c : x.1 < p.1 ∨ (x.1 = p.1 ∧ x.2 < p.2)
    · rw [if_pos c]
      obtain ⟨h1, h2⟩ := minPr_spec l x
      refine ⟨?_, fun q hq => ?_⟩
      · rcases h1 with h | h
        · exact .inr (by rw [h]; exact List.mem_cons_self)
        · exact .inr (List.mem_cons_of_mem _ h)
      · rcases hq with rfl | hq
        · have := h2 x (.inl rfl)
          generalize minPr x l = y at *
          unfold plt at *; omega
        · rcases List.mem_cons.mp hq with rfl | hq
          · exact h2 _ (.inl rfl)
          · exact h2 q (.inr hq)
    · rw [if_neg c]
      obtain ⟨h1, h2⟩ := minPr_spec l p
      refine ⟨?_, fun q hq => ?_⟩
      · rcases h1 with h | h
        · exact .inl h
        · exact .inr (List.mem_cons_of_mem _ h)
      · rcases hq with rfl | hq
        · exact h2 _ (.inl rfl)
        · rcases List.mem_cons.mp hq with rfl | hq
          · have := h2 p (.inl rfl)
            generalize minPr p l = y at *
            unfold plt at *; omega
          · exact h2 q (.inr hq)
def nearI (w : Int) : List Int → Int
  | [] => 0
  | c :: r => (minPr (((c - w).natAbs : Int), c) (r.map fun c => (((c - w).natAbs : Int), c))).2
theorem nearI_spec {w : Int} {l : List Int} (h : l ≠ []) : nearI w l ∈ l ∧ ∀ a ∈ l, ¬ nearer a (nearI w l) w := by
  cases l with
  | nil => exact absurd rfl h
  | cons c r =>
    obtain ⟨h1, h2⟩ := minPr_spec (r.map fun c => (((c - w).natAbs : Int), c)) (((c - w).natAbs : Int), c)
    have e : ∃ x ∈ c :: r, minPr (((c - w).natAbs : Int), c) (r.map fun c => (((c - w).natAbs : Int), c)) = (((x - w).natAbs : Int), x) := by
      rcases h1 with h | h
      · exact ⟨c, List.mem_cons_self, h⟩
      · obtain ⟨x, hx, e⟩ := List.mem_map.mp h
        exact ⟨x, List.mem_cons_of_mem _ hx, e.symm⟩
    obtain ⟨x, hx, e⟩ := e
    have en : nearI w (c :: r) = x := by
      show (minPr (((c - w).natAbs : Int), c) (r.map fun c => (((c - w).natAbs : Int), c))).2 = x
      rw [e]
    rw [en]
    refine ⟨hx, fun a ha hn => ?_⟩
    have := h2 (((a - w).natAbs : Int), a) (by
      rcases List.mem_cons.mp ha with rfl | ha
      · exact .inl rfl
      · exact .inr (List.mem_map.mpr ⟨a, ha, rfl⟩))
    rw [e] at this
    unfold plt nearer at *
    simp only at this
    omega
theorem kMinP_lst (ds : List D) (ps : List (Int × Int)) (p : Int × Int) (r : List (Int × Int)) (h : D.prs ds = some ps) (hp : ps = p :: r) (hl : ds.length < 1000000) : kMinP [.lst ds] = M.pure (.tup [.int (minPr p r).1, .int (minPr p r).2]) := by
  subst hp
  unfold kMinP
  simp only [h]
  rw [if_pos (by simpa using hl)]
theorem kMinP_near (w : Int) {l : List Int} (h : l ≠ []) (hl : l.length < 1000000) : ∃ a : Int, kMinP [.lst (l.map fun c => .tup [.int ((c - w).natAbs : Int), .int c])] = M.pure (.tup [.int a, .int (nearI w l)]) := by
  cases l with
  | nil => exact absurd rfl h
  | cons c r =>
    have e : ∀ l : List Int, D.prs (l.map fun c => .tup [.int ((c - w).natAbs : Int), .int c]) = some (l.map fun c => (((c - w).natAbs : Int), c)) := by
      intro l
      induction l with
      | nil => rfl
      | cons c r ih => simp only [List.map_cons, D.prs, ih]; rfl
    exact ⟨_, kMinP_lst _ _ _ _ (e (c :: r)) rfl (by rw [List.length_map]; exact hl)⟩
def freeI (t : Tab) : List Int := (rI 0 (tn t)).filter fun c => ent t c == .e
theorem mem_free {t : Tab} {c : Int} : c ∈ freeI t ↔ 0 ≤ c ∧ c < tn t ∧ ent t c = .e := by
  unfold freeI; rw [List.mem_filter, mem_rI, beq_iff_eq, and_assoc]
def putT (t : Tab) (c : Int) (x : Ent) : Tab := t.set c.toNat x
@[simp] theorem putT_len (t : Tab) (c : Int) (x : Ent) : (putT t c x).length = t.length := by simp [putT]
theorem ent_put {t : Tab} {c : Int} {x : Ent} (h0 : 0 ≤ c) (h1 : c < tn t) (d : Int) : ent (putT t c x) d = if d = c then x else ent t d := by
  unfold tn at h1
  unfold ent putT
  by_cases hd : d < 0
  · rw [if_pos hd, if_pos hd, if_neg (by omega)]
  · rw [if_neg hd, if_neg hd]
    by_cases e : d = c
    · subst e; rw [if_pos rfl, List.getElem?_set_self (by omega)]; rfl
    · rw [if_neg e, List.getElem?_set_ne (by omega)]
theorem tn_put (t : Tab) (c : Int) (x : Ent) : tn (putT t c x) = tn t := by unfold tn; simp
structure Fil (t : Tab) (σ : List Int) : Prop where
  ok : Tok t
  good : Good t σ
  all : σ.length = (takenI t).length
theorem Fil.mem {t : Tab} {σ : List Int} (f : Fil t σ) {c : Int} : c ∈ σ ↔ ent t c ≠ .e := by
  have p := perm_of f.good.nodup (taken_nodup t) f.good.sub (by have := f.all; omega)
  rw [p.mem_iff, mem_taken]
theorem taken_put {t : Tab} {c : Int} {x : Ent} (h0 : 0 ≤ c) (h1 : c < tn t) (hx : x ≠ .e) (he : ent t c = .e) : (takenI (putT t c x)).Perm (c :: takenI t) := by
  refine perm_of (taken_nodup _) ?_ (fun d hd => ?_) ?_
  · refine List.nodup_cons.mpr ⟨fun h => ?_, taken_nodup t⟩
    exact mem_taken.mp h he
  · have := mem_taken.mp hd
    rw [ent_put h0 h1] at this
    by_cases e : d = c
    · subst e; exact List.mem_cons_self
    · rw [if_neg e] at this; exact List.mem_cons_of_mem _ (mem_taken.mpr this)
  · refine sub_len (List.nodup_cons.mpr ⟨fun h => mem_taken.mp h he, taken_nodup t⟩) fun d hd => ?_
    rw [mem_taken, ent_put h0 h1]
    rcases List.mem_cons.mp hd with rfl | hd
    · rw [if_pos rfl]; exact hx
    · by_cases e : d = c
      · rw [if_pos e]; exact hx
      · rw [if_neg e]; exact mem_taken.mp hd
theorem nd_put {t : Tab} {c : Int} {x : Ent} (h0 : 0 ≤ c) (h1 : c < tn t) {a d : Int} (ne : a ≠ c) : nd (putT t c x) a d = nd t a d := by
  unfold nd
  rw [ent_put h0 h1, if_neg ne, tn_put]
theorem Fil.put {t : Tab} {σ : List Int} (f : Fil t σ) {w : Int} (h0 : 0 ≤ w) (h1 : w < tn t) (hf : freeI t ≠ []) : Fil (putT t (nearI w (freeI t)) (.w w)) (σ ++ [nearI w (freeI t)]) := by
  obtain ⟨hm, hn⟩ := nearI_spec (w := w) hf
  generalize nearI w (freeI t) = s at *
  obtain ⟨s0, s1, se⟩ := mem_free.mp hm
  have tp := taken_put (x := .w w) s0 s1 (by simp) se
  have ok' : Tok (putT t s (.w w)) := ⟨by simpa using f.ok.len, fun c v e => by
    rw [ent_put s0 s1] at e
    rw [tn_put]
    by_cases h : c = s
    · rw [if_pos h] at e; cases e; exact ⟨h0, h1⟩
    · rw [if_neg h] at e; exact f.ok.wish c v e⟩
  have ns : s ∉ σ := fun h => f.mem.mp h se
  have g1 : Good (putT t s (.w w)) σ := ⟨f.good.nodup, fun c hc => tp.mem_iff.mpr (List.mem_cons_of_mem _ (f.good.sub c hc)), fun k c e d n => by
    have hc : c ≠ s := by rintro rfl; exact ns (List.mem_of_getElem? e)
    rw [nd_put s0 s1 hc] at n
    exact f.good.ag k c e d n⟩
  refine ⟨ok', g1.snoc (mem_ready.mpr ⟨tp.mem_iff.mpr List.mem_cons_self, ns, fun d n => ?_⟩), ?_⟩
  · have hd := nd_lt ok' n
    rw [tn_put] at hd
    apply Classical.byContradiction
    intro hh
    have ed : ent t d = .e := Classical.byContradiction fun h => hh (f.mem.mpr h)
    refine hn d (mem_free.mpr ⟨hd.1, hd.2, ed⟩) ?_
    unfold nd at n
    rw [ent_put s0 s1, if_pos rfl, tn_put] at n
    exact (nearer_iff hd.1 hd.2).mpr (of_decide_eq_true n)
  · rw [tp.length_eq]; simp [f.all]
theorem free_ne {t : Tab} (h : (takenI t).length < t.length) : freeI t ≠ [] := by
  intro e
  have : takenI t = rI 0 (tn t) := List.filter_eq_self.mpr fun c hc => by
    have hc := mem_rI.mp hc
    cases h2 : (ent t c != Ent.e) with
    | true => rfl
    | false =>
      have : c ∈ freeI t := mem_free.mpr ⟨hc.1, hc.2, by simpa using h2⟩
      rw [e] at this; cases this
  rw [this, rI_len] at h
  unfold tn at h; omega
theorem Fil.pos {t : Tab} {σ : List Int} (f : Fil t σ) : Pos t := by
  have idx : ∀ c, ent t c ≠ .e → ∃ k, σ[k]? = some c := fun c hc => List.getElem?_of_mem (f.mem.mpr hc)
  refine ⟨fun c d n => ?_, fun c hc d hd ⟨n1, n2⟩ => ?_⟩
  · obtain ⟨k, hk⟩ := idx c (nd_taken n)
    exact f.mem.mp (List.mem_of_mem_take (f.good.ag k c hk d n))
  · obtain ⟨i, hi⟩ := idx c (nd_taken n1)
    obtain ⟨j, hj⟩ := idx d (nd_taken n2)
    have a1 := f.good.ag i c hi d n1
    have a2 := f.good.ag j d hj c n2
    obtain ⟨x, hx, ex⟩ := List.mem_take_iff_getElem.mp a1
    obtain ⟨y, hy, ey⟩ := List.mem_take_iff_getElem.mp a2
    obtain ⟨li, ei⟩ := List.getElem?_eq_some_iff.mp hi
    obtain ⟨lj, ej⟩ := List.getElem?_eq_some_iff.mp hj
    have h1 : x = j := (List.getElem_inj f.good.nodup).mp (ex.trans ej.symm)
    have h2 : y = i := (List.getElem_inj f.good.nodup).mp (ey.trans ei.symm)
    omega
end NS
namespace NS
open PySem PySem.Spec PyProof.Rows L2
theorem Fil.empty {w : Int} (h0 : 0 ≤ w) (h1 : w ≤ 12) : Fil (List.replicate w.toNat .e) [] := by
  have e : ∀ c, ent (List.replicate w.toNat Ent.e) c = .e := by
    intro c; unfold ent; split
    · rfl
    · rw [List.getElem?_replicate]; split <;> rfl
  refine ⟨⟨by simp; omega, fun c v h => by rw [e] at h; cases h⟩, Good.nil _, ?_⟩
  have : takenI (List.replicate w.toNat Ent.e) = [] := List.filter_eq_nil_iff.mpr fun c _ => by rw [e]; simp
  rw [this]
def filI : Tab × List Int → List Int → Tab × List Int
  | p, [] => p
  | (t, σ), h :: hs => filI (putT t (nearI h (freeI t)) (.w h), σ ++ [nearI h (freeI t)]) hs
theorem filI_snoc : ∀ (hs : List Int) (p : Tab × List Int) (h : Int), filI p (hs ++ [h]) = (putT (filI p hs).1 (nearI h (freeI (filI p hs).1)) (.w h), (filI p hs).2 ++ [nearI h (freeI (filI p hs).1)])
  | [], (t, σ), h => rfl
  | x :: hs, (t, σ), h => filI_snoc hs _ h
def emp (w : Int) : Tab × List Int := (List.replicate w.toNat .e, [])
theorem filI_fil {w : Int} (h0 : 0 ≤ w) (h1 : w ≤ 12) : ∀ {hs : List Int}, (hs.length : Int) ≤ w → (∀ v ∈ hs, 0 ≤ v ∧ v < w) → Fil (filI (emp w) hs).1 (filI (emp w) hs).2 ∧ tn (filI (emp w) hs).1 = w ∧ (filI (emp w) hs).2.length = hs.length := by
  intro hs
  generalize hn : hs.length = n
  induction n generalizing hs with
  | zero =>
    intro _ _
    have : hs = [] := List.length_eq_zero_iff.mp hn
    subst this
    exact ⟨Fil.empty h0 h1, by unfold filI emp tn; simp [Int.max_eq_left h0], rfl⟩
  | succ n ih =>
    intro hl hv
    obtain ⟨r, h, rfl⟩ : ∃ r h, hs = r ++ [h] := ⟨hs.dropLast, hs.getLast (by intro e; subst e; simp at hn), (List.dropLast_concat_getLast _).symm⟩
    have hr : r.length = n := by simpa using hn
    obtain ⟨f, e1, e2⟩ := ih hr (by omega) fun v hv' => hv v (List.mem_append_left _ hv')
    have hh := hv h (by simp)
    rw [filI_snoc]
    have fr := free_ne (t := (filI (emp w) r).1) (by have := f.all; unfold tn at e1; omega)
    exact ⟨f.put hh.1 (by rw [e1]; exact hh.2) fr, by rw [tn_put]; exact e1, by simp [e2]⟩
theorem free_comp {t : Tab} {w h : Int} (hw : w = tn t) (x0 x1 x3 x4 x5 x6 : Option DV) (h4 : x4 = some (.sh (.int h))) : compM (gN 6) (eTst (eBin kIs (eBin kIx (eVar 2) (eVar 6)) (eC .non))) (eArgs mkT (lCons (eArgs kAbs (lCons (eBin kSub (eVar 6) (eVar 4)) lNil)) (lCons (eVar 6) lNil))) [x0, x1, some (.sh (.lst (t.map Ent.d))), x3, x4, x5, x6] (rngD 0 w) = M.pure ((freeI t).map fun c => .tup [.int ((c - h).natAbs : Int), .int c]) := by
  subst h4 hw
  rw [rngD_rI]
  refine compM_pure (p := fun c => ent t c == .e) fun c hc => ⟨_, rfl, ?_, fun _ => ?_⟩
  · have hc := mem_rI.mp hc
    simp [atI_tab hc.1 hc.2]
  · simp
theorem map_put {t : Tab} {c : Int} {x : Ent} : (t.map Ent.d).set c.toNat x.d = (putT t c x).map Ent.d := by unfold putT; rw [List.map_set]
theorem Lfill_T {w : Int} {hs : List Int} (h0 : 1 ≤ w) (h1 : w ≤ 12) (hl : (hs.length : Int) ≤ w) (hv : ∀ v ∈ hs, 0 ≤ v ∧ v < w) : Is (d_Lfill [.int w, .lst (hs.map .int)]) (.tup [.tup ((filI (emp w) hs).1.map Ent.d), .tup ((filI (emp w) hs).2.map .int)]) := by
  refine Is.of_T fun g hg => runD_T ?_
  unfold b_Lfill
  have e0 : (List.replicate w.toNat [D.non]).flatten = (emp w).1.map Ent.d := by
    unfold emp; simp only [List.map_replicate]
    induction w.toNat with
    | zero => rfl
    | succ n ih => rw [List.replicate_succ, List.flatten_cons, ih]; rfl
  simp -implicitDefEqProofs [startD, e0]
  refine ⟨by omega, by omega, ?_⟩
  refine forM_T (fun i σ g' => (∃ x4 x5 x6, σ = [some (.sh (.int w)), some (.sh (.lst (hs.map .int))), some (.ow (.lst ((filI (emp w) (hs.take i)).1.map Ent.d))), some (.ow (.lst ((filI (emp w) (hs.take i)).2.map .int))), x4, x5, x6]) ∧ g' = g) (n := 0) ?_ ⟨⟨_, _, _, rfl⟩, rfl⟩ ?_
  · rintro i d σ g' e ⟨⟨x4, x5, x6, rfl⟩, rfl⟩
    rw [List.getElem?_map] at e
    obtain ⟨h, eh, rfl⟩ := Option.map_eq_some_iff.mp e
    have hi : i < hs.length := (List.getElem?_eq_some_iff.mp eh).1
    have ht : hs.take (0 + i + 1) = hs.take i ++ [h] := by rw [Nat.zero_add, List.take_add_one, eh]; rfl
    obtain ⟨f, e1, e2⟩ := filI_fil (w := w) (by omega) h1 (hs := hs.take i) (by simp; omega) fun v hv' => hv v (List.mem_of_mem_take hv')
    rw [ht, filI_snoc, Nat.zero_add]
    generalize filI (emp w) (hs.take i) = p at *
    obtain ⟨t, s⟩ := p
    simp only at f e1 e2 ⊢
    have fr := free_ne (t := t) (by have := f.all; have : (hs.take i).length ≤ i := List.length_take_le _ _; unfold tn at e1; omega)
    have fc := free_comp (t := t) (w := w) (h := h) e1.symm
    have fl : (freeI t).length < 1000000 := by
      have : (freeI t).length ≤ t.length := by unfold freeI; refine Nat.le_trans (List.length_filter_le _ _) ?_; simp [tn]
      have := f.ok.len; omega
    obtain ⟨a, ka⟩ := kMinP_near h fr fl
    obtain ⟨hm, _⟩ := nearI_spec (w := h) fr
    obtain ⟨m0, m1, _⟩ := mem_free.mp hm
    simp -implicitDefEqProofs [fc, ka]
    refine ⟨by omega, by omega, by omega, _, atI_nat (j := 1) rfl, rfl, hg, ?_⟩
    refine sSetIx_T ?_
    simp -implicitDefEqProofs
    refine ⟨(nearI h (freeI t)).toNat, by omega, by unfold tn at m1; omega, ?_⟩
    rw [show D.int h = (Ent.w h).d from rfl, map_put]
    refine ⟨by have := f.ok.len; have := f.all; have := taken_len t; omega, ?_⟩
    simp
  · rintro σ g' ⟨⟨x4, x5, x6, rfl⟩, rfl⟩
    rw [List.length_map, Nat.zero_add, List.take_of_length_le (Nat.le_refl _)]
    simp -implicitDefEqProofs
def Veil (t t' : Tab) : Prop := tn t' = tn t ∧ ∀ c, ent t' c = ent t c ∨ (ent t c ≠ .e ∧ ent t' c = .u)
theorem Veil.e {t t' : Tab} (h : Veil t t') (c : Int) : ent t' c = .e ↔ ent t c = .e := by
  rcases h.2 c with e | ⟨e1, e2⟩
  · rw [e]
  · rw [e2]; simp [e1]
theorem Veil.taken {t t' : Tab} (h : Veil t t') : takenI t' = takenI t := by
  unfold takenI; rw [h.1]
  refine List.filter_congr fun c _ => bool_iff ?_
  rw [bne_iff_ne, bne_iff_ne]; exact not_congr (h.e c)
theorem Veil.nd {t t' : Tab} (h : Veil t t') {c d : Int} (n : nd t' c d = true) : NS.nd t c d = true := by
  unfold NS.nd at *
  rcases h.2 c with e | ⟨e1, e2⟩
  · rw [e, h.1] at n; exact n
  · rw [e2] at n; cases n
theorem Veil.tok {t t' : Tab} (h : Veil t t') (ok : Tok t) : Tok t' := by
  refine ⟨by have := h.1; unfold tn at this; have := ok.len; omega, fun c v e => ?_⟩
  rw [h.1]
  rcases h.2 c with e1 | ⟨e1, e2⟩
  · rw [e1] at e; exact ok.wish c v e
  · rw [e2] at e; cases e
theorem Veil.fil {t t' : Tab} {σ : List Int} (h : Veil t t') (f : Fil t σ) : Fil t' σ :=
  ⟨h.tok f.ok, ⟨f.good.nodup, fun c hc => by rw [h.taken]; exact f.good.sub c hc, fun k c e d n => f.good.ag k c e d (h.nd n)⟩, by rw [h.taken]; exact f.all⟩
theorem Lveiled_T {k m : Nat} {g : G} {t : Tab} (hs : Src k (m + 40) g) (ok : Tok t) {Q : D → G → Prop} (q : ∀ t' g', Veil t t' → Go k m g g' → Q (.tup (t'.map Ent.d)) g') : T (d_Lveiled [.hdl k, .tup (t.map Ent.d)]) g Q := by
  have hl := ok.len
  refine runD_T ?_
  unfold b_Lveiled
  simp -implicitDefEqProofs [startD]
  refine choice_T (m := m + 38) hs (by simp) (by simp) fun d hd g1 o1 => ?_
  obtain ⟨odds, rfl⟩ : ∃ i : Int, d = .int i := by
    simp at hd; rcases hd with rfl | rfl | rfl | rfl <;> exact ⟨_, rfl⟩
  refine ⟨by omega, ?_⟩
  refine compM_T (fun i rs g' => (∃ s : Tab, rs = s.map Ent.d ∧ s.length = i ∧ ∀ (j : Nat) (x y : Ent), t[j]? = some x → s[j]? = some y → y = x ∨ (x ≠ Ent.e ∧ y = Ent.u)) ∧ Go k (m + 38 - 2 * i) g g') (n := 0) (rs := []) ?_ ⟨⟨[], rfl, rfl, by simp⟩, o1⟩ ?_
  · rintro i d g' rs e ⟨⟨s, rfl, hsl, hv⟩, go⟩
    rw [List.getElem?_map] at e
    obtain ⟨x, ex, rfl⟩ := Option.map_eq_some_iff.mp e
    have hi := (List.getElem?_eq_some_iff.mp ex).1
    have step : ∀ (y : Ent) (g2 : G), (y = x ∨ (x ≠ Ent.e ∧ y = Ent.u)) → Go k (m + 38 - 2 * (0 + i + 1)) g g2 → (∃ s' : Tab, s.map Ent.d ++ [y.d] = s'.map Ent.d ∧ s'.length = 0 + i + 1 ∧ ∀ (j : Nat) (x y : Ent), t[j]? = some x → s'[j]? = some y → y = x ∨ (x ≠ Ent.e ∧ y = Ent.u)) ∧ Go k (m + 38 - 2 * (0 + i + 1)) g g2 := by
      intro y g2 hy go2
      refine ⟨⟨s ++ [y], by simp, by simp [hsl], fun j a b ha hb => ?_⟩, go2⟩
      by_cases hj : j < s.length
      · rw [List.getElem?_append_left hj] at hb; exact hv j a b ha hb
      · have : j = s.length := by have := (List.getElem?_eq_some_iff.mp hb).1; simp at this; omega
        subst this
        rw [List.getElem?_append_right (by omega)] at hb
        simp at hb
        subst hb
        rw [show s.length = i by omega, ex] at ha
        cases ha; exact hy
    simp -implicitDefEqProofs
    refine ⟨fun hx => ?_, fun hx => ?_⟩
    · refine draw_G (m := m + 38 - 2 * (0 + i + 1)) (go.1.mono (by omega)) (by omega) (by omega) fun r g2 a2 b2 o2 => ?_
      simp -implicitDefEqProofs
      have go2 := go.trans o2
      refine ⟨fun _ => ?_, fun _ => ?_⟩
      · have := step .u g2 (.inr ⟨hx, rfl⟩) go2
        rw [Nat.zero_add] at this; exact this
      · have := step x g2 (.inl rfl) go2
        rw [Nat.zero_add] at this; exact this
    · have := step x g' (.inl rfl) (go.mono (by omega))
      rw [Nat.zero_add] at this; exact this
  · rintro rs g' ⟨⟨s, e, hsl, hv⟩, go⟩
    simp at e hsl go
    subst e
    refine q s g' ⟨by unfold tn; rw [hsl], fun c => ?_⟩ (go.mono (by omega))
    by_cases hc : 0 ≤ c ∧ c < tn t
    · have h1 := ent_get hc.1 hc.2
      have h2 := ent_get (t := s) hc.1 (by unfold tn at *; omega)
      exact hv _ _ _ h1 h2
    · left
      unfold ent
      split
      · rfl
      · unfold tn at hc
        rw [List.getElem?_eq_none (by omega), List.getElem?_eq_none (by omega)]
theorem Lcase_T {k m : Nat} {g : G} {n : Int} (hs : Src k (m + 100) g) (h1 : 1 ≤ n) (h2 : n ≤ 12) {Q : D → G → Prop} (q : ∀ t σ g', Fil t σ → 1 ≤ tn t → tn t ≤ n → Go k m g g' → Q (.tup [.tup (t.map Ent.d), .tup (σ.map .int)]) g') : T (d_Lcase [.hdl k, .int n]) g Q := by
  refine runD_T ?_
  unfold b_Lcase
  simp -implicitDefEqProofs [startD]
  refine draw_G (m := m + 98) hs (by omega) (by omega) fun r g1 a1 b1 o1 => ?_
  simp -implicitDefEqProofs
  refine hopes_T (m := m + 58) (w := 1 + r) o1.1 (by omega) (by omega) fun hs g2 hl hv o2 => ?_
  have ft := Lfill_T (w := 1 + r) (hs := hs) (by omega) (by omega) hl hv
  obtain ⟨f, e1, e2⟩ := filI_fil (w := 1 + r) (by omega) (by omega) hl hv
  rw [ft.T o2.1.pur]
  simp -implicitDefEqProofs
  refine Lveiled_T (m := m) (o2.1.mono (by omega)) f.ok fun t' g3 hv o3 => ?_
  have := q t' _ g3 (hv.fil f) (by rw [hv.1, e1]; omega) (by rw [hv.1, e1]; omega) ((o1.trans o2).trans o3)
  exact this
theorem Lspoiled_T {k m : Nat} {g : G} {t : Tab} (hs : Src k (m + 40) g) (ok : Tok t) (h1 : 1 ≤ tn t) {Q : D → G → Prop} (q : ∀ t' g', Tok t' → tn t' = tn t → Go k m g g' → Q (.tup (t'.map Ent.d)) g') : T (d_Lspoiled [.hdl k, .tup (t.map Ent.d)]) g Q := by
  have hl := ok.len
  have h1' : 1 ≤ t.length := by unfold tn at h1; omega
  refine runD_T ?_
  unfold b_Lspoiled
  simp -implicitDefEqProofs [startD]
  refine draw_G (m := m + 38) hs (by omega) (by omega) fun r g1 a1 b1 o1 => ?_
  simp -implicitDefEqProofs
  refine ⟨by omega, by omega, ?_⟩
  refine forM_T (fun i σ g' => (∃ x3, ∃ s : Tab, σ = [some (.sh (.hdl k)), some (.sh (.tup (t.map Ent.d))), some (.ow (.lst (s.map Ent.d))), x3] ∧ Tok s ∧ tn s = tn t) ∧ Go k (m + 38 - 4 * i) g g') (n := 0) ?_ ⟨⟨_, t, rfl, ok, rfl⟩, o1⟩ ?_
  · rintro i d σ g' e ⟨⟨x3, s, rfl, oks, hsl⟩, go⟩
    obtain ⟨rfl, hi⟩ := rngD_get e
    have hsl' : s.length = t.length := by unfold tn at hsl; omega
    simp -implicitDefEqProofs
    refine sSetIx_T ?_
    simp -implicitDefEqProofs
    refine ⟨by omega, by omega, by omega, by omega, ?_⟩
    refine choice_T (m := m + 38 - 4 * i - 2) (go.1.mono (by omega)) (by simp) (by simp; omega) fun d hd g2 o2 => ?_
    have ed : ∃ x : Ent, d = x.d ∧ ∀ v, x = .w v → 0 ≤ v ∧ v < tn t := by
      have r : d ∈ rngD 0 (t.length : Int) → ∃ x : Ent, d = x.d ∧ ∀ v, x = .w v → 0 ≤ v ∧ v < tn t := fun hd => by
        obtain ⟨j, hj⟩ := List.getElem?_of_mem hd
        obtain ⟨rfl, h2⟩ := rngD_get hj
        exact ⟨.w (0 + j), rfl, fun v e => by cases e; unfold tn; omega⟩
      rcases List.mem_append.mp hd with hd | hd
      · exact r hd
      rcases List.mem_append.mp hd with hd | hd
      · exact r hd
      · simp at hd
        rcases hd with rfl | rfl
        · exact ⟨.e, rfl, fun v e => by cases e⟩
        · exact ⟨.u, rfl, fun v e => by cases e⟩
    obtain ⟨x, rfl, hx⟩ := ed
    refine draw_G (m := m + 38 - 4 * (i + 1)) (o2.1.mono (by omega)) (by omega) (by omega) fun r4 g4 a4 b4 o4 => ?_
    refine ⟨r4.toNat, by rw [Int.toNat_of_nonneg a4], by omega, ⟨_, putT s r4 x, by rw [map_put], rfl, ⟨by simpa using oks.len, fun c v e => ?_⟩, by rw [tn_put]; exact hsl⟩, by simpa using (go.trans o2).trans o4⟩
    rw [tn_put, hsl]
    rw [ent_put a4 (by unfold tn; omega)] at e
    by_cases h : c = r4
    · rw [if_pos h] at e; exact hx v e
    · rw [if_neg h] at e; rw [← hsl]; exact oks.wish c v e
  · rintro σ g' ⟨⟨x3, s, rfl, oks, hsl⟩, go⟩
    simp -implicitDefEqProofs
    exact q s g' oks hsl (go.mono (by simp; omega))
theorem Lany_T {k m : Nat} {g : G} {n : Int} (hs : Src k (m + 150) g) (h1 : 1 ≤ n) (h2 : n ≤ 12) {Q : D → G → Prop} (q : ∀ t g', Tok t → 1 ≤ tn t → tn t ≤ n → Go k m g g' → Q (.tup (t.map Ent.d)) g') : T (d_Lany [.hdl k, .int n]) g Q := by
  refine runD_T ?_
  unfold b_Lany
  simp -implicitDefEqProofs [startD]
  refine Lcase_T (m := m + 50) hs h1 h2 fun t σ g1 f e1 e2 o1 => ?_
  simp -implicitDefEqProofs
  refine draw_G (m := m + 48) o1.1 (by omega) (by omega) fun r g2 a1 b1 o2 => ?_
  simp -implicitDefEqProofs
  refine ⟨fun _ => ?_, fun _ => q t g2 f.ok e1 e2 ((o1.trans o2).mono (by omega))⟩
  exact Lspoiled_T (m := m) (o2.1.mono (by omega)) f.ok e1 fun t' g3 ok' e3 o3 => q t' g3 ok' (by omega) (by omega) ((o1.trans o2).trans o3)
end NS
namespace NS
open PySem PySem.Spec PyProof.Rows L2
theorem law_A' {N : Int} {H : List D → M D} (hH : ∀ k m g, Src k (m + 100000000) g → T (H [.hdl k]) g fun d g' => d = .bl true ∧ Src k m g') (ns : List Int) (hl : ns.length ≤ 63) (hN : 1 ≤ N ∧ N ≤ 3 := by decide) : ∃ g', runD 2 false (bLawA N H) [.slst (ns.map .int)] [] = .ok (.bl true) g' :=
  law_A (fun k g hs => (hH k 0 g (hs.mono (by omega))).imp fun d g' ⟨e, h⟩ => ⟨e, h.pur⟩) ns hl hN
theorem sAppPop_T {i j : Nat} {fe : DS → M D} {σ : DS} {g : G} {Q : Fl → G → Prop} {xs ys : List D} (hx : ownL σ[i]? = some xs) (hy : ownL σ[j]? = some ys) (lx : xs.length < 1000000) (ly : ys.length < 1000000)
    (h : T (fe σ) g fun d g1 => ∃ n : Nat, ∃ x, d = .int (n : Int) ∧ ys[n]? = some x ∧ Q (.nx ((σ.set j (some (.ow (.lst (ys.eraseIdx n))))).set i (some (.ow (.lst (xs ++ [x])))))) g1) : T (sAppPop i j fe σ) g Q := by
  unfold sAppPop
  rw [hx, hy]
  show T (M.bind (fe σ) _) g Q
  rw [T_bind]
  refine h.imp fun d g1 ⟨n, x, e, ex, q⟩ => ?_
  subst e
  have hn := (List.getElem?_eq_some_iff.mp ex).1
  have ep : popAt ys (.int (n : Int)) = some (x, ys.eraseIdx n) := by
    show (if 0 ≤ (n : Int) ∧ (n : Int) < ys.length ∧ ys.length < 1000000 then _ else _) = _
    rw [if_pos ⟨by omega, by omega, ly⟩]
    simp [ex]
  rw [ep]
  show T (if fit xs.length = true then _ else _) g1 Q
  rw [if_pos (by simpa using lx), T_pure]; exact q
theorem erase_map {α β : Type} (f : α → β) : ∀ (l : List α) (n : Nat), (l.map f).eraseIdx n = (l.eraseIdx n).map f
  | [], _ => rfl
  | a :: l, 0 => rfl
  | a :: l, n + 1 => by simp [erase_map f l n]
theorem erase_perm {α : Type} : ∀ (l : List α) (n : Nat) (h : n < l.length), (l[n] :: l.eraseIdx n).Perm l
  | a :: l, 0, _ => .refl _
  | a :: l, n + 1, h => (List.Perm.swap a _ _).trans (List.Perm.cons a (erase_perm l n (by simpa using h)))
theorem nil_cases {R : List Int} (h : R.length < 1000000) : kNe (.lst (R.map .int)) (.lst []) = M.pure (.bl (!decide (R = []))) := kNe_lst_ints (ys := []) h (by decide)
theorem Lshuffled_T {k m : Nat} {g : G} {y : D} {R : List Int} (hs : Src k (m + 40) g) (hy : Sq y R) (hl : R.length ≤ 12) {Q : D → G → Prop} (q : ∀ σ : List Int, ∀ g', σ.Perm R → Go k m g g' → Q (.lst (σ.map .int)) g') : T (d_Lshuffled [.hdl k, y]) g Q := by
  refine runD_T ?_
  unfold b_Lshuffled
  have kl : kList [y] = M.pure (.lst (R.map .int)) := by rcases hy with rfl | rfl <;> rfl
  simp -implicitDefEqProofs [startD, kl]
  refine whileM_T (fun i σ g' => (∃ A B : List Int, σ = [some (.sh (.hdl k)), some (.sh y), some (.ow (.lst (A.map .int))), some (.ow (.lst (B.map .int)))] ∧ A.length = i ∧ (B ++ A).Perm R) ∧ Go k (m + 2 * i) g g') ?_ (k := R.length) ⟨⟨R, [], rfl, rfl, by simp⟩, (Go.refl hs).mono (by omega)⟩ (by omega)
  rintro i σ g' ⟨⟨A, B, rfl, hA, hp⟩, go⟩
  have hAl : A.length ≤ 12 := by have := hp.length_eq; simp at this; omega
  simp -implicitDefEqProofs [nil_cases (show A.length < 1000000 by omega), go.1.pur]
  refine ⟨fun ne => ?_, fun e => ?_⟩
  · have hpos : 0 < A.length := by cases A; exact absurd rfl ne; simp
    obtain ⟨j, hj⟩ : ∃ j, i = j + 1 := ⟨i - 1, by omega⟩
    refine ⟨j, hj, ?_⟩
    refine sAppPop_T (xs := B.map .int) (ys := A.map .int) rfl rfl (by have := hp.length_eq; simp at this ⊢; omega) (by simp; omega) ?_
    simp -implicitDefEqProofs
    refine draw_G (m := m + 2 * j) (go.1.mono (by omega)) (by omega) (by omega) fun r g2 a2 b2 o2 => ?_
    obtain ⟨n, rfl⟩ := Int.eq_ofNat_of_zero_le a2
    have hn : n < A.length := by omega
    refine ⟨rfl, o2.1.pur, n, rfl, .int A[n], by simp [hn], ⟨A.eraseIdx n, erase_map _ _ _, B ++ [A[n]], by simp, by rw [List.length_eraseIdx_of_lt hn]; omega, ?_⟩, go.trans o2⟩
    rw [List.append_assoc]
    exact (List.Perm.append_left B (erase_perm A n hn)).trans hp
  · subst e
    simp at hA hp

    exact q B g' hp (go.mono (by omega))
end NS
namespace NS
open PySem PySem.Spec PyProof.Rows L2
@[simp] theorem atI_0 {α : Type} (x : α) (l : List α) : L2.atI (x :: l) 0 = some x := atI_nat (j := 0) rfl
@[simp] theorem atI_1 {α : Type} (x y : α) (l : List α) : L2.atI (x :: y :: l) 1 = some y := atI_nat (j := 1) rfl
@[simp] theorem atI_2 {α : Type} (x y z : α) (l : List α) : L2.atI (x :: y :: z :: l) 2 = some z := atI_nat (j := 2) rfl
@[simp] theorem kExt_ap (ds es : List D) : kExt ds (.lst es) = if fit (ds.length + es.length) = true then some (ds ++ es) else none := rfl
theorem kNe_self {n : Nat} {d : D} (h : D.pl n d = true) (hn : n ≤ 64 := by decide) : kNe d d = M.pure (.bl false) := by
  rw [kNe_pl n n h h hn hn, eqD_self h]; rfl
end NS
namespace NS
open PySem PySem.Spec PyProof.Rows L2
end NS
namespace NS
open PySem PySem.Spec PyProof.Rows L2
def pick (f : Int → Nat) : List Int → Nat → Int × Nat
  | [], _ => (-1, 0)
  | c :: cs, r => if r < f c then (c, r) else pick f cs (r - f c)
def atN (t : Tab) : Nat → List Int → Nat → List Int
  | 0, P, _ => P
  | n + 1, P, r => atN t n (P ++ [(pick (fun c => cI t (P ++ [c])) (readyI t P) r).1]) (pick (fun c => cI t (P ++ [c])) (readyI t P) r).2
def atI (t : Tab) (r : Nat) : List Int := atN t (takenI t).length [] r
end NS
namespace NS
open PySem PySem.Spec PyProof.Rows L2
def clB (t : Tab) (S : List Int) : Bool := S.all fun c => (needI t c).all fun d => S.contains d
theorem clB_iff {t : Tab} {S : List Int} : clB t S = true ↔ ∀ c ∈ S, ∀ d, nd t c d = true → d ∈ S := by
  unfold clB; simp only [List.all_eq_true, List.contains_iff_mem, mem_need]
theorem closed_T {x y : D} {t : Tab} {S : List Int} (h : Tb x t) (ok : Tok t) (hy : Sq y S) (hS : ∀ c ∈ S, c ∈ takenI t) (hl : S.length ≤ 12) : d_is_closed [x, y] = M.pure (.bl (clB t S)) := by
  have kin : ∀ c, kIn (.int c) y = M.pure (.bl (S.contains c)) := by intro c; rcases hy with rfl | rfl <;> simp
  have it : itD y = M.pure (S.map .int) := by rcases hy with rfl | rfl <;> rfl
  have e1 : compM2 (gN 2) tYesD (iSeq (eArgs (callN 2 d_need_of) (lCons (eVar 0) (lCons (eVar 2) lNil)))) [3] (gN 3) tYesD (eBin kIn (eVar 3) (eVar 1)) [some (.sh x), some (.sh y), none, none] (S.map .int) = M.pure ((S.flatMap fun c => (needI t c).map fun d => S.contains d).map .bl) := by
    rw [compM2_all (f := fun c => (needI t c).map fun d => .bl (S.contains d))]
    · simp [List.map_flatMap, Function.comp_def]
    · intro c hc
      refine ⟨_, rfl, rfl, (needI t c).map .int, by simp [need_of_T h ok (mem_taken.mp (hS c hc))], ?_⟩
      exact compM_all fun d hd => ⟨_, rfl, rfl, by simp [kin]⟩
  have fa : ((S.flatMap fun c => (needI t c).map fun d => S.contains d).all id) = clB t S := flat_all S (fun c => needI t c) (fun _ d => S.contains d)
  have fl : (S.flatMap fun c => (needI t c).map fun d => S.contains d).length < 1000000 := by
    have := flatMap_len (l := S) (f := fun c => (needI t c).map fun d => S.contains d) (k := 12) fun c _ => by rw [List.length_map]; exact need_len ok c
    omega
  generalize (S.flatMap fun c => (needI t c).map fun d => S.contains d) = F at *
  unfold d_is_closed runD b_is_closed
  simp -implicitDefEqProofs [startD, it, e1, fl, fa]
  omega
def dif (S B : List Int) : List Int := S.filter fun c => !B.contains c
def thr (t : Tab) : List (List Int × Bool) → List Int → Nat → Nat
  | [], _, f => f
  | S :: r, B, f => if (B.all (fun c => S.1.contains c) && clB t S.1) = true then thr t r S.1 (f * LE (nd t) (dif S.1 B)) else 0
def Set1 (t : Tab) (S : List Int) : Prop := S.Pairwise (· < ·) ∧ ∀ c ∈ S, c ∈ takenI t
theorem Set1.nodup {t : Tab} {S : List Int} (h : Set1 t S) : S.Nodup := List.nodup_iff_pairwise_ne.mpr (h.1.imp fun h e => by omega)
theorem Set1.len {t : Tab} (ok : Tok t) {S : List Int} (h : Set1 t S) : S.length ≤ 12 := Nat.le_trans (sub_len h.nodup h.2) (tl_le ok)
theorem Set1.taken (t : Tab) : Set1 t (takenI t) := ⟨taken_sorted t, fun _ h => h⟩
theorem Set1.dif {t : Tab} {S : List Int} (h : Set1 t S) (B : List Int) : Set1 t (dif S B) := ⟨h.1.filter _, fun c hc => h.2 c (List.mem_filter.mp hc).1⟩
def allS (t : Tab) (seen : List (List Int)) : List (List Int × Bool) := seen.map (fun S => (S, false)) ++ [(takenI t, true)]
theorem possible_yes {x : D} {t : Tab} (h : Tb x t) (ok : Tok t) (p : Pos t) : Is (d_is_possible [x]) (.bl true) := by
  have := possible_T h ok
  have pi := pos_iff.mp p
  rw [decide_eq_true pi.1, decide_eq_true pi.2] at this
  exact this
def rdyIn (t : Tab) (P S : List Int) : List Int := (readyI t P).filter fun c => S.contains c
end NS
namespace NS
open PySem PySem.Spec PyProof.Rows L2
structure Chn (t : Tab) (seen : List (List Int)) : Prop where
  set : ∀ S ∈ seen, Set1 t S
  cl : ∀ S ∈ seen, clB t S = true
  sub : seen.Pairwise fun A B => ∀ c ∈ A, c ∈ B
theorem Chn.take {t : Tab} {seen : List (List Int)} (h : Chn t seen) (n : Nat) : Chn t (seen.take n) :=
  ⟨fun S hS => h.set S (List.mem_of_mem_take hS), fun S hS => h.cl S (List.mem_of_mem_take hS), h.sub.sublist (List.take_sublist _ _)⟩
theorem cl_taken {t : Tab} (ng : Ngap t) : clB t (takenI t) = true := clB_iff.mpr fun c hc d n => mem_taken.mpr (ng c d n)
theorem Chn.all {t : Tab} {seen : List (List Int)} (h : Chn t seen) (ng : Ngap t) : Chn t ((allS t seen).map Prod.fst) := by
  have e : (allS t seen).map Prod.fst = seen ++ [takenI t] := by
    unfold allS; rw [List.map_append, List.map_map]; simp [Function.comp_def]
  rw [e]
  refine ⟨fun S hS => ?_, fun S hS => ?_, List.pairwise_append.mpr ⟨h.sub, by simp, fun A hA B hB c hc => ?_⟩⟩
  · rcases List.mem_append.mp hS with hS | hS
    · exact h.set S hS
    · rw [List.mem_singleton.mp hS]; exact Set1.taken t
  · rcases List.mem_append.mp hS with hS | hS
    · exact h.cl S hS
    · rw [List.mem_singleton.mp hS]; exact cl_taken ng
  · rw [List.mem_singleton.mp hB]; exact (h.set A hA).2 c hc
theorem LE_pos' {t : Tab} (p : Pos t) {S : List Int} (h : Set1 t S) : 0 < LE (nd t) S :=
  LE_pos (nd_irr t) (nd_iv t) (nd_os t) h.nodup (p.2.sub h.2)
theorem Good.take {t : Tab} {P : List Int} (h : Good t P) (n : Nat) : Good t (P.take n) :=
  ⟨h.nodup.sublist (List.take_sublist _ _), fun c hc => h.sub c (List.mem_of_mem_take hc), fun k c e d n' => by
    have hk := (List.getElem?_eq_some_iff.mp e).1
    simp at hk
    rw [List.getElem?_take_of_lt (by omega)] at e
    have := h.ag k c e d n'
    rw [List.take_take, Nat.min_eq_left (by omega)]; exact this⟩
theorem Good.next {t : Tab} {P : List Int} (h : Good t P) {i : Nat} {c : Int} (e : P[i]? = some c) : c ∈ readyI t (P.take i) := by
  have h2 := h.take (i + 1)
  rw [List.take_add_one, e] at h2
  exact h2.pre.2
end NS
namespace NS
open PySem PySem.Spec PyProof.Rows L2
theorem sortI_strict {l : List Int} (h : l.Nodup) : (sortI l).Pairwise (· < ·) := by
  have p := sortI_perm l
  have hn : (sortI l).Nodup := p.nodup_iff.mpr h
  have hs := sortI_sorted l
  exact (hs.and (List.nodup_iff_pairwise_ne.mp hn)).imp fun ⟨a, b⟩ => by omega
def wayS (σ : List Int) (k : Nat) : List Int := sortI (σ.take k)
theorem mem_way {σ : List Int} {k : Nat} {c : Int} : c ∈ wayS σ k ↔ c ∈ σ.take k := (sortI_perm _).mem_iff
theorem way_set {t : Tab} {σ : List Int} (g : Good t σ) (k : Nat) : Set1 t (wayS σ k) :=
  ⟨sortI_strict (g.nodup.sublist (List.take_sublist _ _)), fun c hc => g.sub c (List.mem_of_mem_take (mem_way.mp hc))⟩
theorem way_cl {t : Tab} {σ : List Int} (g : Good t σ) (k : Nat) : clB t (wayS σ k) = true := clB_iff.mpr fun c hc d n => by
  obtain ⟨j, hj⟩ := List.getElem?_of_mem (mem_way.mp hc)
  have := (g.take k).ag j c hj d n
  exact mem_way.mpr (List.mem_of_mem_take this)
theorem at_zero {t : Tab} (p : Pos t) : ∀ {n : Nat} {P : List Int}, Good t P → P.length + n = (takenI t).length → atN t n P 0 = foN t n P
  | 0, _, _, _ => rfl
  | n + 1, P, gp, hn => by
    have ne := ready_ne p.1 p.2 gp (by omega)
    unfold atN foN
    cases hr : readyI t P with
    | nil => exact absurd hr ne
    | cons c r =>
      have gc := gp.snoc (c := c) (by rw [hr]; exact List.mem_cons_self)
      have pos : 0 < cI t (P ++ [c]) := LE_pos (nd_irr t) (nd_iv t) (nd_os t) (rest_nodup _ _) (p.2.sub fun x hx => (mem_rest.mp hx).1)
      have e : pick (fun c => cI t (P ++ [c])) (c :: r) 0 = (c, 0) := by unfold pick; rw [if_pos pos]
      rw [e]
      exact at_zero p gc (by simp; omega)
theorem at0 {t : Tab} (p : Pos t) : NS.atI t 0 = foI t := at_zero p (Good.nil t) (by simp)
theorem dif_nil (S : List Int) : dif S [] = S := List.filter_eq_self.mpr (by simp)
end NS
namespace NS
theorem sg_split {α : Type} (l : List α) (p : α → Bool) (f : α → Nat) : sg l f = sg (l.filter p) f + sg (l.filter fun a => !p a) f := by
  induction l with
  | nil => rfl
  | cons a l ih =>
    cases h : p a <;> simp [List.filter_cons, h, ih] <;> omega
theorem rm_filter_in {p : Int → Bool} {c : Int} (S : List Int) : (rm c S).filter p = rm c (S.filter p) := by
  unfold rm; rw [List.filter_filter, List.filter_filter]; congr 1; funext d; exact Bool.and_comm _ _
theorem rm_filter_out {p : Int → Bool} {c : Int} (S : List Int) (h : p c = false) : (rm c S).filter p = S.filter p := by
  rw [rm_filter_in]
  refine rm_not fun hc => ?_
  have := (List.mem_filter.mp hc).2
  rw [h] at this; cases this
def Apart (ok : List Int → Int → Bool) (p : Int → Bool) (S : List Int) : Prop := ∀ S' : List Int, (∀ x ∈ S', x ∈ S) → ∀ c ∈ S', ok S' c = if p c = true then ok (S'.filter p) c else ok (S'.filter fun d => !p d) c
theorem Apart.rm {ok : List Int → Int → Bool} {p : Int → Bool} {S : List Int} (h : Apart ok p S) (c : Int) : Apart ok p (rm c S) := fun S' hs => h S' fun x hx => rm_sub _ _ _ (hs x hx)
theorem len_split (p : Int → Bool) (S : List Int) : (S.filter p).length + (S.filter fun d => !p d).length = S.length := by
  induction S with
  | nil => rfl
  | cons a l ih => cases h : p a <;> simp [List.filter_cons, h] <;> omega
theorem ct_parts {ok : List Int → Int → Bool} {p : Int → Bool} {S : List Int} (hn : S.Nodup) (h : Apart ok p S) : ct ok S = ch S.length (S.filter p).length * (ct ok (S.filter p) * ct ok (S.filter fun d => !p d)) := by
  refine nodup_ind (P := fun S => Apart ok p S → ct ok S = ch S.length (S.filter p).length * (ct ok (S.filter p) * ct ok (S.filter fun d => !p d))) ?_ hn h
  intro S hn ih h
  by_cases eS : S = []
  · subst eS; simp
  have ls := len_split p S
  have h1 : ∀ c ∈ S.filter p, (if ok S c = true then ct ok (rm c S) else 0) = ch (S.length - 1) ((S.filter p).length - 1) * ((if ok (S.filter p) c = true then ct ok (rm c (S.filter p)) else 0) * ct ok (S.filter fun d => !p d)) := by
    intro c hc
    obtain ⟨c1, c2⟩ := List.mem_filter.mp hc
    rw [h S (fun _ h => h) c c1, if_pos c2]
    by_cases e : ok (S.filter p) c = true
    · rw [if_pos e, if_pos e, ih c c1 (h.rm c), rm_filter_in, rm_filter_out _ (show (!p c) = false by simp [c2])]
      have l1 := rm_len hn c1
      have l2 := rm_len (hn.filter p) hc
      rw [show (rm c S).length = S.length - 1 by omega, show (rm c (S.filter p)).length = (S.filter p).length - 1 by omega]
    · rw [if_neg e, if_neg e]; simp
  have h2 : ∀ c ∈ S.filter (fun d => !p d), (if ok S c = true then ct ok (rm c S) else 0) = ch (S.length - 1) (S.filter p).length * (ct ok (S.filter p) * (if ok (S.filter fun d => !p d) c = true then ct ok (rm c (S.filter fun d => !p d)) else 0)) := by
    intro c hc
    obtain ⟨c1, c2⟩ := List.mem_filter.mp hc
    have c3 : p c = false := by simpa using c2
    have hok : ok S c = ok (S.filter fun d => !p d) c := by rw [h S (fun _ h => h) c c1, c3]; rfl
    rw [hok]
    by_cases e : ok (S.filter fun d => !p d) c = true
    · rw [if_pos e, if_pos e, ih c c1 (h.rm c), rm_filter_out _ c3, rm_filter_in (p := fun d => !p d)]
      have l1 := rm_len hn c1
      rw [show (rm c S).length = S.length - 1 by omega]
    · rw [if_neg e, if_neg e]; simp
  rw [ct_step ok hn eS, sg_split S p, sg_congr h1, sg_congr h2, sg_mul, sg_mul', sg_mul, sg_mul]
  by_cases eA : S.filter p = []
  · rw [eA]
    simp only [sg_nil, ct_nil, List.length_nil, ch_zero, Nat.zero_mul, Nat.mul_zero, Nat.one_mul, Nat.zero_add]
    have : S.filter (fun d => !p d) ≠ [] := by intro e; rw [eA, e] at ls; cases S; exact eS rfl; simp at ls
    rw [ct_step ok (hn.filter _) this]
  by_cases eB : S.filter (fun d => !p d) = []
  · rw [eB]
    have l : (S.filter p).length = S.length := by rw [eB] at ls; simpa using ls
    simp only [sg_nil, ct_nil, Nat.mul_zero, Nat.mul_one, Nat.add_zero]
    rw [l, ch_self, ch_self, ← ct_step ok (hn.filter p) eA]
  rw [← ct_step ok (hn.filter p) eA, ← ct_step ok (hn.filter _) eB, ← Nat.add_mul]
  congr 1
  have a0 : 0 < (S.filter p).length := List.length_pos_iff.mpr eA
  have b0 : 0 < (S.filter fun d => !p d).length := List.length_pos_iff.mpr eB
  obtain ⟨a, ha⟩ : ∃ a, (S.filter p).length = a + 1 := ⟨_, (Nat.succ_pred_eq_of_pos a0).symm⟩
  obtain ⟨n, hs⟩ : ∃ n, S.length = n + 1 := ⟨S.length - 1, by omega⟩
  rw [ha, hs]; rfl
def tcn (ok : List Int → Int → Bool) : Nat → List Int → Int → Nat → Nat
  | 0, _, _, _ => 0
  | n + 1, S, x, k => if k + 1 = S.length then (if ok S x = true then ct ok (rm x S) else 0) else sg (rm x S) fun c => if ok S c = true then tcn ok n (rm c S) x k else 0
def tc (ok : List Int → Int → Bool) (S : List Int) (x : Int) (k : Nat) : Nat := tcn ok S.length S x k
theorem tc_step {ok : List Int → Int → Bool} {S : List Int} (hn : S.Nodup) {x : Int} (hx : x ∈ S) (k : Nat) : tc ok S x k = if k + 1 = S.length then (if ok S x = true then ct ok (rm x S) else 0) else sg (rm x S) fun c => if ok S c = true then tc ok (rm c S) x k else 0 := by
  unfold tc
  obtain ⟨n, hk⟩ : ∃ n, S.length = n + 1 := by cases S; cases hx; exact ⟨_, rfl⟩
  rw [hk]
  show (if k + 1 = S.length then _ else _) = _
  rw [hk]
  by_cases e : k + 1 = n + 1
  · rw [if_pos e, if_pos e]
  · rw [if_neg e, if_neg e]
    refine sg_congr fun c hc => ?_
    have := rm_len hn (rm_sub _ _ _ hc)
    rw [show (rm c S).length = n by omega]
theorem tc_big {ok : List Int → Int → Bool} {S : List Int} (hn : S.Nodup) {x : Int} (hx : x ∈ S) {k : Nat} (h : S.length ≤ k) : tc ok S x k = 0 := by
  refine nodup_ind (P := fun S => x ∈ S → S.length ≤ k → tc ok S x k = 0) ?_ hn hx h
  intro S hn ih hx h
  rw [tc_step hn hx, if_neg (by omega)]
  refine sg_zero fun c hc => ?_
  have hc' := mem_rm.mp hc
  have := rm_len hn hc'.1
  rw [ih c hc'.1 (mem_rm.mpr ⟨hx, Ne.symm hc'.2⟩) (by omega)]
  split <;> rfl
def bm (a t b j : Nat) : Nat := ch (t + j) j * ch (a - 1 - t + (b - j)) (b - j)
theorem bm_step {a t b j : Nat} (ht : t < a) (hj : j ≤ b) (h : t + j + 1 < a + b) : (if t + 1 < a then bm (a - 1) t b j else 0) + (if j < b then bm a t (b - 1) j else 0) = bm a t b j := by
  unfold bm
  by_cases h1 : t + 1 < a
  · by_cases h2 : j < b
    · rw [if_pos h1, if_pos h2, ← Nat.mul_add]
      congr 1
      rw [show a - 1 - 1 - t + (b - j) = (a - 1 - t - 1) + (b - j) by omega, show a - 1 - t + (b - 1 - j) = (a - 1 - t - 1) + (b - j) by omega]
      obtain ⟨v, hv⟩ : ∃ v, b - j = v + 1 := ⟨b - j - 1, by omega⟩
      obtain ⟨u, hu⟩ : ∃ u, a - 1 - t = u + 1 := ⟨a - 1 - t - 1, by omega⟩
      rw [hv, hu, show b - 1 - j = v by omega, show u + 1 - 1 + (v + 1) = u + (v + 1) by omega, show u + 1 + (v + 1) = (u + (v + 1)) + 1 by omega, ch]
      omega
    · rw [if_pos h1, if_neg h2, show b - j = 0 by omega]; simp
  · by_cases h2 : j < b
    · rw [if_neg h1, if_pos h2, Nat.zero_add]
      congr 1
      rw [show a - 1 - t = 0 by omega, Nat.zero_add, Nat.zero_add, ch_self, ch_self]
    · omega
theorem sg_range_one {n i : Nat} {f : Nat → Nat} (hi : i < n) (h : ∀ j, j < n → j ≠ i → f j = 0) : sg (List.range n) f = f i := by
  induction n with
  | zero => omega
  | succ n ih =>
    rw [List.range_succ, sg_app, sg_cons, sg_nil, Nat.add_zero]
    by_cases e : i = n
    · subst e
      rw [sg_zero fun a ha => h a (by have := List.mem_range.mp ha; omega) (by have := List.mem_range.mp ha; omega)]; omega
    · rw [ih (by omega) fun j hj => h j (by omega), h n (by omega) (fun e2 => e e2.symm)]; omega
theorem sg_range_succ (n : Nat) (f : Nat → Nat) : sg (List.range (n + 1)) f = sg (List.range n) f + f n := by
  rw [List.range_succ, sg_app, sg_cons, sg_nil, Nat.add_zero]
theorem tc_parts {ok : List Int → Int → Bool} {p : Int → Bool} {S : List Int} (hn : S.Nodup) (h : Apart ok p S) {x : Int} (hx : x ∈ S) (px : p x = true) (k : Nat) :
    tc ok S x k = ct ok (S.filter fun d => !p d) * sg (List.range ((S.filter fun d => !p d).length + 1)) fun j => if j ≤ k then tc ok (S.filter p) x (k - j) * bm (S.filter p).length (k - j) (S.filter fun d => !p d).length j else 0 := by
  refine nodup_ind (P := fun S => Apart ok p S → x ∈ S → tc ok S x k = ct ok (S.filter fun d => !p d) * sg (List.range ((S.filter fun d => !p d).length + 1)) fun j => if j ≤ k then tc ok (S.filter p) x (k - j) * bm (S.filter p).length (k - j) (S.filter fun d => !p d).length j else 0) ?_ hn h hx
  intro S hn ih h hx
  have xA : x ∈ S.filter p := List.mem_filter.mpr ⟨hx, px⟩
  have ls := len_split p S
  have a0 : 0 < (S.filter p).length := List.length_pos_of_mem xA
  have nA := hn.filter p
  have nB := hn.filter fun d => !p d
  by_cases hk : S.length ≤ k
  · rw [tc_big hn hx hk]
    symm
    rw [sg_zero, Nat.mul_zero]
    intro j hj
    have := List.mem_range.mp hj
    split
    · rw [tc_big nA xA (by omega), Nat.zero_mul]
    · rfl
  rw [tc_step hn hx]
  by_cases e : k + 1 = S.length
  · rw [if_pos e, h S (fun _ h => h) x hx, if_pos px]
    rw [sg_range_one (i := (S.filter fun d => !p d).length) (by omega) (fun j hj hne => by
      split
      · rw [tc_big nA xA (by omega), Nat.zero_mul]
      · rfl), if_pos (show (S.filter fun d => !p d).length ≤ k by omega), tc_step nA xA, if_pos (show k - (S.filter fun d => !p d).length + 1 = (S.filter p).length by omega)]
    have eb : bm (S.filter p).length (k - (S.filter fun d => !p d).length) (S.filter fun d => !p d).length (S.filter fun d => !p d).length = ch k (S.filter fun d => !p d).length := by
      unfold bm
      rw [Nat.sub_self, ch_zero, Nat.mul_one, show k - (S.filter fun d => !p d).length + (S.filter fun d => !p d).length = k by omega]
    rw [eb]
    by_cases o : ok (S.filter p) x = true
    · rw [if_pos o, if_pos o, ct_parts (rm_nodup hn) (h.rm x), rm_filter_in, rm_filter_out _ (show (!p x) = false by simp [px])]
      have l1 := rm_len hn hx
      have l2 := rm_len nA xA
      have c1 : ch (rm x S).length (rm x (S.filter p)).length = ch k (S.filter fun d => !p d).length := by
        have := ch_symm (rm x (S.filter p)).length (S.filter fun d => !p d).length
        rw [show (rm x S).length = (rm x (S.filter p)).length + (S.filter fun d => !p d).length by omega, this]
        congr 1; omega
      rw [c1, Nat.mul_comm (ct ok (rm x (S.filter p)))]
      simp only [Nat.mul_assoc, Nat.mul_left_comm, Nat.mul_comm]
    · rw [if_neg o, if_neg o]; simp
  · rw [if_neg e]
    -- the last one is in the one part or in the other
    have split1 : sg (rm x S) (fun c => if ok S c = true then tc ok (rm c S) x k else 0) = sg (rm x (S.filter p)) (fun c => if ok (S.filter p) c = true then tc ok (rm c S) x k else 0) + sg (S.filter fun d => !p d) (fun c => if ok (S.filter fun d => !p d) c = true then tc ok (rm c S) x k else 0) := by
      rw [sg_split _ p, rm_filter_in, rm_filter_out _ (show (!p x) = false by simp [px])]
      congr 1
      · refine sg_congr fun c hc => ?_
        obtain ⟨c1, c2⟩ := List.mem_filter.mp (rm_sub _ _ _ hc)
        rw [h S (fun _ h => h) c c1, if_pos c2]
      · refine sg_congr fun c hc => ?_
        obtain ⟨c1, c2⟩ := List.mem_filter.mp hc
        have c3 : p c = false := by simpa using c2
        have hok : ok S c = ok (S.filter fun d => !p d) c := by rw [h S (fun _ h => h) c c1, c3]; rfl
        rw [hok]
    have sA : sg (rm x (S.filter p)) (fun c => if ok (S.filter p) c = true then tc ok (rm c S) x k else 0) = ct ok (S.filter fun d => !p d) * sg (List.range ((S.filter fun d => !p d).length + 1)) fun j => if j ≤ k then tc ok (S.filter p) x (k - j) * (if k - j + 1 < (S.filter p).length then bm ((S.filter p).length - 1) (k - j) (S.filter fun d => !p d).length j else 0) else 0 := by
      have e1 : sg (rm x (S.filter p)) (fun c => if ok (S.filter p) c = true then tc ok (rm c S) x k else 0) = sg (rm x (S.filter p)) fun c => ct ok (S.filter fun d => !p d) * sg (List.range ((S.filter fun d => !p d).length + 1)) fun j => if ok (S.filter p) c = true then (if j ≤ k then tc ok (rm c (S.filter p)) x (k - j) * bm ((S.filter p).length - 1) (k - j) (S.filter fun d => !p d).length j else 0) else 0 := by
        refine sg_congr fun c hc => ?_
        obtain ⟨c0, cx⟩ := mem_rm.mp hc
        obtain ⟨c1, c2⟩ := List.mem_filter.mp c0
        by_cases o : ok (S.filter p) c = true
        · simp only [if_pos o]
          rw [ih c c1 (h.rm c) (mem_rm.mpr ⟨hx, Ne.symm cx⟩), rm_filter_in (p := p), rm_filter_out _ (show (!p c) = false by simp [c2])]
          have := rm_len nA c0
          rw [show (rm c (S.filter p)).length = (S.filter p).length - 1 by omega]
        · simp only [if_neg o]
          rw [sg_zero fun _ _ => rfl, Nat.mul_zero]
      rw [e1, sg_mul, sg_swap]
      congr 1
      refine sg_congr fun j hj => ?_
      by_cases hj2 : j ≤ k
      · simp only [if_pos hj2]
        have pull : (sg (rm x (S.filter p)) fun c => if ok (S.filter p) c = true then tc ok (rm c (S.filter p)) x (k - j) * bm ((S.filter p).length - 1) (k - j) (S.filter fun d => !p d).length j else 0) = (sg (rm x (S.filter p)) fun c => if ok (S.filter p) c = true then tc ok (rm c (S.filter p)) x (k - j) else 0) * bm ((S.filter p).length - 1) (k - j) (S.filter fun d => !p d).length j := by
          rw [← sg_mul']
          refine sg_congr fun c _ => ?_
          split <;> simp
        rw [pull]
        by_cases ht : k - j + 1 < (S.filter p).length
        · rw [if_pos ht, tc_step nA xA (k - j), if_neg (by omega)]
        · rw [if_neg ht, Nat.mul_zero]
          rw [sg_zero, Nat.zero_mul]
          intro c hc
          obtain ⟨c0, cx⟩ := mem_rm.mp hc
          have := rm_len nA c0
          rw [tc_big (rm_nodup nA) (mem_rm.mpr ⟨xA, Ne.symm cx⟩) (by omega)]
          split <;> rfl
      · simp only [if_neg hj2]
        exact sg_zero fun c _ => by split <;> rfl
    have sB : sg (S.filter fun d => !p d) (fun c => if ok (S.filter fun d => !p d) c = true then tc ok (rm c S) x k else 0) = ct ok (S.filter fun d => !p d) * sg (List.range ((S.filter fun d => !p d).length + 1)) fun j => if j ≤ k then tc ok (S.filter p) x (k - j) * (if j < (S.filter fun d => !p d).length then bm (S.filter p).length (k - j) ((S.filter fun d => !p d).length - 1) j else 0) else 0 := by
      by_cases eB : S.filter (fun d => !p d) = []
      · rw [eB]
        simp only [sg_nil, List.length_nil]
        rw [sg_zero, Nat.mul_zero]
        intro j _
        split
        · rw [if_neg (by omega), Nat.mul_zero]
        · rfl
      have e1 : sg (S.filter fun d => !p d) (fun c => if ok (S.filter fun d => !p d) c = true then tc ok (rm c S) x k else 0) = sg (S.filter fun d => !p d) fun c => (if ok (S.filter fun d => !p d) c = true then ct ok (rm c (S.filter fun d => !p d)) else 0) * sg (List.range (S.filter fun d => !p d).length) fun j => if j ≤ k then tc ok (S.filter p) x (k - j) * bm (S.filter p).length (k - j) ((S.filter fun d => !p d).length - 1) j else 0 := by
        refine sg_congr fun c hc => ?_
        obtain ⟨c1, c2⟩ := List.mem_filter.mp hc
        have c3 : p c = false := by simpa using c2
        have cx : x ≠ c := by rintro rfl; rw [px] at c3; cases c3
        by_cases o : ok (S.filter fun d => !p d) c = true
        · rw [if_pos o, if_pos o, ih c c1 (h.rm c) (mem_rm.mpr ⟨hx, cx⟩), rm_filter_out _ c3, rm_filter_in (p := fun d => !p d)]
          have := rm_len nB hc
          rw [show (rm c (S.filter fun d => !p d)).length + 1 = (S.filter fun d => !p d).length by omega, show (rm c (S.filter fun d => !p d)).length = (S.filter fun d => !p d).length - 1 by omega]
        · rw [if_neg o, if_neg o]; simp
      rw [e1, sg_mul', ← ct_step ok nB eB]
      congr 1
      rw [sg_range_succ]
      rw [show (if (S.filter fun d => !p d).length ≤ k then tc ok (S.filter p) x (k - (S.filter fun d => !p d).length) * (if (S.filter fun d => !p d).length < (S.filter fun d => !p d).length then bm (S.filter p).length (k - (S.filter fun d => !p d).length) ((S.filter fun d => !p d).length - 1) (S.filter fun d => !p d).length else 0) else 0) = 0 by split; rw [if_neg (by omega), Nat.mul_zero]; rfl, Nat.add_zero]
      refine sg_congr fun j hj => ?_
      have := List.mem_range.mp hj
      rw [if_pos (show j < (S.filter fun d => !p d).length from this)]
    rw [split1, sA, sB, ← Nat.mul_add, ← sg_add]
    congr 1
    refine sg_congr fun j hj => ?_
    have hj := List.mem_range.mp hj
    by_cases hj2 : j ≤ k
    · simp only [if_pos hj2]
      rw [← Nat.mul_add]
      by_cases ht : k - j < (S.filter p).length
      · rw [bm_step ht (by omega) (by omega)]
      · rw [tc_big nA xA (by omega)]; simp
    · simp only [if_neg hj2]
end NS
namespace NS
open PySem PySem.Spec PyProof.Rows L2
@[simp] theorem borOs_nil (f : DS → M D) : borOs [] f = f := rfl
@[simp] theorem borOs_cons (i : Nat) (is : List Nat) (f : DS → M D) : borOs (i :: is) f = eBorO i (borOs is f) := rfl
def nums (n : Nat) (f : Nat → Nat) : List D := (List.range n).map fun k => .int (f k : Nat)
@[simp] theorem nums_len (n : Nat) (f : Nat → Nat) : (nums n f).length = n := by simp [nums]
end NS
namespace NS
open PySem PySem.Spec PyProof.Rows L2
def insG {α : Type} (le : α → α → Bool) (x : α) : List α → List α
  | [] => [x]
  | y :: ys => if le x y = true then x :: y :: ys else y :: insG le x ys
def isrtG {α : Type} (le : α → α → Bool) : List α → List α
  | [] => []
  | x :: xs => insG le x (isrtG le xs)
theorem insD_map {α : Type} (f : α → D) (x : α) : ∀ l : List α, insD leD (f x) (l.map f) = (insG (fun a b => leD (f a) (f b)) x l).map f
  | [] => rfl
  | y :: ys => by
    simp only [List.map_cons, insD, insG]
    split
    · rfl
    · rw [insD_map f x ys]; rfl
theorem isrt_map {α : Type} (f : α → D) : ∀ l : List α, isrt leD (l.map f) = (isrtG (fun a b => leD (f a) (f b)) l).map f
  | [] => rfl
  | x :: xs => by rw [List.map_cons, isrt, isrt_map f xs, insD_map]; rfl
theorem insG_perm {α : Type} (le : α → α → Bool) (x : α) : ∀ l : List α, (insG le x l).Perm (x :: l)
  | [] => .refl _
  | y :: ys => by
    unfold insG
    split
    · exact .refl _
    · exact (List.Perm.cons y (insG_perm le x ys)).trans (List.Perm.swap x y ys)
theorem isrtG_perm {α : Type} (le : α → α → Bool) : ∀ l : List α, (isrtG le l).Perm l
  | [] => .refl _
  | x :: xs => (insG_perm le x _).trans (List.Perm.cons x (isrtG_perm le xs))
theorem insG_sorted {α : Type} {le : α → α → Bool} (tr : ∀ a b c, le a b = true → le b c = true → le a c = true) (to : ∀ a b, le a b = true ∨ le b a = true) (x : α) : ∀ {l : List α}, l.Pairwise (fun a b => le a b = true) → (insG le x l).Pairwise fun a b => le a b = true
  | [], _ => by simp [insG]
  | y :: ys, h => by
    have h2 := List.pairwise_cons.mp h
    unfold insG
    split
    · rename_i hxy
      refine List.pairwise_cons.mpr ⟨fun a ha => ?_, h⟩
      rcases List.mem_cons.mp ha with rfl | ha
      · exact hxy
      · exact tr _ _ _ hxy (h2.1 a ha)
    · rename_i hxy
      refine List.pairwise_cons.mpr ⟨fun a ha => ?_, insG_sorted tr to x h2.2⟩
      rcases List.mem_cons.mp ((insG_perm le x ys).mem_iff.mp ha) with rfl | ha
      · exact (to a y).resolve_left hxy
      · exact h2.1 a ha
theorem isrtG_sorted {α : Type} {le : α → α → Bool} (tr : ∀ a b c, le a b = true → le b c = true → le a c = true) (to : ∀ a b, le a b = true ∨ le b a = true) : ∀ l : List α, (isrtG le l).Pairwise fun a b => le a b = true
  | [] => .nil
  | x :: xs => insG_sorted tr to x (isrtG_sorted tr to xs)
theorem isrtD_sorted {α : Type} (f : α → D) (l : List α) : (isrtG (fun a b => leD (f a) (f b)) l).Pairwise fun a b => leD (f a) (f b) = true :=
  isrtG_sorted (le := fun a b => leD (f a) (f b)) (fun a b c h1 h2 => leD_trans _ _ _ h1 h2) (fun a b => leD_tot.total (f a) (f b)) l
end NS
namespace NS
open PySem PySem.Spec PyProof.Rows L2
section
variable {ndr : Int → Int → Bool} {m : Int}
def tp (ndr : Int → Int → Bool) (m a b x : Int) (k : Nat) : Nat := tc (okW ndr (rI 0 m)) (rI a b) x k
end
end NS
namespace NS
open PySem PySem.Spec PyProof.Rows L2
end NS
namespace NS
open PySem PySem.Spec PyProof.Rows L2
def tcT (t : Tab) (c : Int) (k : Nat) : Nat := tc (okW (nd t) (takenI t)) (takenI t) c k
end NS
namespace NS
open PySem PySem.Spec PyProof.Rows L2
theorem Good.lot {t : Tab} {P σ : List Int} (g : Good t P) (h : σ.Perm (readyI t P)) : Good t (P ++ σ) := by
  have nr : (readyI t P).Nodup := (rest_nodup t P).filter _
  have sub : ∀ c ∈ σ, c ∈ readyI t P := fun c hc => h.mem_iff.mp hc
  have nσ : σ.Nodup := h.nodup_iff.mpr nr
  refine ⟨List.nodup_append.mpr ⟨g.nodup, nσ, fun a ha b hb e => ?_⟩, fun c hc => ?_, fun k c e d n => ?_⟩
  · subst e; exact (mem_ready.mp (sub a hb)).2.1 ha
  · rcases List.mem_append.mp hc with hc | hc
    · exact g.sub c hc
    · exact (mem_ready.mp (sub c hc)).1
  · by_cases hk : k < P.length
    · rw [List.getElem?_append_left hk] at e
      rw [List.take_append_of_le_length (by omega)]
      exact g.ag k c e d n
    · rw [List.getElem?_append_right (by omega)] at e
      have := (mem_ready.mp (sub c (List.mem_of_getElem? e))).2.2 d n
      rw [List.take_append]
      exact List.mem_append_left _ (by rw [List.take_of_length_le (by omega)]; exact this)
end NS
namespace NS
open PySem PySem.Spec PyProof.Rows L2
def dblF (V : List (List Int)) (c : Int) : List (List Int) := V ++ V.map fun S => S ++ [c]
def subsI (R : List Int) : List (List Int) := R.foldl dblF [[]]
def viewsI (t : Tab) : List (List Int) := (subsI (takenI t)).filter fun S => clB t S
def tD (S : List Int) : D := .tup (S.map .int)
theorem subsI_snoc (R : List Int) (c : Int) : subsI (R ++ [c]) = dblF (subsI R) c := by unfold subsI; rw [List.foldl_append]; rfl
theorem subsI_len (R : List Int) : (subsI R).length = 2 ^ R.length := by
  have : ∀ n, ∀ R : List Int, R.length = n → (subsI R).length = 2 ^ n := by
    intro n
    induction n with
    | zero => intro R h; have := List.length_eq_zero_iff.mp h; subst this; rfl
    | succ n ih =>
      intro R h
      obtain ⟨r, c, rfl⟩ : ∃ r c, R = r ++ [c] := ⟨R.dropLast, R.getLast (by intro e; subst e; simp at h), (List.dropLast_concat_getLast _).symm⟩
      rw [subsI_snoc]
      unfold dblF
      rw [List.length_append, List.length_map, ih r (by simpa using h), Nat.pow_succ]; omega
  exact this _ R rfl
theorem subsI_sub : ∀ (R : List Int) (S : List Int), S ∈ subsI R → S.Sublist R := by
  have : ∀ n, ∀ R : List Int, R.length = n → ∀ S ∈ subsI R, S.Sublist R := by
    intro n
    induction n with
    | zero =>
      intro R h S hS
      have := List.length_eq_zero_iff.mp h
      subst this
      simp [subsI] at hS
      subst hS; exact List.Sublist.refl _
    | succ n ih =>
      intro R h S hS
      obtain ⟨r, c, rfl⟩ : ∃ r c, R = r ++ [c] := ⟨R.dropLast, R.getLast (by intro e; subst e; simp at h), (List.dropLast_concat_getLast _).symm⟩
      rw [subsI_snoc] at hS
      unfold dblF at hS
      rcases List.mem_append.mp hS with hS | hS
      · exact (ih r (by simpa using h) S hS).trans (List.sublist_append_left _ _)
      · obtain ⟨S', hS', rfl⟩ := List.mem_map.mp hS
        exact List.Sublist.append (ih r (by simpa using h) S' hS') (List.Sublist.refl _)
  exact fun R => this _ R rfl
theorem subs_set {t : Tab} {S : List Int} (h : S ∈ subsI (takenI t)) : Set1 t S :=
  ⟨(taken_sorted t).sublist (subsI_sub _ _ h), fun c hc => (subsI_sub _ _ h).subset hc⟩
theorem all_views_T {x : D} {t : Tab} (h : Tb x t) (ok : Tok t) (p : Pos t) : Is (d_all_views [x]) (.lst ((viewsI t).map tD)) := by
  refine Is.of_T fun g hg => runD_T ?_
  unfold b_all_views
  have tl := tl_le ok
  simp -implicitDefEqProofs [startD, (possible_yes h ok p).T hg, taken_T h ok.len]
  refine forM_T (fun i σ g' => (∃ x2, σ = [some (.sh x), some (.sh (.lst ((subsI ((takenI t).take i)).map tD))), x2, none]) ∧ g' = g) (n := 0) ?_ ⟨⟨_, rfl⟩, rfl⟩ ?_
  · rintro i d σ g' e ⟨⟨x2, rfl⟩, rfl⟩
    rw [List.getElem?_map] at e
    obtain ⟨c, ec, rfl⟩ := Option.map_eq_some_iff.mp e
    have hi := (List.getElem?_eq_some_iff.mp ec).1
    have tk : (takenI t).take (0 + i + 1) = (takenI t).take i ++ [c] := by rw [Nat.zero_add, List.take_add_one, ec]; rfl
    have sl := subsI_len ((takenI t).take i)
    have pw : 2 ^ ((takenI t).take i).length ≤ 4096 := Nat.le_trans (Nat.pow_le_pow_right (by decide) (show ((takenI t).take i).length ≤ 12 by have : ((takenI t).take i).length ≤ i := List.length_take_le _ _; omega)) (by decide)
    have sub := subsI_sub ((takenI t).take i)
    rw [tk, subsI_snoc, Nat.zero_add]
    have key : compM (gN 3) tYesD (eBin kAdd (eVar 3) (eArgs mkT (lCons (eVar 2) lNil))) [some (.sh x), some (.sh (.lst ((subsI ((takenI t).take i)).map tD))), some (.sh (.int c)), none] ((subsI ((takenI t).take i)).map tD) = M.pure (((subsI ((takenI t).take i)).map fun S => S ++ [c]).map tD) := by
      rw [List.map_map]
      refine compM_all (f := tD ∘ fun S => S ++ [c]) fun S hS => ⟨_, rfl, rfl, ?_⟩
      have l1 := (sub S hS).length_le
      have l2 : S.length < 1000 := by have : ((takenI t).take i).length ≤ i := List.length_take_le _ _; omega
      simp -implicitDefEqProofs [tD]
      omega
    generalize hV : subsI ((takenI t).take i) = V at *
    simp -implicitDefEqProofs [key, -List.map_map]
    refine ⟨by omega, by omega, ?_⟩
    unfold dblF
    rw [List.map_append]
  · rintro σ g' ⟨⟨x2, rfl⟩, rfl⟩
    rw [List.length_map, Nat.zero_add, List.take_of_length_le (Nat.le_refl _)]
    have sl := subsI_len (takenI t)
    have pw : 2 ^ (takenI t).length ≤ 4096 := Nat.le_trans (Nat.pow_le_pow_right (by decide) tl) (by decide)
    have key : compM (gN 3) (eTst (eArgs (callN 2 d_is_closed) (lCons (eVar 0) (lCons (eVar 3) lNil)))) (eVar 3) [some (.sh x), some (.sh (.lst ((subsI (takenI t)).map tD))), x2, none] ((subsI (takenI t)).map tD) = M.pure ((viewsI t).map tD) := by
      refine compM_pure (p := fun S => clB t S) (f := tD) fun S hS => ⟨_, rfl, ?_, fun _ => rfl⟩
      have h1 := subs_set hS
      have cl := closed_T h ok (y := tD S) (.inl rfl) h1.2 (h1.len ok)
      simp -implicitDefEqProofs [cl]
    simp -implicitDefEqProofs [key]
    omega
theorem kCount_ints (R : List Int) (k : Int) (hl : R.length < 1000000) : kCount (.lst (R.map .int)) [.int k] = M.pure (.int ((R.filter fun r => r == k).length : Nat)) := by
  have h1 := pl_sh (n := 1) (pl_lst_ints 0 R hl) (by decide)
  have pk : plOk (R.map .int) (.int k) = true := by
    unfold plOk
    have a1 : D.pysOk (R.map .int) = true := h1.1
    have a2 : SeqAt.shaped (.list (D.pys (R.map .int))) = true := h1.2
    have a3 := pl_sh (n := 0) (pl_int 0 k) (by decide)
    rw [a1, a2, a3.1, a3.2]; rfl
  have cnt : ((D.pys (R.map .int)).countP fun y => PyData.eqv y (D.py (.int k))) = (R.filter fun r => r == k).length := by
    clear h1 pk hl
    induction R with
    | nil => rfl
    | cons a R ih =>
      have e : PyData.eqv (D.py (.int a)) (D.py (.int k)) = (a == k) := eqD_int a k
      simp only [List.map_cons, D.pys, List.countP_cons, e, ih, List.filter_cons]
      by_cases h : a = k <;> simp [h]
  show (if plOk (R.map .int) (.int k) = true then M.pure (.int (((D.pys (R.map .int)).countP fun y => PyData.eqv y (D.py (.int k)) : Nat) : Int)) else M.bad : M D) = _
  rw [if_pos pk, cnt]
def cvI (t : Tab) (k : Nat) : Nat := ((viewsI t).filter fun S => S.length == k).length
theorem views_len {t : Tab} (ok : Tok t) : (viewsI t).length ≤ 4096 := by
  refine Nat.le_trans (List.length_filter_le _ _) ?_
  rw [subsI_len]
  exact Nat.le_trans (Nat.pow_le_pow_right (by decide) (tl_le ok)) (by decide)
end NS
namespace NS
open PySem PySem.Spec PyProof.Rows L2
section
variable {nd : Int → Int → Bool}
theorem sub_swap (c : Int) (F : List Int → Nat) : ∀ (n : Nat) (R : List Int), R.length = n → R.Nodup → c ∈ R → sg (subsI R) (fun S => if c ∈ S then 0 else F S) = sg (subsI R) fun S => if c ∈ S then F (rm c S) else 0
  := by
  intro n
  induction n generalizing F with
  | zero => intro R h _ hc; rw [List.length_eq_zero_iff.mp h] at hc; cases hc
  | succ n ih =>
    intro R h hn hc
    obtain ⟨r, a, rfl⟩ : ∃ r a, R = r ++ [a] := ⟨R.dropLast, R.getLast (by intro e; subst e; simp at h), (List.dropLast_concat_getLast _).symm⟩
    have hn2 := List.nodup_append.mp hn
    have ha : a ∉ r := fun z => hn2.2.2 a z a (by simp) rfl
    rw [subsI_snoc]
    unfold dblF
    rw [sg_app, sg_app, sg_map, sg_map]
    by_cases e : c = a
    · subst e
      have no : ∀ S ∈ subsI r, c ∉ S := fun S hS z => ha ((subsI_sub _ _ hS).subset z)
      rw [sg_congr (f := fun S => if c ∈ S then 0 else F S) (g := F) fun S hS => if_neg (no S hS),
        sg_zero (f := fun S => if c ∈ S ++ [c] then 0 else F (S ++ [c])) fun S hS => if_pos (by simp),
        sg_zero (f := fun S => if c ∈ S then F (rm c S) else 0) fun S hS => if_neg (no S hS),
        sg_congr (f := fun S => if c ∈ S ++ [c] then F (rm c (S ++ [c])) else 0) (g := F) fun S hS => by
          rw [if_pos (by simp), rm_app, rm_not (no S hS)]
          simp [rm]]
      omega
    · have hc2 : c ∈ r := by
        rcases List.mem_append.mp hc with z | z
        · exact z
        · exact absurd (List.mem_singleton.mp z) e
      have i1 := ih F r (by simpa using h) hn2.1 hc2
      have i2 := ih (fun S => F (S ++ [a])) r (by simpa using h) hn2.1 hc2
      rw [i1]
      congr 1
      refine Eq.trans ?_ (i2.trans ?_)
      · refine sg_congr fun S _ => ?_
        by_cases z : c ∈ S <;> simp [z, e]
      · refine sg_congr fun S _ => ?_
        have ra : rm c (S ++ [a]) = rm c S ++ [a] := by rw [rm_app]; congr 1; simp [rm]; exact fun z => e z.symm
        by_cases z : c ∈ S <;> simp [z, e, ra]
end
end NS
namespace NS
open PySem PySem.Spec PyProof.Rows L2
theorem srtOk_tups {L : List (List Int)} (hn : ∀ S ∈ L, S ≠ []) (h : L.length < 1000000) : srtOk (L.map tD) = true := by
  have ok1 : ∀ S : List Int, D.pysOk (S.map .int) = true := fun l => by induction l with | nil => rfl | cons x xs ih => simp [D.pysOk, ih, D.pyOk]
  have e1 : ∀ S : List Int, D.pys (S.map .int) = S.map .int := fun l => by induction l with | nil => rfl | cons x xs ih => simp [D.pys, ih, D.py]
  have d1 : ∀ S : List Int, PyData.depthAll (S.map .int) = 0 := fun l => by induction l with | nil => rfl | cons x xs ih => simp [PyData.depthAll, PyData.depth, ih]
  have a1 : ∀ S S' : List Int, PySem.W.alikeAll (S.map .int) (S'.map .int) = true := fun l => by
    induction l with
    | nil => intro S'; cases S' <;> rfl
    | cons x xs ih => intro S'; cases S' with
      | nil => rfl
      | cons y ys => simp [PySem.W.alikeAll, PySem.W.alike, ih]
  have okk : ∀ l : List (List Int), D.pysOk (l.map tD) = true := fun l => by
    induction l with
    | nil => rfl
    | cons x xs ih =>
      rw [List.map_cons]
      show (D.pysOk (x.map .int) && D.pysOk (xs.map tD)) = true
      rw [ok1, ih]; rfl
  have e : ∀ l : List (List Int), D.pys (l.map tD) = l.map fun S => .tuple (S.map .int) := fun l => by
    induction l with
    | nil => rfl
    | cons x xs ih =>
      rw [List.map_cons, List.map_cons, ← ih, ← e1]; rfl
  have dp : ∀ l : List (List Int), PyData.depthAll (l.map fun S => PyData.tuple (S.map .int)) ≤ 60 := fun l => by
    induction l with
    | nil => simp [PyData.depthAll]
    | cons x xs ih =>
      rw [List.map_cons]
      show max (PyData.depthAll (x.map .int) + 1) _ ≤ 60
      rw [d1]; omega
  unfold srtOk
  rw [okk, e]
  simp only [Bool.and_eq_true, List.all_eq_true, decide_eq_true_eq, Bool.or_eq_true, List.mem_map, dp, and_true, true_and]
  refine ⟨⟨?_, .inl ?_⟩, by simpa using h⟩
  · rintro _ ⟨S, _, rfl⟩ _ ⟨S', _, rfl⟩
    exact a1 S S'
  · rintro _ ⟨S, hS, rfl⟩
    cases S with
    | nil => exact absurd rfl (hn _ hS)
    | cons => rfl
end NS
namespace NS
open PySem PySem.Spec PyProof.Rows L2
end NS
namespace NS
open PySem PySem.Spec PyProof.Rows L2
theorem thr_view {t : Tab} (ng : Ngap t) {S : List Int} (hS : Set1 t S) (cl : clB t S = true) : thr t (allS t [S]) [] 1 = LE (nd t) S * LE (nd t) (dif (takenI t) S) := by
  have h1 : (S.all fun c => (takenI t).contains c) = true := List.all_eq_true.mpr fun c hc => by simpa using hS.2 c hc
  show thr t [(S, false), (takenI t, true)] [] 1 = _
  unfold thr
  rw [if_pos (by simpa using cl)]
  unfold thr
  rw [if_pos (by rw [h1, cl_taken ng]; rfl)]
  unfold thr
  rw [dif_nil, Nat.one_mul]
theorem thr_no {t : Tab} {S : List Int} (cl : clB t S = false) : thr t (allS t [S]) [] 1 = 0 := by
  show thr t [(S, false), (takenI t, true)] [] 1 = _
  unfold thr
  rw [if_neg (by simp [cl])]
theorem thr_iff {t : Tab} (p : Pos t) {S : List Int} (hS : Set1 t S) : decide (0 < thr t (allS t [S]) [] 1) = clB t S := by
  cases cl : clB t S with
  | false => rw [thr_no cl]; rfl
  | true =>
    rw [thr_view p.1 hS cl]
    have := Nat.mul_pos (LE_pos' p hS) (LE_pos' p ((Set1.taken t).dif S))
    exact decide_eq_true this
end NS
namespace NS
open PySem PySem.Spec PyProof.Rows L2
theorem strOk_app {x y : Str} (hx : PyData.strOk x = true) (hy : PyData.strOk y = true) : PyData.strOk (x ++ y) = true := by
  unfold PyData.strOk at *
  show (x.cps ++ y.cps).all _ = true
  rw [Array.all_append, hx, hy]; rfl
structure Shw (d : D) (b k : Nat) : Prop where
  ok : D.pyOk d = true
  sh : (D.py d).showable = true
  st : PyData.strOk (D.py d).shown = true
  ln : (D.py d).shown.length ≤ b
  dp : (D.py d).depth ≤ k
theorem Shw.mono {d : D} {b k b' k' : Nat} (h : Shw d b k) (hb : b ≤ b') (hk : k ≤ k') : Shw d b' k' := ⟨h.ok, h.sh, h.st, Nat.le_trans h.ln hb, Nat.le_trans h.dp hk⟩
end NS
namespace NS
open PySem PySem.Spec PyProof.Rows L2
end NS
namespace NS
open PySem PySem.Spec PyProof.Rows L2
def fitN (t : Tab) : Nat → List (List Int)
  | 0 => [[]]
  | n + 1 => (fitN t n).flatMap fun P => (readyI t P).map fun c => P ++ [c]
def fitI (t : Tab) : List (List Int) := fitN t (takenI t).length
theorem mem_fit {t : Tab} : ∀ {n : Nat} {P : List Int}, P ∈ fitN t n ↔ Good t P ∧ P.length = n
  | 0, P => by
    simp only [fitN, List.mem_singleton]
    constructor
    · rintro rfl; exact ⟨Good.nil t, rfl⟩
    · rintro ⟨_, h⟩; exact List.length_eq_zero_iff.mp h
  | n + 1, P => by
    simp only [fitN, List.mem_flatMap, List.mem_map]
    constructor
    · rintro ⟨Q, hQ, c, hc, rfl⟩
      obtain ⟨g, l⟩ := mem_fit.mp hQ
      exact ⟨g.snoc hc, by simp [l]⟩
    · rintro ⟨g, l⟩
      have ne : P ≠ [] := by rintro rfl; simp at l
      rw [← List.dropLast_concat_getLast ne] at g
      obtain ⟨g1, h1⟩ := g.pre
      exact ⟨P.dropLast, mem_fit.mpr ⟨g1, by simp [l]⟩, P.getLast ne, h1, List.dropLast_concat_getLast ne⟩
theorem flatMap_le {α β : Type} {f : α → List β} {k : Nat} : ∀ {l : List α}, (∀ a ∈ l, (f a).length ≤ k) → (l.flatMap f).length ≤ l.length * k
  | [], _ => by simp
  | a :: l, h => by
    have h1 := h a List.mem_cons_self
    have h2 := flatMap_le (l := l) fun b hb => h b (List.mem_cons_of_mem _ hb)
    rw [List.flatMap_cons, List.length_append, List.length_cons, Nat.add_mul]; omega
theorem ready_le {t : Tab} (P : List Int) : (readyI t P).length ≤ (takenI t).length := Nat.le_trans (List.length_filter_le _ _) (List.length_filter_le _ _)
theorem fit_le6 {t : Tab} (h : (takenI t).length ≤ 6) : ∀ n, (fitN t n).length ≤ 6 ^ n
  | 0 => by simp [fitN]
  | n + 1 => by
    have := fit_le6 h n
    refine Nat.le_trans (flatMap_le (k := 6) fun P _ => ?_) ?_
    · rw [List.length_map]; exact Nat.le_trans (ready_le P) h
    · rw [Nat.pow_succ]; omega
theorem fit_lt {t : Tab} (h : (takenI t).length ≤ 6) {n : Nat} (hn : n ≤ 6) : (fitN t n).length ≤ 46656 := Nat.le_trans (fit_le6 h n) (Nat.pow_le_pow_right (by decide) hn)
def tupI (P : List Int) : D := .tup (P.map .int)
theorem pl_tupI (n : Nat) (P : List Int) (h : P.length < 1000000) : D.pl (n + 1) (tupI P) = true := by unfold tupI; simp; omega
def wantD (t : Tab) : D := .dK (mergeP [] ((takenI t).map fun c => (.inl c, .lst ((needI t c).map .int))))
theorem pairsD_map (f : Int → D) : ∀ l : List Int, pairsD (l.map fun c => .tup [.int c, f c]) = some (l.map fun c => (.inl c, f c))
  | [] => rfl
  | c :: l => by
    rw [List.map_cons, List.map_cons, pairsD, pairsD_map f l]; rfl
theorem val_merge (f : Int → D) (c : Int) : ∀ (l : List Int) (acc : List (Key × D)), valD (mergeP acc (l.map fun c => (.inl c, f c))) (.inl c) = if c ∈ l then some (f c) else valD acc (.inl c)
  | [], acc => by simp [mergeP]
  | a :: l, acc => by
    show valD (mergeP (putD acc (.inl a) (f a)) (l.map fun c => (.inl c, f c))) (.inl c) = _
    rw [val_merge f c l, valD_put]
    by_cases h : c ∈ l
    · simp [h]
    · by_cases e : a = c
      · subst e; simp [h]
      · rw [if_neg h, if_neg (by intro z; injection z with z; exact e z), if_neg (by simp [h]; exact fun z => e z.symm)]
theorem dict_want (t : Tab) : kDictP [.lst ((takenI t).map fun c => .tup [.int c, .lst ((needI t c).map .int)])] = M.pure (wantD t) := by
  show M.opt ((pairsD _).map _) = _
  rw [pairsD_map fun c => .lst ((needI t c).map .int)]
  rfl
theorem want_ix {t : Tab} {c : Int} (hc : c ∈ takenI t) : kIxD (wantD t) (.int c) = M.pure (.lst ((needI t c).map .int)) := by
  show M.opt (valD _ (Sum.inl c : Key)) = _
  rw [val_merge (fun c => .lst ((needI t c).map .int)), if_pos hc]; rfl
theorem fitting_T {x : D} {t : Tab} (h : Tb x t) (ok : Tok t) (h6 : (takenI t).length ≤ 6) : Is (d_Lfitting [x]) (.lst ((fitI t).map tupI)) := by
  refine Is.of_T fun g hg => runD_T ?_
  unfold b_Lfitting
  have kw : compM (gN 4) tYesD (eArgs mkT (lCons (eVar 4) (lCons (eArgs (callN 2 d_Lwanted) (lCons (eVar 0) (lCons (eVar 4) lNil))) lNil))) [some (.sh x), some (.sh (.lst [.tup []])), some (.sh (.lst ((takenI t).map .int))), none, none, none, none, none, none, none] ((takenI t).map .int) = M.pure ((takenI t).map fun c => .tup [.int c, .lst ((needI t c).map .int)]) :=
    compM_all fun c hc => ⟨_, rfl, rfl, by simp -implicitDefEqProofs [Lwanted_T h ok (mem_taken.mp hc)]⟩
  have dw := dict_want t
  simp -implicitDefEqProofs [startD, Lfull_T h ok, kw, dw]
  refine ⟨by omega, ?_⟩
  generalize hW : wantD t = W
  have wx : ∀ c ∈ takenI t, kIxD W (.int c) = M.pure (.lst ((needI t c).map .int)) := fun c hc => by rw [← hW]; exact want_ix hc
  clear hW
  refine forM_T (fun i σ g' => (∃ x4 x5 x6 x7 x8 x9, σ = [some (.sh x), some (.sh (.lst ((fitN t i).map tupI))), some (.sh (.lst ((takenI t).map .int))), some (.sh W), x4, x5, x6, x7, x8, x9]) ∧ g' = g) (n := 0) ?_ ⟨⟨_, _, _, _, _, _, rfl⟩, rfl⟩ ?_
  · rintro i d σ g' e ⟨⟨x4, x5, x6, x7, x8, x9, rfl⟩, rfl⟩
    have hi := (List.getElem?_eq_some_iff.mp e).1
    rw [List.length_map] at hi
    rw [Nat.zero_add]
    simp -implicitDefEqProofs
    refine forM_T (fun j σ g2 => (∃ x4 x7 x8 x9, σ = [some (.sh x), some (.sh (.lst ((fitN t i).map tupI))), some (.sh (.lst ((takenI t).map .int))), some (.sh W), x4, some (.sh d), some (.ow (.lst ((((fitN t i).take j).flatMap fun P => (readyI t P).map fun c => P ++ [c]).map tupI))), x7, x8, x9]) ∧ g2 = g') (n := 0) ?_ ⟨⟨x4, x7, x8, x9, by simp⟩, rfl⟩ ?_
    · rintro j d2 σ g2 e2 ⟨⟨x4, x7, x8, x9, rfl⟩, rfl⟩
      rw [List.getElem?_map] at e2
      obtain ⟨P, eP, rfl⟩ := Option.map_eq_some_iff.mp e2
      have lP : P.length = i := (mem_fit.mp (List.mem_of_getElem? eP)).2
      rw [Nat.zero_add, List.take_add_one, eP, List.flatMap_append, List.map_append]
      have nin : ∀ c, kNotIn (.int c) (tupI P) = M.pure (.bl (!P.contains c)) := fun c => by unfold tupI; simp
      have kin : ∀ c, kIn (.int c) (tupI P) = M.pure (.bl (P.contains c)) := fun c => by unfold tupI; simp
      have tl := tl_le ok
      have c1 : compM (gN 4) (eAnd (eTst (eBin kNotIn (eVar 4) (eVar 7))) (eTst (eArgs (kOfBls fun bs => M.pure (.bl (bs.all id))) (lCons (eComp (iSeq (eBin kIxD (eVar 3) (eVar 4))) [9] (gN 9) tYesD (eBin kIn (eVar 9) (eVar 7))) lNil)))) (eVar 4) [some (.sh x), some (.sh (.lst ((fitN t i).map tupI))), some (.sh (.lst ((takenI t).map .int))), some (.sh W), none, some (.sh d), some (.ow (.lst ((((fitN t i).take j).flatMap fun P => (readyI t P).map fun c => P ++ [c]).map tupI))), some (.sh (tupI P)), x8, x9] ((takenI t).map .int) = M.pure ((readyI t P).map .int) := by
        have er : readyI t P = (takenI t).filter fun c => !P.contains c && (needI t c).all fun d => P.contains d := by
          unfold readyI restI; rw [List.filter_filter]; refine List.filter_congr fun c _ => Bool.and_comm _ _
        rw [er]
        refine compM_pure (p := fun c => !P.contains c && (needI t c).all fun d => P.contains d) (f := .int) fun c hc => ⟨_, rfl, ?_, fun _ => rfl⟩
        have nl := need_len ok c
        have c3 : compM (gN 9) tYesD (eBin kIn (eVar 9) (eVar 7)) [some (.sh x), some (.sh (.lst ((fitN t i).map tupI))), some (.sh (.lst ((takenI t).map .int))), some (.sh W), some (.sh (.int c)), some (.sh d), some (.ow (.lst ((((fitN t i).take j).flatMap fun P => (readyI t P).map fun c => P ++ [c]).map tupI))), some (.sh (tupI P)), x8, none] ((needI t c).map .int) = M.pure (((needI t c).map fun d => P.contains d).map .bl) := by
          rw [compM_all (f := fun d => .bl (P.contains d)) fun d hd => ⟨_, rfl, rfl, by simp [kin]⟩, List.map_map]
          rfl
        by_cases hp : c ∈ P
        · simp -implicitDefEqProofs [nin, hp]
        · simp -implicitDefEqProofs [nin, hp, wx c hc, c3, -List.map_map]
          intro h; omega
      have rl := ready_le (t := t) P
      have c2 : compM (gN 4) tYesD (eBin kAdd (eVar 7) (eArgs mkT (lCons (eVar 4) lNil))) [some (.sh x), some (.sh (.lst ((fitN t i).map tupI))), some (.sh (.lst ((takenI t).map .int))), some (.sh W), none, some (.sh d), some (.ow (.lst ((((fitN t i).take j).flatMap fun P => (readyI t P).map fun c => P ++ [c]).map tupI))), some (.sh (tupI P)), some (.sh (.lst ((readyI t P).map .int))), x9] ((readyI t P).map .int) = M.pure ((readyI t P).map fun c => tupI (P ++ [c])) := by
        refine compM_all (f := fun c => tupI (P ++ [c])) fun c hc => ⟨_, rfl, rfl, ?_⟩
        have ka : kAdd (tupI P) (.tup [.int c]) = M.pure (tupI (P ++ [c])) := by
          unfold tupI
          simp
          omega
        simp -implicitDefEqProofs [ka]
      have len1 : ((((fitN t i).take j).flatMap fun P => (readyI t P).map fun c => P ++ [c]).map tupI).length ≤ 46656 := by
        rw [List.length_map]
        have hsub : (((fitN t i).take j).flatMap fun P => (readyI t P).map fun c => P ++ [c]).length ≤ (fitN t (i + 1)).length := by
          conv => rhs; rw [fitN, ← List.take_append_drop j (fitN t i), List.flatMap_append, List.length_append]
          omega
        exact Nat.le_trans hsub (fit_lt h6 (by omega))
      simp -implicitDefEqProofs [c1, c2]
      have len2 : (List.take j (List.map (fun a => (readyI t a).length) (fitN t i))).sum ≤ 46656 := by simpa using len1
      exact ⟨by omega, by omega, by omega⟩
    · rintro σ g2 ⟨⟨x4, x7, x8, x9, rfl⟩, rfl⟩
      rw [Nat.zero_add, List.length_map, List.take_of_length_le (Nat.le_refl _)]
      simp -implicitDefEqProofs
      rfl
  · rintro σ g' ⟨⟨x4, x5, x6, x7, x8, x9, rfl⟩, rfl⟩
    rw [Nat.zero_add, List.length_map]
    simp -implicitDefEqProofs [fitI]
end NS
namespace NS
open PySem PySem.Spec PyProof.Rows L2
theorem Good.pos {t : Tab} {σ : List Int} (g : Good t σ) (l : σ.length = (takenI t).length) : Pos t := by
  have all : ∀ c, ent t c ≠ .e → ∃ k, σ[k]? = some c := fun c hc => List.getElem?_of_mem ((perm_of g.nodup (taken_nodup t) g.sub (by omega)).mem_iff.mpr (mem_taken.mpr hc))
  refine ⟨fun c d n => ?_, fun c hc d hd ⟨n1, n2⟩ => ?_⟩
  · obtain ⟨k, hk⟩ := all c (nd_taken n)
    exact mem_taken.mp (g.sub d (List.mem_of_mem_take (g.ag k c hk d n)))
  · obtain ⟨i, hi⟩ := all c (nd_taken n1)
    obtain ⟨j, hj⟩ := all d (nd_taken n2)
    obtain ⟨i2, l2, e2⟩ := List.mem_take_iff_getElem.mp (g.ag i c hi d n1)
    obtain ⟨j2, l3, e3⟩ := List.mem_take_iff_getElem.mp (g.ag j d hj c n2)
    have a1 : j = i2 := (List.getElem?_inj (List.getElem?_eq_some_iff.mp hj).1 g.nodup).mp (hj.trans (by rw [List.getElem?_eq_getElem (by omega), e2]))
    have a2 : i = j2 := (List.getElem?_inj (List.getElem?_eq_some_iff.mp hi).1 g.nodup).mp (hi.trans (by rw [List.getElem?_eq_getElem (by omega), e3]))
    omega
theorem fit_pos {t : Tab} : fitI t ≠ [] ↔ Pos t := by
  constructor
  · intro h
    obtain ⟨P, hP⟩ := List.exists_mem_of_ne_nil _ h
    obtain ⟨g, l⟩ := mem_fit.mp hP
    exact g.pos l
  · intro h e
    have := mem_fit.mpr (foI_good h.1 h.2)
    unfold fitI at e
    rw [e] at this; cases this
end NS
namespace NS
open PySem PySem.Spec PyProof.Rows L2
def lsN (t : Tab) : Nat → List Int → List (List Int)
  | 0, P => [P]
  | n + 1, P => (readyI t P).flatMap fun c => lsN t n (P ++ [c])
theorem fit_add (t : Tab) : ∀ (n a : Nat), fitN t (a + n) = (fitN t a).flatMap (lsN t n)
  | 0, a => by
    show fitN t a = (fitN t a).flatMap fun P => [P]
    simp
  | n + 1, a => by
    rw [show a + (n + 1) = a + 1 + n by omega, fit_add t n (a + 1), fitN, List.flatMap_assoc]
    congr 1; funext P
    rw [List.flatMap_map]; rfl
theorem fit_ls (t : Tab) : fitI t = lsN t (takenI t).length [] := by
  have := fit_add t (takenI t).length 0
  rw [Nat.zero_add] at this
  unfold fitI
  rw [this]; simp [fitN]
theorem flatF_len {α : Type} {f : Int → Nat} {F : Int → List α} : ∀ {L : List Int}, (∀ c ∈ L, (F c).length = f c) → (L.flatMap F).length = sg L f
  | [], _ => rfl
  | c :: L, h => by
    rw [List.flatMap_cons, List.length_append, h c List.mem_cons_self, flatF_len fun d hd => h d (List.mem_cons_of_mem _ hd), sg_cons]
theorem cI_full {t : Tab} {P : List Int} (h : Good t P) (e : P.length = (takenI t).length) : cI t P = 1 := by
  have := h.rest_len
  unfold cI
  rw [List.length_eq_zero_iff.mp (show (restI t P).length = 0 by omega)]
  rfl
theorem ls_len {t : Tab} (ng : Ngap t) : ∀ {n : Nat} {P : List Int}, Good t P → P.length + n = (takenI t).length → (lsN t n P).length = cI t P
  | 0, P, h, e => by rw [cI_full h (by omega)]; rfl
  | n + 1, P, h, e => by
    rw [cI_step ng (h.rest_ne (by omega)), lsN]
    exact flatF_len fun c hc => ls_len ng (h.snoc hc) (by simp; omega)
theorem ready_sorted (t : Tab) (P : List Int) : (readyI t P).Pairwise (· < ·) := (rest_sorted t P).filter _
end NS
namespace NS
open PySem PySem.Spec PyProof.Rows L2
theorem ls_pre {t : Tab} : ∀ {n : Nat} {P Q : List Int}, Q ∈ lsN t n P → ∃ R, Q = P ++ R
  | 0, P, Q, h => ⟨[], by simpa [lsN] using h⟩
  | n + 1, P, Q, h => by
    obtain ⟨c, _, hc⟩ := List.mem_flatMap.mp h
    obtain ⟨R, rfl⟩ := ls_pre hc
    exact ⟨c :: R, by simp⟩
end NS
namespace NS
theorem bm_last (t b j : Nat) : bm (t + 1) t b j = ch (t + j) j := by
  unfold bm
  rw [show t + 1 - 1 - t + (b - j) = b - j by omega, ch_self, Nat.mul_one]
def stl (ok : List Int → Int → Bool) (B : List Int) (y : Int) (j : Nat) : Nat := sg (List.range B.length) fun i => if j ≤ i then tc ok B y i else 0
def two (ok : List Int → Int → Bool) (A B : List Int) (x y : Int) : Nat := sg (List.range A.length) fun t => sg (List.range (B.length + 1)) fun j => tc ok A x t * (stl ok B y j * bm A.length t B.length j)
end NS
namespace NS
open PySem PySem.Spec PyProof.Rows L2
end NS
namespace NS
open PySem PySem.Spec PyProof.Rows L2
section
variable {ndr : Int → Int → Bool} {m : Int}
end
end NS
namespace NS
open PySem PySem.Spec PyProof.Rows L2
end NS
namespace NS
open PySem PySem.Spec PyProof.Rows L2
structure Iso (t s : Tab) (c : Int) : Prop where
  perm : (takenI s).Perm (c :: takenI t)
  out : ∀ d, nd s c d = false
  inn : ∀ a, nd s a c = false
  same : ∀ a, a ≠ c → ∀ d, nd s a d = nd t a d
theorem Iso.mem {t s : Tab} {c : Int} (h : Iso t s c) : c ∈ takenI s := h.perm.mem_iff.mpr List.mem_cons_self
theorem Iso.notin {t s : Tab} {c : Int} (h : Iso t s c) : c ∉ takenI t := (List.nodup_cons.mp (h.perm.nodup_iff.mp (taken_nodup s))).1
theorem Iso.len {t s : Tab} {c : Int} (h : Iso t s c) : (takenI s).length = (takenI t).length + 1 := by rw [h.perm.length_eq]; rfl
theorem sorted_perm_eq {l m : List Int} (hl : l.Pairwise (· < ·)) (hm : m.Pairwise (· < ·)) (h : ∀ x, x ∈ l ↔ x ∈ m) : l = m := by
  have nl : l.Nodup := List.nodup_iff_pairwise_ne.mpr (hl.imp fun h e => by omega)
  have nm : m.Nodup := List.nodup_iff_pairwise_ne.mpr (hm.imp fun h e => by omega)
  exact List.Perm.eq_of_pairwise (le := (· < ·)) (fun a b _ _ h1 h2 => by omega) hl hm (perm_of nl nm (fun x hx => (h x).mp hx) (sub_len nm fun x hx => (h x).mpr hx))
theorem Iso.rm {t s : Tab} {c : Int} (h : Iso t s c) : rm c (takenI s) = takenI t := by
  refine sorted_perm_eq ((taken_sorted s).filter _) (taken_sorted t) fun x => ?_
  rw [mem_rm, h.perm.mem_iff, List.mem_cons]
  constructor
  · rintro ⟨h1 | h1, h2⟩
    · exact absurd h1 h2
    · exact h1
  · intro hx; exact ⟨.inr hx, fun e => by subst e; exact h.notin hx⟩
theorem Iso.apart {t s : Tab} {c : Int} (h : Iso t s c) : Apart (okW (nd s) (takenI s)) (fun d => d == c) (takenI s) := by
  intro S hs a ha
  by_cases e : a = c
  · subst e
    rw [if_pos (by simp)]
    have all : ∀ S, okW (nd s) (takenI s) S a = true := fun S => okW_iff.mpr fun d _ n => by rw [h.out] at n; cases n
    rw [all, all]
  · rw [if_neg (by simpa using e)]
    refine bool_iff ?_
    rw [okW_iff, okW_iff]
    constructor
    · intro hh d hd n
      refine List.mem_filter.mpr ⟨hh d hd n, ?_⟩
      simp
      rintro rfl
      rw [h.inn] at n; cases n
    · intro hh d hd n; exact (List.mem_filter.mp (hh d hd n)).1
theorem Iso.fin {t s : Tab} {c : Int} (h : Iso t s c) : (takenI s).filter (fun d => d == c) = [c] := by
  refine sorted_perm_eq ((taken_sorted s).filter _) (by simp) fun x => ?_
  rw [List.mem_filter]
  simp
  rintro rfl; exact h.mem
theorem Iso.fout {t s : Tab} {c : Int} (h : Iso t s c) : (takenI s).filter (fun d => !(d == c)) = takenI t := by
  rw [← h.rm]; rfl
theorem Iso.ok {t s : Tab} {c : Int} (h : Iso t s c) {S : List Int} (hs : ∀ x ∈ S, x ∈ takenI t) {a : Int} (ha : a ∈ S) : okW (nd s) (takenI s) S a = okW (nd t) (takenI t) S a := by
  have ne : a ≠ c := fun e => by subst e; exact h.notin (hs _ ha)
  refine bool_iff ?_
  rw [okW_iff, okW_iff]
  constructor
  · intro hh d hd n
    rw [← h.same a ne] at n
    exact hh d (h.perm.mem_iff.mpr (List.mem_cons_of_mem _ hd)) n
  · intro hh d hd n
    have dc : d ≠ c := fun e => by subst e; rw [h.inn] at n; cases n
    rw [h.same a ne] at n
    rcases List.mem_cons.mp (h.perm.mem_iff.mp hd) with e | e
    · exact absurd e dc
    · exact hh d e n
theorem ct_same {ok ok' : List Int → Int → Bool} {S : List Int} (hn : S.Nodup) (h : ∀ I : List Int, (∀ x ∈ I, x ∈ S) → ∀ c ∈ I, ok I c = ok' I c) : ct ok S = ct ok' S := by
  refine nodup_ind (P := fun J => (∀ x ∈ J, x ∈ S) → ct ok J = ct ok' J) ?_ hn (fun _ h => h)
  intro J hJ ih hs
  by_cases e : J = []
  · subst e; rfl
  rw [ct_step ok hJ e, ct_step ok' hJ e]
  refine sg_congr fun c hc => ?_
  rw [h J hs c hc, ih c hc fun x hx => hs x (rm_sub _ _ _ hx)]
theorem ct_one {ok : List Int → Int → Bool} {c : Int} (h : ok [c] c = true) : ct ok [c] = 1 := by
  rw [ct_step ok (by simp) (by simp)]
  simp [h, rm]
theorem tc_one {ok : List Int → Int → Bool} {c : Int} (h : ok [c] c = true) (k : Nat) : tc ok [c] c k = if k = 0 then 1 else 0 := by
  rw [tc_step (by simp) (by simp)]
  by_cases e : k = 0
  · subst e; simp [h, rm]
  · simp [e, rm]
theorem ch_one : ∀ n : Nat, ch (n + 1) 1 = n + 1
  | 0 => rfl
  | n + 1 => by
    rw [ch, ch_one n]
    simp [ch]; omega
theorem Iso.okc {t s : Tab} {c : Int} (h : Iso t s c) (S : List Int) : okW (nd s) (takenI s) S c = true := okW_iff.mpr fun d _ n => by rw [h.out] at n; cases n
theorem Iso.ct {t s : Tab} {c : Int} (h : Iso t s c) : NS.ct (okW (nd s) (takenI s)) (takenI t) = LE (nd t) (takenI t) := by
  rw [ct_same (taken_nodup t) fun I hI a ha => h.ok hI ha, LE_W (nd_irr t) (taken_nodup t)]
theorem Iso.LE {t s : Tab} {c : Int} (h : Iso t s c) : NS.LE (nd s) (takenI s) = NS.LE (nd t) (takenI t) * ((takenI t).length + 1) := by
  rw [← LE_W (nd_irr s) (taken_nodup s), ct_parts (taken_nodup s) h.apart, h.fin, h.fout, h.ct, ct_one (h.okc _), h.len, List.length_singleton, ch_one, Nat.one_mul, Nat.mul_comm]
theorem Iso.tc {t s : Tab} {c : Int} (h : Iso t s c) {k : Nat} (hk : k ≤ (takenI t).length) : tcT s c k = NS.LE (nd t) (takenI t) := by
  unfold tcT
  rw [tc_parts (taken_nodup s) h.apart h.mem (by simp) k, h.fin, h.fout, h.ct]
  have e : (sg (List.range ((takenI t).length + 1)) fun j => if j ≤ k then NS.tc (okW (nd s) (takenI s)) [c] c (k - j) * bm [c].length (k - j) (takenI t).length j else 0) = 1 := by
    rw [sg_range_one (i := k) (by omega)]
    · rw [if_pos (Nat.le_refl _), Nat.sub_self, tc_one (h.okc _), if_pos rfl, Nat.one_mul]
      show bm (0 + 1) 0 _ k = 1
      rw [bm_last, Nat.zero_add, ch_self]
    · intro j _ hj
      split
      · rw [tc_one (h.okc _), if_neg (by omega), Nat.zero_mul]
      · rfl
  rw [e, Nat.mul_one]
theorem sub_without (c : Int) : ∀ (n : Nat) (R : List Int), R.length = n → (subsI R).filter (fun S => decide (c ∉ S)) = subsI (rm c R) := by
  intro n
  induction n with
  | zero => intro R h; rw [List.length_eq_zero_iff.mp h]; rfl
  | succ n ih =>
    intro R h
    obtain ⟨r, a, rfl⟩ : ∃ r a, R = r ++ [a] := ⟨R.dropLast, R.getLast (by intro e; subst e; simp at h), (List.dropLast_concat_getLast _).symm⟩
    have i1 := ih r (by simpa using h)
    rw [subsI_snoc, rm_app]
    unfold dblF
    rw [List.filter_append, i1]
    by_cases e : a = c
    · subst e
      rw [show rm a [a] = [] by simp [rm], List.append_nil, List.filter_eq_nil_iff.mpr, List.append_nil]
      intro S hS
      obtain ⟨S', _, rfl⟩ := List.mem_map.mp hS
      simp
    · rw [show rm c [a] = [a] by simp [rm, e], subsI_snoc]
      unfold dblF
      congr 1
      rw [List.filter_map, ← i1]
      congr 1
      refine List.filter_congr fun S _ => ?_
      simp [Ne.symm e]
theorem Iso.views {t s : Tab} {c : Int} (h : Iso t s c) (k : Nat) : cvI s k = cvI t k + if k = 0 then 0 else cvI t (k - 1) := by
  have cnt : ∀ (u : Tab) (k : Nat), cvI u k = sg (subsI (takenI u)) fun S => if (S.length == k && clB u S) = true then 1 else 0 := by
    intro u k
    unfold cvI viewsI
    rw [List.filter_filter, ← sg_filter, sg_const, Nat.mul_one]
  have hn := taken_nodup s
  -- without c
  have o1 : ∀ k, (sg (subsI (takenI s)) fun S => if c ∈ S then 0 else if (S.length == k && clB s S) = true then 1 else 0) = cvI t k := by
    intro k
    rw [cnt t k, ← h.rm, ← sub_without c _ _ rfl, sg_filter]
    refine sg_congr fun S hS => ?_
    by_cases z : c ∈ S
    · simp [z]
    · rw [if_neg z, if_pos (show decide (c ∉ S) = true by simpa using z)]
      have ec : clB s S = clB t S := bool_iff (by
        rw [clB_iff, clB_iff]
        refine ⟨fun hh a ha d n => hh a ha d ?_, fun hh a ha d n => hh a ha d ?_⟩
        · rw [h.same a (fun e => by subst e; exact z ha)]; exact n
        · rw [← h.same a (fun e => by subst e; exact z ha)]; exact n)
      rw [ec]
  -- with c
  have o2 : (sg (subsI (takenI s)) fun S => if c ∈ S then (if (S.length == k && clB s S) = true then 1 else 0) else 0) = if k = 0 then 0 else cvI t (k - 1) := by
    by_cases k0 : k = 0
    · rw [if_pos k0]
      refine sg_zero fun S _ => ?_
      split
      · rename_i z
        rw [if_neg]
        intro hh
        have := (Bool.and_eq_true_iff.mp hh).1
        have := List.length_pos_of_mem z
        simp at *; omega
      · rfl
    · rw [if_neg k0, ← o1 (k - 1), sub_swap c (fun S => if (S.length == k - 1 && clB s S) = true then 1 else 0) _ (takenI s) rfl hn h.mem]
      refine sg_congr fun S hS => ?_
      by_cases z : c ∈ S
      · rw [if_pos z, if_pos z]
        have nS : S.Nodup := hn.sublist (subsI_sub _ _ hS)
        have l := rm_len nS z
        have ec : clB s S = clB s (NS.rm c S) := bool_iff (by
          rw [clB_iff, clB_iff]
          constructor
          · intro hh a ha d n
            refine mem_rm.mpr ⟨hh a (mem_rm.mp ha).1 d n, ?_⟩
            rintro rfl
            rw [h.inn] at n; cases n
          · intro hh a ha d n
            have ne : a ≠ c := by rintro rfl; rw [h.out] at n; cases n
            exact (mem_rm.mp (hh a (mem_rm.mpr ⟨ha, ne⟩) d n)).1)
        have el : (S.length == k) = ((NS.rm c S).length == k - 1) := bool_iff (by simp only [beq_iff_eq]; omega)
        rw [ec, el]
      · rw [if_neg z, if_neg z]
  rw [cnt s k, ← o1 k, ← o2, ← sg_add]
  refine sg_congr fun S _ => ?_
  by_cases z : c ∈ S <;> simp [z]
theorem Iso.pos {t s : Tab} {c : Int} (h : Iso t s c) (p : Pos t) : Pos s := by
  have g : Ngap s := fun a d n => by
    have ne : a ≠ c := by rintro rfl; rw [h.out] at n; cases n
    rw [h.same a ne] at n
    exact mem_taken.mp (h.perm.mem_iff.mpr (List.mem_cons_of_mem _ (mem_taken.mpr (p.1 a d n))))
  refine pos_iff.mpr ⟨ngap_iff.mpr g, ?_⟩
  rw [h.LE]
  exact Nat.mul_pos (pos_iff.mp p).2 (by omega)
end NS
namespace NS
open PySem PySem.Spec PyProof.Rows L2
def Er {α : Type} (x : M α) (g : G) (P : Exn → G → Prop) : Prop := ∃ e g', x g = .err e g' ∧ P e g'
theorem Er.imp {α : Type} {x : M α} {g : G} {P R : Exn → G → Prop} (h : Er x g P) (i : ∀ a g', P a g' → R a g') : Er x g R := by
  obtain ⟨a, g', e, q⟩ := h; exact ⟨a, g', e, i _ _ q⟩
@[simp] theorem Er_pure {α : Type} (a : α) (g : G) (P : Exn → G → Prop) : Er (M.pure a) g P ↔ False := ⟨fun ⟨_, _, e, _⟩ => (nomatch e), False.elim⟩
@[simp] theorem Er_bad {α : Type} (g : G) (P : Exn → G → Prop) : Er (M.bad : M α) g P ↔ False := ⟨fun ⟨_, _, e, _⟩ => (nomatch e), False.elim⟩
@[simp] theorem Er_opt {α : Type} (o : Option α) (g : G) (P : Exn → G → Prop) : Er (M.opt o) g P ↔ False := by cases o <;> simp
@[simp] theorem Er_bind {α β : Type} (x : M α) (f : α → M β) (g : G) (P : Exn → G → Prop) : Er (M.bind x f) g P ↔ Er x g P ∨ T x g (fun a g' => Er (f a) g' P) := by
  constructor
  · rintro ⟨b, g', e, q⟩
    unfold M.bind at e
    cases h : x g with
    | ok a g1 => rw [h] at e; exact .inr ⟨a, g1, h, b, g', e, q⟩
    | err z g1 => rw [h] at e; cases e; exact .inl ⟨_, _, h, q⟩
    | bad => rw [h] at e; cases e
  · rintro (⟨e, g', h, q⟩ | ⟨a, g1, h, b, g', e, q⟩)
    · exact ⟨e, g', bind_err h, q⟩
    · exact ⟨b, g', by rw [bind_ok h]; exact e, q⟩
@[simp] theorem Er_if {α : Type} (c : Prop) [Decidable c] (x y : M α) (g : G) (P : Exn → G → Prop) : Er (if c then x else y) g P ↔ (c → Er x g P) ∧ (¬ c → Er y g P) := by split <;> simp [*]
@[simp high] theorem Er_guard {α : Type} (c : Prop) [Decidable c] (x : M α) (g : G) (P : Exn → G → Prop) : Er (if c then x else M.bad) g P ↔ c ∧ Er x g P := by
  by_cases h : c
  · simp [h]
  · rw [if_neg h]; simp [h]
@[simp] theorem sRaise1_Er (c f : Str) (fe : DS → M D) (σ : DS) (g : G) (P : Exn → G → Prop) : Er (sRaise1 c f fe σ) g P ↔ Er (fe σ) g P ∨ T (fe σ) g (fun d g' => P ⟨c, some (f, d)⟩ g') := by
  have : sRaise1 c f fe σ = M.bind (fe σ) (fun d => fun g => .err ⟨c, some (f, d)⟩ g : D → M Fl) := rfl
  rw [this, Er_bind]
  constructor
  · rintro (h | ⟨a, g', h, e, g2, h2, q⟩)
    · exact .inl h
    · cases h2; exact .inr ⟨a, g', h, q⟩
  · rintro (h | ⟨a, g', h, q⟩)
    · exact .inl h
    · exact .inr ⟨a, g', h, _, _, rfl, q⟩
@[simp] theorem sRaise0_Er (c : Str) (σ : DS) (g : G) (P : Exn → G → Prop) : Er (sRaise0 c σ) g P ↔ P ⟨c, none⟩ g := ⟨fun ⟨e, g', h, q⟩ => by cases h; exact q, fun q => ⟨_, _, rfl, q⟩⟩
end NS
namespace NS
open PySem PySem.Spec PyProof.Rows L2
def Tabs (ts : List Str) (g : G) : Prop := ∀ (j : Nat) (x : Str), ts[j]? = some x → g[j]? = some (.tab x)
theorem Tabs.start (ts : List Str) : Tabs ts (ts.map GCell.tab) := fun j x e => by rw [List.getElem?_map, e]; rfl
theorem Tabs.app {ts : List Str} {g : G} (h : Tabs ts g) (l : G) : Tabs ts (g ++ l) := fun j x e => by
  have := h j x e
  rw [List.getElem?_append_left (List.getElem?_eq_some_iff.mp this).1]; exact this
theorem Tabs.go {ts : List Str} {k m n : Nat} {g g' : G} (h : Tabs ts g) (hs : Src k n g) (o : Go k m g g') : Tabs ts g' := fun j x e => by
  have h1 := h j x e
  have ne : j ≠ k := by
    rintro rfl
    obtain ⟨a, b, c, h2, _⟩ := hs
    rw [h1] at h2; cases h2
  rw [o.2.2 j ne]; exact h1
end NS
namespace NS
def wcn (w : List Int → Int → Nat) : Nat → List Int → Nat
  | _, [] => 1
  | 0, _ :: _ => 0
  | k + 1, c :: R => sg (c :: R) fun d => w (c :: R) d * wcn w k (rm d (c :: R))
def wct (w : List Int → Int → Nat) (R : List Int) : Nat := wcn w R.length R
@[simp] theorem wct_nil (w : List Int → Int → Nat) : wct w [] = 1 := rfl
def wy (n : Int) (opt : Int → List Int) (R : List Int) (c : Int) : Nat := ((opt c).filter fun o => (needL n c o).all fun d => R.contains d).length
def hw (n : Int) (opt : Int → List Int) (a b : Int) : Nat := wct (wy n opt) (rI a b)
end NS
namespace NS
open PySem PySem.Spec PyProof.Rows L2
def optI (t : Tab) (c : Int) : List Int := match ent t c with
  | .u => rI 0 (tn t)
  | .w v => [v]
  | .e => []
def hT (t : Tab) (a b : Int) : Nat := hw (tn t) (optI t) a b
end NS
namespace NS
open PySem PySem.Spec PyProof.Rows L2
end NS
namespace NS
open PySem PySem.Spec PyProof.Rows L2
end NS
namespace NS
open PySem PySem.Spec PyProof.Rows L2
end NS
namespace NS
open PySem PySem.Spec PyProof.Rows L2
end NS
namespace NS
open PySem PySem.Spec PyProof.Rows L2
end NS
namespace NS
open PySem PySem.Spec PyProof.Rows L2
def clo (t : Tab) : Nat → Nat → List Int → List Int
  | 0, _, lot => lot
  | n + 1, r, lot => match lot[r]? with
    | none => lot
    | some a => clo t n (r + 1) (lot ++ (needI t a).filter fun d => !lot.contains d)
def certI (t : Tab) (c : Int) : List Int := sortI (clo t 13 0 (needI t c))
theorem need_nodup (t : Tab) (c : Int) : (needI t c).Nodup := by
  unfold needI
  split
  · exact rI_nodup _ _
  · exact List.nodup_nil
end NS
namespace NS
open PySem PySem.Spec PyProof.Rows L2
structure Spl (T A B : Tab) (b : Int) : Prop where
  low : ∀ c ∈ takenI A, c < b
  nn : ∀ c ∈ takenI B, 0 ≤ c
  tk : takenI T = takenI A ++ (takenI B).map (· + b)
  ndA : ∀ a ∈ takenI A, ∀ d, nd T a d = nd A a d
  ndB : ∀ a ∈ takenI B, ∀ d, nd T (a + b) d = nd B a (d - b)
  ngA : Ngap A
  ngB : Ngap B
section
variable {T A B : Tab} {b : Int}
theorem Spl.memA (h : Spl T A B b) {c : Int} (hc : c ∈ takenI A) : c ∈ takenI T := by rw [h.tk]; exact List.mem_append_left _ hc
theorem Spl.memB (h : Spl T A B b) {c : Int} (hc : c ∈ takenI B) : c + b ∈ takenI T := by rw [h.tk]; exact List.mem_append_right _ (List.mem_map.mpr ⟨c, hc, rfl⟩)
theorem Spl.cases (h : Spl T A B b) {c : Int} (hc : c ∈ takenI T) : (c ∈ takenI A ∧ c < b) ∨ ∃ d ∈ takenI B, c = d + b ∧ ¬ c < b := by
  rw [h.tk] at hc
  rcases List.mem_append.mp hc with hc | hc
  · exact .inl ⟨hc, h.low c hc⟩
  · obtain ⟨d, hd, rfl⟩ := List.mem_map.mp hc
    exact .inr ⟨d, hd, rfl, by have := h.nn d hd; omega⟩
theorem Spl.fA (h : Spl T A B b) : (takenI T).filter (fun d => decide (d < b)) = takenI A := by
  rw [h.tk, List.filter_append, List.filter_eq_self.mpr fun d hd => decide_eq_true (h.low d hd), List.filter_eq_nil_iff.mpr, List.append_nil]
  intro d hd
  obtain ⟨e, he, rfl⟩ := List.mem_map.mp hd
  have := h.nn e he
  simp; omega
theorem Spl.fB (h : Spl T A B b) : (takenI T).filter (fun d => !decide (d < b)) = (takenI B).map (· + b) := by
  rw [h.tk, List.filter_append, List.filter_eq_nil_iff.mpr, List.nil_append, List.filter_eq_self.mpr]
  · intro d hd
    obtain ⟨e, he, rfl⟩ := List.mem_map.mp hd
    have := h.nn e he
    simp; omega
  · intro d hd
    have := h.low d hd
    simp; omega
theorem Spl.apart (h : Spl T A B b) : Apart (okW (nd T) (takenI T)) (fun d => decide (d < b)) (takenI T) := by
  intro S hs a ha
  rcases h.cases (hs a ha) with ⟨h1, h2⟩ | ⟨d, h1, rfl, h2⟩
  · rw [if_pos (decide_eq_true h2)]
    refine bool_iff ?_
    rw [okW_iff, okW_iff]
    constructor
    · intro hh d hd n
      refine List.mem_filter.mpr ⟨hh d hd n, decide_eq_true (h.low d ?_)⟩
      rw [h.ndA a h1] at n
      exact mem_taken.mpr (h.ngA a d n)
    · intro hh d hd n; exact (List.mem_filter.mp (hh d hd n)).1
  · rw [if_neg (by simpa using h2)]
    refine bool_iff ?_
    rw [okW_iff, okW_iff]
    constructor
    · intro hh e he n
      refine List.mem_filter.mpr ⟨hh e he n, ?_⟩
      rw [h.ndB d h1] at n
      have := h.nn _ (mem_taken.mpr (h.ngB d _ n))
      simp; omega
    · intro hh e he n; exact (List.mem_filter.mp (hh e he n)).1
theorem Spl.okA (h : Spl T A B b) : ∀ I : List Int, (∀ x ∈ I, x ∈ takenI A) → ∀ c ∈ I, okW (nd T) (takenI T) I c = okW (nd A) (takenI A) I c := by
  intro I hI c hc
  refine bool_iff ?_
  rw [okW_iff, okW_iff]
  constructor
  · intro hh d hd n
    rw [← h.ndA c (hI c hc)] at n
    exact hh d (h.memA hd) n
  · intro hh d hd n
    rw [h.ndA c (hI c hc)] at n
    exact hh d (mem_taken.mpr (h.ngA c d n)) n
theorem Spl.okB (h : Spl T A B b) : ∀ I : List Int, (∀ x ∈ I, x ∈ takenI B) → ∀ c ∈ I, okW (nd T) (takenI T) (I.map (· + b)) (c + b) = okW (nd B) (takenI B) I c := by
  intro I hI c hc
  refine bool_iff ?_
  rw [okW_iff, okW_iff]
  constructor
  · intro hh d hd n
    have n2 : nd T (c + b) (d + b) = true := by rw [h.ndB c (hI c hc), show d + b - b = d by omega]; exact n
    obtain ⟨e, he, e2⟩ := List.mem_map.mp (hh (d + b) (h.memB hd) n2)
    have : e = d := by omega
    subst this; exact he
  · intro hh d hd n
    rw [h.ndB c (hI c hc)] at n
    exact List.mem_map.mpr ⟨d - b, hh _ (mem_taken.mpr (h.ngB c _ n)) n, by omega⟩
theorem inj_add (b : Int) : ∀ x y : Int, x + b = y + b → x = y := fun x y h => by omega
theorem Spl.LE (h : Spl T A B b) : NS.LE (nd T) (takenI T) = NS.LE (nd A) (takenI A) * NS.LE (nd B) (takenI B) * ch ((takenI A).length + (takenI B).length) (takenI A).length := by
  have hl : (takenI T).length = (takenI A).length + (takenI B).length := by rw [h.tk]; simp
  rw [← LE_W (nd_irr T) (taken_nodup T), ct_parts (taken_nodup T) h.apart, h.fA, h.fB, ct_same (taken_nodup A) h.okA, LE_W (nd_irr A) (taken_nodup A),
    ct_map (f := (· + b)) (ok' := okW (nd B) (takenI B)) (taken_nodup B) (fun x _ y _ e => inj_add b x y e) h.okB, LE_W (nd_irr B) (taken_nodup B), hl, Nat.mul_comm]
theorem Spl.need (h : Spl T A B b) {c : Int} (hc : c ∈ takenI B) : needI T (c + b) = (needI B c).map (· + b) := by
  have sorted : ∀ (t : Tab) (c : Int), (needI t c).Pairwise (· < ·) := fun t c => by
    unfold needI
    split
    · exact rI_sorted _ _
    · exact .nil
  refine sorted_perm_eq (sorted _ _) ?_ fun x => ?_
  · rw [List.pairwise_map]; exact (sorted B c).imp fun h => by omega
  · rw [mem_need, h.ndB c hc, List.mem_map]
    constructor
    · intro n; exact ⟨x - b, mem_need.mpr n, by omega⟩
    · rintro ⟨e, he, rfl⟩
      rw [show e + b - b = e by omega]; exact mem_need.mp he
theorem Spl.clo (h : Spl T A B b) : ∀ (n r : Nat) (lot : List Int), (∀ d ∈ lot, d ∈ takenI B) → NS.clo T n r (lot.map (· + b)) = (NS.clo B n r lot).map (· + b)
  | 0, _, _, _ => rfl
  | n + 1, r, lot, hl => by
    unfold NS.clo
    rw [List.getElem?_map]
    cases e : lot[r]? with
    | none => rfl
    | some a =>
      have ha := hl a (List.mem_of_getElem? e)
      show NS.clo T n (r + 1) _ = _
      have e2 : ((needI T (a + b)).filter fun d => !(lot.map (· + b)).contains d) = ((needI B a).filter fun d => !lot.contains d).map (· + b) := by
        rw [h.need ha, List.filter_map]
        congr 1
        refine List.filter_congr fun d _ => ?_
        simp only [Function.comp_apply]
        congr 1
        refine bool_iff ?_
        rw [List.contains_iff_mem, List.contains_iff_mem, List.mem_map]
        constructor
        · rintro ⟨z, hz, e⟩
          have : z = d := by omega
          subst this; exact hz
        · intro hd; exact ⟨d, hd, rfl⟩
      rw [e2, ← List.map_append]
      exact h.clo n (r + 1) _ fun d hd => by
        rcases List.mem_append.mp hd with hd | hd
        · exact hl d hd
        · exact mem_taken.mpr (h.ngB a d (mem_need.mp (List.mem_filter.mp hd).1))
theorem sub_app (F : List Int → Nat) (X : List Int) : ∀ (n : Nat) (Y : List Int), Y.length = n → sg (subsI (X ++ Y)) F = sg (subsI X) fun S => sg (subsI Y) fun S' => F (S ++ S') := by
  intro n
  induction n generalizing F with
  | zero => intro Y h; rw [List.length_eq_zero_iff.mp h]; simp [subsI]
  | succ n ih =>
    intro Y h
    obtain ⟨r, a, rfl⟩ : ∃ r a, Y = r ++ [a] := ⟨Y.dropLast, Y.getLast (by intro e; subst e; simp at h), (List.dropLast_concat_getLast _).symm⟩
    rw [← List.append_assoc, subsI_snoc, subsI_snoc]
    unfold dblF
    rw [sg_app, sg_map, ih F r (by simpa using h), ih (fun S => F (S ++ [a])) r (by simpa using h), ← sg_add]
    refine sg_congr fun S _ => ?_
    rw [sg_app, sg_map]
    congr 1
    exact sg_congr fun S' _ => by rw [List.append_assoc]
theorem sub_map (b : Int) : ∀ (n : Nat) (Y : List Int), Y.length = n → subsI (Y.map (· + b)) = (subsI Y).map fun S => S.map (· + b) := by
  intro n
  induction n with
  | zero => intro Y h; rw [List.length_eq_zero_iff.mp h]; rfl
  | succ n ih =>
    intro Y h
    obtain ⟨r, a, rfl⟩ : ∃ r a, Y = r ++ [a] := ⟨Y.dropLast, Y.getLast (by intro e; subst e; simp at h), (List.dropLast_concat_getLast _).symm⟩
    rw [List.map_append, List.map_singleton, subsI_snoc, subsI_snoc, ih r (by simpa using h)]
    unfold dblF
    simp
theorem Spl.cl (h : Spl T A B b) {X Y : List Int} (hX : ∀ c ∈ X, c ∈ takenI A) (hY : ∀ c ∈ Y, c ∈ takenI B) : clB T (X ++ Y.map (· + b)) = (clB A X && clB B Y) := by
  refine bool_iff ?_
  rw [Bool.and_eq_true, clB_iff, clB_iff, clB_iff]
  have mA : ∀ d, d ∈ takenI A → (d ∈ X ++ Y.map (· + b) ↔ d ∈ X) := fun d hd => by
    rw [List.mem_append]
    refine ⟨fun z => z.elim id fun z => ?_, .inl⟩
    obtain ⟨e, he, rfl⟩ := List.mem_map.mp z
    have h1 := h.low _ hd
    have h2 := h.nn e (hY e he)
    omega
  have mB : ∀ d, d ∈ takenI B → (d + b ∈ X ++ Y.map (· + b) ↔ d ∈ Y) := fun d hd => by
    rw [List.mem_append]
    refine ⟨fun z => z.elim (fun z => ?_) fun z => ?_, fun z => .inr (List.mem_map.mpr ⟨d, z, rfl⟩)⟩
    · have h1 := h.low _ (hX _ z)
      have h2 := h.nn d hd
      omega
    · obtain ⟨e, he, e2⟩ := List.mem_map.mp z
      have : e = d := by omega
      subst this; exact he
  constructor
  · intro hh
    refine ⟨fun c hc d n => ?_, fun c hc d n => ?_⟩
    · have hd := mem_taken.mpr (h.ngA c d n)
      rw [← h.ndA c (hX c hc)] at n
      exact (mA d hd).mp (hh c (List.mem_append_left _ hc) d n)
    · have hd := mem_taken.mpr (h.ngB c d n)
      have n2 : nd T (c + b) (d + b) = true := by rw [h.ndB c (hY c hc), show d + b - b = d by omega]; exact n
      exact (mB d hd).mp (hh (c + b) (List.mem_append_right _ (List.mem_map.mpr ⟨c, hc, rfl⟩)) _ n2)
  · rintro ⟨h1, h2⟩ c hc d n
    rcases List.mem_append.mp hc with hc | hc
    · rw [h.ndA c (hX c hc)] at n
      exact List.mem_append_left _ (h1 c hc d n)
    · obtain ⟨e, he, rfl⟩ := List.mem_map.mp hc
      rw [h.ndB e (hY e he)] at n
      exact List.mem_append_right _ (List.mem_map.mpr ⟨d - b, h2 e he _ n, by omega⟩)
theorem views_by_len (t : Tab) (g : Nat → Nat) : sg (List.range ((takenI t).length + 1)) (fun i => cvI t i * g i) = sg (subsI (takenI t)) fun S => if clB t S = true then g S.length else 0 := by
  have e1 : ∀ i, cvI t i * g i = sg (subsI (takenI t)) fun S => if clB t S = true then (if i = S.length then g S.length else 0) else 0 := by
    intro i
    unfold cvI viewsI
    rw [List.filter_filter, ← Nat.mul_comm, show ∀ l : List (List Int), g i * l.length = sg l fun _ => g i from fun l => by rw [sg_const, Nat.mul_comm], sg_filter]
    refine sg_congr fun S _ => ?_
    by_cases hc : clB t S = true
    · by_cases hl : S.length = i
      · subst hl; simp [hc]
      · simp [hc, hl, Ne.symm hl]
    · simp [hc]
  rw [sg_congr fun i _ => e1 i, sg_swap]
  refine sg_congr fun S hS => ?_
  by_cases hc : clB t S = true
  · simp only [if_pos hc]
    have := (subsI_sub _ _ hS).length_le
    rw [sg_range_one (i := S.length) (by omega) fun j _ hj => if_neg hj, if_pos rfl]
  · simp only [if_neg hc]; exact sg_zero fun _ _ => rfl
theorem Spl.views (h : Spl T A B b) (k : Nat) : cvI T k = sg (List.range ((takenI A).length + 1)) fun i => sg (List.range ((takenI B).length + 1)) fun j => if i + j = k then cvI A i * cvI B j else 0 := by
  have e1 : cvI T k = sg (subsI (takenI A)) fun X => if clB A X = true then (sg (subsI (takenI B)) fun Y => if clB B Y = true then (if X.length + Y.length = k then 1 else 0) else 0) else 0 := by
    have : cvI T k = sg (subsI (takenI T)) fun S => if (S.length == k && clB T S) = true then 1 else 0 := by
      unfold cvI viewsI
      rw [List.filter_filter, ← sg_filter, sg_const, Nat.mul_one]
    rw [this, h.tk, sub_app _ _ _ _ rfl, sub_map _ _ _ rfl]
    refine sg_congr fun X hX => ?_
    rw [sg_map]
    have sX := subs_set hX
    by_cases hc : clB A X = true
    · rw [if_pos hc]
      refine sg_congr fun Y hY => ?_
      have sY := subs_set hY
      rw [h.cl sX.2 sY.2, hc]
      by_cases hd : clB B Y = true
      · simp [hd]
      · simp [hd]
    · rw [if_neg hc]
      refine sg_zero fun Y hY => ?_
      have sY := subs_set hY
      rw [h.cl sX.2 sY.2]
      simp [hc]
  rw [e1, ← views_by_len A fun x => sg (subsI (takenI B)) fun Y => if clB B Y = true then (if x + Y.length = k then 1 else 0) else 0]
  refine sg_congr fun i _ => ?_
  rw [← views_by_len B fun y => if i + y = k then 1 else 0, ← sg_mul]
  refine sg_congr fun j _ => ?_
  split <;> simp
end
end NS
namespace NS
open PySem PySem.Spec PyProof.Rows L2
end NS
namespace NS
open PySem PySem.Spec PyProof.Rows L2
end NS
namespace NS
open PySem PySem.Spec PyProof.Rows L2
@[simp] theorem kIsNot_blk (a b : Bool) : kIsNot (.bl a) (.bl b) = M.pure (.bl (!decide (a = b))) := rfl
@[simp] theorem kRev_lst (xs : List D) : kRev (.lst xs) = M.pure (.lst xs.reverse) := rfl
end NS
namespace NS
open PySem PySem.Spec PyProof.Rows L2
theorem clo_good {t : Tab} (ok : Tok t) (ng : Ngap t) : ∀ (n r : Nat) (lot : List Int), r + n = 13 → lot.Nodup → (∀ d ∈ lot, d ∈ takenI t) → (∀ i, i < r → ∀ x, lot[i]? = some x → ∀ e, nd t x e = true → e ∈ lot) →
    (clo t n r lot).Nodup ∧ (∀ d ∈ clo t n r lot, d ∈ takenI t) ∧ ∀ d ∈ clo t n r lot, ∀ e, nd t d e = true → e ∈ clo t n r lot := by
  have stop : ∀ r (lot : List Int), lot[r]? = none → (∀ i, i < r → ∀ x, lot[i]? = some x → ∀ e, nd t x e = true → e ∈ lot) → ∀ d ∈ lot, ∀ e, nd t d e = true → e ∈ lot := fun r lot h hc d hd e n => by
    obtain ⟨i, hi⟩ := List.getElem?_of_mem hd
    have hl := (List.getElem?_eq_some_iff.mp hi).1
    have := List.getElem?_eq_none_iff.mp h
    exact hc i (by omega) d hi e n
  intro n
  induction n with
  | zero =>
    intro r lot hr nl sl hc
    have := Nat.le_trans (sub_len nl sl) (tl_le ok)
    exact ⟨nl, sl, stop r lot (List.getElem?_eq_none (by omega)) hc⟩
  | succ n ih =>
    intro r lot hr nl sl hc
    unfold clo
    cases e : lot[r]? with
    | none => exact ⟨nl, sl, stop r lot e hc⟩
    | some a =>
      have ha := sl a (List.mem_of_getElem? e)
      refine ih (r + 1) _ (by omega) (List.nodup_append.mpr ⟨nl, (need_nodup t a).filter _, fun b hb d hd e => by
        subst e
        have := (List.mem_filter.mp hd).2
        simp at this; exact this hb⟩) (fun d hd => ?_) fun i hi x hx z n => ?_
      · rcases List.mem_append.mp hd with h1 | h1
        · exact sl d h1
        · exact mem_taken.mpr (ng a d (mem_need.mp (List.mem_filter.mp h1).1))
      · have hl := (List.getElem?_eq_some_iff.mp e).1
        rw [List.getElem?_append_left (by omega)] at hx
        by_cases q : i = r
        · subst q
          rw [e] at hx; cases hx
          by_cases zl : z ∈ lot
          · exact List.mem_append_left _ zl
          · exact List.mem_append_right _ (List.mem_filter.mpr ⟨mem_need.mpr n, by simpa using zl⟩)
        · exact List.mem_append_left _ (hc i (by omega) x hx z n)
theorem clo_all {t : Tab} {Q : Int → Prop} (hq : ∀ d, Q d → ∀ e, nd t d e = true → Q e) : ∀ (n r : Nat) (lot : List Int), (∀ d ∈ lot, Q d) → ∀ d ∈ clo t n r lot, Q d
  | 0, _, _, h => h
  | n + 1, r, lot, h => by
    unfold clo
    cases e : lot[r]? with
    | none => exact h
    | some a =>
      refine clo_all hq n (r + 1) _ fun d hd => ?_
      rcases List.mem_append.mp hd with h1 | h1
      · exact h d h1
      · exact hq a (h a (List.mem_of_getElem? e)) d (mem_need.mp (List.mem_filter.mp h1).1)
theorem need_taken {t : Tab} (ng : Ngap t) {c d : Int} (h : nd t c d = true) : d ∈ takenI t := mem_taken.mpr (ng c d h)
end NS
namespace NS
open PySem PySem.Spec PyProof.Rows L2
theorem cert_facts {t : Tab} (ok : Tok t) (p : Pos t) (c : Int) : (∀ d ∈ certI t c, ∀ e, nd t d e = true → e ∈ certI t c) ∧ (certI t c).Pairwise (· < ·) ∧ ∀ Q : Int → Prop, (∀ d, nd t c d = true → Q d) → (∀ d, Q d → ∀ e, nd t d e = true → Q e) → ∀ d ∈ certI t c, Q d := by
  obtain ⟨cn, cs, cc⟩ := clo_good ok p.1 13 0 (needI t c) rfl (need_nodup t c) (fun d hd => need_taken p.1 (mem_need.mp hd)) (fun i hi => absurd hi (Nat.not_lt_zero i))
  have mc : ∀ x, x ∈ certI t c ↔ x ∈ clo t 13 0 (needI t c) := fun x => (sortI_perm _).mem_iff
  refine ⟨fun d hd e n => (mc e).mpr (cc d ((mc d).mp hd) e n), sortI_strict cn, fun Q q0 q1 d hd => clo_all q1 13 0 (needI t c) (fun e he => q0 e (mem_need.mp he)) d ((mc d).mp hd)⟩
structure EarlI (t : Tab) (c : Int) (i : Nat) (P : List Int) : Prop where
  nod : P.Nodup
  sub : ∀ d ∈ P, d ∈ takenI t
  min : ∀ d ∈ P, d ∈ certI t c
  need : ∀ d, nd t c d = true → d ∈ P
  prog : (∀ d ∈ P, ∀ e, nd t d e = true → e ∈ P) ∨ i < P.length
structure EarlJ (t : Tab) (c : Int) (P0 : List Int) (j : Nat) (P : List Int) : Prop where
  pre : ∃ X, P = P0 ++ X
  nod : P.Nodup
  sub : ∀ d ∈ P, d ∈ takenI t
  min : ∀ d ∈ P, d ∈ certI t c
  don : ∀ d ∈ P0.take j, ∀ e, nd t d e = true → e ∈ P
theorem EarlJ.step {t : Tab} (ok : Tok t) (p : Pos t) {c : Int} {P0 P : List Int} {j : Nat} (h : EarlJ t c P0 j P) {d : Int} (ed : P0[j]? = some d) : EarlJ t c P0 (j + 1) (P ++ (needI t d).filter fun e => !P.contains e) := by
  have cf := (cert_facts ok p c).1
  obtain ⟨X, hX⟩ := h.pre
  have dP : d ∈ P := by rw [hX]; exact List.mem_append_left _ (List.mem_of_getElem? ed)
  refine ⟨⟨X ++ (needI t d).filter fun e => !P.contains e, by rw [hX, List.append_assoc]⟩, List.nodup_append.mpr ⟨h.nod, (need_nodup t d).filter _, fun a ha b hb => ?_⟩, fun e he => ?_, fun e he => ?_, fun a ha e n => ?_⟩
  · rintro rfl
    have := (List.mem_filter.mp hb).2
    simp at this
    exact this ha
  · rcases List.mem_append.mp he with he | he
    · exact h.sub e he
    · exact need_taken p.1 (mem_need.mp (List.mem_filter.mp he).1)
  · rcases List.mem_append.mp he with he | he
    · exact h.min e he
    · exact cf d (h.min d dP) e (mem_need.mp (List.mem_filter.mp he).1)
  · rw [List.take_add_one, ed] at ha
    rcases List.mem_append.mp ha with ha | ha
    · exact List.mem_append_left _ (h.don a ha e n)
    · simp at ha; subst ha
      by_cases z : e ∈ P
      · exact List.mem_append_left _ z
      · exact List.mem_append_right _ (List.mem_filter.mpr ⟨mem_need.mpr n, by simpa using z⟩)
theorem EarlJ.done {t : Tab} (ok : Tok t) (p : Pos t) {c : Int} {i : Nat} {P0 P : List Int} (h : EarlJ t c P0 P0.length P) (h0 : EarlI t c i P0) : EarlI t c (i + 1) P := by
  obtain ⟨X, hX⟩ := h.pre
  have hd := h.don
  rw [List.take_length] at hd
  refine ⟨h.nod, h.sub, h.min, fun d n => by rw [hX]; exact List.mem_append_left _ (h0.need d n), ?_⟩
  by_cases z : X = []
  · subst z
    rw [List.append_nil] at hX
    subst hX
    exact .inl hd
  · rcases h0.prog with q | q
    · exfalso
      obtain ⟨e, he⟩ := List.exists_mem_of_ne_nil X z
      have e1 : e ∈ P := by rw [hX]; exact List.mem_append_right _ he
      have nod := h.nod
      rw [hX] at nod
      obtain ⟨_, _, n3⟩ := List.nodup_append.mp nod
      have : e ∈ P0 := (cert_facts ok p c).2.2 (fun d => d ∈ P0) h0.need q e (h.min e e1)
      exact n3 e this e he rfl
    · right
      have : 0 < X.length := List.length_pos_iff.mpr z
      rw [hX, List.length_append]; omega
theorem EarlI.fin {t : Tab} (ok : Tok t) (p : Pos t) {c : Int} {P : List Int} (h : EarlI t c t.length P) : sortI P = certI t c := by
  obtain ⟨_, c2, c3⟩ := cert_facts ok p c
  have cl : ∀ d ∈ P, ∀ e, nd t d e = true → e ∈ P := by
    rcases h.prog with q | q
    · exact q
    · exfalso
      have h1 := sub_len h.nod h.sub
      have h2 : (takenI t).length ≤ (rI 0 (tn t)).length := List.length_filter_le _ _
      rw [rI_len] at h2
      unfold tn at h2
      omega
  refine sorted_perm_eq (sortI_strict h.nod) c2 fun d => ⟨fun hd => h.min d ((sortI_perm P).mem_iff.mp hd), fun hd => (sortI_perm P).mem_iff.mpr (c3 (fun d => d ∈ P) h.need cl d hd)⟩
end NS
namespace NS
open PySem PySem.Spec PyProof.Rows L2
theorem possible_no {x : D} {t : Tab} (h : Tb x t) (ok : Tok t) (p : ¬ Pos t) : Is (d_is_possible [x]) (.bl false) := by
  have := possible_T h ok
  have e : (decide (gapI t = []) && decide (0 < LE (nd t) (takenI t))) = false := by
    rw [Bool.eq_false_iff]
    intro z
    rw [Bool.and_eq_true, decide_eq_true_eq, decide_eq_true_eq] at z
    exact p (pos_iff.mpr z)
  rw [e] at this
  exact this
end NS
namespace NS
open PySem PySem.Spec PyProof.Rows L2
def pasB (σ : List Int) : Nat → List (List Int) → Bool
  | _, [] => true
  | a, S :: r => (decide (a ≤ S.length) && decide (S.length ≤ σ.length) && decide (sortI (σ.take S.length) = S)) && pasB σ S.length r
theorem pasB_cons {σ : List Int} {a : Nat} {S : List Int} {r : List (List Int)} : pasB σ a (S :: r) = true ↔ (a ≤ S.length ∧ S.length ≤ σ.length ∧ sortI (σ.take S.length) = S) ∧ pasB σ S.length r = true := by
  unfold pasB
  simp only [Bool.and_eq_true, decide_eq_true_eq, and_assoc]
  cases r <;> rfl
theorem thr_lin {t : Tab} : ∀ {L : List (List Int × Bool)} {B : List Int} {f : Nat}, thr t L B f = f * thr t L B 1
  | [], _, f => by simp [thr]
  | S :: r, B, f => by
    unfold thr
    split
    · rw [thr_lin (f := f * LE (nd t) (dif S.1 B)), thr_lin (f := 1 * LE (nd t) (dif S.1 B)), Nat.one_mul, Nat.mul_assoc]
    · rw [Nat.mul_zero]
theorem dif_set {S B C : List Int} (h : ∀ c, c ∈ B ↔ c ∈ C) : dif S B = dif S C := by
  unfold dif
  refine List.filter_congr fun c _ => bool_iff ?_
  simp only [Bool.not_eq_true', ← Bool.not_eq_true, List.contains_iff_mem, h c]
theorem thr_set {t : Tab} {L : List (List Int × Bool)} {B C : List Int} {f : Nat} (h : ∀ c, c ∈ B ↔ c ∈ C) : thr t L B f = thr t L C f := by
  cases L with
  | nil => rfl
  | cons S r =>
    have e : (B.all fun c => S.1.contains c) = C.all fun c => S.1.contains c := bool_iff (by
      simp only [List.all_eq_true]
      exact ⟨fun z c hc => z c ((h c).mpr hc), fun z c hc => z c ((h c).mp hc)⟩)
    unfold thr
    rw [e, dif_set h]
theorem ls_good {t : Tab} : ∀ {n : Nat} {P σ : List Int}, Good t P → σ ∈ lsN t n P → Good t σ ∧ σ.length = P.length + n
  | 0, P, σ, g, h => by
    have : σ = P := by simpa [lsN] using h
    subst this; exact ⟨g, rfl⟩
  | n + 1, P, σ, g, h => by
    obtain ⟨c, hc, h2⟩ := List.mem_flatMap.mp h
    obtain ⟨a, b⟩ := ls_good (g.snoc hc) h2
    exact ⟨a, by rw [b]; simp; omega⟩
theorem ls_takeP {t : Tab} {n : Nat} {P σ : List Int} (h : σ ∈ lsN t n P) : σ.take P.length = P := by
  obtain ⟨R, rfl⟩ := ls_pre h
  simp
theorem good_cl {t : Tab} {P : List Int} (g : Good t P) {S : List Int} (h : ∀ c, c ∈ S ↔ c ∈ P) : clB t S = true := clB_iff.mpr fun c hc d n => by
  obtain ⟨j, hj⟩ := List.getElem?_of_mem ((h c).mp hc)
  exact (h d).mpr (List.mem_of_mem_take (g.ag j c hj d n))
theorem filt_flat {α β : Type} (p : β → Bool) (F : α → List β) : ∀ L : List α, (L.flatMap F).filter p = L.flatMap fun c => (F c).filter p
  | [] => rfl
  | c :: L => by rw [List.flatMap_cons, List.filter_append, filt_flat p F L, List.flatMap_cons]
theorem rdy_okF {t : Tab} {P S : List Int} (g : Good t P) (hS : Set1 t S) (cl : clB t S = true) (sub : ∀ c ∈ P, c ∈ S) : rdyIn t P S = (dif S P).filter fun c => okF (nd t) (dif S P) c := by
  refine sorted_perm_eq ((ready_sorted t P).filter _) (((hS.dif P).1).filter _) fun c => ?_
  unfold rdyIn
  simp only [List.mem_filter, mem_ready, List.contains_iff_mem, okF_iff]
  have md : ∀ d, d ∈ dif S P ↔ d ∈ S ∧ d ∉ P := fun d => by unfold dif; simp only [List.mem_filter, Bool.not_eq_true', ← Bool.not_eq_true, List.contains_iff_mem]
  constructor
  · rintro ⟨⟨h1, h2, h3⟩, h4⟩
    refine ⟨(md c).mpr ⟨h4, h2⟩, fun d hd => ?_⟩
    cases n : nd t c d
    · rfl
    · exact absurd (h3 d n) ((md d).mp hd).2
  · rintro ⟨h1, h2⟩
    obtain ⟨a, b⟩ := (md c).mp h1
    refine ⟨⟨hS.2 c a, b, fun d n => ?_⟩, a⟩
    apply Classical.byContradiction
    intro z
    have := h2 d ((md d).mpr ⟨clB_iff.mp cl c a d n, z⟩)
    rw [n] at this; cases this
theorem dif_snoc (S P : List Int) (c : Int) : dif S (P ++ [c]) = rm c (dif S P) := by
  unfold dif rm
  rw [List.filter_filter]
  refine List.filter_congr fun d _ => bool_iff ?_
  simp only [Bool.not_eq_true', ← Bool.not_eq_true, List.contains_iff_mem, Bool.and_eq_true, bne_iff_ne, List.mem_append, List.mem_singleton, not_or]
  exact And.comm
theorem dif_ne {S P : List Int} (hS : S.Nodup) (h : P.length < S.length) : dif S P ≠ [] := by
  intro e
  have := sub_len hS (m := P) fun c hc => by
    apply Classical.byContradiction
    intro hn
    have : c ∈ dif S P := List.mem_filter.mpr ⟨hc, by simpa using hn⟩
    rw [e] at this; cases this
  omega
theorem pass_len {t : Tab} (ng : Ngap t) : ∀ {seen : List (List Int)}, (∀ S ∈ seen, Set1 t S) → ∀ {n : Nat} {P : List Int}, Good t P → P.length + n = (takenI t).length → ((lsN t n P).filter fun σ => pasB σ P.length seen).length = thr t (allS t seen) P 1
  | [], _, n, P, g, e => by
    have : ((lsN t n P).filter fun σ => pasB σ P.length []) = lsN t n P := List.filter_eq_self.mpr fun _ _ => by simp [pasB]
    rw [this, ls_len ng g e]
    show cI t P = thr t [(takenI t, true)] P 1
    unfold thr
    have h1 : (P.all fun c => (takenI t).contains c) = true := List.all_eq_true.mpr fun c hc => by simpa using g.sub c hc
    rw [if_pos (by simp only [h1, cl_taken ng]; rfl), Nat.one_mul]
    rfl
  | S :: seen, hs, n, P, g, e => by
    have hS := hs S List.mem_cons_self
    have ht : ∀ S' ∈ seen, Set1 t S' := fun S' h => hs S' (List.mem_cons_of_mem _ h)
    have sl : S.length ≤ (takenI t).length := sub_len hS.nodup hS.2
    have ea : allS t (S :: seen) = (S, false) :: allS t seen := rfl
    induction n generalizing P with
    | zero =>
      have hP : P.length = (takenI t).length := by omega
      by_cases h2 : P.length = S.length
      · -- S are all taken cells
        have e1 : ((lsN t 0 P).filter fun σ => pasB σ P.length (S :: seen)) = if sortI P = S then (lsN t 0 P).filter (fun σ => pasB σ P.length seen) else [] := by
          split
          · next z =>
            refine List.filter_congr fun σ hσ => bool_iff ?_
            have tk := ls_takeP hσ
            have lσ := (ls_good g hσ).2
            rw [pasB_cons, ← h2, tk, lσ]
            exact ⟨fun h => h.2, fun h => ⟨⟨by omega, by omega, z⟩, h⟩⟩
          · next z =>
            refine List.filter_eq_nil_iff.mpr fun σ hσ h => z ?_
            have tk := ls_takeP hσ
            have := (pasB_cons.mp h).1.2.2
            rwa [← h2, tk] at this
        rw [e1, ea]
        unfold thr
        split
        · next z =>
          have ms : ∀ c, c ∈ S ↔ c ∈ P := fun c => by rw [← z]; exact (sortI_perm P).mem_iff
          rw [if_pos (by
            have h1 : (P.all fun c => S.contains c) = true := List.all_eq_true.mpr fun c hc => by simpa using (ms c).mpr hc
            simp only [h1, good_cl g ms]; rfl), pass_len ng ht g e, thr_set (fun c => (ms c).symm)]
          have : dif S P = [] := List.filter_eq_nil_iff.mpr fun c hc => by simpa using (ms c).mp hc
          simp only [this]
          rfl
        · next z =>
          rw [if_neg]
          · rfl
          · intro h
            have sub : ∀ c ∈ P, c ∈ S := fun c hc => by simpa using List.all_eq_true.mp (Bool.and_eq_true_iff.mp h).1 c hc
            exact z ((sortI_eq hS.1).mpr (perm_of g.nodup hS.nodup sub (by omega)))
      · have e1 : ((lsN t 0 P).filter fun σ => pasB σ P.length (S :: seen)) = [] := List.filter_eq_nil_iff.mpr fun σ hσ h => by
          have := (pasB_cons.mp h).1.1
          omega
        rw [e1, ea]
        unfold thr
        rw [if_neg]
        · rfl
        · intro h
          have sub : ∀ c ∈ P, c ∈ S := fun c hc => by simpa using List.all_eq_true.mp (Bool.and_eq_true_iff.mp h).1 c hc
          have := sub_len g.nodup sub
          omega
    | succ n ih =>
      rcases Nat.lt_trichotomy S.length P.length with h2 | h2 | h2
      · have e1 : ((lsN t (n + 1) P).filter fun σ => pasB σ P.length (S :: seen)) = [] := List.filter_eq_nil_iff.mpr fun σ hσ h => by
          have := (pasB_cons.mp h).1.1
          omega
        rw [e1, ea]
        unfold thr
        rw [if_neg]
        · rfl
        · intro h
          have sub : ∀ c ∈ P, c ∈ S := fun c hc => by simpa using List.all_eq_true.mp (Bool.and_eq_true_iff.mp h).1 c hc
          have := sub_len g.nodup sub
          omega
      · have e1 : ((lsN t (n + 1) P).filter fun σ => pasB σ P.length (S :: seen)) = if sortI P = S then (lsN t (n + 1) P).filter (fun σ => pasB σ P.length seen) else [] := by
          split
          · next z =>
            refine List.filter_congr fun σ hσ => bool_iff ?_
            have tk := ls_takeP hσ
            have lσ := (ls_good g hσ).2
            rw [pasB_cons, h2, tk, lσ]
            exact ⟨fun h => h.2, fun h => ⟨⟨by omega, by omega, z⟩, h⟩⟩
          · next z =>
            refine List.filter_eq_nil_iff.mpr fun σ hσ h => z ?_
            have tk := ls_takeP hσ
            have := (pasB_cons.mp h).1.2.2
            rwa [h2, tk] at this
        rw [e1, ea]
        unfold thr
        split
        · next z =>
          have ms : ∀ c, c ∈ S ↔ c ∈ P := fun c => by rw [← z]; exact (sortI_perm P).mem_iff
          rw [if_pos (by
            have h1 : (P.all fun c => S.contains c) = true := List.all_eq_true.mpr fun c hc => by simpa using (ms c).mpr hc
            simp only [h1, good_cl g ms]; rfl), pass_len ng ht g e, thr_set (fun c => (ms c).symm)]
          have : dif S P = [] := List.filter_eq_nil_iff.mpr fun c hc => by simpa using (ms c).mp hc
          simp only [this]
          rfl
        · next z =>
          rw [if_neg]
          · rfl
          · intro h
            have sub : ∀ c ∈ P, c ∈ S := fun c hc => by simpa using List.all_eq_true.mp (Bool.and_eq_true_iff.mp h).1 c hc
            exact z ((sortI_eq hS.1).mpr (perm_of g.nodup hS.nodup sub (by omega)))
      · rw [lsN, filt_flat]
        have e1 : ∀ c ∈ readyI t P, ((lsN t n (P ++ [c])).filter fun σ => pasB σ P.length (S :: seen)).length = thr t (allS t (S :: seen)) (P ++ [c]) 1 := fun c hc => by
          rw [← ih _ (g.snoc hc) (by simp; omega)]
          congr 1
          refine List.filter_congr fun σ _ => bool_iff ?_
          rw [pasB_cons, pasB_cons]
          simp only [List.length_append, List.length_cons, List.length_nil]
          exact ⟨fun h => ⟨⟨by omega, h.1.2⟩, h.2⟩, fun h => ⟨⟨by omega, h.1.2⟩, h.2⟩⟩
        rw [flatF_len e1, ea]
        unfold thr
        by_cases hc : ((P.all fun c => S.contains c) && clB t S) = true
        · obtain ⟨c1, c2⟩ := Bool.and_eq_true_iff.mp hc
          have sub : ∀ c ∈ P, c ∈ S := fun c hc => by simpa using List.all_eq_true.mp c1 c hc
          rw [if_pos hc, Nat.one_mul, thr_lin, LE_first (hS.dif P).nodup (dif_ne hS.nodup h2), ← sg_mul']
          have e2 : ∀ c ∈ dif S P, (if okF (nd t) (dif S P) c = true then LE (nd t) (rm c (dif S P)) else 0) * thr t (allS t seen) S 1 = if okF (nd t) (dif S P) c = true then LE (nd t) (rm c (dif S P)) * thr t (allS t seen) S 1 else 0 := fun c _ => by split <;> simp
          have e3 : (sg (dif S P) fun c => if okF (nd t) (dif S P) c = true then LE (nd t) (rm c (dif S P)) * thr t (allS t seen) S 1 else 0) = sg ((readyI t P).filter fun c => S.contains c) fun c => LE (nd t) (rm c (dif S P)) * thr t (allS t seen) S 1 := by
            rw [← sg_filter, ← rdy_okF g hS c2 sub]; rfl
          rw [sg_congr e2, e3, sg_filter]
          refine sg_congr fun c hc => ?_
          by_cases z : c ∈ S
          · have h1 : ((P ++ [c]).all fun c => S.contains c) = true := List.all_eq_true.mpr fun d hd => by
              rcases List.mem_append.mp hd with hd | hd
              · simpa using sub d hd
              · rw [List.mem_singleton.mp hd]; simpa using z
            rw [if_pos (by simp only [h1, c2]; rfl), if_pos (by simpa using z), Nat.one_mul, thr_lin, dif_snoc]
          · rw [if_neg (by
              intro h
              have := List.all_eq_true.mp (Bool.and_eq_true_iff.mp h).1 c (by simp)
              exact z (by simpa using this)), if_neg (by simpa using z)]
        · rw [if_neg hc, sg_zero]
          intro c _
          rw [if_neg]
          intro h
          obtain ⟨c1, c2⟩ := Bool.and_eq_true_iff.mp h
          refine hc (Bool.and_eq_true_iff.mpr ⟨List.all_eq_true.mpr fun d hd => List.all_eq_true.mp c1 d (by simp [hd]), c2⟩)
def goodL (t : Tab) (seen : List (List Int)) : List (List Int) := (fitI t).filter fun σ => pasB σ 0 seen
theorem goodL_len {t : Tab} (ng : Ngap t) {seen : List (List Int)} (hs : ∀ S ∈ seen, Set1 t S) : (goodL t seen).length = thr t (allS t seen) [] 1 := by
  unfold goodL
  rw [fit_ls]
  exact pass_len ng hs (n := (takenI t).length) (P := []) (Good.nil t) (by simp)
end NS
namespace NS
open PySem PySem.Spec PyProof.Rows L2
def tks : List Int → List (Int ⊕ List Nat)
  | [] => [.inl 0]
  | x :: xs => .inl 1 :: (.inl x :: tks xs)
theorem keyToks_tD (S : List Int) : PySem.W.keyToks (D.py (tD S)) = tks S := by
  have e : D.py (tD S) = .tuple (S.map .int) := by
    show PyData.tuple (D.pys (S.map .int)) = _
    congr 1
    induction S with
    | nil => rfl
    | cons x xs ih => simp [D.pys, ih, D.py]
  rw [e]
  show PySem.W.keyToksAll (S.map PyData.int) = tks S
  induction S with
  | nil => rfl
  | cons x xs ih =>
    have ih' : PySem.W.keyToksAll (xs.map PyData.int) = tks xs := ih (by
      show PyData.tuple (D.pys (xs.map .int)) = _
      congr 1
      clear e ih
      induction xs with
      | nil => rfl
      | cons x xs ih => simp [D.pys, ih, D.py])
    rw [List.map_cons]
    show Sum.inl 1 :: ([Sum.inl x] ++ PySem.W.keyToksAll (xs.map PyData.int)) = _
    rw [ih']; rfl
theorem lex_tks : ∀ a b : List Int, PyProof.Rows.lexLt PyProof.Rows.itemOrd (tks a) (tks b) = HT.lexLt a b
  | [], [] => rfl
  | [], _ :: _ => rfl
  | _ :: _, [] => rfl
  | x :: xs, y :: ys => by
    show PyProof.Rows.lexLt PyProof.Rows.itemOrd (.inl 1 :: .inl x :: tks xs) (.inl 1 :: .inl y :: tks ys) = _
    rw [PyProof.Rows.lex_self, HT.lexLt_cons]
    by_cases e : x = y
    · subst e
      rw [PyProof.Rows.lex_self, if_pos rfl, lex_tks xs ys]
    · rw [PyProof.Rows.lex_diff (fun z => e (Sum.inl.inj z)), if_neg e]; rfl
theorem leD_lex (a b : List Int) : leD (tD a) (tD b) = !HT.lexLt b a := by
  rw [← lex_tks, ← keyToks_tD, ← keyToks_tD]; rfl
theorem lexI_tri : ∀ {a b : List Int}, HT.lexLt a b = false → HT.lexLt b a = false → a = b
  | [], [], _, _ => rfl
  | [], _ :: _, h, _ => by cases h
  | _ :: _, [], _, h => by cases h
  | x :: xs, y :: ys, h1, h2 => by
    rw [HT.lexLt_cons] at h1 h2
    by_cases e : x = y
    · subst e
      rw [if_pos rfl] at h1 h2
      rw [lexI_tri h1 h2]
    · rw [if_neg e] at h1
      rw [if_neg (fun z => e z.symm)] at h2
      have h1 := of_decide_eq_false h1
      have h2 := of_decide_eq_false h2
      omega
def srtI (L : List (List Int)) : List (List Int) := isrtG (fun a b => leD (tD a) (tD b)) L
theorem srtI_perm (L : List (List Int)) : (srtI L).Perm L := isrtG_perm _ _
theorem srtI_uniq {L M : List (List Int)} (h : L.Perm M) : srtI L = srtI M :=
  List.Perm.eq_of_pairwise (le := fun a b => leD (tD a) (tD b) = true) (fun a b _ _ h1 h2 => by
    rw [leD_lex, Bool.not_eq_true'] at h1 h2
    exact lexI_tri h2 h1) (isrtD_sorted tD L) (isrtD_sorted tD M) (((srtI_perm L).trans h).trans (srtI_perm M).symm)
theorem kSorted_tups {L : List (List Int)} {k : Nat} (h : ∀ S ∈ L, S.length = k) (hn : L.Nodup) (hl : L.length < 1000000) : kSorted [.lst (L.map tD)] = M.pure (.lst ((srtI L).map tD)) := by
  by_cases h0 : k = 0
  · subst h0
    have e : L = [] ∨ L = [[]] := by
      match L, h, hn with
      | [], _, _ => exact .inl rfl
      | [a], h, _ => exact .inr (by rw [List.length_eq_zero_iff.mp (h a (by simp))])
      | a :: b :: r, h, hn =>
        have e1 := List.length_eq_zero_iff.mp (h a (by simp))
        have e2 := List.length_eq_zero_iff.mp (h b (by simp))
        subst e1 e2
        simp at hn
    rcases e with rfl | rfl <;> rfl
  · have so := srtOk_tups (L := L) (fun S hS e => by
      have := h S hS
      subst e
      simp at this; omega) hl
    unfold kSorted srtI
    simp only [so, if_true, isrt_map]
theorem view_way {t : Tab} (p : Pos t) {S : List Int} (hS : Set1 t S) : clB t S = true ↔ ∃ σ ∈ fitI t, S.length ≤ σ.length ∧ sortI (σ.take S.length) = S := by
  have ng := p.1
  have e1 := thr_iff p hS
  have e2 := goodL_len ng (seen := [S]) (by simpa using hS)
  rw [← e2] at e1
  have e3 : clB t S = true ↔ goodL t [S] ≠ [] := by
    rw [← e1, decide_eq_true_eq, List.length_pos_iff]
  rw [e3]
  constructor
  · intro h
    obtain ⟨σ, r, e⟩ : ∃ σ r, goodL t [S] = σ :: r := by
      cases e : goodL t [S] with
      | nil => exact absurd e h
      | cons a b => exact ⟨a, b, rfl⟩
    have hm : σ ∈ goodL t [S] := by rw [e]; exact List.mem_cons_self
    obtain ⟨h1, h2⟩ := List.mem_filter.mp hm
    obtain ⟨⟨_, a, b⟩, _⟩ := pasB_cons.mp h2
    exact ⟨σ, h1, a, b⟩
  · rintro ⟨σ, h1, a, b⟩ z
    have : σ ∈ goodL t [S] := List.mem_filter.mpr ⟨h1, pasB_cons.mpr ⟨⟨Nat.zero_le _, a, b⟩, by simp [pasB]⟩⟩
    rw [z] at this; cases this
end NS
set_option maxHeartbeats 4000000
namespace NS
open PySem PySem.Spec PyProof.Rows L2
abbrev inB (m i : Int) : Prop := (-m ≤ i ∧ i ≤ m) ∨ (100000000000000000000 - m ≤ i ∧ i ≤ 100000000000000000000 + m) ∨ (-100000000000000000000 - m ≤ i ∧ i ≤ -100000000000000000000 + m)
def okStr (x : Str) : Bool := PyData.strOk x && PyData.strOk (D.py (.str x)).shown && decide ((D.py (.str x)).shown.length ≤ 26)
mutual
def vOk (m : Int) : D → Bool
  | .non => true
  | .bl _ => true
  | .int i => decide (inB m i)
  | .str x => okStr x
  | .tup xs => vOks m xs
  | .lst xs => vOks m xs
  | .hdl _ => false | .slst _ => false | .dT _ => false | .dK _ => false | .ftup _ => false | .fT _ => false | .exc0 _ => false | .exc1 _ _ _ => false
def vOks (m : Int) : List D → Bool
  | [] => true
  | x :: xs => vOk m x && vOks m xs
end
mutual
def wt : D → Nat
  | .tup xs => 4 + wts xs
  | .lst xs => 4 + wts xs
  | .non => 26 | .bl _ => 26 | .int _ => 26 | .str _ => 26 | .hdl _ => 26 | .slst _ => 26 | .dT _ => 26 | .dK _ => 26 | .ftup _ => 26 | .fT _ => 26 | .exc0 _ => 26 | .exc1 _ _ _ => 26
def wts : List D → Nat
  | [] => 0
  | x :: xs => 2 + wt x + wts xs
end
mutual
def dpt : D → Nat
  | .tup xs => dpts xs + 1
  | .lst xs => dpts xs + 1
  | .non => 0 | .bl _ => 0 | .int _ => 0 | .str _ => 0 | .hdl _ => 0 | .slst _ => 0 | .dT _ => 0 | .dK _ => 0 | .ftup _ => 0 | .fT _ => 0 | .exc0 _ => 0 | .exc1 _ _ _ => 0
def dpts : List D → Nat
  | [] => 0
  | x :: xs => max (dpt x) (dpts xs)
end
theorem vOks_iff {m : Int} : ∀ {xs : List D}, vOks m xs = true ↔ ∀ d ∈ xs, vOk m d = true
  | [] => by simp [vOks]
  | x :: xs => by simp [vOks, vOks_iff (xs := xs)]
theorem dpts_le {k : Nat} : ∀ {xs : List D}, dpts xs ≤ k ↔ ∀ d ∈ xs, dpt d ≤ k
  | [] => by simp [dpts]
  | x :: xs => by
    have := dpts_le (k := k) (xs := xs)
    simp only [dpts, List.mem_cons, forall_eq_or_imp, ← this]
    omega
theorem wts_app : ∀ {xs ys : List D}, wts (xs ++ ys) = wts xs + wts ys
  | [], ys => by simp [wts]
  | x :: xs, ys => by
    rw [List.cons_append, wts, wts, wts_app]; omega
theorem wts_perm {xs ys : List D} (h : xs.Perm ys) : wts xs = wts ys := by
  induction h with
  | nil => rfl
  | cons x _ ih => rw [wts, wts, ih]
  | swap x y l => simp only [wts]; omega
  | trans _ _ a b => exact a.trans b
theorem wts_len : ∀ xs : List D, 6 * xs.length ≤ wts xs
  | [] => by simp
  | x :: xs => by
    have := wts_len xs
    have h : 4 ≤ wt x := by cases x <;> simp [wt]
    rw [wts, List.length_cons]; omega
theorem wt_mem {d : D} : ∀ {xs : List D}, d ∈ xs → 2 + wt d ≤ wts xs
  | x :: xs, h => by
    rw [wts]
    rcases List.mem_cons.mp h with rfl | h
    · omega
    · have := wt_mem h; omega
theorem vOk_mono {m m' : Int} (h : m ≤ m') : ∀ {d : D}, vOk m d = true → vOk m' d = true := by
  intro d
  refine D.rec (motive_1 := fun d => vOk m d = true → vOk m' d = true) (motive_2 := fun ds => vOks m ds = true → vOks m' ds = true) (motive_3 := fun _ => True) (motive_4 := fun _ => True) (motive_5 := fun _ => True) (motive_6 := fun _ => True) ?_ ?_ ?_ ?_ ?_ ?_ ?_ ?_ ?_ ?_ ?_ ?_ ?_ ?_ ?_ ?_ ?_ ?_ ?_ ?_ ?_ ?_ d
  all_goals first
    | (intros; trivial)
    | (intro i h1; simp only [vOk, decide_eq_true_eq, inB] at h1 ⊢; omega)
    | (intro xs ih h1; simp only [vOk] at h1 ⊢; exact ih h1)
    | (intros; simp [vOk] at *; done)
    | (intro x xs h1 h2 h3; simp only [vOks, Bool.and_eq_true] at h3 ⊢; exact ⟨h1 h3.1, h2 h3.2⟩)
    | (intros; simp_all [vOk, vOks])
theorem join_sum : ∀ {ts : List Str}, (∀ t ∈ ts, PyData.strOk t = true) → PyData.strOk (Str.join ", " ts) = true ∧ (Str.join ", " ts).length ≤ (ts.map fun t => t.length + 2).sum
  | [], _ => ⟨by decide +kernel, by show (0 : Nat) ≤ _; omega⟩
  | [x], h => ⟨h x (by simp), by show x.length ≤ _; simp⟩
  | x :: y :: r, h => by
    have hx := h x (by simp)
    obtain ⟨i1, i2⟩ := join_sum (ts := y :: r) fun t ht => h t (List.mem_cons_of_mem _ ht)
    have l2 : ((", " : String) : Str).length = 2 := by decide +kernel
    refine ⟨strOk_app (strOk_app hx (by decide +kernel)) i1, ?_⟩
    show ((x ++ ", ") ++ Str.join ", " (y :: r)).length ≤ _
    rw [strLen_append, strLen_append, l2, List.map_cons, List.sum_cons]
    omega
theorem tup_sum {ts : List Str} (h : ∀ t ∈ ts, PyData.strOk t = true) : PyData.strOk (tupleText ts) = true ∧ (tupleText ts).length ≤ (ts.map fun t => t.length + 2).sum + 3 := by
  obtain ⟨i1, i2⟩ := join_sum h
  unfold tupleText
  have l1 : (("(" : String) : Str).length = 1 := by decide +kernel
  split
  · have l2 : ((",)" : String) : Str).length = 2 := by decide +kernel
    exact ⟨strOk_app (strOk_app (by decide +kernel) i1) (by decide +kernel), by rw [strLen_append, strLen_append, l1, l2]; omega⟩
  · have l2 : ((")" : String) : Str).length = 1 := by decide +kernel
    exact ⟨strOk_app (strOk_app (by decide +kernel) i1) (by decide +kernel), by rw [strLen_append, strLen_append, l1, l2]; omega⟩
theorem from_sum : ∀ {ts : List Str} {k : Nat} {acc : Str}, (∀ t ∈ ts, PyData.strOk t = true) → PyData.strOk acc = true → PyData.strOk (textFrom k acc ts) = true ∧ (textFrom k acc ts).length ≤ acc.length + (ts.map fun t => t.length + 2).sum
  | [], k, acc, _, h => ⟨h, by show acc.length ≤ _; omega⟩
  | t :: r, k, acc, h, ha => by
    have ht := h t (by simp)
    have hs : PyData.strOk ((if k > 0 then ", " else "" : String) : Str) = true ∧ ((if k > 0 then ", " else "" : String) : Str).length ≤ 2 := by
      split
      · exact ⟨by decide +kernel, by decide +kernel⟩
      · exact ⟨by decide +kernel, by decide +kernel⟩
    obtain ⟨i1, i2⟩ := from_sum (k := k + 1) (acc := acc ++ (if k > 0 then ", " else "" : String) ++ t) (fun u hu => h u (List.mem_cons_of_mem _ hu)) (strOk_app (strOk_app ha hs.1) ht)
    refine ⟨i1, Nat.le_trans i2 ?_⟩
    rw [strLen_append, strLen_append, List.map_cons, List.sum_cons]; omega
theorem lst_sum {ts : List Str} (h : ∀ t ∈ ts, PyData.strOk t = true) : PyData.strOk (listText ts) = true ∧ (listText ts).length ≤ (ts.map fun t => t.length + 2).sum + 3 := by
  obtain ⟨i1, i2⟩ := from_sum (k := 0) (acc := "[") h (by decide +kernel)
  have l1 : (("[" : String) : Str).length = 1 := by decide +kernel
  have l2 : (("]" : String) : Str).length = 1 := by decide +kernel
  unfold listText
  exact ⟨strOk_app i1 (by decide +kernel), by rw [strLen_append, l2]; omega⟩
theorem shw_int99 {i : Int} (h : inB 20 i) : Shw (.int i) 26 0 := by
  have p : ∀ n : Nat, n < 100 → (PyData.int (n : Int)).showable = true ∧ PyData.strOk (PyData.int (n : Int)).shown = true ∧ (PyData.int (n : Int)).shown.length ≤ 26 ∧ (PyData.int (n : Int)).depth ≤ 0 := by decide +kernel
  have q : ∀ n : Nat, n < 100 → (PyData.int (-(n : Int))).showable = true ∧ PyData.strOk (PyData.int (-(n : Int))).shown = true ∧ (PyData.int (-(n : Int))).shown.length ≤ 26 ∧ (PyData.int (-(n : Int))).depth ≤ 0 := by decide +kernel
  have p2 : ∀ n : Nat, n < 41 → (PyData.int (99999999999999999980 + (n : Int))).showable = true ∧ PyData.strOk (PyData.int (99999999999999999980 + (n : Int))).shown = true ∧ (PyData.int (99999999999999999980 + (n : Int))).shown.length ≤ 26 ∧ (PyData.int (99999999999999999980 + (n : Int))).depth ≤ 0 := by decide +kernel
  have q2 : ∀ n : Nat, n < 41 → (PyData.int (-100000000000000000020 + (n : Int))).showable = true ∧ PyData.strOk (PyData.int (-100000000000000000020 + (n : Int))).shown = true ∧ (PyData.int (-100000000000000000020 + (n : Int))).shown.length ≤ 26 ∧ (PyData.int (-100000000000000000020 + (n : Int))).depth ≤ 0 := by decide +kernel
  unfold inB at h
  have fin : ∀ {i : Int}, ((PyData.int i).showable = true ∧ PyData.strOk (PyData.int i).shown = true ∧ (PyData.int i).shown.length ≤ 26 ∧ (PyData.int i).depth ≤ 0) → Shw (.int i) 26 0 := fun ⟨a, b, c, d⟩ => ⟨rfl, a, b, c, d⟩
  by_cases h1 : 99999999999999999980 ≤ i
  · obtain ⟨n, hn⟩ := Int.eq_ofNat_of_zero_le (a := i - 99999999999999999980) (by omega)
    have e : i = 99999999999999999980 + (n : Int) := by omega
    subst e
    exact fin (p2 n (by omega))
  · by_cases h2 : i ≤ -99999999999999999980
    · obtain ⟨n, hn⟩ := Int.eq_ofNat_of_zero_le (a := i + 100000000000000000020) (by omega)
      have e : i = -100000000000000000020 + (n : Int) := by omega
      subst e
      exact fin (q2 n (by omega))
    · by_cases hi : 0 ≤ i
      · obtain ⟨n, rfl⟩ := Int.eq_ofNat_of_zero_le hi
        exact fin (p n (by omega))
      · obtain ⟨n, hn⟩ := Int.eq_ofNat_of_zero_le (a := -i) (by omega)
        have e : i = -(n : Int) := by omega
        subst e
        exact fin (q n (by omega))
mutual
theorem shw_v {m : Int} (hm : m ≤ 20) : ∀ d : D, vOk m d = true → Shw d (wt d) (dpt d)
  | .non, _ => ⟨rfl, rfl, by decide +kernel, by decide +kernel, by decide +kernel⟩
  | .bl true, _ => ⟨rfl, rfl, by decide +kernel, by decide +kernel, by decide +kernel⟩
  | .bl false, _ => ⟨rfl, rfl, by decide +kernel, by decide +kernel, by decide +kernel⟩
  | .int i, h => by
    simp only [vOk, decide_eq_true_eq] at h
    exact shw_int99 (by unfold inB at *; omega)
  | .str x, h => by
    simp only [vOk, okStr, Bool.and_eq_true, decide_eq_true_eq] at h
    exact ⟨rfl, rfl, h.1.2, h.2, Nat.le_refl _⟩
  | .tup xs, h => by
    obtain ⟨a1, a2, a3, a4, a5⟩ := shw_vs hm xs (by simpa only [vOk] using h)
    obtain ⟨t1, t2⟩ := tup_sum a3
    exact ⟨a1, a2, t1, by show _ ≤ 4 + wts xs; exact Nat.le_trans t2 (by omega), by rw [D.py, PyData.depth]; show _ ≤ dpts xs + 1; omega⟩
  | .lst xs, h => by
    obtain ⟨a1, a2, a3, a4, a5⟩ := shw_vs hm xs (by simpa only [vOk] using h)
    obtain ⟨t1, t2⟩ := lst_sum a3
    exact ⟨a1, a2, t1, by show _ ≤ 4 + wts xs; exact Nat.le_trans t2 (by omega), by rw [D.py, PyData.depth]; show _ ≤ dpts xs + 1; omega⟩
  | .hdl _, h => by simp [vOk] at h
  | .slst _, h => by simp [vOk] at h
  | .dT _, h => by simp [vOk] at h
  | .dK _, h => by simp [vOk] at h
  | .ftup _, h => by simp [vOk] at h
  | .fT _, h => by simp [vOk] at h
  | .exc0 _, h => by simp [vOk] at h
  | .exc1 _ _ _, h => by simp [vOk] at h
theorem shw_vs {m : Int} (hm : m ≤ 20) : ∀ ds : List D, vOks m ds = true → D.pysOk ds = true ∧ PyData.showableAll (D.pys ds) = true ∧ (∀ t ∈ PyData.shownAll (D.pys ds), PyData.strOk t = true) ∧ ((PyData.shownAll (D.pys ds)).map fun t => t.length + 2).sum ≤ wts ds ∧ PyData.depthAll (D.pys ds) ≤ dpts ds
  | [], _ => ⟨rfl, rfl, (fun _ h => nomatch h), Nat.le_refl _, Nat.zero_le _⟩
  | d :: ds, h => by
    simp only [vOks, Bool.and_eq_true] at h
    have h1 := shw_v hm d h.1
    obtain ⟨a1, a2, a3, a4, a5⟩ := shw_vs hm ds h.2
    refine ⟨by rw [D.pysOk, h1.ok, a1]; rfl, by rw [D.pys, PyData.showableAll, h1.sh, a2]; rfl, fun t ht => ?_, ?_, ?_⟩
    · rw [D.pys, PyData.shownAll] at ht
      rcases List.mem_cons.mp ht with rfl | ht
      · exact h1.st
      · exact a3 t ht
    · rw [D.pys, PyData.shownAll, List.map_cons, List.sum_cons, wts]
      have := h1.ln
      omega
    · rw [D.pys, PyData.depthAll, dpts]
      have := h1.dp
      omega
end
theorem repr_v {m : Int} (hm : m ≤ 20) {d : D} (h : vOk m d = true) (hw : wt d ≤ 16000000) (hd : dpt d ≤ 60) : ∃ x, PyData.strOk x = true ∧ kRepr [d] = M.pure (.str x) := by
  have h := shw_v hm d h
  refine ⟨_, h.st, ?_⟩
  have h1 := h.ln
  have h2 := h.dp
  have e : reprOk d = true := by unfold reprOk; simp only [Bool.and_eq_true, decide_eq_true_eq, sizeLine_eq]; exact ⟨⟨⟨h.ok, h.sh⟩, by omega⟩, by omega⟩
  show (if reprOk d = true then M.pure (.str (D.py d).shown) else M.bad : M D) = _
  rw [if_pos e]
theorem okStr_int {i : Int} (h : inB 20 i) : okStr (toString i : String) = true := by
  have p : ∀ n : Nat, n < 100 → okStr (toString (n : Int) : String) = true := by decide +kernel
  have q : ∀ n : Nat, n < 100 → okStr (toString (-(n : Int)) : String) = true := by decide +kernel
  have p2 : ∀ n : Nat, n < 41 → okStr (toString (99999999999999999980 + (n : Int)) : String) = true := by decide +kernel
  have q2 : ∀ n : Nat, n < 41 → okStr (toString (-100000000000000000020 + (n : Int)) : String) = true := by decide +kernel
  unfold inB at h
  by_cases h1 : 99999999999999999980 ≤ i
  · obtain ⟨n, hn⟩ := Int.eq_ofNat_of_zero_le (a := i - 99999999999999999980) (by omega)
    have e : i = 99999999999999999980 + (n : Int) := by omega
    subst e
    exact p2 n (by omega)
  · by_cases h2 : i ≤ -99999999999999999980
    · obtain ⟨n, hn⟩ := Int.eq_ofNat_of_zero_le (a := i + 100000000000000000020) (by omega)
      have e : i = -100000000000000000020 + (n : Int) := by omega
      subst e
      exact q2 n (by omega)
    · by_cases hi : 0 ≤ i
      · obtain ⟨n, rfl⟩ := Int.eq_ofNat_of_zero_le hi
        exact p n (by omega)
      · obtain ⟨n, hn⟩ := Int.eq_ofNat_of_zero_le (a := -i) (by omega)
        have e : i = -(n : Int) := by omega
        subst e
        exact q n (by omega)
end NS
set_option maxHeartbeats 4000000
namespace NS
open PySem PySem.Spec PyProof.Rows L2
theorem wts_sub {xs ys : List D} (h : xs.Sublist ys) : wts xs ≤ wts ys := by
  induction h with
  | slnil => exact Nat.le_refl _
  | cons a _ ih => rw [wts]; omega
  | cons_cons a _ ih => rw [wts, wts]; omega
theorem cutD_sub (xs : List D) (lo hi : Option Int) : (cutD xs lo hi).Sublist xs := (List.take_sublist _ _).trans (List.drop_sublist _ _)
structure Pv (m : Int) (b k : Nat) (d : D) : Prop where
  ok : vOk m d = true
  wt : wt d ≤ b
  dp : dpt d ≤ k
theorem Pv.mono {m m' : Int} {b b' k k' : Nat} {d : D} (h : Pv m b k d) (h1 : m ≤ m') (h2 : b ≤ b') (h3 : k ≤ k') : Pv m' b' k' d := ⟨vOk_mono h1 h.ok, Nat.le_trans h.wt h2, Nat.le_trans h.dp h3⟩
theorem Pv.subT {m : Int} {xs ys : List D} (h : vOks m xs = true) (s : ys.Sublist xs) : Pv m (4 + wts xs) (dpts xs + 1) (.tup ys) :=
  ⟨vOks_iff.mpr fun d hd => vOks_iff.mp h d (s.subset hd), by have := wts_sub s; show 4 + wts ys ≤ _; omega, by
    show dpts ys + 1 ≤ _
    have : dpts ys ≤ dpts xs := dpts_le.mpr fun d hd => dpts_le.mp (Nat.le_refl (dpts xs)) d (s.subset hd)
    omega⟩
theorem Pv.subL {m : Int} {xs ys : List D} (h : vOks m xs = true) (s : ys.Sublist xs) : Pv m (4 + wts xs) (dpts xs + 1) (.lst ys) :=
  ⟨vOks_iff.mpr fun d hd => vOks_iff.mp h d (s.subset hd), by have := wts_sub s; show 4 + wts ys ≤ _; omega, by
    show dpts ys + 1 ≤ _
    have : dpts ys ≤ dpts xs := dpts_le.mpr fun d hd => dpts_le.mp (Nat.le_refl (dpts xs)) d (s.subset hd)
    omega⟩
theorem dpts_perm {xs ys : List D} (h : xs.Perm ys) : dpts xs ≤ dpts ys := dpts_le.mpr fun d hd => dpts_le.mp (Nat.le_refl (dpts ys)) d (h.mem_iff.mp hd)
def odd0 : List D := [.non, .bl true, .bl false, .int 0, .int 1, .int (-1), .str "", .str "node", .tup [], .lst [], .tup [.int 0], .lst [.int 1], .tup [.tup []], .tup [.tup [], .tup []], .tup [.int 0, .int 1],
  .tup [.non, .int 0], .tup [.non], .str "?", .int 2, .int 3]
theorem odd0_P {m : Int} (hm : 3 ≤ m) : ∀ d ∈ odd0, Pv m 70 2 d := by
  intro d hd
  have s1 : okStr "" = true := by decide +kernel
  have s2 : okStr "node" = true := by decide +kernel
  have s3 : okStr "?" = true := by decide +kernel
  simp only [odd0, List.mem_cons, List.not_mem_nil, or_false] at hd
  rcases hd with rfl | rfl | rfl | rfl | rfl | rfl | rfl | rfl | rfl | rfl | rfl | rfl | rfl | rfl | rfl | rfl | rfl | rfl | rfl | rfl
  all_goals exact ⟨by first | rfl | (simp [vOk, vOks, s1, s2, s3, inB]; try omega), by decide, by decide⟩
theorem odd_fin {k n : Nat} {g : G} {m : Int} {b c : Nat} (hs : Src k (n + 2) g) (hm : 3 ≤ m) {Q : D → G → Prop} (q : ∀ d' g', Pv (m + 1) (b + 70) (c + 2) d' → Go k n g g' → Q d' g') (L : List D) (hl : L.length ≤ 20) (hL : ∀ e ∈ L, Pv (m + 1) (b + 70) (c + 2) e) : T (d_Lchoice [.hdl k, .lst (odd0 ++ L)]) g Q :=
  choice_T hs (by simp [odd0]) (by simp [odd0]; omega) fun e he g' go => q e g' (by
    rcases List.mem_append.mp he with he | he
    · exact (odd0_P hm e he).mono (by omega) (by omega) (by omega)
    · exact hL e he) go
theorem odd_num {k n : Nat} {g : G} {m : Int} {e : D} (hs : Src k (n + 2) g) (hm : 3 ≤ m) (h1 : kIsi ["int"] e = M.pure (.bl true)) (h2 : kIsi ["list", "tuple"] e = M.pure (.bl false)) {a b c : Int} {x : Str} {t : Bool} (ha : inB (m + 1) a) (hb : inB (m + 1) b) (hc : inB (m + 1) c) (hx : okStr x = true)
    (e1 : kAddV e (.int 1) = M.pure (.int a)) (e2 : kSubV e (.int 1) = M.pure (.int b)) (e3 : kSubV (.int 0) e = M.pure (.int c)) (e4 : kStr [e] = M.pure (.str x)) (e5 : kEq e (.int 1) = M.pure (.bl t)) {Q : D → G → Prop} (q : ∀ d' g', Pv (m + 1) (26 + 70) (0 + 2) d' → Go k n g g' → Q d' g') : T (d_Lodd [.hdl k, e]) g Q := by
  refine runD_T ?_
  unfold b_Lodd
  simp -implicitDefEqProofs [startD, h1, h2, e1, e2, e3, e4, e5]
  refine odd_fin hs hm q [.int a, .int b, .int c, .str x, .bl t, .int a, .int b, .int c, .str x, .bl t] (by simp) fun e he => ?_
  simp only [List.mem_cons, List.not_mem_nil, or_false] at he
  rcases he with rfl | rfl | rfl | rfl | rfl | rfl | rfl | rfl | rfl | rfl
  all_goals exact ⟨by first | rfl | exact hx | (simp only [vOk, decide_eq_true_eq]; first | assumption | (unfold inB at *; omega)), by show 26 ≤ 96; decide, by show 0 ≤ 2; decide⟩
theorem odd_T {k n : Nat} {g : G} {m : Int} {d : D} (hs : Src k (n + 2) g) (hm : 3 ≤ m ∧ m ≤ 19) (h : vOk m d = true) (hw : wt d ≤ 5000000) {Q : D → G → Prop} (q : ∀ d' g', Pv (m + 1) (wt d + 70) (dpt d + 2) d' → Go k n g g' → Q d' g') : T (d_Lodd [.hdl k, d]) g Q := by
  have seq : ∀ xs : List D, vOks m xs = true → ∀ e ∈ ([.lst xs, .tup xs, .tup (cutD xs (some 1) none), .lst (cutD xs (some 1) none), .tup (cutD xs none (some (-1))), .lst (cutD xs none (some (-1))), .tup xs.reverse, .lst xs.reverse] : List D), Pv (m + 1) (4 + wts xs + 70) (dpts xs + 1 + 2) e := fun xs hx e he => by
    have r1 : Pv m (4 + wts xs) (dpts xs + 1) (.tup xs.reverse) := ⟨vOks_iff.mpr fun d hd => vOks_iff.mp hx d (List.mem_reverse.mp hd), by show 4 + wts _ ≤ _; rw [wts_perm (List.reverse_perm xs)]; omega, by
      show dpts _ + 1 ≤ _
      have := dpts_perm (List.reverse_perm xs)
      omega⟩
    have r2 : Pv m (4 + wts xs) (dpts xs + 1) (.lst xs.reverse) := ⟨r1.ok, r1.wt, r1.dp⟩
    simp only [List.mem_cons, List.not_mem_nil, or_false] at he
    rcases he with rfl | rfl | rfl | rfl | rfl | rfl | rfl | rfl
    · exact (Pv.subL hx (List.Sublist.refl _)).mono (by omega) (by omega) (by omega)
    · exact (Pv.subT hx (List.Sublist.refl _)).mono (by omega) (by omega) (by omega)
    · exact (Pv.subT hx (cutD_sub _ _ _)).mono (by omega) (by omega) (by omega)
    · exact (Pv.subL hx (cutD_sub _ _ _)).mono (by omega) (by omega) (by omega)
    · exact (Pv.subT hx (cutD_sub _ _ _)).mono (by omega) (by omega) (by omega)
    · exact (Pv.subL hx (cutD_sub _ _ _)).mono (by omega) (by omega) (by omega)
    · exact r1.mono (by omega) (by omega) (by omega)
    · exact r2.mono (by omega) (by omega) (by omega)
  cases d with
  | non =>
    refine runD_T ?_
    unfold b_Lodd
    have h1 : kIsi ["int"] .non = M.pure (.bl false) := rfl
    have h2 : kIsi ["list", "tuple"] .non = M.pure (.bl false) := rfl
    simp -implicitDefEqProofs [startD, h1, h2]
    exact odd_fin hs hm.1 q [] (by simp) (by simp)
  | str x =>
    refine runD_T ?_
    unfold b_Lodd
    have h1 : kIsi ["int"] (.str x) = M.pure (.bl false) := rfl
    have h2 : kIsi ["list", "tuple"] (.str x) = M.pure (.bl false) := rfl
    simp -implicitDefEqProofs [startD, h1, h2]
    exact odd_fin hs hm.1 q [] (by simp) (by simp)
  | int i =>
    have hi : inB m i := by simpa only [vOk, decide_eq_true_eq] using h
    unfold inB at hi
    exact odd_num (a := i + 1) (b := i - 1) (c := 0 - i) hs hm.1 rfl rfl (by unfold inB; omega) (by unfold inB; omega) (by unfold inB; omega) (okStr_int (i := i) (by unfold inB; omega)) rfl rfl rfl (by
      show (if i.natAbs < 1000000000000000000000000000000 then M.pure (.str (toString i : String)) else M.bad : M D) = _
      rw [if_pos (by omega)]) (kEq_int i 1) q
  | bl b =>
    have s1 : okStr "True" = true := by decide +kernel
    have s2 : okStr "False" = true := by decide +kernel
    have hb : bN b = 0 ∨ bN b = 1 := by cases b <;> simp [bN]
    exact odd_num (a := bN b + 1) (b := bN b - 1) (c := 0 - bN b) (x := if b then "True" else "False") hs hm.1 rfl rfl (by unfold inB; omega) (by unfold inB; omega) (by unfold inB; omega) (by cases b <;> assumption) rfl rfl rfl rfl (kEq_pl 0 0 rfl rfl) q
  | tup xs =>
    refine runD_T ?_
    unfold b_Lodd
    have hx : vOks m xs = true := by simpa only [vOk] using h
    have h1 : kIsi ["int"] (.tup xs) = M.pure (.bl false) := rfl
    have h2 : kIsi ["list", "tuple"] (.tup xs) = M.pure (.bl true) := rfl
    have e1 : kList [.tup xs] = M.pure (.lst xs) := rfl
    have e2 : kTuple [.tup xs] = M.pure (.tup xs) := rfl
    have e3 : ∀ s2 σ, eRevV (eVar 1) (some (.sh (.hdl k)) :: some (.sh (.tup xs)) :: s2 :: σ) = M.pure (.tup xs.reverse) := fun _ _ => rfl
    have e4 : kSl (some 1) none (.tup xs) = M.pure (.tup (cutD xs (some 1) none)) := rfl
    have e5 : kSl none (some (-1)) (.tup xs) = M.pure (.tup (cutD xs none (some (-1)))) := rfl
    simp -implicitDefEqProofs [startD, h1, h2, e1, e2, e3, e4, e5]
    have sq := seq xs hx
    refine odd_fin hs hm.1 q [.lst xs, .tup xs, .tup xs.reverse, .tup (cutD xs (some 1) none), .tup (cutD xs none (some (-1))), .lst xs, .tup xs, .tup xs.reverse, .tup (cutD xs (some 1) none), .tup (cutD xs none (some (-1)))] (by simp) fun e he => sq e ?_
    simp only [List.mem_cons, List.not_mem_nil, or_false] at he ⊢
    rcases he with rfl | rfl | rfl | rfl | rfl | rfl | rfl | rfl | rfl | rfl <;> simp
  | lst xs =>
    refine runD_T ?_
    unfold b_Lodd
    have hx : vOks m xs = true := by simpa only [vOk] using h
    have h1 : kIsi ["int"] (.lst xs) = M.pure (.bl false) := rfl
    have h2 : kIsi ["list", "tuple"] (.lst xs) = M.pure (.bl true) := rfl
    have e1 : kList [.lst xs] = M.pure (.lst xs) := rfl
    have e2 : kTuple [.lst xs] = M.pure (.tup xs) := rfl
    have e3 : ∀ s2 σ, eRevV (eVar 1) (some (.sh (.hdl k)) :: some (.sh (.lst xs)) :: s2 :: σ) = M.pure (.lst xs.reverse) := fun _ _ => rfl
    have e4 : kSl (some 1) none (.lst xs) = M.pure (.lst (cutD xs (some 1) none)) := rfl
    have e5 : kSl none (some (-1)) (.lst xs) = M.pure (.lst (cutD xs none (some (-1)))) := rfl
    simp -implicitDefEqProofs [startD, h1, h2, e1, e2, e3, e4, e5]
    have sq := seq xs hx
    refine odd_fin hs hm.1 q [.lst xs, .tup xs, .lst xs.reverse, .lst (cutD xs (some 1) none), .lst (cutD xs none (some (-1))), .lst xs, .tup xs, .lst xs.reverse, .lst (cutD xs (some 1) none), .lst (cutD xs none (some (-1)))] (by simp) fun e he => sq e ?_
    simp only [List.mem_cons, List.not_mem_nil, or_false] at he ⊢
    rcases he with rfl | rfl | rfl | rfl | rfl | rfl | rfl | rfl | rfl | rfl <;> simp
  | _ => simp [vOk] at h
theorem sSetSl_T {j : Nat} {fe fa fc : DS → M D} {σ : DS} {g : G} {Q : Fl → G → Prop} {ds es : List D} {a c : Int} (h1 : fe σ = M.pure (.lst es)) (h2 : ownL σ[j]? = some ds) (h3 : fa σ = M.pure (.int a)) (h4 : fc σ = M.pure (.int c)) (h5 : 0 ≤ a ∧ a ≤ c ∧ a ≤ ds.length ∧ fit (ds.length + es.length) = true) (q : Q (.nx (σ.set j (some (.ow (.lst (spl ds es a c)))))) g) : T (sSetSl j fe fa fc σ) g Q := by
  have e : sSetSl j fe fa fc σ = M.pure (.nx (σ.set j (some (.ow (.lst (spl ds es a c)))))) := by
    unfold sSetSl
    rw [h1]
    show (match ownL σ[j]? with | some ds => _ | none => _ : M Fl) = _
    rw [h2]
    show M.bind (fa σ) _ = _
    rw [h3]
    show M.bind (fc σ) _ = _
    rw [h4]
    exact if_pos h5
  rw [e]
  exact (T_pure _ _ _).mpr q
theorem wts_set {d : D} : ∀ {xs : List D} {j : Nat} {e : D}, xs[j]? = some e → wts (xs.set j d) + (2 + wt e) = wts xs + (2 + wt d)
  | [], j, e, h => by cases h
  | x :: xs, 0, e, h => by
    cases h
    simp only [List.set_cons_zero, wts]; omega
  | x :: xs, j + 1, e, h => by
    have := wts_set (d := d) (xs := xs) (j := j) (by simpa using h)
    simp only [List.set_cons_succ, wts]; omega
theorem cutD_two {xs : List D} {j : Nat} (hj : j < xs.length) : cutD xs (some (j : Int)) (some ((j : Int) + 2)) = (xs.drop j).take 2 := by
  have s1 : HT.sIx xs.length 0 (some (j : Int)) = j := by rw [HT.sIx_nat]; omega
  have s2 : HT.sIx xs.length xs.length (some ((j : Int) + 2)) = min (j + 2) xs.length := by rw [show (j : Int) + 2 = ((j + 2 : Nat) : Int) by omega, HT.sIx_nat]
  unfold cutD
  rw [s1, s2]
  by_cases h : j + 2 ≤ xs.length
  · rw [Nat.min_eq_left h, show j + 2 - j = 2 by omega]
  · rw [Nat.min_eq_right (by omega), List.take_of_length_le (by simp), List.take_of_length_le (by simp; omega)]
theorem spl_perm {xs : List D} {j : Nat} (hj : j < xs.length) : (spl xs ((xs.drop j).take 2).reverse (j : Int) ((j : Int) + 2)).Perm xs := by
  unfold spl
  have e1 : ((j : Int)).toNat = j := by omega
  have e2 : ((j : Int) + 2).toNat = j + 2 := by omega
  rw [e1, e2]
  have e3 : xs = xs.take j ++ (xs.drop j).take 2 ++ xs.drop (min (j + 2) xs.length) := by
    conv => lhs; rw [← List.take_append_drop j xs, ← List.take_append_drop 2 (xs.drop j)]
    rw [List.append_assoc, List.drop_drop]
    congr 2
    by_cases h : j + 2 ≤ xs.length
    · rw [Nat.min_eq_left h]
    · rw [Nat.min_eq_right (by omega), List.drop_of_length_le (by omega), List.drop_of_length_le (by omega)]
  conv => rhs; rw [e3]
  exact ((List.Perm.refl _).append (List.reverse_perm _)).append (List.Perm.refl _)
theorem bent_seq {k N n : Nat} {g : G} {m : Int} {d : D} {xs : List D} {c : Bool} (hs : Src k (N + 12 * (n + 1)) g) (hm : 3 ≤ m ∧ m ≤ 19) (h : vOk m d = true) (hx : vOks m xs = true) (ew : wt d = 4 + wts xs) (ed : dpt d = dpts xs + 1) (hw : wt d ≤ 2000000) (hk : kIsi ["list", "tuple"] d = M.pure (.bl true)) (hl : kLen [d] = M.pure (.int (xs.length : Nat))) (kl : kList [d] = M.pure (.lst xs)) (ki : kIsi ["list"] d = M.pure (.bl c))
    (ih : ∀ {e : D} {g : G} {Q : D → G → Prop}, Src k (N + 12 * n) g → vOk m e = true → wt e ≤ 2000000 → dpt e < n → (∀ d' g', Pv (m + 1) (2 * wt e + 200) (dpt e + 2) d' → Go k N g g' → Q d' g') → T (d_Lbent n [.hdl k, e]) g Q) (hd : dpt d < n + 1) {Q : D → G → Prop} (q : ∀ d' g', Pv (m + 1) (2 * wt d + 200) (dpt d + 2) d' → Go k N g g' → Q d' g') : T (d_Lbent (n + 1) [.hdl k, d]) g Q := by
  have xl := wts_len xs
  have odd : ∀ g1, Go k (N + 12 * n + 5) g g1 → T (d_Lodd [.hdl k, d]) g1 Q := fun g1 o1 => odd_T (n := N) (o1.1.mono (by omega)) hm h (by omega) fun d' g' p o => q d' g' (p.mono (Int.le_refl _) (by omega) (Nat.le_refl _)) (o1.trans o)
  have o0 : Go k (N + 12 * n + 5) g g := Go.refl (hs.mono (by omega))
  refine runD_T ?_
  unfold b_Lbent
  simp -implicitDefEqProofs [startD, hk, hl]
  refine ⟨fun e => odd g o0, fun ne => ?_⟩
  have l0 : 0 < xs.length := List.length_pos_iff.mpr ne
  refine draw_G (m := N + 12 * n + 9) (hs.mono (by omega)) (by decide) (by decide) fun r g1 r0 r1 o1 => ?_
  simp -implicitDefEqProofs
  refine ⟨fun e => odd g1 (o1.mono (by omega)), fun e => ?_⟩
  refine draw_G (m := N + 12 * n + 7) (o1.1.mono (by omega)) (by omega) (by omega) fun at_ g2 a0 a1 o2 => ?_
  simp -implicitDefEqProofs [kl]
  refine draw_G (m := N + 12 * n + 5) (o2.1.mono (by omega)) (by decide) (by decide) fun w g3 w0 w1 o3 => ?_
  simp -implicitDefEqProofs [ki]
  obtain ⟨j, rfl⟩ := Int.eq_ofNat_of_zero_le a0
  have hj : j < xs.length := by omega
  have go3 : Go k (N + 12 * n + 5) g g3 := (o1.trans o2).trans o3
  have goN : Go k N g g3 := go3.mono (by omega)
  have ej : xs[j]? = some xs[j] := List.getElem?_eq_getElem hj
  generalize xs[j] = e0 at ej
  have me := List.mem_of_getElem? ej
  have he := vOks_iff.mp hx e0 me
  have we := wt_mem me
  have de := dpts_le.mp (Nat.le_refl (dpts xs)) e0 me
  have ex : ∀ s0 s1 s4, eIxO 3 (eVar 2) [s0, s1, some (.sh (.int (j : Nat))), some (.ow (.lst xs)), s4] = M.pure e0 := fun s0 s1 s4 => by
    show M.opt (L2.atI xs (j : Nat)) = _
    rw [atI_nat ej]; rfl
  have fin : ∀ ys g', vOks (m + 1) ys = true → wts ys ≤ 2 * wts xs + 200 → dpts ys ≤ dpts xs + 2 → Go k N g g' → (c = true → Q (.lst ys) g') ∧ (c = false → Q (.tup ys) g') := fun ys g' h1 h2 h3 o =>
    ⟨fun _ => q _ g' ⟨h1, by show 4 + wts ys ≤ _; omega, by show dpts ys + 1 ≤ _; omega⟩ o, fun _ => q _ g' ⟨h1, by show 4 + wts ys ≤ _; omega, by show dpts ys + 1 ≤ _; omega⟩ o⟩
  have mono1 : ∀ {d : D}, vOk m d = true → vOk (m + 1) d = true := fun h => vOk_mono (by omega) h
  have sub1 : ∀ {ys : List D}, (∀ d ∈ ys, d ∈ xs) → vOks (m + 1) ys = true ∧ dpts ys ≤ dpts xs := fun h => ⟨vOks_iff.mpr fun d hd => mono1 (vOks_iff.mp hx d (h d hd)), dpts_le.mpr fun d hd => dpts_le.mp (Nat.le_refl (dpts xs)) d (h d hd)⟩
  refine ⟨fun _ => ?_, fun _ => ⟨fun _ => ?_, fun _ => ⟨fun _ => ?_, fun _ => ?_⟩⟩⟩
  · refine ⟨xs.eraseIdx j, ?_, ?_⟩
    · show (if 0 ≤ (j : Int) ∧ (j : Int) < xs.length ∧ xs.length < 1000000 then some (xs.eraseIdx ((j : Int)).toNat) else none) = _
      rw [if_pos ⟨by omega, by omega, by omega⟩]; simp
    · have sb := List.eraseIdx_sublist xs j
      obtain ⟨b1, b2⟩ := sub1 fun d hd => sb.subset hd
      exact fin _ g3 b1 (by have := wts_sub sb; omega) (by omega) goN
  · simp -implicitDefEqProofs [ex]
    refine ⟨xs.take j ++ [e0] ++ xs.drop j, ?_, ?_⟩
    · show (if 0 ≤ (j : Int) ∧ (j : Int) < 1000000 ∧ xs.length < 1000000 then some (xs.take ((j : Int)).toNat ++ [e0] ++ xs.drop ((j : Int)).toNat) else none) = _
      rw [if_pos ⟨by omega, by omega, by omega⟩]; simp
    · obtain ⟨b1, b2⟩ := sub1 (ys := xs.take j ++ [e0] ++ xs.drop j) fun d hd => by
        rcases List.mem_append.mp hd with hd | hd
        · rcases List.mem_append.mp hd with hd | hd
          · exact List.mem_of_mem_take hd
          · rw [List.mem_singleton.mp hd]; exact me
        · exact List.mem_of_mem_drop hd
      have wx : wts xs = wts (xs.take j) + wts (xs.drop j) := by rw [← wts_app, List.take_append_drop]
      exact fin _ g3 b1 (by rw [wts_app, wts_app, wts, wts]; omega) (by omega) goN
  · have ct := cutD_two hj
    refine sSetSl_T (ds := xs) (es := ((xs.drop j).take 2).reverse) (a := j) (c := (j : Int) + 2) ?_ rfl rfl rfl ?_ ?_
    · show M.bind (M.pure (.lst (cutD xs (some (j : Int)) (some ((j : Int) + 2))))) kRev = _
      rw [ct]; rfl
    · refine ⟨by omega, by omega, by omega, ?_⟩
      have : (((xs.drop j).take 2).reverse).length ≤ 2 := by simp; omega
      unfold fit
      exact decide_eq_true (by omega)
    · have pp := spl_perm hj
      obtain ⟨b1, b2⟩ := sub1 (ys := spl xs ((xs.drop j).take 2).reverse (j : Int) ((j : Int) + 2)) fun d hd => pp.mem_iff.mp hd
      simp -implicitDefEqProofs [ki]
      exact fin _ g3 b1 (by rw [wts_perm pp]; omega) (by omega) goN
  · refine sSetIx_T ?_
    simp -implicitDefEqProofs [ex]
    refine ih (go3.1.mono (by omega)) he (by omega) (by omega) fun d' g' p o => ⟨j, rfl, hj, ?_⟩
    have ws := wts_set (d := d') ej
    have pw := p.wt
    have pd := p.dp
    have ys : ∀ y ∈ xs.set j d', vOk (m + 1) y = true ∧ dpt y ≤ dpts xs + 2 := fun y hy => by
      rcases List.mem_or_eq_of_mem_set hy with hy | rfl
      · exact ⟨mono1 (vOks_iff.mp hx y hy), by have := dpts_le.mp (Nat.le_refl (dpts xs)) y hy; omega⟩
      · exact ⟨p.ok, by omega⟩
    simp -implicitDefEqProofs [ki]
    exact fin _ g' (vOks_iff.mpr fun y hy => (ys y hy).1) (by omega) (dpts_le.mpr fun y hy => (ys y hy).2) (goN.trans o)
theorem bent_T : ∀ (n : Nat) {k N : Nat} {g : G} {m : Int} {d : D} {Q : D → G → Prop}, Src k (N + 12 * n) g → 3 ≤ m ∧ m ≤ 19 → vOk m d = true → wt d ≤ 2000000 → dpt d < n → (∀ d' g', Pv (m + 1) (2 * wt d + 200) (dpt d + 2) d' → Go k N g g' → Q d' g') → T (d_Lbent n [.hdl k, d]) g Q
  | 0, _, _, _, _, _, _, _, _, _, _, hd, _ => by omega
  | n + 1, k, N, g, m, d, Q, hs, hm, h, hw, hd, q => by
    have atom : kIsi ["list", "tuple"] d = M.pure (.bl false) → T (d_Lbent (n + 1) [.hdl k, d]) g Q := fun hk => by
      refine runD_T ?_
      unfold b_Lbent
      simp -implicitDefEqProofs [startD, hk]
      exact odd_T (n := N) (hs.mono (by omega)) hm h (by omega) fun d' g' p o => q d' g' (p.mono (Int.le_refl _) (by omega) (Nat.le_refl _)) o
    cases d with
    | non => exact atom rfl
    | bl b => exact atom rfl
    | int i => exact atom rfl
    | str x => exact atom rfl
    | tup xs =>
      have hx : vOks m xs = true := by simpa only [vOk] using h
      have xl := wts_len xs
      have ew : wt (.tup xs) = 4 + wts xs := rfl
      exact bent_seq (c := false) hs hm h hx ew rfl hw rfl (by simp) rfl rfl (fun hs' he hw' hd' q' => bent_T n hs' hm he hw' hd' q') hd q
    | lst xs =>
      have hx : vOks m xs = true := by simpa only [vOk] using h
      have xl := wts_len xs
      have ew : wt (.lst xs) = 4 + wts xs := rfl
      exact bent_seq (c := true) hs hm h hx ew rfl hw rfl (by simp) rfl rfl (fun hs' he hw' hd' q' => bent_T n hs' hm he hw' hd' q') hd q
    | _ => simp [vOk] at h
end NS
set_option maxHeartbeats 4000000
namespace NS
open PySem PySem.Spec PyProof.Rows L2
def intB : D → Bool
  | .int _ => true
  | _ => false
theorem integer_v {m : Int} {d : D} (h : vOk m d = true) : d_is_integer [d] = M.pure (.bl (intB d)) := by
  cases d with
  | bl b => rfl
  | non => rfl
  | int i => rfl
  | str x => rfl
  | tup xs => rfl
  | lst xs => rfl
  | _ => simp [vOk] at h
theorem Linteger_v {m : Int} {d : D} (h : vOk m d = true) : d_Linteger [d] = M.pure (.bl (intB d)) := by
  cases d with
  | bl b => rfl
  | non => rfl
  | int i => rfl
  | str x => rfl
  | tup xs => rfl
  | lst xs => rfl
  | _ => simp [vOk] at h
mutual
theorem pla_v {m : Int} : ∀ d : D, vOk m d = true → D.pla d = true
  | .non, _ => rfl
  | .bl _, _ => rfl
  | .int _, _ => rfl
  | .str _, _ => rfl
  | .tup xs, h => by show D.plas xs = true; exact plas_v xs (by simpa only [vOk] using h)
  | .lst xs, h => by show D.plas xs = true; exact plas_v xs (by simpa only [vOk] using h)
  | .hdl _, h => by simp [vOk] at h
  | .slst _, h => by simp [vOk] at h
  | .dT _, h => by simp [vOk] at h
  | .dK _, h => by simp [vOk] at h
  | .ftup _, h => by simp [vOk] at h
  | .fT _, h => by simp [vOk] at h
  | .exc0 _, h => by simp [vOk] at h
  | .exc1 _ _ _, h => by simp [vOk] at h
theorem plas_v {m : Int} : ∀ ds : List D, vOks m ds = true → D.plas ds = true
  | [], _ => rfl
  | d :: ds, h => by
    simp only [vOks, Bool.and_eq_true] at h
    show (D.pla d && D.plas ds) = true
    rw [pla_v d h.1, plas_v ds h.2]; rfl
end
theorem nod_mem {d : D} : ∀ {ds : List D}, d ∈ ds → D.nod d ≤ D.nods ds
  | x :: ds, h => by
    show _ ≤ D.nod x + D.nods ds
    rcases List.mem_cons.mp h with rfl | h
    · omega
    · have := nod_mem h; omega
theorem eBorS_T {i : Nat} {f : DS → M D} {σ : DS} {g : G} {Q : D → G → Prop} {ds0 : List D} (h1 : ownL σ[i]? = some ds0) (h2 : T (f (frz1 i σ)) g fun d g' => borSok ds0 d g' = true ∧ Q d g') : T (eBorS i f σ) g Q := by
  obtain ⟨d, g', e, h3, h4⟩ := h2
  refine ⟨d, g', ?_, h4⟩
  unfold eBorS
  rw [h1]
  simp only [e]
  rw [if_pos h3]
theorem choice_S {k m : Nat} {g : G} {xs : List D} {mm : Int} (h : Src k (m + 2) g) (hx : xs ≠ []) (hl : xs.length < 1000000) (hv : vOks mm xs = true) {Q : D → G → Prop} (q : ∀ d ∈ xs, ∀ g', Go k m g g' → Q d g') : T (d_Lchoice [.hdl k, .lst xs]) g fun d g' => borSok xs d g' = true ∧ Q d g' :=
  choice_T h hx hl fun d hd g' go => ⟨by
    unfold borSok
    simp only [Bool.and_eq_true, decide_eq_true_eq]
    refine ⟨⟨⟨pla_v d (vOks_iff.mp hv d hd), plas_v xs hv⟩, ?_⟩, go.1.pur⟩
    have := nod_mem hd
    omega, q d hd g' go⟩
def Bw : Nat → Nat
  | 0 => 100
  | i + 1 => 2 * Bw i + 200
theorem Bw_mono {i j : Nat} (h : i ≤ j) : Bw i ≤ Bw j := by
  induction j with
  | zero => rw [show i = 0 by omega]; exact Nat.le_refl _
  | succ j ih =>
    by_cases e : i = j + 1
    · subst e; exact Nat.le_refl _
    · have := ih (by omega)
      have e2 : Bw (j + 1) = 2 * Bw j + 200 := rfl
      omega
theorem ints_comp {m : Int} {xs : List D} (hx : vOks m xs = true) {fe : DS → M D} {fg : D → DS → M DS} {σ : DS} {D1 : DS → DS} (h : ∀ d ∈ xs, ∃ σ1, fg d σ = M.pure σ1 ∧ fe σ1 = M.pure (.bl (intB d))) : compM fg tYesD fe σ xs = M.pure ((xs.map intB).map .bl) := by
  rw [List.map_map]
  have := compM_all (fg := fg) (ft := tYesD) (fe := fe) (σ := σ) (en := fun d : D => d) (f := D.bl ∘ intB) (xs := xs) fun d hd => by
    obtain ⟨σ1, e1, e2⟩ := h d hd
    exact ⟨σ1, e1, rfl, e2⟩
  rw [List.map_id'] at this
  exact this
end NS
namespace NS
open PySem PySem.Spec PyProof.Rows L2
abbrev LK := List (List Int × Nat)
def kS (s : List Int) : List Key := s.map Sum.inl
theorem kS_inj : ∀ {a b : List Int}, kS a = kS b → a = b
  | [], [], _ => rfl
  | [], _ :: _, e => by simp [kS] at e
  | _ :: _, [], e => by simp [kS] at e
  | x :: xs, y :: ys, e => by
    simp only [kS, List.map_cons, List.cons.injEq] at e
    obtain ⟨e1, e2⟩ := e
    injection e1 with e1
    rw [e1, kS_inj e2]
def getL (L : LK) (k : List Int) : Nat := ((L.find? fun p => decide (p.1 = k)).map (·.2)).getD 0
def hasL (L : LK) (k : List Int) : Bool := L.any fun p => decide (p.1 = k)
def addL (L : LK) (k : List Int) (v : Nat) : LK := if hasL L k = true then L.map (fun p => if p.1 = k then (p.1, getL L k + v) else p) else L ++ [(k, v)]
def keysL (L : LK) : List (List Int) := L.map (·.1)
theorem has_iff {L : LK} {k : List Int} : hasL L k = true ↔ k ∈ keysL L := by
  unfold hasL keysL
  simp only [List.any_eq_true, decide_eq_true_eq, List.mem_map]
theorem add_keys (L : LK) (k : List Int) (v : Nat) : keysL (addL L k v) = if k ∈ keysL L then keysL L else keysL L ++ [k] := by
  unfold addL
  by_cases h : hasL L k = true
  · rw [if_pos h, if_pos (has_iff.mp h)]
    unfold keysL
    rw [List.map_map]
    refine List.map_congr_left fun p _ => ?_
    show (if p.1 = k then (p.1, getL L k + v) else p).1 = p.1
    split <;> rfl
  · rw [if_neg h, if_neg (fun z => h (has_iff.mpr z))]
    simp [keysL]
theorem add_nodup {L : LK} (h : (keysL L).Nodup) (k : List Int) (v : Nat) : (keysL (addL L k v)).Nodup := by
  rw [add_keys]
  split
  · exact h
  · rename_i hk
    exact List.nodup_append.mpr ⟨h, by simp, fun a ha b hb => by simp at hb; subst hb; rintro rfl; exact hk ha⟩
theorem add_mem {L : LK} {k s : List Int} {v : Nat} (h : s ∈ keysL (addL L k v)) : s ∈ keysL L ∨ s = k := by
  rw [add_keys] at h
  split at h
  · exact .inl h
  · simpa using h
structure SetN (t : Tab) (n : Nat) (s : List Int) : Prop where
  st : s.Pairwise (· < ·)
  sub : ∀ c ∈ s, c ∈ takenI t
  len : s.length = n
theorem SetN.nodup {t : Tab} {n : Nat} {s : List Int} (h : SetN t n s) : s.Nodup := List.nodup_iff_pairwise_ne.mpr (h.st.imp fun h e => by omega)
theorem SetN.add {t : Tab} {n : Nat} {s : List Int} (h : SetN t n s) {c : Int} (hc : c ∈ readyI t s) : SetN t (n + 1) (sortI (s ++ [c])) := by
  obtain ⟨h1, h2, _⟩ := mem_ready.mp hc
  have hn : (s ++ [c]).Nodup := List.nodup_append.mpr ⟨h.nodup, by simp, fun a ha b hb => by simp at hb; subst hb; rintro rfl; exact h2 ha⟩
  refine ⟨sortI_strict hn, fun d hd => ?_, ?_⟩
  · rcases List.mem_append.mp ((sortI_perm _).mem_iff.mp hd) with hd | hd
    · exact h.sub d hd
    · simp at hd; rw [hd]; exact h1
  · rw [(sortI_perm _).length_eq]; simp [h.len]
theorem cI_congr {t : Tab} {P Q : List Int} (h : ∀ c, c ∈ P ↔ c ∈ Q) : cI t P = cI t Q := by
  unfold cI restI
  congr 1
  refine List.filter_congr fun c _ => ?_
  congr 1
  exact bool_iff (by simp only [List.contains_iff_mem]; exact h c)
theorem cI_sort {t : Tab} (P : List Int) : cI t (sortI P) = cI t P := cI_congr fun c => (sortI_perm P).mem_iff
theorem SetN.step {t : Tab} {n : Nat} {s : List Int} (h : SetN t n s) (ng : Ngap t) (hl : n < (takenI t).length) : sg (readyI t s) (fun c => cI t (sortI (s ++ [c]))) = cI t s := by
  rw [cI_step ng]
  · exact sg_congr fun c _ => cI_sort _
  · intro e
    have : (takenI t).length ≤ s.length := sub_len (taken_nodup t) fun c hc => Classical.byContradiction fun z => by
      have := mem_rest.mpr ⟨hc, z⟩
      rw [e] at this; cases this
    rw [h.len] at this; omega
theorem SetN.full {t : Tab} {s : List Int} (h : SetN t (takenI t).length s) : cI t s = 1 := by
  have p : s.Perm (takenI t) := perm_of h.nodup (taken_nodup t) h.sub (by rw [h.len]; exact Nat.le_refl _)
  have : restI t s = [] := by
    unfold restI
    rw [List.filter_eq_nil_iff]
    intro c hc
    simp [p.mem_iff.mpr hc]
  unfold cI; rw [this]; rfl
structure Lay (t : Tab) (n : Nat) (L : LK) : Prop where
  nd : (keysL L).Nodup
  set : ∀ s ∈ keysL L, SetN t n s
theorem Lay.add {t : Tab} {n : Nat} {L : LK} (h : Lay t n L) {s : List Int} (hs : SetN t n s) (v : Nat) : Lay t n (addL L s v) :=
  ⟨add_nodup h.nd _ _, fun q hq => by
    rcases add_mem hq with hq | rfl
    · exact h.set q hq
    · exact hs⟩
theorem sub_lenG {α : Type} [DecidableEq α] : ∀ {l m : List α}, l.Nodup → (∀ x ∈ l, x ∈ m) → l.length ≤ m.length
  | [], _, _, _ => by simp
  | a :: l, m, hl, h => by
    have h2 := List.nodup_cons.mp hl
    have ha := h a List.mem_cons_self
    have := sub_lenG (l := l) (m := m.erase a) h2.2 fun x hx => (List.mem_erase_of_ne (fun e => h2.1 (by rw [← e]; exact hx))).mpr (h x (List.mem_cons_of_mem _ hx))
    rw [List.length_erase_of_mem ha] at this
    have := List.length_pos_of_mem ha
    simp only [List.length_cons]; omega
def allS' : List Int → List (List Int)
  | [] => [[]]
  | a :: l => allS' l ++ (allS' l).map (a :: ·)
theorem allS'_len : ∀ l : List Int, (allS' l).length = 2 ^ l.length
  | [] => rfl
  | a :: l => by simp [allS', allS'_len l]; omega
theorem allS'_mem : ∀ {l s : List Int}, l.Pairwise (· < ·) → s.Pairwise (· < ·) → (∀ c ∈ s, c ∈ l) → s ∈ allS' l
  | [], [], _, _, _ => List.mem_singleton.mpr rfl
  | [], c :: s, _, _, h => absurd (h c List.mem_cons_self) (by simp)
  | a :: l, [], hl, _, _ => List.mem_append_left _ (allS'_mem (List.pairwise_cons.mp hl).2 .nil (fun _ h => nomatch h))
  | a :: l, c :: s, hl, hs, h => by
    have hl2 := List.pairwise_cons.mp hl
    have hs2 := List.pairwise_cons.mp hs
    by_cases e : c = a
    · subst e
      refine List.mem_append_right _ (List.mem_map.mpr ⟨s, allS'_mem hl2.2 hs2.2 fun d hd => ?_, rfl⟩)
      rcases List.mem_cons.mp (h d (List.mem_cons_of_mem _ hd)) with rfl | z
      · have := hs2.1 d hd; omega
      · exact z
    · refine List.mem_append_left _ (allS'_mem hl2.2 hs fun d hd => ?_)
      rcases List.mem_cons.mp (h d hd) with rfl | z
      · exfalso
        have hc : c ∈ l := by
          rcases List.mem_cons.mp (h c List.mem_cons_self) with z | z
          · exact absurd z e
          · exact z
        have := hl2.1 c hc
        rcases List.mem_cons.mp hd with rfl | hd
        · omega
        · have := hs2.1 d hd; omega
      · exact z
theorem Lay.len {t : Tab} (ok : Tok t) {n : Nat} {L : LK} (h : Lay t n L) : L.length ≤ 4096 := by
  have h1 : (keysL L).length ≤ (allS' (takenI t)).length := sub_lenG h.nd fun s hs => allS'_mem (taken_sorted t) (h.set s hs).st (h.set s hs).sub
  rw [allS'_len] at h1
  have h2 : 2 ^ (takenI t).length ≤ 2 ^ 12 := Nat.pow_le_pow_right (by decide) (tl_le ok)
  have h3 : (keysL L).length = L.length := by simp [keysL]
  omega
end NS
namespace NS
open PySem PySem.Spec PyProof.Rows L2
@[simp] theorem iKeysF_ap (f : DS → M D) (σ : DS) : iKeysF f σ = M.bind (f σ) kKeys := rfl
@[simp] theorem kKeys_fT (kvs : List (List Key × D)) : kKeys (.fT kvs) = M.pure (keysT kvs) := rfl
@[simp] theorem sLk_ap (i : Nat) (f : DS → M Fl) (σ : DS) : sLk i f σ = f (lk1 i σ) := rfl
@[simp] theorem eGet2_ap (fo fk fd : DS → M D) (σ : DS) : eGet2 fo fk fd σ = M.bind (fo σ) fun x => if isT2 x = true then M.bind (fk σ) fun y => M.bind (fd σ) fun z => M.opt (dGet2 x y z) else M.bad := rfl
@[simp] theorem isT2_dT (kvs : List (List Key × D)) : isT2 (.dT kvs) = true := rfl
@[simp] theorem isT2_fT (kvs : List (List Key × D)) : isT2 (.fT kvs) = true := rfl
@[simp] theorem kDisp1_nil (d : D) : kDisp1 (.tup []) d = M.pure (.dT [([], d)]) := rfl
theorem keysOf_ints : ∀ s : List Int, keysOf (s.map .int) = some (kS s)
  | [] => rfl
  | a :: s => by
    rw [List.map_cons]
    unfold keysOf
    rw [keysOf_ints s]; rfl
end NS
set_option maxHeartbeats 4000000
namespace NS
open PySem PySem.Spec PyProof.Rows L2
theorem sub_mem : ∀ (n : Nat) {R S : List Int}, R.length = n → S.Sublist R → S ∈ subsI R
  | 0, R, S, h, s => by
    have := List.length_eq_zero_iff.mp h
    subst this
    rw [List.sublist_nil.mp s]
    simp [subsI]
  | n + 1, R, S, h, s => by
    obtain ⟨r, c, rfl⟩ : ∃ r c, R = r ++ [c] := ⟨R.dropLast, R.getLast (by intro e; subst e; simp at h), (List.dropLast_concat_getLast _).symm⟩
    rw [subsI_snoc]
    unfold dblF
    have hr : r.length = n := by simpa using h
    obtain ⟨S1, S2, rfl, h1, h2⟩ := List.sublist_append_iff.mp s
    have m1 := sub_mem n hr h1
    rcases List.sublist_cons_iff.mp h2 with h3 | ⟨r2, rfl, h3⟩
    · rw [List.sublist_nil.mp h3, List.append_nil]; exact List.mem_append_left _ m1
    · rw [List.sublist_nil.mp h3]
      exact List.mem_append_right _ (List.mem_map.mpr ⟨S1, m1, rfl⟩)
theorem sub_nodup : ∀ (n : Nat) {R : List Int}, R.length = n → R.Nodup → (subsI R).Nodup
  | 0, R, h, _ => by
    have := List.length_eq_zero_iff.mp h
    subst this
    simp [subsI]
  | n + 1, R, h, hn => by
    obtain ⟨r, c, rfl⟩ : ∃ r c, R = r ++ [c] := ⟨R.dropLast, R.getLast (by intro e; subst e; simp at h), (List.dropLast_concat_getLast _).symm⟩
    rw [subsI_snoc]
    unfold dblF
    have hr : r.length = n := by simpa using h
    obtain ⟨n1, _, n3⟩ := List.nodup_append.mp hn
    have ih := sub_nodup n hr n1
    refine List.nodup_append.mpr ⟨ih, ?_, fun a ha b hb e => ?_⟩
    · refine List.Pairwise.map _ (fun a b h e => h ?_) ih
      exact List.append_cancel_right e
    · subst e
      obtain ⟨S, _, rfl⟩ := List.mem_map.mp hb
      exact n3 c ((subsI_sub _ _ ha).subset (by simp)) c (by simp) rfl
theorem set_sub {t : Tab} {S : List Int} (h : Set1 t S) : S.Sublist (takenI t) := by
  have e : ((takenI t).filter fun c => S.contains c) = S :=
    List.Perm.eq_of_pairwise (le := fun a b : Int => a < b) (fun a b _ _ h1 h2 => by omega) ((taken_sorted t).filter _) h.1
      ((List.perm_ext_iff_of_nodup ((taken_nodup t).filter _) h.nodup).mpr fun c => by
        rw [List.mem_filter, List.contains_iff_mem]
        exact ⟨fun z => z.2, fun z => ⟨h.2 c z, z⟩⟩)
  rw [← e]
  exact List.filter_sublist
theorem mem_viewsI {t : Tab} {S : List Int} : S ∈ viewsI t ↔ Set1 t S ∧ clB t S = true := by
  unfold viewsI
  rw [List.mem_filter]
  constructor
  · rintro ⟨h1, h2⟩; exact ⟨subs_set h1, h2⟩
  · rintro ⟨h1, h2⟩
    exact ⟨sub_mem _ rfl (set_sub h1), h2⟩
theorem views_nodup (t : Tab) : (viewsI t).Nodup := (sub_nodup _ rfl (taken_nodup t)).filter _
def vws (t : Tab) : List (List Int) := if fitI t = [] then [] else viewsI t
theorem vws_no {t : Tab} (p : ¬ Pos t) : vws t = [] := if_pos (Classical.byContradiction fun h => p (fit_pos.mp h))
theorem vws_yes {t : Tab} (p : Pos t) : vws t = viewsI t := if_neg (fit_pos.mpr p)
theorem vws_nodup (t : Tab) : (vws t).Nodup := by
  unfold vws; split
  · exact List.nodup_nil
  · exact views_nodup t
theorem vws_len {t : Tab} (ok : Tok t) : (vws t).length ≤ 4096 := by
  unfold vws; split
  · simp
  · exact views_len ok
theorem vws_small {t : Tab} (h : (takenI t).length ≤ 6) : (vws t).length ≤ 64 := by
  unfold vws; split
  · simp
  · refine Nat.le_trans (List.length_filter_le _ _) ?_
    rw [subsI_len]
    exact Nat.le_trans (Nat.pow_le_pow_right (by decide) h) (by decide)
theorem mem_vws {t : Tab} {S : List Int} : S ∈ vws t ↔ ∃ σ ∈ fitI t, ∃ k, k ≤ (takenI t).length ∧ sortI (σ.take k) = S := by
  by_cases p : Pos t
  · rw [vws_yes p, mem_viewsI]
    constructor
    · rintro ⟨h1, h2⟩
      obtain ⟨σ, a, b, c⟩ := (view_way p h1).mp h2
      have := (mem_fit.mp a).2
      exact ⟨σ, a, S.length, by omega, c⟩
    · rintro ⟨σ, a, k, b, rfl⟩
      have g := (mem_fit.mp a).1
      exact ⟨way_set g k, way_cl g k⟩
  · rw [vws_no p]
    constructor
    · intro h; cases h
    · rintro ⟨σ, a, _⟩
      have : fitI t = [] := Classical.byContradiction fun h => p (fit_pos.mp h)
      rw [this] at a; cases a
def encV (L : List (List Int)) : List (List Key × D) := L.map fun S => (kS S, .bl true)
def addK (L : List (List Int)) (S : List Int) : List (List Int) := if S ∈ L then L else L ++ [S]
theorem encV_any (L : List (List Int)) (S : List Int) : ((encV L).any fun kv => decide (kv.1 = kS S)) = decide (S ∈ L) := by
  refine bool_iff ?_
  unfold encV
  rw [List.any_map, List.any_eq_true, decide_eq_true_eq]
  constructor
  · rintro ⟨x, h, e⟩
    have := kS_inj (of_decide_eq_true e)
    subst this; exact h
  · intro h; exact ⟨S, h, decide_eq_true rfl⟩
theorem encV_put (L : List (List Int)) (S : List Int) : putD (encV L) (kS S) (.bl true) = encV (addK L S) := by
  unfold putD addK
  rw [encV_any]
  by_cases h : S ∈ L
  · rw [if_pos (decide_eq_true h), if_pos h]
    unfold encV
    rw [List.map_map]
    refine List.map_congr_left fun x _ => ?_
    show (if kS x = kS S then (kS x, D.bl true) else (kS x, D.bl true)) = _
    split <;> rfl
  · rw [if_neg (by simpa using h), if_neg h]
    simp [encV]
theorem dPut_encV (L : List (List Int)) (S : List Int) (h : L.length < 1000000) : dPut (.dT (encV L)) (.tup (S.map .int)) (.bl true) = some (.dT (encV (addK L S))) := by
  have e : (encV L).length = L.length := by simp [encV]
  show (if fit (encV L).length = true then (keysOf (S.map .int)).map fun k => D.dT (putD (encV L) k (.bl true)) else none) = _
  rw [keysOf_ints, e, if_pos (by unfold fit; exact decide_eq_true h)]
  show some (D.dT (putD (encV L) (kS S) (.bl true))) = _
  rw [encV_put]
theorem keysT_encV (L : List (List Int)) : keysT (encV L) = L.map tD := by
  unfold keysT encV
  rw [List.map_map]
  refine List.map_congr_left fun S _ => ?_
  show D.tup ((kS S).map keyD) = _
  unfold kS tD
  rw [List.map_map]; rfl
theorem dHas_encV (L : List (List Int)) (S : List Int) : dHas (.fT (encV L)) (.tup (S.map .int)) = some (.bl (L.contains S)) := by
  show (keysOf (S.map .int)).map (fun k => D.bl (valD (encV L) k).isSome) = _
  rw [keysOf_ints]
  show some (D.bl (valD (encV L) (kS S)).isSome) = _
  congr 2
  unfold valD
  rw [Option.isSome_map]
  refine bool_iff ?_
  have := encV_any L S
  rw [Bool.eq_iff_iff, List.any_eq_true] at this
  rw [List.find?_isSome, this, List.contains_iff_mem, decide_eq_true_eq]
theorem addK_nodup {L : List (List Int)} (h : L.Nodup) (S : List Int) : (addK L S).Nodup := by
  unfold addK
  split
  · exact h
  · next n => exact List.nodup_append.mpr ⟨h, by simp, fun a ha b hb e => n (by simp at hb; subst hb e; exact ha)⟩
theorem mem_addK {L : List (List Int)} {S x : List Int} : x ∈ addK L S ↔ x ∈ L ∨ x = S := by
  unfold addK
  split
  · next h => exact ⟨.inl, fun z => z.elim id fun e => by subst e; exact h⟩
  · simp
theorem vw_filter {t : Tab} {x : D} {k : Int} : compM (gN 3) (eTst (eBin kEq (eArgs kLen (lCons (eVar 3) lNil)) (eVar 1))) (eVar 3) [some (.sh x), some (.sh (.int k)), none, none] ((vws t).map tD) = M.pure (((vws t).filter fun S => decide ((S.length : Int) = k)).map tD) := by
  refine compM_pure (p := fun S : List Int => decide ((S.length : Int) = k)) (f := tD) fun S hS => ⟨_, rfl, ?_, fun _ => rfl⟩
  have kl : kLen [tD S] = M.pure (.int (S.length : Nat)) := by unfold tD; simp
  simp -implicitDefEqProofs [kl]
  congr 1
theorem all_views_A {x : D} {t : Tab} (h : Tb x t) (ok : Tok t) : Is (d_all_views [x]) (.lst ((vws t).map tD)) := by
  by_cases p : Pos t
  · rw [vws_yes p]; exact all_views_T h ok p
  · rw [vws_no p]
    refine Is.of_T fun g hg => runD_T ?_
    unfold b_all_views
    simp -implicitDefEqProofs [startD, (possible_no h ok p).T hg]
def vwK (t : Tab) (k : Int) : List (List Int) := srtI ((vws t).filter fun S => decide ((S.length : Int) = k))
theorem views_A {x : D} {t : Tab} (h : Tb x t) (ok : Tok t) (h6 : (takenI t).length ≤ 6) (k : Int) : Is (d_views [x, .int k]) (.lst ((vwK t k).map tD)) := by
  have vl := vws_small h6
  have fl : ((vws t).filter fun S => decide ((S.length : Int) = k)).length ≤ (vws t).length := List.length_filter_le _ _
  have ks : kSorted [.lst (((vws t).filter fun S => decide ((S.length : Int) = k)).map tD)] = M.pure (.lst ((vwK t k).map tD)) :=
    kSorted_tups (k := k.toNat) (fun S hS => by
      have := of_decide_eq_true (List.mem_filter.mp hS).2
      omega) ((vws_nodup t).filter _) (by omega)
  refine Is.of_T fun g hg => runD_T ?_
  unfold b_views
  have e1 := vw_filter (t := t) (x := x) (k := k)
  simp -implicitDefEqProofs [startD, (all_views_A h ok).T hg, e1, ks]
  omega
def cvA (t : Tab) (k : Nat) : Nat := ((vws t).filter fun S => decide ((S.length : Int) = (k : Nat))).length
theorem count_views_A {x : D} {t : Tab} (h : Tb x t) (ok : Tok t) : Is (d_count_views [x]) (.lst (nums ((takenI t).length + 1) (cvA t))) := by
  refine Is.of_T fun g hg => runD_T ?_
  unfold b_count_views
  have tl := tl_le ok
  have vl := vws_len ok
  have k1 : compM (gN 2) tYesD (eArgs kLen (lCons (eVar 2) lNil)) [some (.sh x), none, none, none] ((vws t).map tD) = M.pure (((vws t).map fun S => ((S.length : Nat) : Int)).map .int) := by
    rw [List.map_map]
    exact compM_all (f := D.int ∘ fun S : List Int => ((S.length : Nat) : Int)) fun S hS => ⟨_, rfl, rfl, by simp [tD]⟩
  have k2 : compM (gN 3) tYesD (eMeth isL kCount (eVar 1) (lCons (eVar 3) lNil)) [some (.sh x), some (.sh (.lst (((vws t).map fun S => ((S.length : Nat) : Int)).map .int))), none, none] (rngD 0 (((takenI t).length : Int) + 1)) = M.pure (nums ((takenI t).length + 1) (cvA t)) := by
    have e : nums ((takenI t).length + 1) (cvA t) = (rI 0 (((takenI t).length : Int) + 1)).map fun k => .int (cvA t k.toNat : Nat) := by
      unfold nums rI
      rw [List.map_map, show (((takenI t).length : Int) + 1 - 0).toNat = (takenI t).length + 1 by omega]
      refine List.map_congr_left fun j _ => ?_
      simp
    rw [e, rngD_rI]
    refine compM_all fun k hk => ⟨_, rfl, rfl, ?_⟩
    have hk := mem_rI.mp hk
    have kc := kCount_ints ((vws t).map fun S => ((S.length : Nat) : Int)) k (by simp; omega)
    have e2 : (((vws t).map fun S => ((S.length : Nat) : Int)).filter fun r => r == k).length = cvA t k.toNat := by
      unfold cvA
      rw [List.filter_map, List.length_map]
      congr 1
      refine List.filter_congr fun S _ => bool_iff ?_
      simp only [Function.comp_apply, beq_iff_eq, decide_eq_true_eq]
      omega
    rw [e2] at kc
    simp -implicitDefEqProofs [eMeth, isL, kc, -List.map_map]
  simp -implicitDefEqProofs [startD, (all_views_A h ok).T hg, k1, taken_T h ok.len, -List.map_map]
  refine ⟨by omega, by omega, by omega, by omega, ?_⟩
  rw [k2, T_pure]
  exact ⟨rfl, rfl⟩
def vwB (t : Tab) : D → Bool
  | .tup xs => (match D.ints xs with
    | some S => (vws t).contains S
    | none => false)
  | _ => false
theorem ints_no : ∀ {xs : List D}, xs.all intB = false → D.ints xs = none
  | [], h => by cases h
  | d :: r, h => by
    cases d with
    | int i =>
      have := ints_no (xs := r) (by simpa [intB] using h)
      show (D.ints r).map _ = none
      rw [this]; rfl
    | _ => rfl
theorem ints_yes : ∀ {xs : List D}, xs.all intB = true → ∃ S : List Int, xs = S.map .int
  | [], _ => ⟨[], rfl⟩
  | d :: r, h => by
    cases d with
    | int i =>
      obtain ⟨S, rfl⟩ := ints_yes (xs := r) (by simpa [intB] using h)
      exact ⟨i :: S, rfl⟩
    | _ => simp [intB] at h
theorem asc_iff : ∀ {S : List Int}, (S.zip (S.drop 1)).all (fun p => decide (p.1 < p.2)) = true ↔ S.Pairwise (· < ·)
  | [] => by simp
  | [a] => by simp
  | a :: b :: r => by
    have ih := asc_iff (S := b :: r)
    have e : ((a :: b :: r).zip ((a :: b :: r).drop 1)).all (fun p => decide (p.1 < p.2)) = (decide (a < b) && ((b :: r).zip ((b :: r).drop 1)).all (fun p => decide (p.1 < p.2))) := rfl
    rw [e, Bool.and_eq_true, ih, decide_eq_true_eq]
    constructor
    · rintro ⟨h1, h2⟩
      refine List.pairwise_cons.mpr ⟨fun c hc => ?_, h2⟩
      rcases List.mem_cons.mp hc with rfl | hc
      · exact h1
      · have := (List.pairwise_cons.mp h2).1 c hc
        omega
    · intro h
      obtain ⟨h1, h2⟩ := List.pairwise_cons.mp h
      exact ⟨h1 b (by simp), h2⟩
theorem is_view_ints {x : D} {t : Tab} (h : Tb x t) (ok : Tok t) {S : List Int} (hl : S.length < 900000) : Is (d_is_view [x, tD S]) (.bl ((vws t).contains S)) := by
  refine Is.of_T fun g hg => runD_T ?_
  unfold b_is_view
  have tl := tl_le ok
  have e1 : compM (gN 2) tYesD (eArgs (callN 1 d_is_integer) (lCons (eVar 2) lNil)) [some (.sh x), some (.sh (tD S)), none, none, none] (S.map .int) = M.pure ((S.map fun _ => true).map .bl) := by
    rw [compM_all (f := fun _ => .bl true) fun c hc => ⟨_, rfl, rfl, by simp [is_integer_int]⟩, List.map_map]; rfl
  have e2 : compM (gN 2) tYesD (eBin kIn (eVar 2) (eArgs (callN 1 d_taken) (lCons (eVar 0) lNil))) [some (.sh x), some (.sh (tD S)), none, none, none] (S.map .int) = M.pure ((S.map fun c => (takenI t).contains c).map .bl) := by
    rw [compM_all (f := fun c => .bl ((takenI t).contains c)) fun c hc => ⟨_, rfl, rfl, by simp -implicitDefEqProofs [taken_T h ok.len]⟩, List.map_map]; rfl
  have e3 : compM (gNs [3, 4]) tYesD (eBin kLt (eVar 3) (eVar 4)) [some (.sh x), some (.sh (tD S)), none, none, none] (zipD (S.map .int) (S.map .int).tail) = M.pure (((S.zip (S.drop 1)).map fun p => decide (p.1 < p.2)).map .bl) := by
    have ez : zipD (S.map .int) (S.map .int).tail = (S.zip (S.drop 1)).map fun p => .tup [.int p.1, .int p.2] := by
      unfold zipD
      rw [← List.map_tail, List.zip_map, List.map_map, List.drop_one]
      rfl
    rw [ez, compM_all (f := fun p => .bl (decide (p.1 < p.2))) fun q hq => ⟨_, rfl, rfl, by simp⟩, List.map_map]
    rfl
  have cz : zipK2 [tD S, .tup (S.map .int).tail] = M.pure (zipD (S.map .int) (S.map .int).tail) := rfl
  have zl : (zipD (S.map .int) (S.map .int).tail).length < 1000000 := by unfold zipD; simp; omega
  have cd := cutD_drop (S.map .int) 1 (by decide)
  rw [← List.map_drop] at cd
  have it : itD (tD S) = M.pure (S.map .int) := rfl
  have ii : kIsi ["tuple"] (tD S) = M.pure (.bl true) := rfl
  have sl2 : kSl (some 1) none (tD S) = M.pure (.tup (cutD (S.map .int) (some 1) none)) := rfl
  have k1 : kOfBls (fun bs => M.pure (.bl (bs.all id))) [.lst ((S.map fun _ => true).map .bl)] = M.pure (.bl true) := by
    rw [kOfBls_map, List.all_map]
    show M.pure (D.bl (S.all fun _ => true)) = _
    rw [show (S.all fun _ => true) = true from List.all_eq_true.mpr fun _ _ => rfl]
  have k2 : kOfBls (fun bs => M.pure (.bl (bs.all id))) [.lst ((S.map fun c => (takenI t).contains c).map .bl)] = M.pure (.bl (S.all fun c => (takenI t).contains c)) := by rw [kOfBls_map, List.all_map]; rfl
  have k3 : kOfBls (fun bs => M.pure (.bl (bs.all id))) [.lst (((S.zip (S.drop 1)).map fun p => decide (p.1 < p.2)).map .bl)] = M.pure (.bl ((S.zip (S.drop 1)).all fun p => decide (p.1 < p.2))) := by rw [kOfBls_map, List.all_map]; rfl
  have L1 : ((S.map fun _ => true).map D.bl).length < 1000000 := by simp; omega
  have L2 : ((S.map fun c => (takenI t).contains c).map D.bl).length < 1000000 := by simp; omega
  have L3 : (((S.zip (S.drop 1)).map fun p => decide (p.1 < p.2)).map D.bl).length < 1000000 := by simp; omega
  have sl : S.length < 1000000 := by omega
  generalize (S.map fun _ => true).map D.bl = B1 at *
  generalize (S.map fun c => (takenI t).contains c).map D.bl = B2 at *
  generalize ((S.zip (S.drop 1)).map fun p => decide (p.1 < p.2)).map D.bl = B3 at *
  by_cases p : Pos t
  · rw [vws_yes p]
    by_cases h2 : S.all (fun c => (takenI t).contains c) = true
    · have hS : ∀ c ∈ S, c ∈ takenI t := fun c hc => List.contains_iff_mem.mp (List.all_eq_true.mp h2 c hc)
      rw [h2] at k2
      by_cases h3 : (S.zip (S.drop 1)).all (fun p => decide (p.1 < p.2)) = true
      · have s1 : Set1 t S := ⟨asc_iff.mp h3, hS⟩
        have cl := closed_T h ok (y := tD S) (.inl rfl) hS (s1.len ok)
        have r : (viewsI t).contains S = clB t S := bool_iff (by rw [List.contains_iff_mem, mem_viewsI]; exact ⟨fun z => z.2, fun z => ⟨s1, z⟩⟩)
        rw [h3] at k3
        simp -implicitDefEqProofs [startD, (possible_yes h ok p).T hg, ii, it, e1, e2, e3, cl, cz, sl2, cd, k1, k2, k3, L1, L2, L3, zl, sl, -List.map_drop, -List.map_map]
        exact bool_iff (by rw [decide_eq_true_eq, ← List.contains_iff_mem, r])
      · have r : (viewsI t).contains S = false := by
          rw [Bool.eq_false_iff]
          intro z
          exact h3 (asc_iff.mpr (mem_viewsI.mp (List.contains_iff_mem.mp z)).1.1)
        rw [Bool.not_eq_true] at h3
        rw [h3] at k3
        simp -implicitDefEqProofs [startD, (possible_yes h ok p).T hg, ii, it, e1, e2, e3, cz, sl2, cd, k1, k2, k3, L1, L2, L3, zl, sl, -List.map_drop, -List.map_map]
        exact fun z => by rw [List.contains_iff_mem.mpr z] at r; cases r
    · have r : (viewsI t).contains S = false := by
        rw [Bool.eq_false_iff]
        intro z
        exact h2 (List.all_eq_true.mpr fun c hc => List.contains_iff_mem.mpr ((mem_viewsI.mp (List.contains_iff_mem.mp z)).1.2 c hc))
      rw [Bool.not_eq_true] at h2
      rw [h2] at k2
      simp -implicitDefEqProofs [startD, (possible_yes h ok p).T hg, ii, it, e1, e2, k1, k2, L1, L2, sl, -List.map_drop, -List.map_map]
      exact fun z => by rw [List.contains_iff_mem.mpr z] at r; cases r
  · rw [vws_no p]
    have r : ([] : List (List Int)).contains S = false := rfl
    simp -implicitDefEqProofs [startD, (possible_no h ok p).T hg, ii, it, e1, k1, r, L1, sl, -List.map_map]
theorem is_view_v {m : Int} {x d : D} {t : Tab} (h : Tb x t) (ok : Tok t) (hv : vOk m d = true) (hw : wt d ≤ 5000000) : Is (d_is_view [x, d]) (.bl (vwB t d)) := by
  have atom : kIsi ["tuple"] d = M.pure (.bl false) → vwB t d = false → Is (d_is_view [x, d]) (.bl (vwB t d)) := fun hk e => by
    rw [e]
    refine Is.of_T fun g hg => runD_T ?_
    unfold b_is_view
    simp -implicitDefEqProofs [startD, hk]
  cases d with
  | non => exact atom rfl rfl
  | bl b => exact atom rfl rfl
  | int i => exact atom rfl rfl
  | str y => exact atom rfl rfl
  | lst xs => exact atom rfl rfl
  | tup xs =>
    have hx : vOks m xs = true := by simpa only [vOk] using hv
    have xl := wts_len xs
    have ew : wt (.tup xs) = 4 + wts xs := rfl
    cases ea : xs.all intB with
    | true =>
      obtain ⟨S, rfl⟩ := ints_yes ea
      rw [List.length_map] at xl
      have e : vwB t (.tup (S.map .int)) = (vws t).contains S := by
        show (match D.ints (S.map .int) with | some S => (vws t).contains S | none => false) = _
        rw [show D.ints (S.map .int) = some S by simp]
      rw [e]
      exact is_view_ints h ok (by omega)
    | false =>
      have e : vwB t (.tup xs) = false := by
        show (match D.ints xs with | some S => (vws t).contains S | none => false) = _
        rw [ints_no ea]
      rw [e]
      refine Is.of_T fun g hg => runD_T ?_
      unfold b_is_view
      have i1 : kIsi ["tuple"] (.tup xs) = M.pure (.bl true) := rfl
      have it : itD (.tup xs) = M.pure xs := rfl
      have key : compM (gN 2) tYesD (eArgs (callN 1 d_is_integer) (lCons (eVar 2) lNil)) [some (.sh x), some (.sh (.tup xs)), none, none, none] xs = M.pure ((xs.map intB).map .bl) :=
        ints_comp (D1 := id) hx fun d hd => ⟨_, rfl, by
          have := integer_v (vOks_iff.mp hx d hd)
          simp -implicitDefEqProofs [this]⟩
      have kb : kOfBls (fun bs => M.pure (.bl (bs.all id))) [.lst ((xs.map intB).map .bl)] = M.pure (.bl false) := by
        rw [kOfBls_map, List.all_map]
        show M.pure (D.bl (xs.all intB)) = _
        rw [ea]
      have L1 : ((xs.map intB).map D.bl).length < 1000000 := by simp; omega
      generalize (xs.map intB).map D.bl = B1 at *
      have sl : xs.length < 1000000 := by omega
      simp -implicitDefEqProofs [startD, i1, it, key, kb, L1, sl]
  | _ => exact absurd hv (by simp [vOk])
end NS
set_option maxHeartbeats 4000000
namespace NS
open PySem PySem.Spec PyProof.Rows L2
def vr23 : DS → M Fl :=
  (sSeq (sIf (eNot (eTst (eArgs (callN 2 (d_Lequal 8)) (lCons (eArgs mkL (lCons (eArgs (callN 2 d_is_view) (lCons (eVar 1) (lCons (eVar 6) lNil))) (lCons (eArgs (kwN 2 [1, 0] 2 d_is_view) (lCons (eVar 6) (lCons (eArgs kList (lCons (eVar 1) lNil)) lNil))) lNil))) (lCons (eArgs mkL (lCons (eVar 8) (lCons (eVar 8) lNil))) lNil)))))
    (sRet (eC (.bl false)))
    sNil)
    (sIf (eTst (eBin kNe (eArgs kRepr (lCons (eVar 6) lNil)) (eVar 7)))
    (sRet (eC (.bl false)))
    sNil))
def vp23 : DS → M Fl :=
  (sSeq (sFrz 4 (sFor (iSeq (eVar 4)) (gN 6)
    (sSeq (sSet false 7 (eArgs kRepr (lCons (eVar 6) lNil)))
    (sSeq (sSet false 8 (eAndV (eIsi ["tuple"] (eVar 6)) (eAndV (eArgs (kOfBls fun bs => M.pure (.bl (bs.all id))) (lCons (eComp (iSeq (eVar 6)) [9] (gN 9) tYesD (eArgs (callN 1 d_Linteger) (lCons (eVar 9) lNil))) lNil)) (eDIn (eVar 6) (eVar 2)))))
    vr23))))
    (sRet (eC (.bl true))))
theorem vp23_eq : b_Lvalues_right =
  (sSeq (sSet false 3 (eArgs (callN 1 d_Lfull_spots) (lCons (eVar 1) lNil)))
    (sSeq (sSet true 4 (eArgs mkL (lCons (eArgs mkT lNil) (lCons (eArgs mkL lNil) (lCons (eC .non) (lCons (eC (.int 0)) (lCons (eC (.str "view")) (lCons (eArgs kTuple (lCons (eVar 3) lNil)) (lCons (eVar 3) (lCons (eArgs kTuple (lCons (eRev (eVar 3)) lNil)) (lCons (eArgs mkT (lCons (eC (.bl true)) lNil)) (lCons (eArgs mkT (lCons (eNeg (eC (.int 1))) lNil)) lNil))))))))))))
    (sSeq (sFrz 4 (sSet true 4 (eBin kCat (eVar 4) (eArgs mkL (lCons (eArgs mkT (lCons (eBin kPow (eC (.int 10)) (eC (.int 20))) lNil)) (lCons (eArgs mkT (lCons (eC (.int 0)) (lCons (eC (.int 0)) lNil))) lNil))))))
    (sSeq (sFor (iArgs rng1 (lCons (eC (.int 12)) lNil)) (gN 5)
    (sOwn 4 kApp (eArgs kTuple (lCons (eArgs kSorted (lCons (eSl kSl (eArgs (callN 2 d_Lshuffled) (lCons (eVar 0) (lCons (eVar 3) lNil))) oNone (oSome (eArgs (callN 2 (d_Ldraw 3)) (lCons (eVar 0) (lCons (eBin kAdd (eArgs kLen (lCons (eVar 3) lNil)) (eC (.int 1))) lNil))))) lNil)) lNil))))
    (sSeq (sFor (iArgs rng1 (lCons (eC (.int 8)) lNil)) (gN 5)
    (sOwn 4 kApp (eArgs (callN 2 (d_Lbent 36)) (lCons (eVar 0) (lCons (eBorS 4 (eArgs (callN 2 d_Lchoice) (lCons (eVar 0) (lCons (eVar 4) lNil)))) lNil)))))
    vp23))))) := rfl
@[simp] theorem eDIn_ap' (fa fb : DS → M D) (σ : DS) : eDIn fa fb σ = M.bind (fa σ) fun y => M.bind (fb σ) fun x => M.opt (dHas x y) := rfl
theorem vrest {t : Tab} (ok : Tok t) {m : Int} {d : D} (hv : vOk m d = true) (hw : wt d ≤ 5000000) {g : G} (hg : Gpur g = true) {x : Str} (hx : PyData.strOk x = true) (kr : kRepr [d] = M.pure (.str x)) (s0 s2 s3 s4 s5 s9 : Option DV) :
    T (vr23 [s0, some (.sh (.tup (t.map Ent.d))), s2, s3, s4, s5, some (.sh d), some (.sh (.str x)), some (.sh (.bl (vwB t d))), s9]) g
      fun fl g' => fl = .nx [s0, some (.sh (.tup (t.map Ent.d))), s2, s3, s4, s5, some (.sh d), some (.sh (.str x)), some (.sh (.bl (vwB t d))), s9] ∧ g' = g := by
  unfold vr23
  have tb : Tb (.tup (t.map Ent.d)) t := .inl rfl
  have tb2 : Tb (.lst (t.map Ent.d)) t := .inr (.inl rfl)
  have kli : kList [.tup (t.map Ent.d)] = M.pure (.lst (t.map Ent.d)) := rfl
  have kw1 : ∀ a b, kwN 2 [1, 0] 2 d_is_view [a, b] = d_is_view [b, a] := fun _ _ => rfl
  have g1 := is_view_v tb ok hv hw
  have g2 := is_view_v tb2 ok hv hw
  have ps : D.pl 1 (.str x) = true := by simp [pl_str, hx]
  have ks := kNe_self ps
  simp -implicitDefEqProofs [g1.T hg, g2.T hg, kli, kw1]
  refine equal_T rfl (by simp) ?_
  simp -implicitDefEqProofs [kr, ks, hg]
theorem vphase {t : Tab} (ok : Tok t) {m : Int} (hm : m ≤ 20) {Ks : List (List Int)} (hK : Ks.Perm (vws t)) {L : List D} (hl : L.length < 1000) {B K : Nat} (hB : B ≤ 5000000) (hK2 : K ≤ 60) (hL : ∀ d ∈ L, Pv m B K d) {g : G} (hg : Gpur g = true) (s0 s3 s5 s6 s7 s8 s9 : Option DV) :
    T (vp23 [s0, some (.sh (.tup (t.map Ent.d))), some (.sh (.fT (encV Ks))), s3, some (.ow (.lst L)), s5, s6, s7, s8, s9]) g fun fl g' => fl = .rt (.bl true) ∧ g' = g := by
  have tb : Tb (.tup (t.map Ent.d)) t := .inl rfl
  unfold vp23
  simp -implicitDefEqProofs
  refine forM_T (fun i σ g' => (∃ s6 s7 s8 s9, σ = [s0, some (.sh (.tup (t.map Ent.d))), some (.sh (.fT (encV Ks))), s3, some (.sh (.lst L)), s5, s6, s7, s8, s9]) ∧ g' = g) (n := 0) ?_ ⟨⟨_, _, _, _, rfl⟩, rfl⟩ ?_
  · rintro i d σ g' e ⟨⟨s6, s7, s8, s9, rfl⟩, rfl⟩
    have pv := hL d (List.mem_of_getElem? e)
    have w := pv.wt
    have e2 := pv.dp
    obtain ⟨x, hx, kr⟩ := repr_v hm pv.ok (by omega) (by omega)
    have rb := fun s9 => vrest ok pv.ok (by omega) hg hx kr s0 (some (.sh (.fT (encV Ks)))) s3 (some (.sh (.lst L))) s5 s9
    have done_ : ∀ s8 s9, s8 = some (.sh (.bl (vwB t d))) → T (vr23 [s0, some (.sh (.tup (t.map Ent.d))), some (.sh (.fT (encV Ks))), s3, some (.sh (.lst L)), s5, some (.sh d), some (.sh (.str x)), s8, s9]) g' fun fl g2 => match fl with
        | .nx σ' => (∃ s6 s7 s8 s9, σ' = [s0, some (.sh (.tup (t.map Ent.d))), some (.sh (.fT (encV Ks))), s3, some (.sh (.lst L)), s5, s6, s7, s8, s9]) ∧ g2 = g'
        | .ct σ' => (∃ s6 s7 s8 s9, σ' = [s0, some (.sh (.tup (t.map Ent.d))), some (.sh (.fT (encV Ks))), s3, some (.sh (.lst L)), s5, s6, s7, s8, s9]) ∧ g2 = g'
        | .bk σ' => g2 = g'
        | .rt d => d = .bl true ∧ g2 = g' := fun s8 s9 e => by
      subst e
      refine (rb s9).imp fun fl g2 ⟨e1, e2⟩ => ?_
      subst e1 e2
      exact ⟨⟨_, _, _, _, rfl⟩, rfl⟩
    cases d with
    | non =>
      simp -implicitDefEqProofs [kr, show kIsi ["tuple"] D.non = M.pure (.bl false) from rfl]
      exact done_ _ _ rfl
    | bl b =>
      simp -implicitDefEqProofs [kr, show kIsi ["tuple"] (D.bl b) = M.pure (.bl false) from rfl]
      exact done_ _ _ rfl
    | int i =>
      simp -implicitDefEqProofs [kr, show kIsi ["tuple"] (D.int i) = M.pure (.bl false) from rfl]
      exact done_ _ _ rfl
    | str x =>
      simp -implicitDefEqProofs [kr, show kIsi ["tuple"] (D.str x) = M.pure (.bl false) from rfl]
      exact done_ _ _ rfl
    | lst xs =>
      simp -implicitDefEqProofs [kr, show kIsi ["tuple"] (D.lst xs) = M.pure (.bl false) from rfl]
      exact done_ _ _ rfl
    | tup xs =>
      have hxs : vOks m xs = true := by simpa only [vOk] using pv.ok
      have i1 : kIsi ["tuple"] (.tup xs) = M.pure (.bl true) := rfl
      have xl := wts_len xs
      have ew : wt (.tup xs) = 4 + wts xs := rfl
      have key : ∀ s8 s9, compM (gN 9) tYesD (eArgs (callN 1 d_Linteger) (lCons (eVar 9) lNil)) [s0, some (.sh (.tup (t.map Ent.d))), some (.sh (.fT (encV Ks))), s3, some (.sh (.lst L)), s5, some (.sh (.tup xs)), some (.sh (.str x)), s8, s9] xs = M.pure ((xs.map intB).map .bl) := fun s8 s9 =>
        ints_comp (D1 := id) hxs fun d hd => ⟨_, rfl, by
          have := Linteger_v (vOks_iff.mp hxs d hd)
          simp -implicitDefEqProofs [this]⟩
      have al : (xs.map intB).all id = xs.all intB := by rw [List.all_map]; rfl
      have bl : (xs.map intB).length = xs.length := by simp
      generalize xs.map intB = Bs at key al bl
      have bl2 : Bs.length < 1000000 := by omega
      cases ea : xs.all intB with
      | false =>
        rw [ea] at al
        have n1 : vwB t (.tup xs) = false := by
          show (match D.ints xs with | some S => (vws t).contains S | none => false) = _
          rw [ints_no ea]
        simp -implicitDefEqProofs [kr, i1, key, al, bl2]
        exact ⟨by omega, done_ _ _ (by rw [n1])⟩
      | true =>
        rw [ea] at al
        obtain ⟨S, rfl⟩ := ints_yes ea
        have n1 : vwB t (.tup (S.map .int)) = (vws t).contains S := by
          show (match D.ints (S.map .int) with | some S => (vws t).contains S | none => false) = _
          rw [show D.ints (S.map .int) = some S by simp]
        have n2 : Ks.contains S = (vws t).contains S := bool_iff (by rw [List.contains_iff_mem, List.contains_iff_mem, hK.mem_iff])
        have dh := dHas_encV Ks S
        rw [n2, ← n1] at dh
        simp -implicitDefEqProofs [kr, i1, key, al, bl2, dh]
        rw [List.length_map] at xl
        exact ⟨by omega, done_ _ _ rfl⟩
    | _ => exact absurd pv.ok (by simp [vOk])
  · rintro σ g' ⟨⟨s6, s7, s8, s9, rfl⟩, rfl⟩
    simp -implicitDefEqProofs
theorem set_P {S : List Int} (h : ∀ c ∈ S, 0 ≤ c ∧ c ≤ 12) (hl : S.length ≤ 6) : Pv 12 400 2 (.tup (S.map .int)) ∧ Pv 12 400 2 (.lst (S.map .int)) := by
  have h1 : ∀ S : List Int, (∀ c ∈ S, 0 ≤ c ∧ c ≤ 12) → vOks 12 (S.map .int) = true := fun S h => vOks_iff.mpr fun d hd => by
    obtain ⟨c, hc, rfl⟩ := List.mem_map.mp hd
    have := h c hc
    simp only [vOk, decide_eq_true_eq, inB]; omega
  have h2 : ∀ S : List Int, wts (S.map .int) = 28 * S.length := fun S => by
    induction S with
    | nil => rfl
    | cons a r ih => rw [List.map_cons, wts, ih, List.length_cons]; show 2 + 26 + _ = _; omega
  have h3 : ∀ S : List Int, dpts (S.map .int) = 0 := fun S => by
    induction S with
    | nil => rfl
    | cons a r ih => rw [List.map_cons, dpts, ih]; rfl
  have e1 : vOk 12 (.tup (S.map .int)) = true := h1 S h
  have e2 : vOk 12 (.lst (S.map .int)) = true := h1 S h
  have w := h2 S
  exact ⟨⟨e1, by show 4 + wts _ ≤ _; omega, by show dpts _ + 1 ≤ _; rw [h3]; omega⟩, ⟨e2, by show 4 + wts _ ≤ _; omega, by show dpts _ + 1 ≤ _; rw [h3]; omega⟩⟩
def base23 (t : Tab) : List D := [.tup [], .lst [], .non, .int 0, .str "view", .tup ((takenI t).map .int), .lst ((takenI t).map .int), .tup ((takenI t).reverse.map .int), .tup [.bl true], .tup [.int (-1)], .tup [.int 100000000000000000000], .tup [.int 0, .int 0]]
theorem base23_P {t : Tab} (h6 : t.length ≤ 6) : ∀ d ∈ base23 t, Pv 12 400 2 d := by
  intro d hd
  have s1 : okStr "view" = true := by decide +kernel
  have tl : (takenI t).length ≤ 6 := by have := taken_len t; omega
  have hc : ∀ c ∈ takenI t, 0 ≤ c ∧ c ≤ 12 := fun c hc => by
    obtain ⟨a, b⟩ := ent_lt (mem_taken.mp hc)
    unfold tn at b; omega
  have p1 := set_P hc tl
  have p2 := set_P (S := (takenI t).reverse) (fun c h => hc c (List.mem_reverse.mp h)) (by simpa using tl)
  simp only [base23, List.mem_cons, List.not_mem_nil, or_false] at hd
  rcases hd with rfl | rfl | rfl | rfl | rfl | rfl | rfl | rfl | rfl | rfl | rfl | rfl
  · exact ⟨rfl, by decide, by decide⟩
  · exact ⟨rfl, by decide, by decide⟩
  · exact ⟨rfl, by decide, by decide⟩
  · exact ⟨by decide +kernel, by decide, by decide⟩
  · exact ⟨s1, by decide, by decide⟩
  · exact p1.1
  · exact p1.2
  · exact p2.1
  · exact ⟨rfl, by decide, by decide⟩
  · exact ⟨by decide +kernel, by decide, by decide⟩
  · exact ⟨by decide +kernel, by decide, by decide⟩
  · exact ⟨by decide +kernel, by decide, by decide⟩
theorem values_T {k m : Nat} {g0 g : G} {t : Tab} (ok : Tok t) (h6 : t.length ≤ 6) {Ks : List (List Int)} (hK : Ks.Perm (vws t)) (go0 : Go k (m + 50000) g0 g) : T (d_Lvalues_right [.hdl k, .tup (t.map Ent.d), .fT (encV Ks)]) g fun d g' => d = .bl true ∧ Go k m g0 g' := by
  refine runD_T ?_
  rw [vp23_eq]
  have tb : Tb (.tup (t.map Ent.d)) t := .inl rfl
  have lf := Lfull_T tb ok
  have tl : (takenI t).length ≤ 6 := by have := taken_len t; omega
  have kp : kPow (.int 10) (.int 20) = M.pure (.int 100000000000000000000) := rfl
  have kc : kCat (.lst [.tup [], .lst [], .non, .int 0, .str "view", .tup ((takenI t).map .int), .lst ((takenI t).map .int), .tup ((takenI t).reverse.map .int), .tup [.bl true], .tup [.int (-1)]]) (.lst [.tup [.int 100000000000000000000], .tup [.int 0, .int 0]]) = M.pure (.lst (base23 t)) := rfl
  simp -implicitDefEqProofs [startD, lf, kp, kc]
  refine forM_T (fun i σ g' => (∃ x5, ∃ L : List D, σ = [some (.sh (.hdl k)), some (.sh (.tup (t.map Ent.d))), some (.sh (.fT (encV Ks))), some (.sh (.lst ((takenI t).map .int))), some (.ow (.lst L)), x5, none, none, none, none] ∧ L.length ≤ 12 + i ∧ L ≠ [] ∧ ∀ d ∈ L, Pv 12 400 2 d) ∧ Go k (m + 50000 - 100 * i) g0 g') (n := 0) ?_ ⟨⟨none, base23 t, by simp -implicitDefEqProofs [base23], by simp [base23], by simp [base23], base23_P h6⟩, go0⟩ ?_
  · rintro i d σ g' e ⟨⟨x5, L, rfl, hl, hne, hL⟩, go⟩
    obtain ⟨rfl, hi⟩ := rngD_get e
    rw [Nat.zero_add] at hl go ⊢
    simp -implicitDefEqProofs
    refine Lshuffled_T (m := m + 50000 - 100 * i - 42) (R := takenI t) (go.1.mono (by omega)) (.inr rfl) (by omega) fun σ1 g4 pσ o4 => ?_
    simp -implicitDefEqProofs
    refine draw_G (m := m + 50000 - 100 * i - 46) (o4.1.mono (by omega)) (by omega) (by omega) fun n1 g5 a5 b5 o5 => ?_
    have hl1 : σ1.length ≤ 6 := by rw [pσ.length_eq]; exact tl
    have c1 := cutD_take (σ1.map .int) n1 a5
    rw [← List.map_take] at c1
    have c2 := kSorted_lst_ints (σ1.take n1.toNat) (by simp; omega)
    have kt : kTuple [.lst ((sortI (σ1.take n1.toNat)).map .int)] = M.pure (.tup ((sortI (σ1.take n1.toNat)).map .int)) := rfl
    simp -implicitDefEqProofs [c1, c2, kt, -List.map_take]
    refine ⟨by omega, by omega, fun d2 hd2 => ?_, ((go.trans o4).trans o5).mono (by omega)⟩
    rcases hd2 with hd2 | rfl
    · exact hL d2 hd2
    · refine (set_P (fun c hc => ?_) ?_).1
      · have h1 := (sortI_perm _).mem_iff.mp hc
        have h2 := pσ.mem_iff.mp (List.mem_of_mem_take h1)
        obtain ⟨a, b⟩ := ent_lt (mem_taken.mp h2)
        unfold tn at b; omega
      · rw [(sortI_perm _).length_eq, List.length_take]; omega
  rintro σ g1 ⟨⟨x5, L, rfl, hl, hne, hL⟩, go1⟩
  rw [Nat.zero_add, rngD_len] at hl go1
  have hl : L.length ≤ 24 := by omega
  have go1 : Go k (m + 40000) g0 g1 := go1.mono (by omega)
  simp -implicitDefEqProofs
  refine forM_T (fun i σ g2 => (∃ x5, ∃ L : List D, σ = [some (.sh (.hdl k)), some (.sh (.tup (t.map Ent.d))), some (.sh (.fT (encV Ks))), some (.sh (.lst ((takenI t).map .int))), some (.ow (.lst L)), x5, none, none, none, none] ∧ L.length ≤ 24 + i ∧ L ≠ [] ∧ ∀ d ∈ L, Pv (12 + (i : Int)) (Bw (i + 1)) (2 + 2 * i) d) ∧ Go k (m + 40000 - 500 * i) g0 g2) (n := 0) ?_ ⟨⟨x5, L, rfl, hl, hne, fun d hd => (hL d hd).mono (by decide) (by decide) (by decide)⟩, go1⟩ ?_
  · rintro i d σ g2 e ⟨⟨x7, L, rfl, hl, hne, hL⟩, go⟩
    obtain ⟨rfl, hi⟩ := rngD_get e
    rw [Nat.zero_add] at hl hL go ⊢
    have bi : Bw (i + 1) ≤ 2000000 := Nat.le_trans (Bw_mono (j := 8) (by omega)) (by decide)
    simp -implicitDefEqProofs
    refine eBorS_T rfl ?_
    simp -implicitDefEqProofs
    refine choice_S (m := m + 40000 - 500 * i - 10) (mm := 12 + (i : Int)) (go.1.mono (by omega)) hne (by omega) (vOks_iff.mpr fun d hd => (hL d hd).ok) fun d hd g3 o3 => ?_
    have pv := hL d hd
    have w := pv.wt
    have e2 := pv.dp
    refine bent_T 36 (m := 12 + (i : Int)) (N := m + 40000 - 500 * (i + 1)) (o3.1.mono (by omega)) (by omega) pv.ok (by omega) (by omega) fun d1 g4 q1 o4 => ?_
    have eB : Bw (i + 1 + 1) = 2 * Bw (i + 1) + 200 := rfl
    refine ⟨by omega, by omega, fun d2 hd2 => ?_, (go.trans o3).trans o4⟩
    rcases hd2 with hd2 | rfl
    · exact (hL d2 hd2).mono (by omega) (by omega) (by omega)
    · exact q1.mono (by omega) (by omega) (by omega)
  · rintro σ g2 ⟨⟨x7, L, rfl, hl, hne, hL⟩, go⟩
    rw [Nat.zero_add, rngD_len] at hl hL go
    simp -implicitDefEqProofs
    refine (vphase (m := 20) ok (by decide) hK (by omega) (B := Bw 9) (K := 18) (by decide) (by decide) (fun d hd => (hL d hd).mono (by decide) (by decide) (by decide)) go.1.pur _ _ _ _ _ _ _).imp fun fl g3 ⟨e1, e2⟩ => ?_
    subst e1 e2
    exact ⟨rfl, go.mono (by omega)⟩
end NS
set_option maxHeartbeats 4000000
namespace NS
open PySem PySem.Spec PyProof.Rows L2
theorem sJunkA_T {i : Nat} {fe : DS → M D} {ft : DS → M Bool} {f2 fr : DS → M Fl} {σ : DS} {g g1 : G} {ds : List D} {Q : Fl → G → Prop} (h1 : fe (purS σ) g = .ok (.lst ds) g1) (hi : i < σ.length) (hl : lls ds = true) (pg : Gpur g = true) (pg1 : Gpur g1 = true)
    (h2 : T (ft (σ.set i (some (.sh (.lst ds))))) g1 fun b g2 => b = false ∧ Gpur g2 = true ∧ ds ≠ [] ∧ T (fr (σ.set i none)) g2 Q) : T (sJunkA i fe ft f2 fr σ) g Q := by
  obtain ⟨b, g2, e2, rfl, p2, hc, fl, g4, e4, q⟩ := h2
  refine ⟨fl, g4, ?_, q⟩
  unfold sJunkA
  rw [h1]
  simp only [decide_eq_true hi, hl, pg, pg1, Bool.and_self, if_true]
  rw [bind_ok e2]
  simp only [Bool.false_eq_true, if_false, p2, if_true, if_neg hc]
  exact e4
theorem purS_at23 {σ : DS} {i : Nat} {d : D} (h : σ[i]? = some (some (.sh d))) (hd : D.pur d = true) : (purS σ)[i]? = some (some (.sh d)) := by
  unfold purS
  rw [List.getElem?_map, h]
  show some (if D.pur d = true then some (DV.sh d) else none) = _
  rw [if_pos hd]
theorem ents_pur23 : ∀ t : Tab, D.purs (t.map Ent.d) = true := fun t => by
  induction t with
  | nil => rfl
  | cons a r ih =>
    show (D.pur a.d && D.purs (r.map Ent.d)) = true
    rw [ih]; cases a <;> rfl
theorem plas_nums (n : Nat) (f : Nat → Nat) : D.plas (nums n f) = true := by
  have : ∀ l : List Nat, D.plas (l.map fun k => .int (f k : Nat)) = true := fun l => by
    induction l with
    | nil => rfl
    | cons a r ih => show (true && D.plas (r.map fun k => .int (f k : Nat))) = true; rw [ih]; rfl
  exact this _
def tl23 : DS → M Fl :=
  (sJunkA 8 (eArgs mkL (lCons (eArgs (callN 1 d_count_views) (lCons (eVar 1) lNil)) (lCons (eArgs (kwN 1 [0] 1 d_count_views) (lCons (eArgs kList (lCons (eVar 1) lNil)) lNil)) lNil))) (eNot (eTst (eArgs (callN 2 (d_Lequal 8)) (lCons (eVar 8) (lCons (eBin kMul (eArgs mkL (lCons (eComp (iSeq (eVar 6)) [7] (gN 7) tYesD (eArgs kLen (lCons (eVar 7) lNil))) lNil)) (eC (.int 2))) lNil)))))
    (sRet (eC (.bl false)))
    (sSeq (sFor (iArgs rng1 (lCons (eBin kAdd (eArgs kLen (lCons (eVar 3) lNil)) (eC (.int 1))) lNil)) (gN 5)
    (sSeq (sSet true 7 (eArgs (callN 2 d_views) (lCons (eVar 1) (lCons (eVar 5) lNil))))
    (sSeq (sIf (tBor 7 (eNot (eTst (eArgs (callN 2 (d_Lequal 8)) (lCons (eVar 7) (lCons (eBin kIx (eVar 6) (eVar 5)) lNil))))))
    (sRet (eC (.bl false)))
    sNil)
    (sSeq (sOwn 7 kApp (eC (.str "more")))
    (sIf (eNot (eTst (eArgs (callN 2 (d_Lequal 8)) (lCons (eArgs (kwN 2 [1, 0] 2 d_views) (lCons (eVar 5) (lCons (eArgs kList (lCons (eVar 1) lNil)) lNil))) (lCons (eBin kIx (eVar 6) (eVar 5)) lNil)))))
    (sRet (eC (.bl false)))
    sNil)))))
    (sSeq (sSet false 8 (eArgs mkL (lCons (eArgs (callN 2 d_views) (lCons (eVar 1) (lCons (eNeg (eC (.int 1))) lNil))) (lCons (eArgs (callN 2 d_views) (lCons (eVar 1) (lCons (eBin kAdd (eArgs kLen (lCons (eVar 3) lNil)) (eC (.int 1))) lNil))) (lCons (eArgs (callN 2 d_views) (lCons (eVar 1) (lCons (eBin kPow (eC (.int 10)) (eC (.int 20))) lNil))) lNil)))))
    (sLk 2 (sFrz 2 (sRet (eAndV (eArgs (callN 2 (d_Lequal 8)) (lCons (eVar 8) (lCons (eArgs mkL (lCons (eArgs mkL lNil) (lCons (eArgs mkL lNil) (lCons (eArgs mkL lNil) lNil)))) lNil))) (eArgs (callN 3 d_Lvalues_right) (lCons (eVar 0) (lCons (eVar 1) (lCons (eVar 2) lNil))))))))))
    )
theorem tl23_eq : b_Lholds_k23 =
  (sSeq (sSet false 1 (eArgs (callN 2 d_Lany) (lCons (eVar 0) (lCons (eC (.int 6)) lNil))))
    (sSeq (sPar [2, 3] [true, false] (lCons (eC (.dT [])) (lCons (eArgs (callN 1 d_Lfull_spots) (lCons (eVar 1) lNil)) lNil)))
    (sSeq (sFor (iSeq (eArgs (callN 1 d_Lfitting) (lCons (eVar 1) lNil))) (gN 4)
    (sFor (iArgs rng1 (lCons (eBin kAdd (eArgs kLen (lCons (eVar 3) lNil)) (eC (.int 1))) lNil)) (gN 5)
    (sDPut' 2 (eC (.bl true)) (eArgs kTuple (lCons (eArgs kSorted (lCons (eSl kSl (eVar 4) oNone (oSome (eVar 5))) lNil)) lNil)))))
    (sSeq (sLk 2 (sFrz 2 (sFrz 7 (sSet false 6 (eComp (iArgs rng1 (lCons (eBin kAdd (eArgs kLen (lCons (eVar 3) lNil)) (eC (.int 1))) lNil)) [5] (gN 5) tYesD (eArgs kSorted (lCons (eComp (iKeysF (eVar 2)) [7] (gN 7) (eTst (eBin kEq (eArgs kLen (lCons (eVar 7) lNil)) (eVar 5))) (eVar 7)) lNil)))))))
    tl23)))) := rfl
theorem nd_len {α : Type} [DecidableEq α] : ∀ {L M : List α}, L.Nodup → (∀ x ∈ L, x ∈ M) → L.length ≤ M.length
  | [], M, _, _ => Nat.zero_le _
  | x :: L, M, hn, h => by
    obtain ⟨h1, h2⟩ := List.nodup_cons.mp hn
    have hx := h x List.mem_cons_self
    have := nd_len (L := L) (M := M.erase x) h2 fun y hy => (List.mem_erase_of_ne (fun e => h1 (by subst e; exact hy))).mpr (h y (List.mem_cons_of_mem _ hy))
    rw [List.length_erase_of_mem hx] at this
    have : 0 < M.length := List.length_pos_of_mem hx
    rw [List.length_cons]; omega
def dueV (t : Tab) : List D := (rI 0 (((takenI t).length : Int) + 1)).map fun k => .lst ((vwK t k).map tD)
theorem tail23 {k m : Nat} {g0 g : G} {t : Tab} (ok : Tok t) (h6 : t.length ≤ 6) {Ks : List (List Int)} (hP : Ks.Perm (vws t)) (o1 : Go k (m + 90000) g0 g) (x4 x5 : Option DV) :
    T (tl23 [some (.sh (.hdl k)), some (.sh (.tup (t.map Ent.d))), some (.sh (.fT (encV Ks))), some (.sh (.lst ((takenI t).map .int))), x4, x5, some (.sh (.lst (dueV t))), none, none]) g (RQ false fun d g' => d = .bl true ∧ Src k m g') := by
  have tb : Tb (.tup (t.map Ent.d)) t := .inl rfl
  have tb2 : Tb (.lst (t.map Ent.d)) t := .inr (.inl rfl)
  have tl : (takenI t).length ≤ 6 := by have := taken_len t; omega
  have c1 := count_views_A tb ok
  have c2 := count_views_A tb2 ok
  have p1 := o1.1.pur
  have nl : (nums ((takenI t).length + 1) (cvA t)).length = (takenI t).length + 1 := by simp [nums]
  have kli : kList [.tup (t.map Ent.d)] = M.pure (.lst (t.map Ent.d)) := rfl
  have kw0 : ∀ a, kwN 1 [0] 1 d_count_views [a] = d_count_views [a] := fun _ => rfl
  have kw1 : ∀ a b, kwN 2 [1, 0] 2 d_views [a, b] = d_views [b, a] := fun _ _ => rfl
  unfold tl23
  refine sJunkA_T (ds := [.lst (nums ((takenI t).length + 1) (cvA t)), .lst (nums ((takenI t).length + 1) (cvA t))]) (g1 := g) ?_ (by simp) ?_ p1 p1 ?_
  · have e1 := purS_at23 (σ := [some (.sh (.hdl k)), some (.sh (.tup (t.map Ent.d))), some (.sh (.fT (encV Ks))), some (.sh (.lst ((takenI t).map .int))), x4, x5, some (.sh (.lst (dueV t))), none, none]) (i := 1) rfl (show D.pur (.tup (t.map Ent.d)) = true from ents_pur23 t)
    generalize purS [some (.sh (.hdl k)), some (.sh (.tup (t.map Ent.d))), some (.sh (.fT (encV Ks))), some (.sh (.lst ((takenI t).map .int))), x4, x5, some (.sh (.lst (dueV t))), none, none] = σ' at *
    have v1 : eVar 1 σ' = M.pure (.tup (t.map Ent.d)) := by unfold eVar; rw [e1]
    have r : T (eArgs mkL (lCons (eArgs (callN 1 d_count_views) (lCons (eVar 1) lNil)) (lCons (eArgs (kwN 1 [0] 1 d_count_views) (lCons (eArgs kList (lCons (eVar 1) lNil)) lNil)) lNil)) σ') g fun d g' => d = .lst [.lst (nums ((takenI t).length + 1) (cvA t)), .lst (nums ((takenI t).length + 1) (cvA t))] ∧ g' = g := by
      simp -implicitDefEqProofs [v1, kli, kw0, c1.T p1, c2.T p1]
    obtain ⟨d, g', e, rfl, rfl⟩ := r
    exact e
  · unfold lls
    have h : fit ((takenI t).length + 1) = true := by unfold fit; exact decide_eq_true (by omega)
    simp [D.plas, D.pla, plas_nums, nl, h]
  · have vl : ∀ c, (vwK t c).length ≤ 64 := fun c => by
      unfold vwK
      rw [(srtI_perm _).length_eq]
      exact Nat.le_trans (List.length_filter_le _ _) (vws_small tl)
    have dl : (dueV t).length = (takenI t).length + 1 := by unfold dueV; rw [List.length_map, rI_len]; omega
    have key : ∀ x8, compM (gN 7) tYesD (eArgs kLen (lCons (eVar 7) lNil)) [some (.sh (.hdl k)), some (.sh (.tup (t.map Ent.d))), some (.sh (.fT (encV Ks))), some (.sh (.lst ((takenI t).map .int))), x4, x5, some (.sh (.lst (dueV t))), none, x8] (dueV t) = M.pure (nums ((takenI t).length + 1) (cvA t)) := fun x8 => by
      have e : nums ((takenI t).length + 1) (cvA t) = (rI 0 (((takenI t).length : Int) + 1)).map fun k => .int (cvA t k.toNat : Nat) := by
        unfold nums rI
        rw [List.map_map, show (((takenI t).length : Int) + 1 - 0).toNat = (takenI t).length + 1 by omega]
        refine List.map_congr_left fun j _ => ?_
        simp
      rw [e]
      unfold dueV
      refine compM_all (en := fun c : Int => D.lst ((vwK t c).map tD)) fun c hc => ⟨_, rfl, rfl, ?_⟩
      have hc := mem_rI.mp hc
      have e2 : (vwK t c).length = cvA t c.toNat := by
        unfold vwK cvA
        rw [(srtI_perm _).length_eq, show ((c.toNat : Nat) : Int) = c by omega]
      have e3 : kLen [.lst ((vwK t c).map tD)] = M.pure (.int (cvA t c.toNat : Nat)) := by rw [← e2]; simp
      simp -implicitDefEqProofs [e3]
    have p1' : D.pl 5 (.lst (nums ((takenI t).length + 1) (cvA t))) = true := by
      show (decide ((nums ((takenI t).length + 1) (cvA t)).length < 1000000) && (nums ((takenI t).length + 1) (cvA t)).all (D.pl 4)) = true
      rw [nl, decide_eq_true (by omega), Bool.true_and, List.all_eq_true]
      intro d hd
      obtain ⟨c, _, rfl⟩ := List.mem_map.mp hd
      rfl
    have pl7 : D.pl 7 (.lst [.lst (nums ((takenI t).length + 1) (cvA t)), .lst (nums ((takenI t).length + 1) (cvA t))]) = true := by
      have := pl_mono p1' 1
      simp [this]
    have plV : ∀ c, D.pl 7 (.lst ((vwK t c).map tD)) = true := fun c => by
      have h1 : ∀ S ∈ vwK t c, S.length ≤ 12 := fun S hS => by
        have h2 := (List.mem_filter.mp ((srtI_perm _).mem_iff.mp hS)).1
        obtain ⟨σ, a, k, b, rfl⟩ := mem_vws.mp h2
        rw [(sortI_perm _).length_eq, List.length_take]; omega
      show (decide (((vwK t c).map tD).length < 1000000) && ((vwK t c).map tD).all (D.pl 6)) = true
      rw [decide_eq_true (by rw [List.length_map]; have := vl c; omega), Bool.true_and, List.all_eq_true]
      intro d hd
      obtain ⟨S, hS, rfl⟩ := List.mem_map.mp hd
      exact pl_mono (pl_tupI 0 S (by have := h1 S hS; omega)) 5
    simp -implicitDefEqProofs [key, nl]
    refine ⟨by omega, equal_T rfl pl7 ?_⟩
    simp -implicitDefEqProofs [p1]
    refine ⟨by omega, by omega, ?_⟩
    refine forM_T (fun i σ g' => (∃ x5 x7, σ = [some (.sh (.hdl k)), some (.sh (.tup (t.map Ent.d))), some (.sh (.fT (encV Ks))), some (.sh (.lst ((takenI t).map .int))), x4, x5, some (.sh (.lst (dueV t))), x7, none]) ∧ g' = g) (n := 0) ?_ ⟨⟨_, _, rfl⟩, rfl⟩ ?_
    · rintro i d σ g' e ⟨⟨x5, x7, rfl⟩, rfl⟩
      obtain ⟨rfl, hi⟩ := rngD_get e
      have v1 := views_A tb ok tl (i : Int)
      have v2 := views_A tb2 ok tl (i : Int)
      have ex : kIx (.lst (dueV t)) (.int (i : Nat)) = M.pure (.lst ((vwK t (i : Int)).map tD)) := by
        have h : (dueV t)[i]? = some (.lst ((vwK t (i : Int)).map tD)) := by
          unfold dueV
          rw [List.getElem?_map, rI_get (by omega), Option.map_some]
          congr 4
          omega
        show M.opt (L2.atI (dueV t) (i : Nat)) = _
        rw [atI_nat h]; rfl
      have vli := vl (i : Int)
      have pv := plV (i : Int)
      simp -implicitDefEqProofs [v1.T p1, -kIx_lst, ex]
      refine equal_T rfl pv ?_
      simp -implicitDefEqProofs [p1, kli, kw1, v2.T p1, -kIx_lst, ex]
      refine ⟨by omega, equal_T rfl pv ?_⟩
      simp -implicitDefEqProofs
    · rintro σ g' ⟨⟨x5, x7, rfl⟩, rfl⟩
      have n1 : ∀ c : Int, (c < 0 ∨ (takenI t).length < c) → vwK t c = [] := fun c hc => by
        have : (vws t).filter (fun S => decide ((S.length : Int) = c)) = [] := List.filter_eq_nil_iff.mpr fun S hS z => by
          obtain ⟨σ, a, k, b, rfl⟩ := mem_vws.mp hS
          have z := of_decide_eq_true z
          have := (mem_fit.mp a).2
          rw [(sortI_perm _).length_eq, List.length_take] at z
          omega
        unfold vwK
        rw [this]; rfl
      have v1 := views_A tb ok tl (-1)
      have v2 := views_A tb ok tl (((takenI t).length : Int) + 1)
      have v3 := views_A tb ok tl 100000000000000000000
      rw [n1 _ (by omega), List.map_nil] at v1 v2 v3
      have lk : ∀ x5 x7 x8, frz1 2 (lk1 2 [some (.sh (.hdl k)), some (.sh (.tup (t.map Ent.d))), some (.sh (.fT (encV Ks))), some (.sh (.lst ((takenI t).map .int))), x4, x5, some (.sh (.lst (dueV t))), x7, x8]) = [some (.sh (.hdl k)), some (.sh (.tup (t.map Ent.d))), some (.sh (.fT (encV Ks))), some (.sh (.lst ((takenI t).map .int))), x4, x5, some (.sh (.lst (dueV t))), x7, x8] := fun _ _ _ => rfl
      have pe : D.pl 7 (.lst [.lst [], .lst [], .lst []]) = true := rfl
      have kp : kPow (.int 10) (.int 20) = M.pure (.int 100000000000000000000) := rfl
      simp -implicitDefEqProofs [v1.T p1, v2.T p1, v3.T p1, kp, lk]
      refine equal_T rfl pe ?_
      simp -implicitDefEqProofs
      exact (values_T (m := m + 40000) ok h6 hP o1).imp fun d g2 ⟨h1, h2⟩ => ⟨h1, h2.1.mono (by omega)⟩
theorem holds_k23 (k m : Nat) (g : G) (hs : Src k (m + 100000000) g) : T (d_Lholds_k23 [.hdl k]) g fun d g' => d = .bl true ∧ Src k m g' := by
  refine runD_T ?_
  rw [tl23_eq]
  simp -implicitDefEqProofs [startD]
  refine Lany_T (m := m + 90000) (hs.mono (by omega)) (by decide) (by decide) fun t g1 ok t1 t2 o1 => ?_
  have tb : Tb (.tup (t.map Ent.d)) t := .inl rfl
  have h6 : t.length ≤ 6 := by unfold tn at t2; omega
  have tl : (takenI t).length ≤ 6 := by have := taken_len t; omega
  have lf := Lfull_T tb ok
  have lfit := fitting_T tb ok tl
  have fl := fit_lt (t := t) tl (n := (takenI t).length) tl
  have vsm := vws_small (t := t) tl
  simp -implicitDefEqProofs [lf, lfit.T o1.1.pur]
  refine forM_T (fun i σ g' => (∃ x4 x5, ∃ Ks : List (List Int), σ = [some (.sh (.hdl k)), some (.sh (.tup (t.map Ent.d))), some (.ow (.dT (encV Ks))), some (.sh (.lst ((takenI t).map .int))), x4, x5, none, none, none] ∧ Ks.Nodup ∧ ∀ S, S ∈ Ks ↔ ∃ σ ∈ (fitI t).take i, ∃ k, k ≤ (takenI t).length ∧ sortI (σ.take k) = S) ∧ g' = g1) (n := 0) ?_ ⟨⟨_, _, [], rfl, List.nodup_nil, by simp⟩, rfl⟩ ?_
  · rintro i d σ g' e ⟨⟨x4, x5, Ks, rfl, hn, hK⟩, rfl⟩
    rw [List.getElem?_map] at e
    obtain ⟨q, eq_, rfl⟩ := Option.map_eq_some_iff.mp e
    have hq := mem_fit.mp (List.mem_of_getElem? eq_)
    rw [Nat.zero_add] at hK ⊢
    simp -implicitDefEqProofs
    refine ⟨by omega, by omega, ?_⟩
    refine forM_T (fun j σ g3 => (∃ x5, ∃ Ks : List (List Int), σ = [some (.sh (.hdl k)), some (.sh (.tup (t.map Ent.d))), some (.ow (.dT (encV Ks))), some (.sh (.lst ((takenI t).map .int))), some (.sh (tupI q)), x5, none, none, none] ∧ Ks.Nodup ∧ ∀ S, S ∈ Ks ↔ (∃ σ ∈ (fitI t).take i, ∃ k, k ≤ (takenI t).length ∧ sortI (σ.take k) = S) ∨ ∃ k, k < j ∧ sortI (q.take k) = S) ∧ g3 = g') (n := 0) ?_ ⟨⟨_, Ks, rfl, hn, fun S => by rw [hK]; simp⟩, rfl⟩ ?_
    · rintro j d σ g2 e2 ⟨⟨x5, Kt, rfl, hn2, hK2⟩, rfl⟩
      obtain ⟨rfl, hj⟩ := rngD_get e2
      rw [Nat.zero_add] at hK2 ⊢
      have sub : ∀ S ∈ Kt, S ∈ vws t := fun S hS => by
        rw [mem_vws]
        rcases (hK2 S).mp hS with ⟨σ, h1, k, h2, h3⟩ | ⟨k, h2, h3⟩
        · exact ⟨σ, List.mem_of_mem_take h1, k, h2, h3⟩
        · exact ⟨q, List.mem_of_getElem? eq_, k, by omega, h3⟩
      have kl : Kt.length ≤ 64 := Nat.le_trans (nd_len hn2 sub) vsm
      have c1 := cutD_take (q.map .int) (j : Int) (by omega)
      rw [← List.map_take] at c1
      have e3 : (j : Int).toNat = j := by omega
      rw [e3] at c1
      have c2 := kSorted_tup_ints (q.take j) (by simp; omega)
      have kt : kTuple [.lst ((sortI (q.take j)).map .int)] = M.pure (.tup ((sortI (q.take j)).map .int)) := rfl
      have sl0 : kSl none (some (j : Int)) (tupI q) = M.pure (.tup (cutD (q.map .int) none (some (j : Int)))) := rfl
      have dp := dPut_encV Kt (sortI (q.take j)) (by omega)
      simp -implicitDefEqProofs [sl0, c1, c2, kt, -List.map_take]
      refine ⟨_, dp, _, addK Kt (sortI (q.take j)), rfl, rfl, addK_nodup hn2 _, fun S => ?_⟩
      rw [mem_addK, hK2]
      constructor
      · rintro ((h | ⟨k, h1, h2⟩) | h)
        · exact .inl h
        · exact .inr ⟨k, by omega, h2⟩
        · exact .inr ⟨j, by omega, h.symm⟩
      · rintro (h | ⟨k, h1, h2⟩)
        · exact .inl (.inl h)
        · by_cases z : k = j
          · subst z; exact .inr h2.symm
          · exact .inl (.inr ⟨k, by omega, h2⟩)
    · rintro σ g2 ⟨⟨x5, Kt, rfl, hn2, hK2⟩, rfl⟩
      rw [rngD_len] at hK2
      refine ⟨⟨_, _, Kt, rfl, hn2, fun S => ?_⟩, rfl⟩
      rw [hK2, List.take_add_one, eq_]
      constructor
      · rintro (⟨σ, h1, h2⟩ | ⟨k, h1, h2⟩)
        · exact ⟨σ, List.mem_append_left _ h1, h2⟩
        · exact ⟨q, List.mem_append_right _ (by simp), k, by omega, h2⟩
      · rintro ⟨σ, h1, k, h2, h3⟩
        rcases List.mem_append.mp h1 with h1 | h1
        · exact .inl ⟨σ, h1, k, h2, h3⟩
        · obtain rfl : σ = q := by simpa using h1
          exact .inr ⟨k, by omega, h3⟩
  · rintro σ g2 ⟨⟨x4, x5, Ks, rfl, hn, hK⟩, rfl⟩
    rw [Nat.zero_add, List.length_map, List.take_length] at hK
    have hP : Ks.Perm (vws t) := (List.perm_ext_iff_of_nodup hn (vws_nodup t)).mpr fun S => by rw [hK, mem_vws]
    have lk : ∀ x4 x5, frz1 7 (frz1 2 (lk1 2 [some (.sh (.hdl k)), some (.sh (.tup (t.map Ent.d))), some (.ow (.dT (encV Ks))), some (.sh (.lst ((takenI t).map .int))), x4, x5, none, none, none])) = [some (.sh (.hdl k)), some (.sh (.tup (t.map Ent.d))), some (.sh (.fT (encV Ks))), some (.sh (.lst ((takenI t).map .int))), x4, x5, none, none, none] := fun _ _ => rfl
    have kl : Ks.length ≤ 64 := by rw [hP.length_eq]; exact vsm
    have key : ∀ x5, compM (gN 5) tYesD (eArgs kSorted (lCons (eComp (iKeysF (eVar 2)) [7] (gN 7) (eTst (eBin kEq (eArgs kLen (lCons (eVar 7) lNil)) (eVar 5))) (eVar 7)) lNil)) [some (.sh (.hdl k)), some (.sh (.tup (t.map Ent.d))), some (.sh (.fT (encV Ks))), some (.sh (.lst ((takenI t).map .int))), x4, x5, none, none, none] (rngD 0 (((takenI t).length : Int) + 1)) = M.pure (dueV t) := fun x5 => by
      rw [rngD_rI]
      unfold dueV
      refine compM_all fun c hc => ⟨_, rfl, rfl, ?_⟩
      have hc := mem_rI.mp hc
      have inner : compM (gN 7) (eTst (eBin kEq (eArgs kLen (lCons (eVar 7) lNil)) (eVar 5))) (eVar 7) [some (.sh (.hdl k)), some (.sh (.tup (t.map Ent.d))), some (.sh (.fT (encV Ks))), some (.sh (.lst ((takenI t).map .int))), x4, some (.sh (.int c)), none, none, none] (Ks.map tD) = M.pure ((Ks.filter fun S => decide ((S.length : Int) = c)).map tD) := by
        refine compM_pure (p := fun S : List Int => decide ((S.length : Int) = c)) (f := tD) fun S hS => ⟨_, rfl, ?_, fun _ => rfl⟩
        have kl : kLen [tD S] = M.pure (.int (S.length : Nat)) := by unfold tD; simp
        simp -implicitDefEqProofs [kl]
        congr 1
      have fl : (Ks.filter fun S => decide ((S.length : Int) = c)).length ≤ Ks.length := List.length_filter_le _ _
      have ks : kSorted [.lst ((Ks.filter fun S => decide ((S.length : Int) = c)).map tD)] = M.pure (.lst ((vwK t c).map tD)) := by
        have u : vwK t c = srtI (Ks.filter fun S => decide ((S.length : Int) = c)) := srtI_uniq (hP.filter _).symm
        rw [u]
        exact kSorted_tups (k := c.toNat) (fun S hS => by
          have := of_decide_eq_true (List.mem_filter.mp hS).2
          omega) (hn.filter _) (by omega)
      have kk : keysT (encV Ks) = Ks.map tD := keysT_encV Ks
      simp -implicitDefEqProofs [kk, inner]
      rw [if_pos (by omega), ks]
    have dl : (dueV t).length ≤ 7 := by unfold dueV; rw [List.length_map, rI_len]; omega
    simp -implicitDefEqProofs [lk]
    refine ⟨by omega, by omega, by omega, ?_⟩
    rw [key, T_pure]
    exact tail23 ok h6 hP o1 x4 x5
theorem law_k23 : ∀ ns : List Int, ns.length ≤ 63 → ∃ g', d_law_k23 [.slst (ns.map .int)] [] = .ok (.bl true) g' := law_A' (N := 3) holds_k23
end NS
open PySem PySem.W PyProof.Rows
set_option maxHeartbeats 0 in
theorem PySem.Challenge.cw_nearslot_k23_views_of_small_tables_holds : PySem.Challenge.rw_nearslot_k23_views_of_small_tables.Holds := by
  w_on; o_law; k_head; (case hw => w_witness2)
  k_fill
  refine NS.walk_E (l := PySem.Challenge.rw_nearslot_k23_views_of_small_tables) (n := 63) (k := 46) (x := "_law_script") (d := _) (K := _) (m := false) (f := NS.d_law_k23) rfl (by decide) rfl ⟨⟨rfl, by decide, by decide⟩, rfl⟩ (fun w h Y => by first | exact PySem.W.kIn_of Y | exact PySem.W.km_in_of Y) ?F NS.law_k23
  case F =>
    intro w mg fa h KX G hmg
    refine' NS.all_mk KX G hmg ?a0 ?l0 ?c0 ?k0 ?a1 ?l1 ?c1 ?k1 ?a2 ?l2 ?c2 ?k2 ?a3 ?l3 ?c3 ?k3 ?a4 ?l4 ?c4 ?k4 ?a5 ?l5 ?c5 ?k5 ?a6 ?l6 ?c6 ?k6 ?a7 ?l7 ?c7 ?k7 ?a8 ?l8 ?c8 ?k8 ?a9 ?l9 ?c9 ?k9 ?a10 ?l10 ?c10 ?k10 ?a11 ?l11 ?c11 ?k11 ?a12 ?l12 ?c12 ?k12 ?a13 ?l13 ?c13 ?k13 ?a14 ?l14 ?c14 ?k14 ?a15 ?l15 ?c15 ?k15 ?a16 ?l16 ?c16 ?k16 ?a17 ?l17 ?c17 ?k17 ?a18 ?l18 ?c18 ?k18 ?a19 ?l19 ?c19 ?k19 ?a20 ?l20 ?c20 ?k20 ?a21 ?l21 ?c21 ?k21 ?a22 ?l22 ?c22 ?k22 ?a23 ?l23 ?c23 ?k23 ?a24 ?l24 ?c24 ?k24 ?a25 ?l25 ?c25 ?k25 ?a26 ?l26 ?c26 ?k26 ?a27 ?l27 ?c27 ?k27 ?a28 ?l28 ?c28 ?k28 ?a29 ?l29 ?c29 ?k29 ?a30 ?l30 ?c30 ?k30 ?a31 ?l31 ?c31 ?k31 ?a32 ?l32 ?c32 ?k32 ?a33 ?l33 ?c33 ?k33 ?a34 ?l34 ?c34 ?k34 ?a35 ?l35 ?c35 ?k35 ?a36 ?l36 ?c36 ?k36 ?xa_TooMany ?xl_TooMany ?xr_TooMany ?xs_TooMany ?xe_TooMany ?xt_TooMany ?xk_TooMany ?xi_TooMany ?xy_TooMany ?xf_TooMany ?xc_TooMany ?xq_TooMany ?xd_TooMany ?xv_OverflowError ?z_OverflowError ?z_abs ?z_all ?z_bool ?z_dict ?z_enumerate ?z_int ?z_isinstance ?z_len ?z_list ?z_max ?z_min ?z_range ?z_repr ?z_sorted ?z_str ?z_tuple ?z_zip ?y_MOST_LISTED ?y_UNKNOWN
    (case a0 => k_is)
    (case l0 => k_is)
    (case c0 => k_is)
    (case k0 => k_is)
    (case a1 => k_is)
    (case l1 => k_is)
    (case c1 => k_is)
    (case k1 => k_is)
    (case a2 => k_is)
    (case l2 => k_is)
    (case c2 => k_is)
    (case k2 => k_is)
    (case a3 => k_is)
    (case l3 => k_is)
    (case c3 => k_is)
    (case k3 => k_is)
    (case a4 => k_is)
    (case l4 => k_is)
    (case c4 => k_is)
    (case k4 => k_is)
    (case a5 => k_is)
    (case l5 => k_is)
    (case c5 => k_is)
    (case k5 => k_is)
    (case a6 => k_is)
    (case l6 => k_is)
    (case c6 => k_is)
    (case k6 => k_is)
    (case a7 => k_is)
    (case l7 => k_is)
    (case c7 => k_is)
    (case k7 => k_is)
    (case a8 => k_is)
    (case l8 => k_is)
    (case c8 => k_is)
    (case k8 => k_is)
    (case a9 => k_is)
    (case l9 => k_is)
    (case c9 => k_is)
    (case k9 => k_is)
    (case a10 => k_is)
    (case l10 => k_is)
    (case c10 => k_is)
    (case k10 => k_is)
    (case a11 => k_is)
    (case l11 => k_is)
    (case c11 => k_is)
    (case k11 => k_is)
    (case a12 => k_is)
    (case l12 => k_is)
    (case c12 => k_is)
    (case k12 => k_is)
    (case a13 => k_is)
    (case l13 => k_is)
    (case c13 => k_is)
    (case k13 => k_is)
    (case a14 => k_is)
    (case l14 => k_is)
    (case c14 => k_is)
    (case k14 => k_is)
    (case a15 => k_is)
    (case l15 => k_is)
    (case c15 => k_is)
    (case k15 => k_is)
    (case a16 => k_is)
    (case l16 => k_is)
    (case c16 => k_is)
    (case k16 => k_is)
    (case a17 => k_is)
    (case l17 => k_is)
    (case c17 => k_is)
    (case k17 => k_is)
    (case a18 => k_is)
    (case l18 => k_is)
    (case c18 => k_is)
    (case k18 => k_is)
    (case a19 => k_is)
    (case l19 => k_is)
    (case c19 => k_is)
    (case k19 => k_is)
    (case a20 => k_is)
    (case l20 => k_is)
    (case c20 => k_is)
    (case k20 => k_is)
    (case a21 => k_is)
    (case l21 => k_is)
    (case c21 => k_is)
    (case k21 => k_is)
    (case a22 => k_is)
    (case l22 => k_is)
    (case c22 => k_is)
    (case k22 => k_is)
    (case a23 => k_is)
    (case l23 => k_is)
    (case c23 => k_is)
    (case k23 => k_is)
    (case a24 => k_is)
    (case l24 => k_is)
    (case c24 => k_is)
    (case k24 => k_is)
    (case a25 => k_is)
    (case l25 => k_is)
    (case c25 => k_is)
    (case k25 => k_is)
    (case a26 => k_is)
    (case l26 => k_is)
    (case c26 => k_is)
    (case k26 => k_is)
    (case a27 => k_is)
    (case l27 => k_is)
    (case c27 => k_is)
    (case k27 => k_is)
    (case a28 => k_is)
    (case l28 => k_is)
    (case c28 => k_is)
    (case k28 => k_is)
    (case a29 => k_is)
    (case l29 => k_is)
    (case c29 => k_is)
    (case k29 => k_is)
    (case a30 => k_is)
    (case l30 => k_is)
    (case c30 => k_is)
    (case k30 => k_is)
    (case a31 => k_is)
    (case l31 => k_is)
    (case c31 => k_is)
    (case k31 => k_is)
    (case a32 => k_is)
    (case l32 => k_is)
    (case c32 => k_is)
    (case k32 => k_is)
    (case a33 => k_is)
    (case l33 => k_is)
    (case c33 => k_is)
    (case k33 => k_is)
    (case a34 => k_is)
    (case l34 => k_is)
    (case c34 => k_is)
    (case k34 => k_is)
    (case a35 => k_is)
    (case l35 => k_is)
    (case c35 => k_is)
    (case k35 => k_is)
    (case a36 => k_is)
    (case l36 => k_is)
    (case c36 => k_is)
    (case k36 => k_is)
    (case xa_TooMany => k_is)
    (case xl_TooMany => k_is)
    (case xr_TooMany => kernel_rfl)
    (case xs_TooMany => k_is)
    (case xe_TooMany => k_is)
    (case xt_TooMany => k_is)
    (case xk_TooMany => k_is)
    (case xi_TooMany => k_is)
    (case xy_TooMany => k_is)
    (case xf_TooMany => k_is)
    (case xc_TooMany => k_is)
    (case xq_TooMany => k_is)
    (case xd_TooMany => k_is)
    (case xv_OverflowError => k_is)
    (case z_OverflowError => k_is)
    (case z_abs => k_is)
    (case z_all => k_is)
    (case z_bool => k_is)
    (case z_dict => k_is)
    (case z_enumerate => k_is)
    (case z_int => k_is)
    (case z_isinstance => k_is)
    (case z_len => k_is)
    (case z_list => k_is)
    (case z_max => k_is)
    (case z_min => k_is)
    (case z_range => k_is)
    (case z_repr => k_is)
    (case z_sorted => k_is)
    (case z_str => k_is)
    (case z_tuple => k_is)
    (case z_zip => k_is)
    (case y_MOST_LISTED => k_is)
    (case y_UNKNOWN => k_is)
