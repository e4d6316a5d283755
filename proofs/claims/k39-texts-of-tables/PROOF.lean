import PyProof.Rows.All
import Wide.All
import OpenK.AllK
import Wide.FinOn
import HandS.ForMost
import HandS.ForExc
import HandS.Lambda
import HandS.Style
import HandS.TupAny
import HandS.TupMul
import HandS.Deep
import HandS.TupLe
import HandS.IsInst
import HandS.SortInts
import HandS.Conv
import HandS.Walk
import HandS.Zip
import KE.GoesMore
import KE.SortData
import KE.DataMinMax
import HandS.RevTup
import KE.DataFind
import HandS.SetFor
import HandS.More
import HandS.Dict
import KE.GoesZip
import HandS.Set
import KE.KDictZip
import PyProof.ListNew
import HandS.ExcValue
import KE.KIndexOf
import HandS.ExcInit
import HandS.ExcIs
import HandS.ExcField
import KE.KTryMore
import PyProof.Rows.IntBool
import PyProof.Rows.LemmasIntBool
import HandS.Finally
import HandS.FStr
import PyProof.InstNe
import HandS.TupSets
import HandS.StrMore
import HandS.RaiseMore
import HandS.EndTab
import HandS.Text
import PySem.Challenge.RW_nearslot_k39_texts_of_tables
set_option Elab.async false
set_option linter.all false
set_option maxRecDepth 100000
namespace NS
open PySem PySem.Spec PyProof.Rows L2

inductive D where
  | non | bl (b : Bool) | int (i : Int) | str (x : Str)
  | tup (xs : List D) | lst (xs : List D)
  | dT (kvs : List (List Key × D)) | dK (kvs : List (Key × D))
  | hdl (k : Nat)
  | slst (xs : List D)
  | ftup (xs : List D)
  | fT (kvs : List (List Key × D))
  | exc0 (cls : Str)
  | exc1 (cls f : Str) (d : D)

inductive GCell where
  | src (a b c : Int)
  | sto (sts jr : List D)
  | tab (x : Str)
abbrev G := List GCell
inductive GAdr where
  | src (a : Addr)
  | sto (a C dx ps pj : Addr)
  | tab (p : Addr)
def GAdr.a : GAdr → Addr
  | .src a => a
  | .sto a _ _ _ _ => a
  | .tab p => p
def GAdr.fp : GAdr → List Addr
  | .src a => [a]
  | .sto a _ dx ps pj => [a, dx, ps, pj]
  | .tab p => [p]
def gfp (A : List GAdr) : List Addr := A.flatMap GAdr.fp
theorem gfp_append (A B : List GAdr) : gfp (A ++ B) = gfp A ++ gfp B := by simp [gfp]

structure Exn where
  cls : Str
  fld : Option (Str × D)

inductive Res (α : Type) where
  | ok (a : α) (g : G)
  | err (x : Exn) (g : G)
  | bad
abbrev M (α : Type) := G → Res α
def M.pure {α : Type} (a : α) : M α := fun g => .ok a g
def M.bind {α β : Type} (x : M α) (f : α → M β) : M β := fun g => match x g with
  | .ok a g' => f a g'
  | .err e g' => .err e g'
  | .bad => .bad
def M.bad {α : Type} : M α := fun _ => .bad
def M.opt {α : Type} : Option α → M α
  | some a => .pure a
  | none => .bad
instance : Monad M where
  pure := M.pure
  bind := M.bind

def ExV (C : Addr) (dd : Option Addr) (a : Addr) : HO := .ext fun h => ∃ (oe : Obj) (vs : Array Value), h.get? a = some oe ∧ Zc (.ref C) dd oe ∧ oe.data = .fields vs
def FzT (S : Hp) (a : Addr) (xs : List V) : Prop := ∃ o, S a = some (.frz o (.tup xs)) ∧ o.dict = none
section
variable (K : PySem.W.Frag) (A : List GAdr) (S : Hp)
mutual
inductive Rep : V → D → Prop where
  | non : Rep .non .non
  | bl (b : Bool) : Rep (.bl b) (.bl b)
  | int (i : Int) : Rep (.int i) (.int i)
  | str (x : Str) : Rep (.str x) (.str x)
  | tup {a : Addr} {xs : List V} {ds : List D} : S a = some (.tup xs) → RepL xs ds → Rep (.ref a) (.tup ds)
  | ftup {a : Addr} {xs : List V} {ds : List D} : FzT S a xs → RepL xs ds → Rep (.ref a) (.ftup ds)
  | lst {a : Addr} {xs : List V} {ds : List D} : S a = some (.lst xs) → RepL xs ds → Rep (.ref a) (.lst ds)
  | dT {a : Addr} {xs : List (List Key × V)} {ds : List (List Key × D)} : S a = some (.dT xs) → RepT xs ds → Rep (.ref a) (.dT ds)
  | dK {a : Addr} {xs : List (Key × V)} {ds : List (Key × D)} : S a = some (.dK xs) → RepK xs ds → Rep (.ref a) (.dK ds)
  | hdl {k : Nat} {ga : GAdr} : A[k]? = some ga → Rep (.ref ga.a) (.hdl k)
  | slst {a : Addr} {xs : List V} {ds : List D} : SqL K S a xs → RepL xs ds → Rep (.ref a) (.slst ds)
  | fT {a : Addr} {ob : Obj} {xs : List (List Key × V)} {ds : List (List Key × D)} : S a = some (.frz ob (.dT xs)) → RepT xs ds → Rep (.ref a) (.fT ds)
  | exc0 {a C : Addr} {cls : Str} : PySem.W.nsIn K mainGlobals cls = some (some (.ref C)) → S a = some (ExV C none a) → Rep (.ref a) (.exc0 cls)
  | exc1 {a C dx : Addr} {cls f : Str} {v : V} {d : D} : PySem.W.nsIn K mainGlobals cls = some (some (.ref C)) → S a = some (ExV C (some dx) a) → S dx = some (.xd [(f, v)]) → Rep v d → Rep (.ref a) (.exc1 cls f d)
inductive RepL : List V → List D → Prop where
  | nil : RepL [] []
  | cons {v : V} {d : D} {vs : List V} {ds : List D} : Rep v d → RepL vs ds → RepL (v :: vs) (d :: ds)
inductive RepT : List (List Key × V) → List (List Key × D) → Prop where
  | nil : RepT [] []
  | cons {k : List Key} {v : V} {d : D} {vs : List (List Key × V)} {ds : List (List Key × D)} : Rep v d → RepT vs ds → RepT ((k, v) :: vs) ((k, d) :: ds)
inductive RepK : List (Key × V) → List (Key × D) → Prop where
  | nil : RepK [] []
  | cons {k : Key} {v : V} {d : D} {vs : List (Key × V)} {ds : List (Key × D)} : Rep v d → RepK vs ds → RepK ((k, v) :: vs) ((k, d) :: ds)
end
end

section
variable {K : PySem.W.Frag} {A A' : List GAdr} {S S' H H' : Hp}
theorem SqT.mono (e : Same S S') {a : Addr} {xs : List V} (h : SqT K S a xs) : SqT K S' a xs := by
  rcases h with (h | ⟨o, h⟩) | h
  · exact .inl (.inl (e _ _ h))
  · exact .inl (.inr ⟨o, e _ _ h⟩)
  · exact .inr h
theorem tq {K : PySem.W.Frag} (e : Same S S') {a : Addr} {xs : List V} (h : S a = some (.tup xs)) : SqT K S' a xs := .inl (.inl (e _ _ h))
theorem FzT.mono (e : Same S S') {a : Addr} {xs : List V} (h : FzT S a xs) : FzT S' a xs := by
  obtain ⟨o, h, d⟩ := h; exact ⟨o, e _ _ h, d⟩
theorem FzT.sq {K : PySem.W.Frag} (e : Same S S') {a : Addr} {xs : List V} (h : FzT S a xs) : SqT K S' a xs := by
  obtain ⟨o, h, d⟩ := h; exact .inl (.inr ⟨o, e _ _ h⟩)
theorem SqL.mono (e : Same S S') {a : Addr} {xs : List V} (h : SqL K S a xs) : SqL K S' a xs := e.seq h
theorem prefix_get (h : A <+: A') {k : Nat} {ga : GAdr} (e : A[k]? = some ga) : A'[k]? = some ga := by
  obtain ⟨t, rfl⟩ := h
  rw [List.getElem?_append_left (List.getElem?_eq_some_iff.mp e).1]
  exact e
mutual
theorem Rep.mono (hA : A <+: A') (hS : Same S S') : ∀ {v : V} {d : D}, Rep K A S v d → Rep K A' S' v d
  | _, _, .non => .non
  | _, _, .bl b => .bl b
  | _, _, .int i => .int i
  | _, _, .str x => .str x
  | _, _, .tup h r => .tup (hS _ _ h) (RepL.mono hA hS r)
  | _, _, .ftup h r => .ftup (h.mono hS) (RepL.mono hA hS r)
  | _, _, .lst h r => .lst (hS _ _ h) (RepL.mono hA hS r)
  | _, _, .dT h r => .dT (hS _ _ h) (RepT.mono hA hS r)
  | _, _, .dK h r => .dK (hS _ _ h) (RepK.mono hA hS r)
  | _, _, .hdl h => .hdl (prefix_get hA h)
  | _, _, .slst h r => .slst (SqL.mono hS h) (RepL.mono hA hS r)
  | _, _, .fT h r => .fT (hS _ _ h) (RepT.mono hA hS r)
  | _, _, .exc0 c h => .exc0 c (hS _ _ h)
  | _, _, .exc1 c h x r => .exc1 c (hS _ _ h) (hS _ _ x) (Rep.mono hA hS r)
theorem RepL.mono (hA : A <+: A') (hS : Same S S') : ∀ {vs : List V} {ds : List D}, RepL K A S vs ds → RepL K A' S' vs ds
  | _, _, .nil => .nil
  | _, _, .cons h r => .cons (Rep.mono hA hS h) (RepL.mono hA hS r)
theorem RepT.mono (hA : A <+: A') (hS : Same S S') : ∀ {vs : List (List Key × V)} {ds : List (List Key × D)}, RepT K A S vs ds → RepT K A' S' vs ds
  | _, _, .nil => .nil
  | _, _, .cons h r => .cons (Rep.mono hA hS h) (RepT.mono hA hS r)
theorem RepK.mono (hA : A <+: A') (hS : Same S S') : ∀ {vs : List (Key × V)} {ds : List (Key × D)}, RepK K A S vs ds → RepK K A' S' vs ds
  | _, _, .nil => .nil
  | _, _, .cons h r => .cons (Rep.mono hA hS h) (RepK.mono hA hS r)
end
theorem RepL.length : ∀ {vs : List V} {ds : List D}, RepL K A S vs ds → vs.length = ds.length
  | _, _, .nil => rfl
  | _, _, .cons _ r => congrArg (· + 1) (RepL.length r)
theorem RepL.get : ∀ {vs : List V} {ds : List D} {i : Nat} {v : V}, RepL K A S vs ds → vs[i]? = some v → ∃ d, ds[i]? = some d ∧ Rep K A S v d
  | _, _, _, _, .nil, e => by simp at e
  | _, _, 0, _, .cons h r, e => by simp at e; subst e; exact ⟨_, rfl, h⟩
  | _, _, i + 1, _, .cons h r, e => by
    obtain ⟨d, e1, e2⟩ := RepL.get (i := i) r (by simpa using e)
    exact ⟨d, by simpa using e1, e2⟩
theorem RepL.getD : ∀ {vs : List V} {ds : List D} {i : Nat} {d : D}, RepL K A S vs ds → ds[i]? = some d → ∃ v, vs[i]? = some v ∧ Rep K A S v d
  | _, _, _, _, .nil, e => by simp at e
  | _, _, 0, _, .cons h r, e => by simp at e; subst e; exact ⟨_, rfl, h⟩
  | _, _, i + 1, _, .cons h r, e => by
    obtain ⟨d, e1, e2⟩ := RepL.getD (i := i) r (by simpa using e)
    exact ⟨d, by simpa using e1, e2⟩
theorem RepL.append : ∀ {vs ws : List V} {ds es : List D}, RepL K A S vs ds → RepL K A S ws es → RepL K A S (vs ++ ws) (ds ++ es)
  | _, _, _, _, .nil, s => s
  | _, _, _, _, .cons h r, s => .cons h (RepL.append r s)
theorem RepL.take : ∀ {vs : List V} {ds : List D} (n : Nat), RepL K A S vs ds → RepL K A S (vs.take n) (ds.take n)
  | _, _, 0, _ => by simp only [List.take_zero]; exact .nil
  | _, _, _ + 1, .nil => .nil
  | _, _, n + 1, .cons h r => .cons h (RepL.take n r)
theorem RepL.drop : ∀ {vs : List V} {ds : List D} (n : Nat), RepL K A S vs ds → RepL K A S (vs.drop n) (ds.drop n)
  | _, _, 0, r => r
  | _, _, _ + 1, .nil => .nil
  | _, _, n + 1, .cons _ r => RepL.drop n r
theorem RepL.set {v : V} {d : D} (h : Rep K A S v d) : ∀ {vs : List V} {ds : List D} (i : Nat), RepL K A S vs ds → RepL K A S (vs.set i v) (ds.set i d)
  | _, _, _, .nil => .nil
  | _, _, 0, .cons _ r => .cons h r
  | _, _, i + 1, .cons h' r => .cons h' (RepL.set h i r)
theorem RepL.reverse : ∀ {vs : List V} {ds : List D}, RepL K A S vs ds → RepL K A S vs.reverse ds.reverse
  | _, _, .nil => .nil
  | _, _, .cons h r => by simp only [List.reverse_cons]; exact RepL.append (RepL.reverse r) (.cons h .nil)
theorem RepL.rep {vs : List V} {ds : List D} (r : RepL K A S vs ds) : ∀ k : Nat, RepL K A S (List.replicate k vs).flatten (List.replicate k ds).flatten
  | 0 => .nil
  | k + 1 => by simp only [List.replicate_succ, List.flatten_cons]; exact RepL.append r (RepL.rep r k)

def Top (K : PySem.W.Frag) (A : List GAdr) (S H : Hp) (p : Addr) : D → Prop
  | .lst ds => ∃ vs, H p = some (.lst vs) ∧ RepL K A S vs ds
  | .dT kvs => ∃ vs, H p = some (.dT vs) ∧ RepT K A S vs kvs
  | .dK kvs => ∃ vs, H p = some (.dK vs) ∧ RepK K A S vs kvs
  | _ => False
theorem Top.mono {H' : Hp} (hA : A <+: A') (hS : Same S S') {p : Addr} {d : D} (h : Top K A S H p d) (e : H' p = H p) : Top K A' S' H' p d := by
  cases d <;> first
    | exact h.elim
    | (obtain ⟨vs, h1, h2⟩ := h; exact ⟨vs, e.trans h1, h2.mono hA hS⟩)
theorem Top.some {p : Addr} {d : D} (h : Top K A S H p d) : ∃ o, H p = some o := by
  cases d <;> first
    | exact h.elim
    | (obtain ⟨vs, h1, h2⟩ := h; exact ⟨_, h1⟩)
theorem Top.nt {p : Addr} {d : D} (h : Top K A S H p d) (xs : List V) : H p ≠ Option.some (.tup xs) := by
  intro e
  cases d <;> first
    | exact h.elim
    | (obtain ⟨vs, h1, h2⟩ := h; rw [h1] at e; cases e)
theorem Top.frozen {p : Addr} {d : D} (h : Top K A S H p d) (hp : S p = none) : ∃ o, H p = Option.some o ∧ Rep K A (upd S p o) (.ref p) d := by
  have sm : ∀ o, Same S (upd S p o) := fun o b x e => by rw [upd_ne (ne_of_none e hp)]; exact e
  cases d <;> first
    | exact h.elim
    | (obtain ⟨vs, h1, h2⟩ := h
       refine ⟨_, h1, ?_⟩
       first
         | exact .lst upd_same (h2.mono (List.prefix_refl _) (sm _))
         | exact .dT upd_same (h2.mono (List.prefix_refl _) (sm _))
         | exact .dK upd_same (h2.mono (List.prefix_refl _) (sm _)))

@[irreducible] def lamQ (x : Str) : Str := x ++ ".<locals>." ++ "<lambda>"
def TabC (K : PySem.W.Frag) (S H : Hp) (p : Addr) (x : Str) : Prop := (∃ c, PySem.W.tabIn K x = some (c, p)) ∧ ∃ ps : Array Value, H p = some (.tbl ps) ∧ TriplesOk ps.toList ∧
  ∀ (pos : Pos) (cv : Value), codeAmong pos ps.toList = some cv → ∃ c, cv = .ref c ∧ S c = some (LamX.CodeO c (lamQ x))
theorem TabC.mono {K : PySem.W.Frag} {S S' H H' : Hp} {p : Addr} {x : Str} (hS : Same S S') (h : TabC K S H p x) (e : H' p = H p) : TabC K S' H' p x := by
  obtain ⟨h1, ps, h2, h3, h4⟩ := h
  refine ⟨h1, ps, e.trans h2, h3, fun pos cv z => ?_⟩
  obtain ⟨c, e1, e2⟩ := h4 pos cv z
  exact ⟨c, e1, hS _ _ e2⟩
def stoC (K : PySem.W.Frag) (C : Addr) : Prop := PySem.W.nsIn K mainGlobals "Store" = some (some (.ref C))
def CellOk (K : PySem.W.Frag) (A : List GAdr) (S H : Hp) : GAdr → GCell → Prop
  | .src a, .src x y z => H a = some (.lst [.int x, .int y, .int z])
  | .sto a C dx ps pj, .sto sts jr => stoC K C ∧ H a = some (.ins C dx [("own_states", .ref ps), ("own_journal", .ref pj)]) ∧ H dx = some (.own a) ∧
      (∃ vs, H ps = some (.lst vs) ∧ RepL K A S vs sts) ∧ ∃ vs, H pj = some (.lst vs) ∧ RepL K A S vs jr
  | .tab p, .tab x => TabC K S H p x
  | _, _ => False
theorem CellOk.mono {H' : Hp} (hA : A <+: A') (hS : Same S S') {ga : GAdr} {c : GCell} (h : CellOk K A S H ga c) (e : ∀ x ∈ ga.fp, H' x = H x) : CellOk K A' S' H' ga c := by
  cases ga <;> cases c <;> first
    | exact h.elim
    | (show H' _ = _; exact (e _ (by simp [GAdr.fp])).trans h)
    | exact TabC.mono hS h (e _ (by simp [GAdr.fp]))
    | (obtain ⟨h0, h1, h2, ⟨vs, h3, h4⟩, ws, h5, h6⟩ := h
       exact ⟨h0, (e _ (by simp [GAdr.fp])).trans h1, (e _ (by simp [GAdr.fp])).trans h2, ⟨vs, (e _ (by simp [GAdr.fp])).trans h3, h4.mono hA hS⟩, ws, (e _ (by simp [GAdr.fp])).trans h5, h6.mono hA hS⟩)
theorem CellOk.some {ga : GAdr} {c : GCell} (h : CellOk K A S H ga c) : ∀ x ∈ ga.fp, ∃ o, H x = Option.some o := by
  cases ga <;> cases c <;> first
    | exact h.elim
    | (intro x hx; simp only [GAdr.fp, List.mem_singleton] at hx; subst hx; exact ⟨_, h⟩)
    | (intro x hx; simp only [GAdr.fp, List.mem_singleton] at hx; subst hx; obtain ⟨_, ps, h2, _⟩ := h; exact ⟨_, h2⟩)
    | (obtain ⟨h0, h1, h2, ⟨vs, h3, h4⟩, ws, h5, h6⟩ := h
       intro x hx; simp only [GAdr.fp, List.mem_cons, List.not_mem_nil, or_false] at hx
       rcases hx with rfl | rfl | rfl | rfl
       · exact ⟨_, h1⟩
       · exact ⟨_, h2⟩
       · exact ⟨_, h3⟩
       · exact ⟨_, h5⟩)

structure Ok (K : PySem.W.Frag) (A : List GAdr) (S H : Hp) (g : G) : Prop where
  ext : Same S H
  len : A.length = g.length
  cel : ∀ (k : Nat) (ga : GAdr) (c : GCell), A[k]? = some ga → g[k]? = some c → CellOk K A S H ga c
  nd : (gfp A).Nodup
  out : ∀ x ∈ gfp A, S x = none
theorem Ok.there {g : G} (h : Ok K A S H g) : ∀ x ∈ gfp A, ∃ o, H x = some o := fun x hx => by
  obtain ⟨ga, hg, hx⟩ := List.mem_flatMap.mp hx
  obtain ⟨k, hk, e⟩ := List.getElem_of_mem hg
  have e1 : A[k]? = some ga := by rw [List.getElem?_eq_getElem hk, e]
  have hk2 : k < g.length := by rw [← h.len]; exact hk
  exact (h.cel k ga _ e1 (List.getElem?_eq_getElem hk2)).some x hx

structure Post (A : List GAdr) (S H : Hp) (A' : List GAdr) (S' H' : Hp) : Prop where
  a : A <+: A'
  s : Same S S'
  snew : ∀ x o, S' x = some o → S x = some o ∨ H x = none ∨ (x ∉ gfp A ∧ ∃ xs, H x = some (.tup xs))
  keep : ∀ x o, H x = some o → x ∉ gfp A → H' x = some o
  dom : ∀ x o, H x = some o → ∃ o', H' x = some o'
  anew : ∀ x ∈ gfp A', x ∈ gfp A ∨ H x = none
theorem Post.refl (A : List GAdr) (S H : Hp) : Post A S H A S H := ⟨List.prefix_refl _, Same.refl _, fun _ _ h => .inl h, fun _ _ h _ => h, fun _ o h => ⟨o, h⟩, fun _ h => .inl h⟩
theorem none_back {H H1 : Hp} (d : ∀ x o, H x = some o → ∃ o', H1 x = some o') {x : Addr} (h : H1 x = none) : H x = none := by
  cases e : H x with
  | none => rfl
  | some o => obtain ⟨o', e'⟩ := d x o e; rw [h] at e'; cases e'
theorem Post.trans {A1 A2 : List GAdr} {S1 S2 H1 H2 : Hp} (p : Post A S H A1 S1 H1) (q : Post A1 S1 H1 A2 S2 H2) : Post A S H A2 S2 H2 where
  a := p.a.trans q.a
  s := p.s.trans q.s
  snew := fun x o h => by
    rcases q.snew x o h with h | h | ⟨h, xs, h2⟩
    · exact p.snew x o h
    · exact .inr (.inl (none_back p.dom h))
    · have hx : x ∉ gfp A := fun z => h (by
        obtain ⟨B, hB⟩ := p.a
        rw [← hB, gfp_append]
        exact List.mem_append_left _ z)
      cases e : H x with
      | none => exact .inr (.inl rfl)
      | some u =>
        have := p.keep x u e hx
        rw [h2] at this
        cases this
        exact .inr (.inr ⟨hx, xs, rfl⟩)
  keep := fun x o h n => q.keep x o (p.keep x o h n) fun z => by
    rcases p.anew x z with z | z
    · exact n z
    · rw [h] at z; cases z
  dom := fun x o h => by
    obtain ⟨o1, h1⟩ := p.dom x o h
    exact q.dom x o1 h1
  anew := fun x h => by
    rcases q.anew x h with h | h
    · exact p.anew x h
    · exact .inr (none_back p.dom h)
theorem Post.lay {p : Addr} {o : HO} (hp : H p = none) (hS : Same S H) : Post A S H A (upd S p o) (upd H p o) := by
  have sp : S p = none := Same.free hS hp
  refine ⟨List.prefix_refl _, fun b x e => by rw [upd_ne (ne_of_none e sp)]; exact e, fun x u h => ?_, fun x u h _ => by rw [upd_ne (ne_of_none h hp)]; exact h, fun x u h => ⟨u, by rw [upd_ne (ne_of_none h hp)]; exact h⟩, fun _ h => .inl h⟩
  by_cases e : x = p
  · subst e; exact .inr (.inl hp)
  · rw [upd_ne e] at h; exact .inl h
theorem Post.layO {p : Addr} {o : HO} (hp : H p = none) : Post A S H A S (upd H p o) :=
  ⟨List.prefix_refl _, Same.refl _, fun _ _ h => .inl h, fun x u h _ => by rw [upd_ne (ne_of_none h hp)]; exact h, fun x u h => ⟨u, by rw [upd_ne (ne_of_none h hp)]; exact h⟩, fun _ h => .inl h⟩
theorem Ok.lay {g : G} (h : Ok K A S H g) {p : Addr} {o : HO} (hp : H p = none) : Ok K A (upd S p o) (upd H p o) g := by
  have sp : S p = none := Same.free h.ext hp
  have sm : Same S (upd S p o) := fun b x e => by rw [upd_ne (ne_of_none e sp)]; exact e
  have np : ∀ x ∈ gfp A, x ≠ p := fun x hx e => by
    obtain ⟨u, hu⟩ := h.there x hx
    rw [e, hp] at hu; cases hu
  refine ⟨fun b x e => ?_, h.len, fun k ga c e1 e2 => (h.cel k ga c e1 e2).mono (List.prefix_refl _) sm fun x hx => ?_, h.nd, fun x hx => ?_⟩
  · by_cases q : b = p
    · subst q; rw [upd_same] at e ⊢; exact e
    · rw [upd_ne q] at e ⊢; exact h.ext _ _ e
  · exact upd_ne (np x (List.mem_flatMap.mpr ⟨ga, List.mem_of_getElem? e1, hx⟩))
  · rw [upd_ne (np x hx)]; exact h.out x hx
theorem Ok.layO {g : G} (h : Ok K A S H g) {p : Addr} {o : HO} (hp : H p = none) : Ok K A S (upd H p o) g := by
  have np : ∀ x ∈ gfp A, x ≠ p := fun x hx e => by
    obtain ⟨u, hu⟩ := h.there x hx
    rw [e, hp] at hu; cases hu
  refine ⟨fun b x e => ?_, h.len, fun k ga c e1 e2 => (h.cel k ga c e1 e2).mono (List.prefix_refl _) (Same.refl _) fun x hx => ?_, h.nd, h.out⟩
  · have e' := h.ext _ _ e
    rw [upd_ne (ne_of_none e' hp)]; exact e'
  · exact upd_ne (np x (List.mem_flatMap.mpr ⟨ga, List.mem_of_getElem? e1, hx⟩))
theorem Ok.freeze {g : G} (h : Ok K A S H g) {p : Addr} {o : HO} (hp : S p = none) (hH : H p = some o) (hg : p ∉ gfp A) : Ok K A (upd S p o) H g := by
  have sm : Same S (upd S p o) := fun b x e => by rw [upd_ne (ne_of_none e hp)]; exact e
  refine ⟨fun b x e => ?_, h.len, fun k ga c e1 e2 => (h.cel k ga c e1 e2).mono (List.prefix_refl _) sm fun x hx => rfl, h.nd, fun x hx => ?_⟩
  · by_cases q : b = p
    · subst q; rw [upd_same] at e; rw [hH]; exact e
    · rw [upd_ne q] at e; exact h.ext _ _ e
  · rw [upd_ne (fun (e : x = p) => hg (by rw [← e]; exact hx))]; exact h.out x hx
theorem Ok.writeO {g : G} (h : Ok K A S H g) {p : Addr} {o : HO} (hp : S p = none) (hg : p ∉ gfp A) : Ok K A S (upd H p o) g := by
  refine ⟨fun b x e => ?_, h.len, fun k ga c e1 e2 => (h.cel k ga c e1 e2).mono (List.prefix_refl _) (Same.refl _) fun x hx => ?_, h.nd, h.out⟩
  · rw [upd_ne (ne_of_none e hp)]; exact h.ext _ _ e
  · exact upd_ne (fun (e : x = p) => hg (by rw [← e]; exact List.mem_flatMap.mpr ⟨ga, List.mem_of_getElem? e1, hx⟩))
end

inductive DV where
  | sh (d : D)
  | ow (d : D)
abbrev DS := List (Option DV)
def mkV (m : Bool) (d : D) : DV := if m then .ow d else .sh d
section
variable (K : PySem.W.Frag) (A : List GAdr) (S H : Hp)
def SlotOk : Option V → DV → Prop
  | some v, .sh d => Rep K A S v d
  | some (.ref p), .ow d => S p = none ∧ p ∉ gfp A ∧ Top K A S H p d
  | _, _ => False
structure SRep (σ : L2.St) (σd : DS) : Prop where
  len : σ.length = σd.length
  at_ : ∀ (i : Nat) (x : DV), σd[i]? = some (some x) → ∃ v, σ[i]? = some v ∧ SlotOk K A S H v x
  sep : ∀ (i j : Nat) (d e : D) (p : Addr), i ≠ j → σd[i]? = some (some (.ow d)) → σd[j]? = some (some (.ow e)) → σ[i]? = some (some (.ref p)) → σ[j]? = some (some (.ref p)) → False
end
section
variable {K : PySem.W.Frag} {A A' : List GAdr} {S S' H H' : Hp} {σ : L2.St} {σd : DS}
theorem SlotOk.post (p : Post A S H A' S' H') {v : Option V} {x : DV} (h : SlotOk K A S H v x) : SlotOk K A' S' H' v x := by
  cases v with
  | none => cases x <;> exact h.elim
  | some v =>
    cases x with
    | sh d => exact Rep.mono p.a p.s h
    | ow d =>
      cases v with
      | ref q =>
        obtain ⟨h1, h2, h3⟩ := h
        obtain ⟨o, ho⟩ := h3.some
        have hk := p.keep q o ho h2
        refine ⟨?_, fun z => ?_, h3.mono p.a p.s (hk.trans ho.symm)⟩
        · cases e : S' q with
          | none => rfl
          | some u =>
            rcases p.snew q u e with z | z | ⟨_, xs, z⟩
            · rw [h1] at z; cases z
            · rw [ho] at z; cases z
            · exact absurd z (h3.nt xs)
        · rcases p.anew q z with z | z
          · exact h2 z
          · rw [ho] at z; cases z
      | _ => exact h.elim
theorem SRep.post (h : SRep K A S H σ σd) (p : Post A S H A' S' H') : SRep K A' S' H' σ σd :=
  ⟨h.len, fun i x e => let ⟨v, e1, e2⟩ := h.at_ i x e; ⟨v, e1, e2.post p⟩, h.sep⟩
theorem SRep.sh (h : SRep K A S H σ σd) {i : Nat} {d : D} (e : σd[i]? = some (some (.sh d))) : ∃ v, σ[i]? = some (some v) ∧ Rep K A S v d := by
  obtain ⟨v, e1, e2⟩ := h.at_ i _ e
  cases v with
  | none => exact e2.elim
  | some v => exact ⟨v, e1, e2⟩
theorem SRep.ow (h : SRep K A S H σ σd) {i : Nat} {d : D} (e : σd[i]? = some (some (.ow d))) : ∃ p, σ[i]? = some (some (.ref p)) ∧ S p = none ∧ p ∉ gfp A ∧ Top K A S H p d := by
  obtain ⟨v, e1, e2⟩ := h.at_ i _ e
  cases v with
  | none => exact e2.elim
  | some v =>
    cases v with
    | ref q => exact ⟨q, e1, e2⟩
    | _ => exact e2.elim
theorem set_get {α : Type} {l : List α} {i j : Nat} {x y : α} (h : (l.set i x)[j]? = some y) : (i = j ∧ y = x ∧ i < l.length) ∨ (i ≠ j ∧ l[j]? = some y) := by
  by_cases e : i = j
  · subst e
    have hl : i < l.length := by
      have := (List.getElem?_eq_some_iff.mp h).1
      simpa using this
    rw [List.getElem?_set_self hl] at h
    exact .inl ⟨rfl, (Option.some.inj h).symm, hl⟩
  · rw [List.getElem?_set_ne e] at h
    exact .inr ⟨e, h⟩
theorem SRep.setSh (h : SRep K A S H σ σd) {v : V} {d : D} (r : Rep K A S v d) (i : Nat) : SRep K A S H (σ.set i (some v)) (σd.set i (some (.sh d))) := by
  refine ⟨by simp [h.len], fun j x e => ?_, fun a b d e p ne ea eb sa sb => ?_⟩
  · rcases set_get e with ⟨rfl, z, hl⟩ | ⟨ne, e⟩
    · cases z
      exact ⟨_, List.getElem?_set_self (by rw [h.len]; exact hl), r⟩
    · obtain ⟨w, e1, e2⟩ := h.at_ j x e
      exact ⟨w, by rw [List.getElem?_set_ne ne]; exact e1, e2⟩
  · rcases set_get ea with ⟨rfl, z, hl⟩ | ⟨na, ea⟩
    · cases z
    · rcases set_get eb with ⟨rfl, z, hl⟩ | ⟨nb, eb⟩
      · cases z
      · rw [List.getElem?_set_ne na] at sa
        rw [List.getElem?_set_ne nb] at sb
        exact h.sep a b d e p ne ea eb sa sb
theorem SRep.setOw (h : SRep K A S H σ σd) {p : Addr} {d : D} (h1 : S p = none) (h2 : p ∉ gfp A) (r : Top K A S H p d) (i : Nat)
    (nw : ∀ (j : Nat) (e : D), i ≠ j → σd[j]? = some (some (.ow e)) → σ[j]? = some (some (.ref p)) → False) : SRep K A S H (σ.set i (some (.ref p))) (σd.set i (some (.ow d))) := by
  refine ⟨by simp [h.len], fun j x e => ?_, fun a b d e q ne ea eb sa sb => ?_⟩
  · rcases set_get e with ⟨rfl, z, hl⟩ | ⟨ne, e⟩
    · cases z
      exact ⟨_, List.getElem?_set_self (by rw [h.len]; exact hl), h1, h2, r⟩
    · obtain ⟨w, e1, e2⟩ := h.at_ j x e
      exact ⟨w, by rw [List.getElem?_set_ne ne]; exact e1, e2⟩
  · rcases set_get ea with ⟨rfl, z, hl⟩ | ⟨na, ea⟩
    · rw [List.getElem?_set_self (by rw [h.len]; exact hl)] at sa
      cases sa
      rcases set_get eb with ⟨rfl, z, hl⟩ | ⟨nb, eb⟩
      · exact ne rfl
      · rw [List.getElem?_set_ne nb] at sb
        exact nw _ _ nb eb sb
    · rw [List.getElem?_set_ne na] at sa
      rcases set_get eb with ⟨rfl, z, hl⟩ | ⟨nb, eb⟩
      · rw [List.getElem?_set_self (by rw [h.len]; exact hl)] at sb
        cases sb
        exact nw _ _ na ea sa
      · rw [List.getElem?_set_ne nb] at sb
        exact h.sep a b d e q ne ea eb sa sb
theorem SRep.freeze (h : SRep K A S H σ σd) {i : Nat} {d : D} {p : Addr} {o : HO} (e : σd[i]? = some (some (.ow d))) (es : σ[i]? = some (some (.ref p))) (hp : S p = none) (hH : H p = some o) (r : Rep K A (upd S p o) (.ref p) d) :
    SRep K A (upd S p o) H σ (σd.set i (some (.sh d))) := by
  have sm : Same S (upd S p o) := fun b x e => by rw [upd_ne (ne_of_none e hp)]; exact e
  refine ⟨by simp [h.len], fun j x e' => ?_, fun a b d1 d2 q ne ea eb sa sb => ?_⟩
  · rcases set_get e' with ⟨rfl, z, hl⟩ | ⟨ne, e'⟩
    · cases z
      exact ⟨_, es, r⟩
    · obtain ⟨w, e1, e2⟩ := h.at_ j x e'
      refine ⟨w, e1, ?_⟩
      cases w with
      | none => cases x <;> exact e2.elim
      | some w =>
        cases x with
        | sh d2 => exact Rep.mono (List.prefix_refl _) sm e2
        | ow d2 =>
          cases w with
          | ref q =>
            obtain ⟨q1, q2, q3⟩ := e2
            have nq : q ≠ p := fun z => by subst z; exact h.sep i j d d2 q ne e e' es e1
            exact ⟨by rw [upd_ne nq]; exact q1, q2, q3.mono (List.prefix_refl _) sm rfl⟩
          | _ => exact e2.elim
  · rcases set_get ea with ⟨rfl, z, hl⟩ | ⟨na, ea⟩
    · cases z
    · rcases set_get eb with ⟨rfl, z, hl⟩ | ⟨nb, eb⟩
      · cases z
      · exact h.sep a b d1 d2 q ne ea eb sa sb
theorem SRep.write (h : SRep K A S H σ σd) {i : Nat} {d d' : D} {p : Addr} {o : HO} (e : σd[i]? = some (some (.ow d))) (es : σ[i]? = some (some (.ref p))) (r : Top K A S (upd H p o) p d') :
    SRep K A S (upd H p o) σ (σd.set i (some (.ow d'))) := by
  refine ⟨by simp [h.len], fun j x e' => ?_, fun a b d1 d2 q ne ea eb sa sb => ?_⟩
  · rcases set_get e' with ⟨rfl, z, hl⟩ | ⟨ne, e'⟩
    · cases z
      obtain ⟨q, e1, q1, q2, q3⟩ := h.ow e
      rw [es] at e1; cases e1
      exact ⟨_, es, q1, q2, r⟩
    · obtain ⟨w, e1, e2⟩ := h.at_ j x e'
      refine ⟨w, e1, ?_⟩
      cases w with
      | none => cases x <;> exact e2.elim
      | some w =>
        cases x with
        | sh d2 => exact e2
        | ow d2 =>
          cases w with
          | ref q =>
            obtain ⟨q1, q2, q3⟩ := e2
            have nq : q ≠ p := fun z => by subst z; exact h.sep i j d d2 q ne e e' es e1
            exact ⟨q1, q2, q3.mono (List.prefix_refl _) (Same.refl _) (upd_ne nq)⟩
          | _ => exact e2.elim
  · have get : ∀ (k : Nat) (c : D), (σd.set i (some (.ow d')))[k]? = some (some (.ow c)) → ∃ c', σd[k]? = some (some (.ow c')) := fun k c hk => by
      rcases set_get hk with ⟨rfl, z, hl⟩ | ⟨nk, hk⟩
      · exact ⟨_, e⟩
      · exact ⟨_, hk⟩
    obtain ⟨c1, g1⟩ := get a d1 ea
    obtain ⟨c2, g2⟩ := get b d2 eb
    exact h.sep a b c1 c2 q ne g1 g2 sa sb
theorem SRep.forget2 (h : SRep K A S H σ σd) (i : Nat) : SRep K A S H (σ.set i none) (σd.set i none) := by
  refine ⟨by simp [h.len], fun j x e => ?_, fun a b d e p ne ea eb sa sb => ?_⟩
  · rcases set_get e with ⟨rfl, z, hl⟩ | ⟨ne, e⟩
    · cases z
    · obtain ⟨w, e1, e2⟩ := h.at_ j x e
      exact ⟨w, by rw [List.getElem?_set_ne ne]; exact e1, e2⟩
  · rcases set_get ea with ⟨rfl, z, hl⟩ | ⟨na, ea⟩
    · cases z
    · rcases set_get eb with ⟨rfl, z, hl⟩ | ⟨nb, eb⟩
      · cases z
      · rw [List.getElem?_set_ne na] at sa
        rw [List.getElem?_set_ne nb] at sb
        exact h.sep a b d e p ne ea eb sa sb
end
def wipeD (σd : DS) : List Nat → DS
  | [] => σd
  | v :: vs => (wipeD σd vs).set v none
theorem SRep.wipe {K : PySem.W.Frag} {A : List GAdr} {S H : Hp} {σ : L2.St} {σd : DS} (h : SRep K A S H σ σd) : ∀ vs : List Nat, SRep K A S H (L2.wipe σ vs) (wipeD σd vs)
  | [] => h
  | v :: vs => (SRep.wipe h vs).forget2 v
end NS
namespace NS
open PySem PySem.Spec PyProof.Rows L2

def RepM (K : PySem.W.Frag) (H : Hp) (A' : List GAdr) (S' H' : Hp) (v : V) (d : D) : Bool → Prop
  | false => Rep K A' S' v d
  | true => ∃ p, v = .ref p ∧ H p = none ∧ S' p = none ∧ p ∉ gfp A' ∧ Top K A' S' H' p d
def XRep (mg : Str → Option Value) (K : PySem.W.Frag) (A : List GAdr) (S H : Hp) (x : Exn) (c : Value) (dd : Option Addr) : Prop :=
  mg x.cls = some c ∧ (x.fld = none → dd = none) ∧ ∀ f d, x.fld = some (f, d) → ∃ a v, dd = some a ∧ S a = some (.xd [(f, v)]) ∧ Rep K A S v d
structure Sur where
  mg : Str → Option Value
  K : PySem.W.Frag
  E : XK
def KE (U : Sur) (m : Bool) (A : List GAdr) (S H : Hp) (r : Res D) (Q : VK) : Prop :=
  match r with
  | .ok d g' => ∀ A' S' H' v, Post A S H A' S' H' → Ok U.K A' S' H' g' → RepM U.K H A' S' H' v d m → Q v H'
  | .err x g' => ∀ A' S' H' c dd, Post A S H A' S' H' → Ok U.K A' S' H' g' → XRep U.mg U.K A' S' H' x c dd → U.E c dd H'
  | .bad => False
def KL (U : Sur) (A : List GAdr) (S H : Hp) (r : Res (List D)) (Q : List V → Hp → Prop) : Prop :=
  match r with
  | .ok ds g' => ∀ A' S' H' vs, Post A S H A' S' H' → Ok U.K A' S' H' g' → RepL U.K A' S' vs ds → Q vs H'
  | .err x g' => ∀ A' S' H' c dd, Post A S H A' S' H' → Ok U.K A' S' H' g' → XRep U.mg U.K A' S' H' x c dd → U.E c dd H'
  | .bad => False
def KT (U : Sur) (A : List GAdr) (S H : Hp) (r : Res Bool) (Q : Bool → Hp → Prop) : Prop :=
  match r with
  | .ok b g' => ∀ A' S' H', Post A S H A' S' H' → Ok U.K A' S' H' g' → Q b H'
  | .err x g' => ∀ A' S' H' c dd, Post A S H A' S' H' → Ok U.K A' S' H' g' → XRep U.mg U.K A' S' H' x c dd → U.E c dd H'
  | .bad => False
section
variable {U : Sur} {A A1 : List GAdr} {S S1 H H1 : Hp}
theorem RepM.back {K : PySem.W.Frag} {A' : List GAdr} {S' H' : Hp} {v : V} {d : D} {m : Bool} (p : Post A S H A1 S1 H1) (h : RepM K H1 A' S' H' v d m) : RepM K H A' S' H' v d m := by
  cases m with
  | false => exact h
  | true => obtain ⟨q, e, h1, h2⟩ := h; exact ⟨q, e, none_back p.dom h1, h2⟩
theorem KE.shift {m : Bool} {r : Res D} {Q : VK} (p : Post A S H A1 S1 H1) (h : KE U m A S H r Q) : KE U m A1 S1 H1 r Q := by
  cases r with
  | ok d g => exact fun A' S' H' v q o rr => h A' S' H' v (p.trans q) o (rr.back p)
  | err x g => exact fun A' S' H' c dd q o rr => h A' S' H' c dd (p.trans q) o rr
  | bad => exact h
theorem KL.shift {r : Res (List D)} {Q : List V → Hp → Prop} (p : Post A S H A1 S1 H1) (h : KL U A S H r Q) : KL U A1 S1 H1 r Q := by
  cases r with
  | ok d g => exact fun A' S' H' v q o rr => h A' S' H' v (p.trans q) o rr
  | err x g => exact fun A' S' H' c dd q o rr => h A' S' H' c dd (p.trans q) o rr
  | bad => exact h
theorem KT.shift {r : Res Bool} {Q : Bool → Hp → Prop} (p : Post A S H A1 S1 H1) (h : KT U A S H r Q) : KT U A1 S1 H1 r Q := by
  cases r with
  | ok d g => exact fun A' S' H' q o => h A' S' H' (p.trans q) o
  | err x g => exact fun A' S' H' c dd q o rr => h A' S' H' c dd (p.trans q) o rr
  | bad => exact h
theorem KE.bindE {m m1 : Bool} {x : M D} {k : D → M D} {g : G} {Q : VK} (h : KE U m A S H (M.bind x k g) Q) :
    KE U m1 A S H (x g) fun v H1 => ∃ A1 S1 g1 d, Post A S H A1 S1 H1 ∧ Ok U.K A1 S1 H1 g1 ∧ RepM U.K H A1 S1 H1 v d m1 ∧ KE U m A1 S1 H1 (k d g1) Q := by
  unfold M.bind at h
  cases e : x g with
  | ok d g1 => rw [e] at h; exact fun A' S' H' v p o r => ⟨A', S', g1, d, p, o, r, h.shift p⟩
  | err e1 g1 => rw [e] at h; exact h
  | bad => rw [e] at h; exact h
theorem KE.bindL {m : Bool} {x : M (List D)} {k : List D → M D} {g : G} {Q : VK} (h : KE U m A S H (M.bind x k g) Q) :
    KL U A S H (x g) fun v H1 => ∃ A1 S1 g1 d, Post A S H A1 S1 H1 ∧ Ok U.K A1 S1 H1 g1 ∧ RepL U.K A1 S1 v d ∧ KE U m A1 S1 H1 (k d g1) Q := by
  unfold M.bind at h
  cases e : x g with
  | ok d g1 => rw [e] at h; exact fun A' S' H' v p o r => ⟨A', S', g1, d, p, o, r, h.shift p⟩
  | err e1 g1 => rw [e] at h; exact h
  | bad => rw [e] at h; exact h
theorem KE.bindT {m : Bool} {x : M Bool} {k : Bool → M D} {g : G} {Q : VK} (h : KE U m A S H (M.bind x k g) Q) :
    KT U A S H (x g) fun b H1 => ∃ A1 S1 g1, Post A S H A1 S1 H1 ∧ Ok U.K A1 S1 H1 g1 ∧ KE U m A1 S1 H1 (k b g1) Q := by
  unfold M.bind at h
  cases e : x g with
  | ok d g1 => rw [e] at h; exact fun A' S' H' p o => ⟨A', S', g1, p, o, h.shift p⟩
  | err e1 g1 => rw [e] at h; exact h
  | bad => rw [e] at h; exact h
theorem KL.bindE {x : M D} {k : D → M (List D)} {g : G} {Q : List V → Hp → Prop} (h : KL U A S H (M.bind x k g) Q) :
    KE U false A S H (x g) fun v H1 => ∃ A1 S1 g1 d, Post A S H A1 S1 H1 ∧ Ok U.K A1 S1 H1 g1 ∧ Rep U.K A1 S1 v d ∧ KL U A1 S1 H1 (k d g1) Q := by
  unfold M.bind at h
  cases e : x g with
  | ok d g1 => rw [e] at h; exact fun A' S' H' v p o r => ⟨A', S', g1, d, p, o, r, h.shift p⟩
  | err e1 g1 => rw [e] at h; exact h
  | bad => rw [e] at h; exact h
theorem KL.bindL {x : M (List D)} {k : List D → M (List D)} {g : G} {Q : List V → Hp → Prop} (h : KL U A S H (M.bind x k g) Q) :
    KL U A S H (x g) fun v H1 => ∃ A1 S1 g1 d, Post A S H A1 S1 H1 ∧ Ok U.K A1 S1 H1 g1 ∧ RepL U.K A1 S1 v d ∧ KL U A1 S1 H1 (k d g1) Q := by
  unfold M.bind at h
  cases e : x g with
  | ok d g1 => rw [e] at h; exact fun A' S' H' v p o r => ⟨A', S', g1, d, p, o, r, h.shift p⟩
  | err e1 g1 => rw [e] at h; exact h
  | bad => rw [e] at h; exact h
theorem KT.bindE {x : M D} {k : D → M Bool} {g : G} {Q : Bool → Hp → Prop} (h : KT U A S H (M.bind x k g) Q) :
    KE U false A S H (x g) fun v H1 => ∃ A1 S1 g1 d, Post A S H A1 S1 H1 ∧ Ok U.K A1 S1 H1 g1 ∧ Rep U.K A1 S1 v d ∧ KT U A1 S1 H1 (k d g1) Q := by
  unfold M.bind at h
  cases e : x g with
  | ok d g1 => rw [e] at h; exact fun A' S' H' v p o r => ⟨A', S', g1, d, p, o, r, h.shift p⟩
  | err e1 g1 => rw [e] at h; exact h
  | bad => rw [e] at h; exact h
theorem KT.bindT {x : M Bool} {k : Bool → M Bool} {g : G} {Q : Bool → Hp → Prop} (h : KT U A S H (M.bind x k g) Q) :
    KT U A S H (x g) fun b H1 => ∃ A1 S1 g1, Post A S H A1 S1 H1 ∧ Ok U.K A1 S1 H1 g1 ∧ KT U A1 S1 H1 (k b g1) Q := by
  unfold M.bind at h
  cases e : x g with
  | ok d g1 => rw [e] at h; exact fun A' S' H' p o => ⟨A', S', g1, p, o, h.shift p⟩
  | err e1 g1 => rw [e] at h; exact h
  | bad => rw [e] at h; exact h
theorem KE.imp {m : Bool} {r : Res D} {Q Q' : VK} (h : KE U m A S H r Q) (i : ∀ v H', Q v H' → Q' v H') : KE U m A S H r Q' := by
  cases r with
  | ok d g => exact fun A' S' H' v q o rr => i _ _ (h A' S' H' v q o rr)
  | err x g => exact h
  | bad => exact h
theorem KE.now {m : Bool} {d : D} {g : G} {Q : VK} (h : KE U m A S H (.ok d g) Q) {A' : List GAdr} {S' H' : Hp} {v : V} (p : Post A S H A' S' H') (o : Ok U.K A' S' H' g) (r : RepM U.K H A' S' H' v d m) : Q v H' := h A' S' H' v p o r
theorem KE.val {d : D} {g : G} {Q : VK} {v : V} (h : KE U false A S H (.ok d g) Q) (o : Ok U.K A S H g) (r : Rep U.K A S v d) : Q v H := h A S H v (Post.refl _ _ _) o r
theorem KT.now {b : Bool} {g : G} {Q : Bool → Hp → Prop} (h : KT U A S H (.ok b g) Q) (o : Ok U.K A S H g) : Q b H := h A S H (Post.refl _ _ _) o
theorem KE.newL {m : Bool} {ds : List D} {vs : List V} {g : G} {Q : VK} (h : KE U m A S H (.ok (.lst ds) g) Q) (o : Ok U.K A S H g) (r : RepL U.K A S vs ds) {p : Addr} (hp : H p = none) : Q (.ref p) (upd H p (.lst vs)) := by
  have sp : S p = none := Same.free o.ext hp
  have pg : p ∉ gfp A := fun z => by obtain ⟨u, hu⟩ := o.there p z; rw [hp] at hu; cases hu
  cases m with
  | false =>
    have P := Post.lay (A := A) (o := .lst vs) hp o.ext
    exact h A (upd S p (.lst vs)) _ _ P (o.lay hp) (.lst upd_same (r.mono P.a P.s))
  | true => exact h A S _ _ (Post.layO hp) (o.layO hp) ⟨p, rfl, hp, sp, pg, vs, upd_same, r⟩
theorem KE.newT {ds : List D} {vs : List V} {g : G} {Q : VK} (h : KE U false A S H (.ok (.tup ds) g) Q) (o : Ok U.K A S H g) (r : RepL U.K A S vs ds) {p : Addr} (hp : H p = none) : Q (.ref p) (upd H p (.tup vs)) := by
  have P := Post.lay (A := A) (o := .tup vs) hp o.ext
  exact h A (upd S p (.tup vs)) _ _ P (o.lay hp) (.tup upd_same (r.mono P.a P.s))
theorem KE.frozen {r : Res D} {Q : VK} (h : KE U false A S H r Q) (oS : Same S H) : KE U true A S H r Q := by
  cases r with
  | ok d g =>
    rintro A' S' H' v p o ⟨q, rfl, h1, h2, h3, h4⟩
    obtain ⟨u, hu, hr⟩ := h4.frozen h2
    refine h A' (upd S' q u) H' _ ⟨p.a, fun b x e => ?_, fun x z e => ?_, p.keep, p.dom, p.anew⟩ (o.freeze h2 hu h3) hr
    · rw [upd_ne (ne_of_none (p.s _ _ e) h2)]; exact p.s _ _ e
    · by_cases e' : x = q
      · subst e'; exact .inr (.inl h1)
      · rw [upd_ne e'] at e; exact p.snew x z e
  | err x g => exact h
  | bad => exact h
end

def tE (U : Sur) (m : Bool) (f : DS → M D) : TE := fun σ H Q => ∃ A S g σd, Ok U.K A S H g ∧ SRep U.K A S H σ σd ∧ KE U m A S H (f σd g) Q
def tL (U : Sur) (f : DS → M (List D)) : TA := fun σ H Q => ∃ A S g σd, Ok U.K A S H g ∧ SRep U.K A S H σ σd ∧ KL U A S H (f σd g) Q
def tT (U : Sur) (f : DS → M Bool) : TT := fun σ H Q => ∃ A S g σd, Ok U.K A S H g ∧ SRep U.K A S H σ σd ∧ KT U A S H (f σd g) Q
abbrev Cx.sur (X : Cx) (E : XK) : Sur := ⟨X.mg, X.K, E⟩
def DE (X : Cx) (E : XK) (m : Bool) (e : Expr) (f : DS → M D) : Prop := PE X e (tE (Cx.sur X E) m f)
def DL (X : Cx) (E : XK) (es : List Expr) (f : DS → M (List D)) : Prop := PA X es (tL (Cx.sur X E) f)
def DT (X : Cx) (E : XK) (e : Expr) (f : DS → M Bool) : Prop := PT X e (tT (Cx.sur X E) f)
def DW (X : Cx) (E : XK) (e : Expr) (f : DS → M Bool) : Prop := PW X e (tT (Cx.sur X E) f)

theorem _root_.L2.PE.impD {X : Cx} {e : Expr} {t t' : TE} (h : PE X e t) (i : ∀ σ H Q, t' σ H Q → t σ H Q) : PE X e t' := ⟨fun pins s σ H Q I q => h.run pins s σ H Q I (i σ H Q q)⟩
theorem _root_.L2.PA.impD {X : Cx} {e : List Expr} {t t' : TA} (h : PA X e t) (i : ∀ σ H Q, t' σ H Q → t σ H Q) : PA X e t' := ⟨fun pos pins s σ H Q I q => h.run pos pins s σ H Q I (i σ H Q q)⟩
theorem _root_.L2.PT.impD {X : Cx} {e : Expr} {t t' : TT} (h : PT X e t) (i : ∀ σ H Q, t' σ H Q → t σ H Q) : PT X e t' := ⟨fun pins s σ H Q I q => h.run pins s σ H Q I (i σ H Q q)⟩
theorem _root_.L2.PW.impD {X : Cx} {e : Expr} {t t' : TT} (h : PW X e t) (i : ∀ σ H Q, t' σ H Q → t σ H Q) : PW X e t' := ⟨fun w pins s σ H Q I q => h.run w pins s σ H Q I (i σ H Q q)⟩
theorem _root_.L2.PS.impD {X : Cx} {e : Stmt} {t t' : TS} (h : PS X e t) (i : ∀ D σ H, t' D σ H → t D σ H) : PS X e t' := ⟨fun pins s σ H D I q => h.run pins s σ H D I (i D σ H q)⟩
theorem _root_.L2.PSs.impD {X : Cx} {e : List Stmt} {t t' : TS} (h : PSs X e t) (i : ∀ D σ H, t' D σ H → t D σ H) : PSs X e t' := ⟨fun pins s σ H D I q => h.run pins s σ H D I (i D σ H q)⟩
theorem _root_.L2.PI.impD {X : Cx} {tg e : Expr} {t t' : TI} (h : PI X tg e t) (i : ∀ σ H R, t' σ H R → t σ H R) : PI X tg e t' := ⟨fun pins s σ H R I q => h.run pins s σ H R I (i σ H R q)⟩
theorem _root_.L2.PG.impD {X : Cx} {e : Expr} {t t' : TG} (h : PG X e t) (i : ∀ v σ H Q, t' v σ H Q → t v σ H Q) : PG X e t' := ⟨fun pins s σ H v u Q I r q => h.run pins s σ H v u Q I r (i v σ H Q q)⟩

section
variable {X : Cx} {E : XK} {pos : Pos}
def eVar (i : Nat) : DS → M D := fun σ => match σ[i]? with
  | some (some (.sh d)) => M.pure d
  | _ => M.bad
def eC (d : D) : DS → M D := fun _ => M.pure d
theorem de_of (h : PE X e (tVar i)) : DE X E false e (eVar i) := h.impD fun σ H Q ⟨A, S, g, σd, o, r, k⟩ => by
  unfold eVar at k
  match q : σd[i]? with
  | some (some (.sh d)) =>
    rw [q] at k
    obtain ⟨v, e1, e2⟩ := r.sh q
    exact ⟨v, e1, KE.val k o e2⟩
  | some (some (.ow d)) => rw [q] at k; exact k.elim
  | some none => rw [q] at k; exact k.elim
  | none => rw [q] at k; exact k.elim
theorem de_var (i : Nat) {x : Str} (hN : X.N[i]? = some x := by rfl) (hv : Vis X.env.scope x := by first | exact Or.inl rfl | exact Or.inr (Or.inl rfl) | exact Or.inr (Or.inr rfl)) (hd : (x == ("__debug__" : Str)) = false := by decide)
    (hcd : (x == ("__classdict__" : Str)) = false := by decide) : DE X E false (.Name x pos) (eVar i) := de_of (pe_var hN hv hd hcd)
theorem de_const {e : Expr} {v : V} {d : D} (h : PE X e (tC v)) (r : ∀ A S, Rep X.K A S v d) : DE X E false e (eC d) := h.impD fun σ H Q ⟨A, S, g, σd, o, _, k⟩ => k.val o (r A S)
theorem de_int {i j} : DE X E false (.Constant (.int i) j pos) (eC (.int i)) := de_const pe_int fun _ _ => .int i
theorem de_bl {b j} : DE X E false (.Constant (.bool b) j pos) (eC (.bl b)) := de_const pe_bl fun _ _ => .bl b
theorem de_non {j} : DE X E false (.Constant .none j pos) (eC .non) := de_const pe_non fun _ _ => .non
theorem de_str {x j} : DE X E false (.Constant (.str x) j pos) (eC (.str x)) := de_const pe_str fun _ _ => .str x
theorem de_glob {x : Str} {v : V} {u : Value} {d : D} (hm : X.mg x = some u) (r : RelV v u) (rr : ∀ A S, Rep X.K A S v d) (hg : Gl X x := by rfl) (hd : (x == ("__debug__" : Str)) = false := by decide) : DE X E false (.Name x pos) (eC d) :=
  de_const (pe_glob hg hm r hd) rr
theorem DE.sh {e : Expr} {f : DS → M D} (h : DE X E true e f) : DE X E false e f := PE.impD h fun σ H Q ⟨A, S, g, σd, o, r, k⟩ => ⟨A, S, g, σd, o, r, k.frozen o.ext⟩

def eBin (k : D → D → M D) (fa fb : DS → M D) : DS → M D := fun σ => M.bind (fa σ) fun x => M.bind (fb σ) fun y => k x y
def rD (U : Sur) (m : Bool) (k : D → D → M D) : R2 := fun x y H Q => ∃ A S g dx dy, Ok U.K A S H g ∧ Rep U.K A S x dx ∧ Rep U.K A S y dy ∧ KE U m A S H (k dx dy g) Q
theorem bin_read {U : Sur} {m : Bool} {k : D → D → M D} {fa fb : DS → M D} {σ : L2.St} {H : Hp} {Q : VK} (h : tE U m (eBin k fa fb) σ H Q) : tOp (rD U m k) (tE U false fa) (tE U false fb) σ H Q := by
  obtain ⟨A, S, g, σd, o, r, q⟩ := h
  refine ⟨A, S, g, σd, o, r, (KE.bindE q).imp fun v H1 ⟨A1, S1, g1, d, p1, o1, r1, q1⟩ => ?_⟩
  refine ⟨A1, S1, g1, σd, o1, r.post p1, (KE.bindE q1).imp fun u H2 ⟨A2, S2, g2, d2, p2, o2, r2, q2⟩ => ?_⟩
  exact ⟨A2, S2, g2, d, d2, o2, Rep.mono p2.a p2.s r1, r2, q2⟩
variable {a b c : Expr} {fa fb fc : DS → M D} {m : Bool} {k : D → D → M D}
def OpD (X : Cx) (E : XK) (f : Value → Value → Sem Value) (m : Bool) (k : D → D → M D) : Prop := OpR X f (rD (Cx.sur X E) m k)
theorem OpR.imp {f : Value → Value → Sem Value} {r r' : R2} (h : OpR X f r) (i : ∀ x y H Q, r' x y H Q → r x y H Q) : OpR X f r' := fun pins s σ H x y v u Q I rx ry q => h pins s σ H x y v u Q I rx ry (i x y H Q q)
theorem de_bin {op : Operator} (ho : OpD X E (binaryOp op) m k) (ha : DE X E false a fa) (hb : DE X E false b fb) : DE X E m (.BinOp a op b pos) (eBin k fa fb) :=
  (pe_op ho ha hb).impD fun _ _ _ h => bin_read h
theorem de_cmp {op : CmpOp} (ho : OpD X E (compareOp op) false k) (ha : DE X E false a fa) (hb : DE X E false b fb) (hm : behindInMarks op b = false := by with_unfolding_all rfl) : DE X E false (.Compare a [op] [b] pos) (eBin k fa fb) :=
  (pe_cmpR ho ha hb hm).impD fun _ _ _ h => bin_read h
def asB : D → M Bool
  | .bl b => M.pure b
  | _ => M.bad
def eTst (f : DS → M D) : DS → M Bool := fun σ => M.bind (f σ) asB
theorem tst_read {U : Sur} {f : DS → M D} {σ : L2.St} {H : Hp} {Q : Bool → Hp → Prop} (h : tT U (eTst f) σ H Q) : tTest (tE U false f) σ H Q := by
  obtain ⟨A, S, g, σd, o, r, q⟩ := h
  refine ⟨A, S, g, σd, o, r, (KT.bindE q).imp fun v H1 ⟨A1, S1, g1, d, p1, o1, r1, q1⟩ => ?_⟩
  cases r1 <;> first
    | exact q1.elim
    | exact ⟨_, rfl, KT.now q1 o1⟩
theorem dt_cmp {op : CmpOp} (ho : OpD X E (compareOp op) false k) (ha : DE X E false a fa) (hb : DE X E false b fb) (hm : behindInMarks op b = false := by with_unfolding_all rfl) : DT X E (.Compare a [op] [b] pos) (eTst (eBin k fa fb)) :=
  (pt_cmpR ho ha hb hm).impD fun σ H Q h => by
    obtain ⟨A, S, g, σd, o, r, q⟩ := tst_read h
    exact bin_read ⟨A, S, g, σd, o, r, q⟩
def eChain (k k' : D → D → M D) (fa fb fc : DS → M D) : DS → M D := fun σ => M.bind (fa σ) fun x => M.bind (fb σ) fun y => M.bind (M.bind (k x y) asB) fun t =>
  if t = true then M.bind (fc σ) fun z => k' y z else M.pure (.bl false)
variable {ta tb : DS → M Bool} {rest : List Expr}
def eAnd (f h : DS → M Bool) : DS → M Bool := fun σ => M.bind (f σ) fun t => if t = true then h σ else M.pure false
def eOr (f h : DS → M Bool) : DS → M Bool := fun σ => M.bind (f σ) fun t => if t = true then M.pure true else h σ
def eNot (f : DS → M Bool) : DS → M Bool := fun σ => M.bind (f σ) fun t => M.pure !t
theorem dw_and1 (ha : DT X E a ta) : DW X E (.BoolOp .And [a] pos) ta := pw_and1 ha
theorem dw_or1 (ha : DT X E a ta) : DW X E (.BoolOp .Or [a] pos) ta := pw_or1 ha
theorem KT.imp {U : Sur} {A : List GAdr} {S H : Hp} {r : Res Bool} {Q Q' : Bool → Hp → Prop} (h : KT U A S H r Q) (i : ∀ v H', Q v H' → Q' v H') : KT U A S H r Q' := by
  cases r with
  | ok d g => exact fun A' S' H' q o => i _ _ (h A' S' H' q o)
  | err x g => exact h
  | bad => exact h
theorem dw_and (ha : DT X E a ta) (hb : DW X E (.BoolOp .And (b :: rest) pos) tb) : DW X E (.BoolOp .And (a :: b :: rest) pos) (eAnd ta tb) :=
  (pw_and ha hb).impD fun σ H Q ⟨A, S, g, σd, o, r, q⟩ => ⟨A, S, g, σd, o, r, (KT.bindT q).imp fun t H1 ⟨A1, S1, g1, p1, o1, q1⟩ => by
    cases t with
    | true => exact ⟨A1, S1, g1, σd, o1, r.post p1, q1⟩
    | false => exact KT.now q1 o1⟩
theorem dw_or (ha : DT X E a ta) (hb : DW X E (.BoolOp .Or (b :: rest) pos) tb) : DW X E (.BoolOp .Or (a :: b :: rest) pos) (eOr ta tb) :=
  (pw_or ha hb).impD fun σ H Q ⟨A, S, g, σd, o, r, q⟩ => ⟨A, S, g, σd, o, r, (KT.bindT q).imp fun t H1 ⟨A1, S1, g1, p1, o1, q1⟩ => by
    cases t with
    | false => exact ⟨A1, S1, g1, σd, o1, r.post p1, q1⟩
    | true => exact KT.now q1 o1⟩
theorem dt_w (h : DW X E a ta) : DT X E a ta := h.pt
theorem dt_not (h : DT X E a ta) : DT X E (.UnaryOp .Not a pos) (eNot ta) :=
  (pt_not h).impD fun σ H Q ⟨A, S, g, σd, o, r, q⟩ => ⟨A, S, g, σd, o, r, (KT.bindT q).imp fun t H1 ⟨A1, S1, g1, p1, o1, q1⟩ => KT.now q1 o1⟩
def eB (f : DS → M Bool) : DS → M D := fun σ => M.bind (f σ) fun t => M.pure (.bl t)
def eIf (t : DS → M Bool) (fa fb : DS → M D) : DS → M D := fun σ => M.bind (t σ) fun b => if b = true then fa σ else fb σ
theorem de_if (hc : DT X E c ta) (ha : DE X E m a fa) (hb : DE X E m b fb) : DE X E m (.IfExp c a b pos) (eIf ta fa fb) :=
  (pe_ifExp hc ha hb).impD fun σ H Q ⟨A, S, g, σd, o, r, q⟩ => ⟨A, S, g, σd, o, r, (KE.bindT q).imp fun t H1 ⟨A1, S1, g1, p1, o1, q1⟩ => by
    show if t = true then _ else _
    cases t with
    | true =>
      rw [if_pos rfl] at q1 ⊢
      exact ⟨A1, S1, g1, σd, o1, r.post p1, q1⟩
    | false =>
      rw [if_neg (by decide)] at q1 ⊢
      exact ⟨A1, S1, g1, σd, o1, r.post p1, q1⟩⟩
def eAndV (fa fb : DS → M D) : DS → M D := fun σ => M.bind (M.bind (fa σ) asB) fun t => if t = true then fb σ else M.pure (.bl false)
def eOrV (fa fb : DS → M D) : DS → M D := fun σ => M.bind (M.bind (fa σ) asB) fun t => if t = true then M.pure (.bl true) else fb σ
def eNotV (fa : DS → M D) : DS → M D := fun σ => M.bind (M.bind (fa σ) asB) fun t => M.pure (.bl !t)
theorem asb_read {U : Sur} {A : List GAdr} {S H : Hp} {f : M D} {k : Bool → M D} {g : G} {Q : VK} (q : KE U m A S H (M.bind (M.bind f asB) k g) Q) :
    KE U false A S H (f g) fun v H1 => ∃ t, v = .bl t ∧ ∃ A1 S1 g1, Post A S H A1 S1 H1 ∧ Ok U.K A1 S1 H1 g1 ∧ KE U m A1 S1 H1 (k t g1) Q :=
  (KT.bindE (KE.bindT q)).imp fun w H3 ⟨A3, S3, g3, d3, p3, o3, r3, q3⟩ => by
    obtain ⟨t, rfl, rfl⟩ : ∃ t, w = .bl t ∧ d3 = .bl t := by
      cases r3 <;> first
        | exact q3.elim
        | exact ⟨_, rfl, rfl⟩
    refine ⟨t, rfl, ?_⟩
    obtain ⟨A4, S4, g4, p4, o4, q4⟩ := KT.now q3 o3
    exact ⟨A4, S4, g4, p4, o4, q4⟩
theorem de_and1 (ha : DE X E m a fa) : DE X E m (.BoolOp .And [a] pos) fa := pe_one ha
theorem de_or1 (ha : DE X E m a fa) : DE X E m (.BoolOp .Or [a] pos) fa := pe_one ha
theorem de_and (ha : DE X E false a fa) (hb : DE X E false (.BoolOp .And (b :: rest) pos) fb) : DE X E false (.BoolOp .And (a :: b :: rest) pos) (eAndV fa fb) :=
  (pe_and ha hb).impD fun σ H Q ⟨A, S, g, σd, o, r, q⟩ => ⟨A, S, g, σd, o, r, (asb_read q).imp fun v H1 ⟨t, e, A1, S1, g1, p1, o1, q1⟩ => by
    refine ⟨t, e, ?_⟩
    cases t with
    | true => rw [if_pos rfl] at q1 ⊢; exact ⟨A1, S1, g1, σd, o1, r.post p1, q1⟩
    | false => rw [if_neg (by decide)] at q1 ⊢; exact q1.val o1 (.bl _)⟩
theorem de_or (ha : DE X E false a fa) (hb : DE X E false (.BoolOp .Or (b :: rest) pos) fb) : DE X E false (.BoolOp .Or (a :: b :: rest) pos) (eOrV fa fb) :=
  (pe_or ha hb).impD fun σ H Q ⟨A, S, g, σd, o, r, q⟩ => ⟨A, S, g, σd, o, r, (asb_read q).imp fun v H1 ⟨t, e, A1, S1, g1, p1, o1, q1⟩ => by
    refine ⟨t, e, ?_⟩
    cases t with
    | false => rw [if_neg (by decide)] at q1 ⊢; exact ⟨A1, S1, g1, σd, o1, r.post p1, q1⟩
    | true => rw [if_pos rfl] at q1 ⊢; exact q1.val o1 (.bl _)⟩
end
end NS
namespace NS
open PySem PySem.Spec PyProof.Rows L2
structure RoomG (k : Nat) (A : Around) : Prop where
  r : Room k A
  g : A.guards = some []
theorem RoomG.mono {j k : Nat} {A : Around} (h : RoomG k A) (hk : j ≤ k) : RoomG j A := ⟨h.r.mono hk, h.g⟩
theorem RoomG.deeper {k : Nat} {A : Around} (h : RoomG (k + 1) A) (env : Env) : RoomG k (A.deeper env) := ⟨h.r.deeper env, h.g⟩
structure FnOkG (P : Program) (w : World) (K : PySem.W.Frag) (mg : Str → Option Value) (base : Heap) (CX : CXT) (k : Nat) (f : Addr) (fd : FuncData) (ps : List Str) (sp : Sp) : Prop where
  len : ∀ vs H Q E, sp vs H Q E → vs.length = ps.length
  run : ∀ (A : Around) (outer : List Env) (s : Shared) (H : Hp) (args : Args) (us : List Value) (vs : List V) (Q : VK) (E : XK), RoomG k A → Env0 P w K mg base A outer s H → BindsTo s fd args (ps.zip us) → Vals vs us → sp vs H Q E →
    codeAny (model P w) A (.call (.ref f) args) (CR CX outer P w H s Q E) s
theorem FnOkG.mono {P : Program} {w : World} {K : PySem.W.Frag} {mg : Str → Option Value} {base : Heap} {CX : CXT} {j k : Nat} {f : Addr} {fd : FuncData} {ps : List Str} {sp : Sp} (F : FnOkG P w K mg base CX j f fd ps sp) (h : j ≤ k) : FnOkG P w K mg base CX k f fd ps sp :=
  ⟨F.len, fun A outer s H args us vs Q E hr => F.run A outer s H args us vs Q E (hr.mono h)⟩
section
variable {P : Program} {w : World} {K : PySem.W.Frag} {mg : Str → Option Value} {base : Heap}
theorem fnG {CX : CXT} {x qual : Str} {st : Stmt} {f : Addr} {fd : FuncData} {N ps : List Str} {k : Nat} {sp : Sp} (F : Fun K x qual st f fd) (S : FnScope N ps (defScope st)) (len : ∀ vs H Q E, sp vs H Q E → vs.length = ps.length)
    (hb : ∀ (cdv : Value) (A : Around) (outer : List Env) (s : Shared) (H : Hp) (vs : List V) (Q : VK) (E : XK), RoomG k (A.deeper (envOfC qual (defScope st) s.heap.objs.size f cdv)) → sp vs H Q E →
      ∃ t, PSs (cxOf CX P w K mg base N qual (defScope st) f cdv A outer s H E) (defBody st) t ∧ t { nx := fun _ H' => Q .non H', rt := Q } (start N vs) H) : FnOkG P w K mg base CX (k + 1) f fd ps sp := by
  obtain ⟨oc, od, kV, doc, pm, an, cdv, ct, osl, rfl, lk, hcd⟩ := F.ex
  refine ⟨len, fun A outer s H args us vs Q E hr e0 hB r hs => ?_⟩
  have hl := len _ _ _ _ hs
  obtain ⟨t, ht, hq⟩ := hb cdv A outer s H vs Q E (hr.deeper _) hs
  have up := fun b o e => (e0.bs b o e).1
  have KX : K.In s.heap := e0.mod.kin.keeps up
  have kinds : ∀ y ∈ ps.zip us, (defScope st).names.lookup y.1 = some .local ∨ ((defScope st).names.lookup y.1 = some .cell ∧ ((cellsFrom (s.heap.objs.size + 1) (defScope st).names []).lookup y.1).isSome = true) := by
    intro y hy
    cases S.par y.1 (List.of_mem_zip hy).1 with
    | inl q => exact .inl q
    | inr q => exact .inr ⟨q, PySem.W.cellsFrom_some _ _ _ (.inl q)⟩
  refine codeAny_call_function hr.r.depth (KX _ _ lk) rfl S.co S.gen rfl (PySem.W.codeRec_of KX hcd) (hB _ _ _ _ (wpAny_newFunctionEnv_cells S.kind kinds fun env he s1 x => ?_))
  subst he
  refine ⟨e0.mod.nolimit.keeps fun b o e => x.toInCall.keep b o (up b o e), codeAny_func (wpAny_mono (ht.run [] s1 (start N vs) H _ (inv_start S hr.r.hd e0 hl r x) hq) (fun fl s' hs => ?_) fun e s' hs => hs)⟩
  cases fl with
  | ret u => obtain ⟨v, σ', H', J, rv, q⟩ := hs; exact ⟨v, H', J.os, J.bare, J.base, J.hok, rv, q⟩
  | next => obtain ⟨σ', H', J, q⟩ := hs; exact ⟨.non, H', J.os, J.bare, J.base, J.hok, rfl, q⟩
  | brk => obtain ⟨_, _, _, q⟩ := hs; exact q.elim
  | cont => obtain ⟨_, _, _, q⟩ := hs; exact q.elim
end
section
variable {X : Cx} {CX : CXT} {k : Nat} {f : Addr} {fd : FuncData} {ps : List Str} {sp : Sp} {E : XK} {x : Str} {p pos : Pos} {e : Expr} {es : List Expr} {t : TA}
theorem goG {pins : List (Addr × Obj)} {σ : L2.St} {H : Hp} {s : Shared} {Q : VK} {us : List Value} {args : Args} {vs : List V} (F : FnOkG X.prog X.w X.K X.mg X.base CX k f fd ps sp) (hr : RoomG k X.A) (hx : Passes CX X E)
    (I : Inv X pins σ H s) (hb : BindsTo s fd args (ps.zip us)) (r : Vals vs us) (h : sp vs H Q E) : codeAny (model X.prog X.w) X.A (.call (.ref f) args) (fun r s' => match r with
      | .ok (.ret u) => EP X pins σ Q u s'
      | .ok _ => False
      | .error e => X.xe e s') s := by
  refine codeAny_mono (F.run X.A X.stack s H args us vs Q E hr I.env0 hb r h) fun r s' hq => ?_
  cases r with
  | error e => exact hx pins σ H s e s' I hq
  | ok fl => cases fl with
    | ret u => exact I.after hq
    | _ => exact hq.elim
theorem callG {pins : List (Addr × Obj)} {σ : L2.St} {H : Hp} {s : Shared} {Q : VK} {us ws : List Value} {ks : List Str} {kw : List (Str × Value)} {vs : List V} (F : FnOkG X.prog X.w X.K X.mg X.base CX k f fd ps sp) (hr : RoomG k X.A) (hx : Passes CX X E)
    (I : Inv X pins σ H s) (hb : BindsTo s fd ⟨ws, kw⟩ (ps.zip us)) (r : Vals vs us) (h : sp vs H Q E) : wpAny (model X.prog X.w) X.A (call (.ref f) ws kw) (EP X pins σ Q) X.xe s := by
  refine wpAny_call (codeAny_mono (goG F hr hx I hb r h) fun r s' hq => ?_)
  cases r with
  | error e => exact hq
  | ok fl => cases fl with
    | ret u => exact hq
    | _ => exact hq.elim
theorem pe_callG (F : FnOkG X.prog X.w X.K X.mg X.base CX k f fd ps sp) (hr : RoomG k X.A) (hg : Gl X x) (hm : X.mg x = some (.ref f)) (hk : PySem.W.keepIn X.K (.ref f) = true) (hb : Binds X.K fd ps []) (hx : Passes CX X E)
    (ha : PA X (e :: es) t) (hdb : (x == ("__debug__" : Str)) = false := by decide) (he : starEach (e :: es) X.env = (false, eval e X.env) :: starEach es X.env := by rfl) (hpl : (backTo pos (starEach es X.env)).any (·.1) = false := by rfl) :
    PE X (.Call (.Name x p) (e :: es) [] pos) (tCall sp [] E t) :=
  ⟨fun pins s σ H Q I h => wpAny_Call_Name_kw (ld_glob I hg hm (PySem.W.callWith_K (h₀ := X.base) I.ok.mod.kin hk (thn (ha.run pos pins s σ H _ I h) fun us s1 ⟨vs, H1, I1, r, q⟩ => ⟨I1.kIn, by
    have q : sp (vs ++ []) H1 Q E := q
    rw [List.append_nil] at q
    have hl : (us ++ []).length = ps.length := by rw [List.append_nil, ← r.length]; exact F.len _ _ _ _ q
    exact callG (ks := []) F hr hx I1 (by have := hb s1 us I1.kIn hl; rw [List.append_nil] at this; exact this) r q⟩) he hpl) hdb)⟩
theorem run_fnkG {pins : List (Addr × Obj)} {σ : L2.St} {H : Hp} {s : Shared} {Q : VK} {us ws : List Value} {ks : List Str} {vs zs : List V} {g : List Value → List Value → List Value} {gV : List V → List V → List V} (F : FnOkG X.prog X.w X.K X.mg X.base CX k f fd ps sp) (hr : RoomG k X.A) (hb : KBinds X.K fd ps ks g gV) (hx : Passes CX X E)
    (I : Inv X pins σ H s) (r : Vals vs us) (rz : Vals zs ws) (h : sp (gV vs zs) H Q E) : wpAny (model X.prog X.w) X.A (call (.ref f) us (ks.zip ws)) (EP X pins σ Q) X.xe s := by
  have r2 := hb.rel r rz
  exact callG (ks := ks) F hr hx I (hb.to s us ws I.kIn (by rw [← r2.length]; exact F.len _ _ _ _ h)) r2 h
end
end NS
namespace NS
open PySem PySem.Spec PyProof.Rows L2

def fit (n : Nat) : Bool := decide (n < 1000000)
theorem fit_le {n : Nat} (h : fit n = true) : n < sizeLine := Nat.lt_of_lt_of_le (of_decide_eq_true h) (by rw [sizeLine_eq]; decide)
theorem KL.imp {U : Sur} {A : List GAdr} {S H : Hp} {r : Res (List D)} {Q Q' : List V → Hp → Prop} (h : KL U A S H r Q) (i : ∀ v H', Q v H' → Q' v H') : KL U A S H r Q' := by
  cases r with
  | ok d g => exact fun A' S' H' vs q o r => i _ _ (h A' S' H' vs q o r)
  | err x g => exact h
  | bad => exact h
section
variable {X : Cx} {E : XK} {pos : Pos} {e : Expr} {es : List Expr} {f : DS → M D} {fl : DS → M (List D)} {m : Bool}
def lNil : DS → M (List D) := fun _ => M.pure []
def lCons (f : DS → M D) (fl : DS → M (List D)) : DS → M (List D) := fun σ => M.bind (f σ) fun x => M.bind (fl σ) fun xs => M.pure (x :: xs)
theorem dl_nil : DL X E [] lNil := PA.impD pa_nil fun σ H Q ⟨A, S, g, σd, o, r, q⟩ => q A S H [] (Post.refl _ _ _) o .nil
theorem dl_cons (ha : DE X E false e f) (hr : DL X E es fl) (hs : starEach (e :: es) X.env = (false, eval e X.env) :: starEach es X.env := by rfl) : DL X E (e :: es) (lCons f fl) :=
  (pa_cons ha hr hs).impD fun σ H Q ⟨A, S, g, σd, o, r, q⟩ => ⟨A, S, g, σd, o, r, (KL.bindE q).imp fun v H1 ⟨A1, S1, g1, d, p1, o1, r1, q1⟩ =>
    ⟨A1, S1, g1, σd, o1, r.post p1, (KL.bindL q1).imp fun vs H2 ⟨A2, S2, g2, ds, p2, o2, r2, q2⟩ => q2 A2 S2 H2 _ (Post.refl _ _ _) o2 (.cons (Rep.mono p2.a p2.s r1) r2)⟩⟩
def mkT (ds : List D) : M D := if fit ds.length = true then M.pure (.tup ds) else M.bad
def mkL (ds : List D) : M D := if fit ds.length = true then M.pure (.lst ds) else M.bad
def eArgs (k : List D → M D) (fl : DS → M (List D)) : DS → M D := fun σ => M.bind (fl σ) k
theorem de_tup {x1} (h : DL X E es fl) : DE X E false (.Tuple es x1 pos) (eArgs mkT fl) :=
  (pe_tup h).impD fun σ H Q ⟨A, S, g, σd, o, r, q⟩ => ⟨A, S, g, σd, o, r, (KE.bindL q).imp fun vs H1 ⟨A1, S1, g1, ds, p1, o1, r1, q1⟩ => by
    unfold mkT at q1
    by_cases hf : fit ds.length = true
    · rw [if_pos hf] at q1
      exact ⟨by rw [r1.length]; exact Nat.le_of_lt (fit_le hf), fun p hp => q1.newT o1 r1 hp⟩
    · rw [if_neg hf] at q1; exact q1.elim⟩
theorem de_lst (h : DL X E es fl) : DE X E m (.List es pos) (eArgs mkL fl) :=
  (pe_lst h).impD fun σ H Q ⟨A, S, g, σd, o, r, q⟩ => ⟨A, S, g, σd, o, r, (KE.bindL q).imp fun vs H1 ⟨A1, S1, g1, ds, p1, o1, r1, q1⟩ => by
    unfold mkL at q1
    by_cases hf : fit ds.length = true
    · rw [if_pos hf] at q1
      exact ⟨by rw [r1.length]; exact Nat.le_of_lt (fit_le hf), fun p hp => q1.newL o1 r1 hp⟩
    · rw [if_neg hf] at q1; exact q1.elim⟩

def rDL (U : Sur) (m : Bool) (k : List D → M D) : List V → Hp → VK → Prop := fun vs H Q => ∃ A S g ds, Ok U.K A S H g ∧ RepL U.K A S vs ds ∧ KE U m A S H (k ds g) Q
def CallD (X : Cx) (E : XK) (f : Value) (m : Bool) (k : List D → M D) : Prop := CallR X f (rDL (Cx.sur X E) m k)
theorem args_read {U : Sur} {k : List D → M D} {σ : L2.St} {H : Hp} {Q : VK} (h : tE U m (eArgs k fl) σ H Q) : tL U fl σ H fun vs H1 => rDL U m k vs H1 Q := by
  obtain ⟨A, S, g, σd, o, r, q⟩ := h
  exact ⟨A, S, g, σd, o, r, (KE.bindL q).imp fun vs H1 ⟨A1, S1, g1, ds, p1, o1, r1, q1⟩ => ⟨A1, S1, g1, ds, o1, r1, q1⟩⟩
variable {k : List D → M D} {x : Str} {p : Pos} {id T : String}
theorem de_callB (hc : CallD X E (.builtin id) m k) (hm : X.mg x = none) (ha : DL X E (e :: es) fl) (hg : Gl X x := by rfl) (hv : bootBuiltins x = some (.builtin id) := by decide +kernel) (hn : x ≠ "__name__" := by decide) (hdb : (x == ("__debug__" : Str)) = false := by decide)
    (he : starEach (e :: es) X.env = (false, eval e X.env) :: starEach es X.env := by rfl) (hpl : (backTo pos (starEach es X.env)).any (·.1) = false := by rfl) : DE X E m (.Call (.Name x p) (e :: es) [] pos) (eArgs k fl) :=
  PE.impD (pe_callB hc hg hm hv ha hn hdb he hpl) fun _ _ _ h => args_read h
theorem de_callTy (hc : CallD X E (.type T) m k) (hm : X.mg x = none) (ha : DL X E (e :: es) fl) (hg : Gl X x := by rfl) (hv : bootBuiltins x = some (.type T) := by decide +kernel) (hn : x ≠ "__name__" := by decide) (hdb : (x == ("__debug__" : Str)) = false := by decide)
    (he : starEach (e :: es) X.env = (false, eval e X.env) :: starEach es X.env := by rfl) (hpl : (backTo pos (starEach es X.env)).any (·.1) = false := by rfl) : DE X E m (.Call (.Name x p) (e :: es) [] pos) (eArgs k fl) :=
  PE.impD (pe_callTy hc hg hm hv ha hn hdb he hpl) fun _ _ _ h => args_read h

def spD (mg : Str → Option Value) (K : PySem.W.Frag) (n : Nat) (m : Bool) (f : List D → M D) : Sp := fun vs H Q E => vs.length = n ∧ rDL ⟨mg, K, E⟩ m f vs H Q
abbrev FnD (P : Program) (w : World) (K : PySem.W.Frag) (mg : Str → Option Value) (base : Heap) (CX : CXT) (k : Nat) (f : Addr) (fd : FuncData) (ps : List Str) (m : Bool) (d : List D → M D) : Prop :=
  FnOkG P w K mg base CX k f fd ps (spD mg K ps.length m d)
def callN (n : Nat) (d : List D → M D) : List D → M D := fun ds => if ds.length = n then d ds else M.bad
variable {CX : CXT} {kk : Nat} {fa : Addr} {fd : FuncData} {ps : List Str} {d : List D → M D}
theorem de_call (F : FnD X.prog X.w X.K X.mg X.base CX kk fa fd ps m d) (hr : RoomG kk X.A) (hm : X.mg x = some (.ref fa)) (hk : PySem.W.keepIn X.K (.ref fa) = true) (hb : Binds X.K fd ps []) (hx : Passes CX X E)
    (ha : DL X E (e :: es) fl) (hg : Gl X x := by rfl) (hdb : (x == ("__debug__" : Str)) = false := by decide) (he : starEach (e :: es) X.env = (false, eval e X.env) :: starEach es X.env := by rfl) (hpl : (backTo pos (starEach es X.env)).any (·.1) = false := by rfl) :
    DE X E m (.Call (.Name x p) (e :: es) [] pos) (eArgs (callN ps.length d) fl) :=
  PE.impD (pe_callG F hr hg hm hk hb hx ha hdb he hpl) fun σ H Q ⟨A, S, g, σd, o, r, q⟩ => ⟨A, S, g, σd, o, r, (KE.bindL q).imp fun vs H1 ⟨A1, S1, g1, ds, p1, o1, r1, q1⟩ => by
    unfold callN at q1
    by_cases hl : ds.length = ps.length
    · rw [if_pos hl] at q1
      refine ⟨by simp [r1.length, hl], A1, S1, g1, ds, o1, by simpa using r1, q1⟩
    · rw [if_neg hl] at q1; exact q1.elim⟩
def DK (X : Cx) (E : XK) (kws : List Keyword) (f : DS → M (List D)) : Prop := PK X kws (tL (Cx.sur X E) f)
theorem _root_.L2.PK.impD {X : Cx} {e : List Keyword} {t t' : TA} (h : PK X e t) (i : ∀ σ H Q, t' σ H Q → t σ H Q) : PK X e t' := ⟨fun pos pins s σ H Q I q => h.run pos pins s σ H Q I (i σ H Q q)⟩
variable {kws : List Keyword} {nm : Option Str} {kpos : Pos}
theorem dk_nil : DK X E [] lNil := PK.impD pk_nil fun σ H Q ⟨A, S, g, σd, o, r, q⟩ => q A S H [] (Post.refl _ _ _) o .nil
theorem dk_cons (ha : DE X E false e f) (hr : DK X E kws fl) : DK X E (⟨nm, e, kpos⟩ :: kws) (lCons f fl) :=
  (pk_cons ha hr).impD fun σ H Q ⟨A, S, g, σd, o, r, q⟩ => ⟨A, S, g, σd, o, r, (KL.bindE q).imp fun v H1 ⟨A1, S1, g1, d, p1, o1, r1, q1⟩ =>
    ⟨A1, S1, g1, σd, o1, r.post p1, (KL.bindL q1).imp fun vs H2 ⟨A2, S2, g2, ds, p2, o2, r2, q2⟩ => q2 A2 S2 H2 _ (Post.refl _ _ _) o2 (.cons (Rep.mono p2.a p2.s r1) r2)⟩⟩

structure DIt (K : PySem.W.Frag) (A : List GAdr) (S : Hp) (J : It) (ds : List D) : Prop where
  go : ∀ i H, i < ds.length → Same S H → J.go i H
  stop : ∀ i H, ds.length ≤ i → Same S H → J.stop i H
  yld : ∀ i H x H', i < ds.length → Same S H → J.yld i H x H' → ∃ d, ds[i]? = some d ∧ ((H' = H ∧ Rep K A S x d) ∨ ∃ T vs es, x = .ref T ∧ d = .tup es ∧ ((H T = none ∧ H' = upd H T (.tup vs)) ∨ (H' = H ∧ H T = some (.tup vs))) ∧ RepL K A S vs es)
theorem DIt.mono {K : PySem.W.Frag} {A A' : List GAdr} {S S' : Hp} {J : It} {ds : List D} (hA : A <+: A') (hS : Same S S') (h : DIt K A S J ds) : DIt K A' S' J ds :=
  ⟨fun i H hi e => h.go i H hi (hS.trans e), fun i H hi e => h.stop i H hi (hS.trans e), fun i H x H' hi e y => by
    obtain ⟨d, e1, e2⟩ := h.yld i H x H' hi (hS.trans e) y
    refine ⟨d, e1, ?_⟩
    rcases e2 with ⟨e2, e3⟩ | ⟨T, vs, es, a1, a2, a3, a5⟩
    · exact .inl ⟨e2, e3.mono hA hS⟩
    · exact .inr ⟨T, vs, es, a1, a2, a3, a5.mono hA hS⟩⟩
theorem cell_notup {K : PySem.W.Frag} {A : List GAdr} {S H : Hp} {ga : GAdr} {c : GCell} (h : CellOk K A S H ga c) {q : Addr} {vs : List V} (e : H q = some (.tup vs)) : q ∉ ga.fp := by
  intro hq
  cases ga <;> cases c <;> first
    | exact h.elim
    | (simp only [GAdr.fp, List.mem_singleton] at hq; subst hq
       have z := e.symm.trans h
       injection z with z; injection z)
    | (obtain ⟨_, ps, h2, _⟩ := h
       simp only [GAdr.fp, List.mem_singleton] at hq; subst hq
       rw [e] at h2; cases h2)
    | (obtain ⟨h0, h1, h2, ⟨vs1, h3, h4⟩, ws, h5, h6⟩ := h
       simp only [GAdr.fp, List.mem_cons, List.not_mem_nil, or_false] at hq
       rcases hq with rfl | rfl | rfl | rfl
       · rw [e] at h1; cases h1
       · rw [e] at h2; cases h2
       · rw [e] at h3; cases h3
       · rw [e] at h5; cases h5)
theorem ok_notup {K : PySem.W.Frag} {A : List GAdr} {S H : Hp} {g : G} (o : Ok K A S H g) {q : Addr} {vs : List V} (e : H q = some (.tup vs)) : q ∉ gfp A := fun z => by
  obtain ⟨ga, hg, hx⟩ := List.mem_flatMap.mp z
  obtain ⟨k, hk, ek⟩ := List.getElem_of_mem hg
  have e1 : A[k]? = some ga := by rw [List.getElem?_eq_getElem hk, ek]
  have hk2 : k < g.length := by rw [← o.len]; exact hk
  exact cell_notup (o.cel k ga _ e1 (List.getElem?_eq_getElem hk2)) e hx
theorem ok_share {K : PySem.W.Frag} {A : List GAdr} {S H : Hp} {g : G} (o : Ok K A S H g) {q : Addr} {vs : List V} (e : H q = some (.tup vs)) : ∃ S3, Post A S H A S3 H ∧ Ok K A S3 H g ∧ S3 q = some (.tup vs) := by
  cases es : S q with
  | some u =>
    have := o.ext _ _ es
    rw [e] at this; cases this
    exact ⟨S, Post.refl _ _ _, o, es⟩
  | none =>
    have nq := ok_notup o e
    refine ⟨upd S q (.tup vs), ⟨List.prefix_refl _, fun b x h => by rw [upd_ne (ne_of_none h es)]; exact h, fun x u h => ?_, fun _ _ h _ => h, fun _ u h => ⟨u, h⟩, fun _ h => .inl h⟩, o.freeze es e nq, upd_same⟩
    by_cases z : x = q
    · subst z; exact .inr (.inr ⟨nq, vs, e⟩)
    · rw [upd_ne z] at h; exact .inl h
theorem yld_rep {K : PySem.W.Frag} {A A2 : List GAdr} {S S2 H H' : Hp} {g : G} {x : V} {d : D} (o : Ok K A2 S2 H g) (pf : A <+: A2) (sm : Same S S2)
    (yy : (H' = H ∧ Rep K A S x d) ∨ ∃ T vs es, x = .ref T ∧ d = .tup es ∧ ((H T = none ∧ H' = upd H T (.tup vs)) ∨ (H' = H ∧ H T = some (.tup vs))) ∧ RepL K A S vs es) : ∃ S3, Post A2 S2 H A2 S3 H' ∧ Ok K A2 S3 H' g ∧ Rep K A2 S3 x d := by
  rcases yy with ⟨rfl, rx⟩ | ⟨T, ws, es, rfl, rfl, ⟨hT, rfl⟩ | ⟨rfl, hT⟩, rr⟩
  · exact ⟨S2, Post.refl _ _ _, o, rx.mono pf sm⟩
  · have PT := Post.lay (A := A2) (o := .tup ws) hT o.ext
    exact ⟨_, PT, o.lay hT, .tup upd_same (rr.mono pf (sm.trans PT.s))⟩
  · obtain ⟨S3, P3, o3, e3⟩ := ok_share o hT
    exact ⟨S3, P3, o3, .tup e3 (rr.mono pf (sm.trans P3.s))⟩
def KI (U : Sur) (A : List GAdr) (S H : Hp) (r : Res (List D)) (R : It → Hp → Prop) : Prop :=
  match r with
  | .ok ds g' => ∀ A' S' H' J, Post A S H A' S' H' → Ok U.K A' S' H' g' → DIt U.K A' S' J ds → R J H'
  | .err x g' => ∀ A' S' H' c dd, Post A S H A' S' H' → Ok U.K A' S' H' g' → XRep U.mg U.K A' S' H' x c dd → U.E c dd H'
  | .bad => False
def tI (U : Sur) (f : DS → M (List D)) : TI := fun σ H R => ∃ A S g σd, Ok U.K A S H g ∧ SRep U.K A S H σ σd ∧ KI U A S H (f σd g) R
def DI (X : Cx) (E : XK) (tg iter : Expr) (f : DS → M (List D)) : Prop := PI X tg iter (tI (Cx.sur X E) f)
theorem KI.shift {U : Sur} {A A1 : List GAdr} {S S1 H H1 : Hp} {r : Res (List D)} {R : It → Hp → Prop} (p : Post A S H A1 S1 H1) (h : KI U A S H r R) : KI U A1 S1 H1 r R := by
  cases r with
  | ok d g => exact fun A' S' H' v q o rr => h A' S' H' v (p.trans q) o rr
  | err x g => exact fun A' S' H' c dd q o rr => h A' S' H' c dd (p.trans q) o rr
  | bad => exact h
theorem KI.imp {U : Sur} {A : List GAdr} {S H : Hp} {r : Res (List D)} {R R' : It → Hp → Prop} (h : KI U A S H r R) (i : ∀ J H', R J H' → R' J H') : KI U A S H r R' := by
  cases r with
  | ok d g => exact fun A' S' H' vs q o r => i _ _ (h A' S' H' vs q o r)
  | err x g => exact h
  | bad => exact h
theorem KI.bindE {U : Sur} {A : List GAdr} {S H : Hp} {x : M D} {k : D → M (List D)} {g : G} {R : It → Hp → Prop} (h : KI U A S H (M.bind x k g) R) :
    KE U false A S H (x g) fun v H1 => ∃ A1 S1 g1 d, Post A S H A1 S1 H1 ∧ Ok U.K A1 S1 H1 g1 ∧ Rep U.K A1 S1 v d ∧ KI U A1 S1 H1 (k d g1) R := by
  unfold M.bind at h
  cases e : x g with
  | ok d g1 => rw [e] at h; exact fun A' S' H' v p o r => ⟨A', S', g1, d, p, o, r, h.shift p⟩
  | err e1 g1 => rw [e] at h; exact h
  | bad => rw [e] at h; exact h
theorem KI.bindL {U : Sur} {A : List GAdr} {S H : Hp} {x : M (List D)} {k : List D → M (List D)} {g : G} {R : It → Hp → Prop} (h : KI U A S H (M.bind x k g) R) :
    KL U A S H (x g) fun v H1 => ∃ A1 S1 g1 d, Post A S H A1 S1 H1 ∧ Ok U.K A1 S1 H1 g1 ∧ RepL U.K A1 S1 v d ∧ KI U A1 S1 H1 (k d g1) R := by
  unfold M.bind at h
  cases e : x g with
  | ok d g1 => rw [e] at h; exact fun A' S' H' v p o r => ⟨A', S', g1, d, p, o, r, h.shift p⟩
  | err e1 g1 => rw [e] at h; exact h
  | bad => rw [e] at h; exact h

def KG (U : Sur) (vs : List Nat) (A : List GAdr) (S H : Hp) (σ : L2.St) (r : Res DS) (Q : L2.St → Hp → Prop) : Prop :=
  match r with
  | .ok σd' g' => ∀ A' S' H' σ', Post A S H A' S' H' → Ok U.K A' S' H' g' → SRep U.K A' S' H' σ' σd' → L2.wipe σ' vs = L2.wipe σ vs → Q σ' H'
  | _ => False
def tG (U : Sur) (vs : List Nat) (f : D → DS → M DS) : TG := fun v σ H Q => ∃ A S g σd d, Ok U.K A S H g ∧ SRep U.K A S H σ σd ∧ Rep U.K A S v d ∧ KG U vs A S H σ (f d σd g) Q
def DG (X : Cx) (E : XK) (vs : List Nat) (tg : Expr) (f : D → DS → M DS) : Prop := PG X tg (tG (Cx.sur X E) vs f)
def gN (i : Nat) : D → DS → M DS := fun d σ => M.pure (σ.set i (some (.sh d)))
def gNs (is : List Nat) : D → DS → M DS := fun d σ => match d with
  | .tup ds => if ds.length = is.length then M.pure ((is.zip ds).foldl (fun s p => s.set p.1 (some (.sh p.2))) σ) else M.bad
  | _ => M.bad
theorem wipe_set {σ : L2.St} {i : Nat} {x : Option V} : ∀ {vs : List Nat}, i ∈ vs → L2.wipe (σ.set i x) vs = L2.wipe σ vs
  | v :: vs, h => by
    show (L2.wipe (σ.set i x) vs).set v none = (L2.wipe σ vs).set v none
    by_cases e : i = v
    · subst e
      by_cases h2 : i ∈ vs
      · rw [wipe_set h2]
      · have : ∀ (us : List Nat), i ∉ us → L2.wipe (σ.set i x) us = (L2.wipe σ us).set i x := by
          intro us
          induction us with
          | nil => intro _; rfl
          | cons u us ih =>
            intro hu
            show (L2.wipe (σ.set i x) us).set u none = ((L2.wipe σ us).set u none).set i x
            rw [ih fun z => hu (List.mem_cons_of_mem _ z), List.set_comm _ _ (fun z => hu (by rw [z]; exact List.mem_cons_self))]
        rw [this vs h2, List.set_set]
    · have h2 : i ∈ vs := by
        rcases List.mem_cons.mp h with z | z
        · exact absurd z e
        · exact z
      rw [wipe_set h2]
theorem dg_name {i : Nat} {vs : List Nat} {x : Str} (hN : X.N.Nodup) (hi : X.N[i]? = some x := by rfl) (hv : i ∈ vs := by decide) (hx : Loc X.env.scope x := by first | exact Or.inl rfl | exact Or.inr rfl) (hf : X.fn x = true ∨ X.env.scope.names.lookup x = some .local := by first | exact .inl rfl | exact .inr rfl | assumption) : DG X E vs (.Name x pos) (gN i) :=
  (pg_name hN hi hx hf).impD fun v σ H Q ⟨A, S, g, σd, d, o, r, rv, q⟩ => q A S H _ (Post.refl _ _ _) o (r.setSh rv i) (wipe_set hv)
def gNames (is : List Nat) : TGs := fun vs σ H Q => vs.length = is.length ∧ Q ((is.zip vs).foldl (fun s p => s.set p.1 (some p.2)) σ) H
theorem pgs_nilN : PGs X [] (gNames []) := ⟨fun pins s σ H vs us Q I r h => by
  obtain ⟨e, q⟩ := h
  have e' : vs = [] := List.length_eq_zero_iff.mp e
  subst e'
  exact pgs_nil.run pins s σ H [] us Q I r ⟨rfl, q⟩⟩
theorem pgs_consN {i : Nat} {is : List Nat} {x : Str} {es : List Expr} (hN : X.N.Nodup) (h2 : PGs X es (gNames is)) (hi : X.N[i]? = some x := by rfl) (hx : Loc X.env.scope x := by first | exact Or.inl rfl | exact Or.inr rfl) (hf : X.fn x = true ∨ X.env.scope.names.lookup x = some .local := by first | exact .inl rfl | exact .inr rfl | assumption)
    (hs : (assignEach (.Name x pos :: es) X.env).map (·.2) = assign (.Name x pos) X.env :: (assignEach es X.env).map (·.2) := by rfl) : PGs X (.Name x pos :: es) (gNames (i :: is)) := ⟨fun pins s σ H vs us Q I r h => by
  obtain ⟨e, q⟩ := h
  cases vs with
  | nil => cases e
  | cons v vs =>
    refine (pgs_cons (pg_name (pos := pos) hN hi hx hf) h2 hs).run pins s σ H (v :: vs) us Q I r ⟨v, vs, rfl, ?_⟩
    exact ⟨Nat.succ.inj e, q⟩⟩
theorem SRep.setAll {K : PySem.W.Frag} {A : List GAdr} {S H : Hp} : ∀ {is : List Nat} {vs : List V} {ds : List D} {σ : L2.St} {σd : DS}, SRep K A S H σ σd → RepL K A S vs ds →
    SRep K A S H ((is.zip vs).foldl (fun s p => s.set p.1 (some p.2)) σ) ((is.zip ds).foldl (fun s p => s.set p.1 (some (.sh p.2))) σd)
  | [], _, _, _, _, h, _ => h
  | _ :: _, _, _, _, _, h, .nil => h
  | i :: is, _, _, _, _, h, .cons r rr => SRep.setAll (is := is) (h.setSh r i) rr
theorem wipe_all {vs : List Nat} : ∀ {is : List Nat} {xs : List V} {σ : L2.St}, (∀ i ∈ is, i ∈ vs) → L2.wipe ((is.zip xs).foldl (fun s p => s.set p.1 (some p.2)) σ) vs = L2.wipe σ vs
  | [], _, _, _ => rfl
  | _ :: _, [], _, _ => rfl
  | i :: is, x :: xs, σ, h => by
    show L2.wipe ((is.zip xs).foldl _ (σ.set i (some x))) vs = _
    rw [wipe_all fun j hj => h j (List.mem_cons_of_mem _ hj), wipe_set (h i List.mem_cons_self)]
theorem dg_tup {is vs : List Nat} {es : List Expr} {j : Nat} (h : PGs X es (gNames is)) (hc : X.calm = true := by rfl) (hv : ∀ i ∈ is, i ∈ vs := by decide)
    (hn : (assignEach es X.env).length = is.length := by rfl) (hst : (assignEach es X.env).findIdx? (·.1) = none := by rfl) : DG X E vs (.Tuple es j pos) (gNs is) :=
  (pg_tup hc h hn hst).impD fun v σ H Q ⟨A, S, g, σd, d, o, r, rv, q⟩ => by
    cases rv with
    | @tup a xs ds ht hr =>
      have q' : KG (Cx.sur X E) vs A S H σ ((if ds.length = is.length then M.pure ((is.zip ds).foldl (fun s p => s.set p.1 (some (.sh p.2))) σd) else M.bad) g) Q := q
      by_cases hl : ds.length = is.length
      · rw [if_pos hl] at q'
        exact ⟨a, xs, rfl, tq o.ext ht, by rw [hr.length, hl], by rw [hr.length, hl], q' A S H _ (Post.refl _ _ _) o (r.setAll hr) (wipe_all hv)⟩
      · rw [if_neg hl] at q'; exact q'.elim
    | _ => exact q.elim

def DTs (X : Cx) (E : XK) (ifs : List Expr) (f : DS → M Bool) : Prop := PTs X ifs (tT (Cx.sur X E) f)
theorem _root_.L2.PTs.impD {X : Cx} {e : List Expr} {t t' : TT} (h : PTs X e t) (i : ∀ σ H Q, t' σ H Q → t σ H Q) : PTs X e t' := ⟨fun pins s σ H Q I q => h.run pins s σ H Q I (i σ H Q q)⟩
def tYesD : DS → M Bool := fun _ => M.pure true
theorem dts_nil : DTs X E [] tYesD := PTs.impD pts_nil fun σ H Q ⟨A, S, g, σd, o, r, q⟩ => KT.now q o
theorem dts_one {c : Expr} {t : DS → M Bool} (h : DT X E c t) : DTs X E [c] t := pts_one h
def M.noerr {α : Type} (x : M α) : M α := fun g => match x g with
  | .ok a g' => .ok a g'
  | _ => .bad
def compM (fg : D → DS → M DS) (ft : DS → M Bool) (fe : DS → M D) (σ : DS) : List D → M (List D)
  | [] => M.pure []
  | d :: ds => M.bind (fg d σ) fun σ1 => M.bind (M.noerr (ft σ1)) fun b => if b = true then M.bind (M.noerr (fe σ1)) fun y => M.bind (compM fg ft fe σ ds) fun r => M.pure (y :: r) else compM fg ft fe σ ds
def eComp (fi : DS → M (List D)) (vs : List Nat) (fg : D → DS → M DS) (ft : DS → M Bool) (fe : DS → M D) : DS → M D := fun σ => M.bind (fi σ) fun ds => if fit ds.length = true then M.bind (compM fg ft fe (wipeD σ vs) ds) fun r => M.pure (.lst r) else M.bad
end

section
variable {U : Sur} {vs : List Nat} {fg : D → DS → M DS} {ft : DS → M Bool} {fe : DS → M D}
def Loose (A : List GAdr) (S H : Hp) (p : Addr) (vs : List V) : Prop := S p = none ∧ p ∉ gfp A ∧ H p = some (.lst vs)
theorem Loose.post {A A1 : List GAdr} {S S1 H H1 : Hp} {p : Addr} {vs : List V} (h : Loose A S H p vs) (q : Post A S H A1 S1 H1) : Loose A1 S1 H1 p vs := by
  obtain ⟨h1, h2, h3⟩ := h
  refine ⟨?_, fun z => ?_, q.keep p _ h3 h2⟩
  · cases e : S1 p with
    | none => rfl
    | some u =>
      rcases q.snew p u e with z | z | ⟨_, xs, z⟩
      · rw [h1] at z; cases z
      · rw [h3] at z; cases z
      · rw [h3] at z; cases z
  · rcases q.anew p z with z | z
    · exact h2 z
    · rw [h3] at z; cases z
end
section
variable {X : Cx} {E : XK} {pos : Pos}
theorem bind_ok {α β : Type} {x : M α} {k : α → M β} {g g' : G} {a : α} (h : x g = .ok a g') : M.bind x k g = k a g' := by unfold M.bind; rw [h]
theorem bind_err {α β : Type} {x : M α} {k : α → M β} {g g' : G} {e : Exn} (h : x g = .err e g') : M.bind x k g = .err e g' := by unfold M.bind; rw [h]
theorem bind_bad {α β : Type} {x : M α} {k : α → M β} {g : G} (h : x g = .bad) : M.bind x k g = .bad := by unfold M.bind; rw [h]
theorem noerr_ok {α : Type} {x : M α} {g g' : G} {a : α} (h : x g = .ok a g') : M.noerr x g = .ok a g' := by unfold M.noerr; rw [h]
theorem noerr_err {α : Type} {x : M α} {g g' : G} {e : Exn} (h : x g = .err e g') : M.noerr x g = .bad := by unfold M.noerr; rw [h]
theorem noerr_bad {α : Type} {x : M α} {g : G} (h : x g = .bad) : M.noerr x g = .bad := by unfold M.noerr; rw [h]
def CQ (U : Sur) (m : Bool) (A1 : List GAdr) (S1 H1 : Hp) (Q : VK) (es : List D) (r : Res (List D)) : Prop :=
  match r with
  | .ok rs g => KE U m A1 S1 H1 (.ok (.lst (es ++ rs)) g) Q
  | .err x g => KE U m A1 S1 H1 (.err x g) Q
  | .bad => False
theorem Post.writeNew {A A1 : List GAdr} {S S1 H H1 : Hp} {p : Addr} {o : HO} (q : Post A S H A1 S1 H1) (hp : H p = none) : Post A S H A1 S1 (upd H1 p o) where
  a := q.a
  s := q.s
  snew := q.snew
  keep := fun x u h n => by rw [upd_ne (ne_of_none h hp)]; exact q.keep x u h n
  dom := fun x u h => by rw [upd_ne (ne_of_none h hp)]; exact q.dom x u h
  anew := q.anew
theorem wipe_wipe {σ : L2.St} : ∀ {vs : List Nat}, L2.wipe (L2.wipe σ vs) vs = L2.wipe σ vs := by
  have gen : ∀ (us vs : List Nat) (σ : L2.St), (∀ u ∈ us, u ∈ vs) → L2.wipe (L2.wipe σ vs) us = L2.wipe σ vs := by
    intro us
    induction us with
    | nil => intros; rfl
    | cons u us ih =>
      intro vs σ h
      show (L2.wipe (L2.wipe σ vs) us).set u none = _
      rw [ih vs σ fun x hx => h x (List.mem_cons_of_mem _ hx)]
      have hu := h u List.mem_cons_self
      clear ih h
      induction vs with
      | nil => cases hu
      | cons v vs ih2 =>
        show ((L2.wipe σ vs).set v none).set u none = (L2.wipe σ vs).set v none
        by_cases e : u = v
        · subst e; rw [List.set_set]
        · rw [List.set_comm _ _ (Ne.symm e), ih2]
          rcases List.mem_cons.mp hu with z | z
          · exact absurd z e
          · exact z
  intro vs
  exact gen vs vs σ fun _ h => h
theorem SRep.loose {K : PySem.W.Frag} {A : List GAdr} {S H : Hp} {σ : L2.St} {σd : DS} {p : Addr} {o : HO} (h : SRep K A S H σ σd) (hp : S p = none)
    (no : ∀ (j : Nat) (d : D), σd[j]? = some (some (.ow d)) → σ[j]? = some (some (.ref p)) → False) : SRep K A S (upd H p o) σ σd :=
  ⟨h.len, fun i x e => by
    obtain ⟨v, e1, e2⟩ := h.at_ i x e
    refine ⟨v, e1, ?_⟩
    cases v with
    | none => cases x <;> exact e2.elim
    | some v =>
      cases x with
      | sh d => exact e2
      | ow d =>
        cases v with
        | ref q =>
          obtain ⟨q1, q2, q3⟩ := e2
          have nq : q ≠ p := fun z => by subst z; exact no i d e e1
          exact ⟨q1, q2, q3.mono (List.prefix_refl _) (Same.refl _) (upd_ne nq)⟩
        | _ => exact e2.elim, h.sep⟩
theorem wipeD_some {σd : DS} {i : Nat} {x : DV} : ∀ {vs : List Nat}, (wipeD σd vs)[i]? = some (some x) → σd[i]? = some (some x)
  | [], h => h
  | v :: vs, h => by
    rcases set_get (l := wipeD σd vs) h with ⟨rfl, z, _⟩ | ⟨_, h⟩
    · cases z
    · exact wipeD_some h
theorem nown {K : PySem.W.Frag} {A A1 A2 : List GAdr} {S S1 S2 H H1 H2 : Hp} {σ : L2.St} {σd : DS} {vs : List Nat} {p : Addr} (P : Post A1 S1 H1 A2 S2 H2) (r : SRep K A S H σ σd) (hp : H1 p = none) (p1 : Post A S H A1 S1 H1) {j : Nat} {d : D}
    (es : (L2.wipe σ vs)[j]? = some (some (.ref p))) (e : (wipeD σd vs)[j]? = some (some (.ow d))) : False := by
  obtain ⟨q, e1, q1, q2, q3⟩ := r.ow (wipeD_some e)
  have e2 := (L2.wipe_some es).1
  rw [e1] at e2
  cases e2
  obtain ⟨o, ho⟩ := q3.some
  obtain ⟨o', ho'⟩ := p1.dom _ _ ho
  rw [hp] at ho'; cases ho'
theorem KE.atLoose {U : Sur} {m : Bool} {A A1 : List GAdr} {S S1 H H1 : Hp} {p : Addr} {vs : List V} {ds : List D} {g : G} {Q : VK} (h : KE U m A S H (.ok (.lst ds) g) Q) (P : Post A S H A1 S1 H1) (o : Ok U.K A1 S1 H1 g) (hp : H p = none)
    (l1 : S1 p = none) (l2 : p ∉ gfp A1) (l3 : H1 p = some (.lst vs)) (r : RepL U.K A1 S1 vs ds) : Q (.ref p) H1 := by
  cases m with
  | true => exact h A1 S1 H1 _ P o ⟨p, rfl, hp, l1, l2, vs, l3, r⟩
  | false =>
    have sm : Same S1 (upd S1 p (.lst vs)) := fun b x e => by rw [upd_ne (ne_of_none e l1)]; exact e
    refine h A1 (upd S1 p (.lst vs)) H1 _ ⟨P.a, P.s.trans sm, fun x u e => ?_, P.keep, P.dom, P.anew⟩ (o.freeze l1 l3 l2) (.lst upd_same (r.mono (List.prefix_refl _) sm))
    by_cases e' : x = p
    · subst e'; exact .inr (.inl hp)
    · rw [upd_ne e'] at e; exact P.snew x u e
theorem comp_read {m : Bool} {fi : DS → M (List D)} {vs : List Nat} {fg : D → DS → M DS} {ft : DS → M Bool} {fe : DS → M D} (hx : ∀ d σ g e g', fg d σ g ≠ .err e g') {U : Sur} {E' : XK} {σ : L2.St} {H : Hp} {Q : VK}
    (h : tE U m (eComp fi vs fg ft fe) σ H Q) : tLc (tI U fi) (tG ⟨U.mg, U.K, E'⟩ vs fg) (tT ⟨U.mg, U.K, E'⟩ ft) (tE ⟨U.mg, U.K, E'⟩ false fe) vs σ H Q := by
  obtain ⟨A, S, g, σd, o, r, q⟩ := h
  refine ⟨A, S, g, σd, o, r, ?_⟩
  have q0 : KI U A S H (fi σd g) fun J H1 => ∃ A1 S1 g1 ds, Post A S H A1 S1 H1 ∧ Ok U.K A1 S1 H1 g1 ∧ DIt U.K A1 S1 J ds ∧ KE U m A1 S1 H1 ((if fit ds.length = true then M.bind (compM fg ft fe (wipeD σd vs) ds) fun r => M.pure (.lst r) else M.bad) g1) Q := by
    unfold eComp M.bind at q
    cases e : fi σd g with
    | ok d g1 => rw [e] at q; exact fun A' S' H' v p o r => ⟨A', S', g1, d, p, o, r, KE.shift p q⟩
    | err e1 g1 => rw [e] at q; exact q
    | bad => rw [e] at q; exact q
  refine q0.imp fun J H1 ⟨A1, S1, g1, ds, p1, o1, it, q1⟩ => ?_
  intro p hp
  by_cases hf : fit ds.length = true
  · rw [if_pos hf] at q1
    have sp : S1 p = none := Same.free o1.ext hp
    have pg : p ∉ gfp A1 := fun z => by obtain ⟨u, hu⟩ := o1.there p z; rw [hp] at hu; cases hu
    have P0 : Post A1 S1 H1 A1 S1 (upd H1 p (.lst [])) := Post.layO hp
    refine ⟨fun i mm H2 => mm = ds.length - i ∧ i ≤ ds.length ∧ ∃ A2 S2 g2 vs2 es2, Post A1 S1 H1 A2 S2 H2 ∧ Ok U.K A2 S2 H2 g2 ∧ SRep U.K A2 S2 H2 (L2.wipe σ vs) (wipeD σd vs) ∧ Loose A2 S2 H2 p vs2 ∧ RepL U.K A2 S2 vs2 es2 ∧ vs2.length ≤ i ∧
        CQ U m A1 S1 H1 Q es2 (compM fg ft fe (wipeD σd vs) (ds.drop i) g2), ⟨_, rfl, Nat.zero_le _, A1, S1, g1, [], [], P0, o1.layO hp, ((r.post p1).wipe vs).post P0, ⟨sp, pg, upd_same⟩, .nil, Nat.zero_le _, ?_⟩, ?_⟩
    · rw [List.drop_zero]
      unfold M.bind at q1
      unfold CQ
      cases e : compM fg ft fe (wipeD σd vs) ds g1 with
      | ok rs g3 => rw [e] at q1; exact q1
      | err x g3 => rw [e] at q1; exact q1
      | bad => rw [e] at q1; exact q1
    · rintro i mm H2 ⟨rfl, hi, A2, S2, g2, vs2, es2, P2, o2, r2, lo, rl, hlen, cq⟩
      by_cases hlt : i < ds.length
      · refine .inr ⟨it.go i H2 hlt (P2.s.trans o2.ext), fun H3 => i + 1 ≤ ds.length ∧ ∃ A3 S3 g3 vs3 es3, Post A1 S1 H1 A3 S3 H3 ∧ Ok U.K A3 S3 H3 g3 ∧ SRep U.K A3 S3 H3 (L2.wipe σ vs) (wipeD σd vs) ∧ Loose A3 S3 H3 p vs3 ∧ RepL U.K A3 S3 vs3 es3 ∧ vs3.length ≤ i + 1 ∧
          CQ U m A1 S1 H1 Q es3 (compM fg ft fe (wipeD σd vs) (ds.drop (i + 1)) g3), fun H3 h3 => ⟨ds.length - (i + 1), by omega, rfl, h3⟩, fun x H3 y => ?_⟩
        obtain ⟨d, ed, yy⟩ := it.yld i H2 x H3 hlt (P2.s.trans o2.ext) y
        have edrop : ds.drop i = d :: ds.drop (i + 1) := by
          obtain ⟨hl2, e2⟩ := List.getElem?_eq_some_iff.mp ed
          rw [List.drop_eq_getElem_cons hl2, e2]
        rw [edrop] at cq
        -- the item is there
        obtain ⟨S3, PX, oX, rX⟩ : ∃ S3, Post A2 S2 H2 A2 S3 H3 ∧ Ok U.K A2 S3 H3 g2 ∧ Rep U.K A2 S3 x d := yld_rep o2 P2.a P2.s yy
        refine ⟨A2, S3, g2, wipeD σd vs, d, oX, r2.post PX, rX, ?_⟩
        have cq1 : CQ U m A1 S1 H1 Q es2 (M.bind (fg d (wipeD σd vs)) (fun σ1 => M.bind (M.noerr (ft σ1)) fun b => if b = true then M.bind (M.noerr (fe σ1)) fun y => M.bind (compM fg ft fe (wipeD σd vs) (ds.drop (i + 1))) fun r => M.pure (y :: r) else compM fg ft fe (wipeD σd vs) (ds.drop (i + 1))) g2) := cq
        unfold M.bind at cq1
        cases e1 : fg d (wipeD σd vs) g2 with
        | err z g' => exact (hx _ _ _ _ _ e1).elim
        | bad => rw [e1] at cq1; exact cq1.elim
        | ok σ1 g3 =>
          rw [e1] at cq1
          intro A4 S4 H4 σ4 P4 o4 r4 w4
          refine ⟨by rw [w4, wipe_wipe], A4, S4, g3, σ1, o4, r4, ?_⟩
          have cq2 : CQ U m A1 S1 H1 Q es2 (M.bind (M.noerr (ft σ1)) (fun b => if b = true then M.bind (M.noerr (fe σ1)) fun y => M.bind (compM fg ft fe (wipeD σd vs) (ds.drop (i + 1))) fun r => M.pure (y :: r) else compM fg ft fe (wipeD σd vs) (ds.drop (i + 1))) g3) := cq1
          cases e2 : ft σ1 g3 with
          | err z g' => rw [bind_bad (noerr_err e2)] at cq2; exact cq2.elim
          | bad => rw [bind_bad (noerr_bad e2)] at cq2; exact cq2.elim
          | ok b g4 =>
            rw [bind_ok (noerr_ok e2)] at cq2
            intro A5 S5 H5 P5 o5
            have PA : Post A2 S2 H2 A5 S5 H5 := PX.trans (P4.trans P5)
            cases b with
            | false =>
              rw [if_neg (by decide)] at cq2 ⊢
              exact ⟨hlt, A5, S5, g4, vs2, es2, P2.trans PA, o5, r2.post PA, lo.post PA, rl.mono PA.a PA.s, by omega, cq2⟩
            | true =>
              rw [if_pos rfl] at cq2 ⊢
              refine ⟨A5, S5, g4, σ1, o5, r4.post P5, ?_⟩
              cases e3 : fe σ1 g4 with
              | err z g' => rw [bind_bad (noerr_err e3)] at cq2; exact cq2.elim
              | bad => rw [bind_bad (noerr_bad e3)] at cq2; exact cq2.elim
              | ok yd g5 =>
                rw [bind_ok (noerr_ok e3)] at cq2
                intro A6 S6 H6 v P6 o6 r6
                have PB : Post A2 S2 H2 A6 S6 H6 := PA.trans P6
                obtain ⟨l1, l2, l3⟩ := lo.post PB
                refine ⟨vs2, l3, Nat.lt_of_le_of_lt hlen (Nat.lt_trans hlt (fit_le hf)), hlt, A6, S6, g5, vs2 ++ [v], es2 ++ [yd], (P2.trans PB).writeNew hp, o6.writeO l1 l2, ?_, ⟨l1, l2, upd_same⟩, (rl.mono PB.a PB.s).append (.cons r6 .nil), by simp; omega, ?_⟩
                · exact (r2.post PB).loose l1 fun j dd q0 es' => nown P2 r hp p1 es' q0
                · cases e4 : compM fg ft fe (wipeD σd vs) (ds.drop (i + 1)) g5 with
                  | ok rs g6 =>
                    rw [bind_ok e4] at cq2
                    have cq3 : KE U m A1 S1 H1 (.ok (.lst (es2 ++ yd :: rs)) g6) Q := cq2
                    show KE U m A1 S1 H1 (.ok (.lst (es2 ++ [yd] ++ rs)) g6) Q
                    rw [List.append_assoc]
                    exact cq3
                  | err z g6 => rw [bind_err e4] at cq2; exact cq2
                  | bad => rw [bind_bad e4] at cq2; exact cq2
      · have ei : i = ds.length := by omega
        subst ei
        refine .inl ⟨it.stop _ H2 (Nat.le_refl _) (P2.s.trans o2.ext), ?_⟩
        rw [List.drop_length] at cq
        have cq1 : KE U m A1 S1 H1 (.ok (.lst (es2 ++ [])) g2) Q := cq
        rw [List.append_nil] at cq1
        obtain ⟨l1, l2, l3⟩ := lo
        exact cq1.atLoose P2 o2 hp l1 l2 l3 rl
  · rw [if_neg hf] at q1; exact q1.elim
end
end NS
namespace NS
open PySem PySem.Spec PyProof.Rows L2
section
variable {X : Cx} {E : XK} {pos : Pos}
abbrev Blk (X : Cx) (scope : Scope) : Shared → Hp → Addr → List (Str × Addr) → List Addr → Cx := fun s H C cl fp => X.blk s H scope (compEnvC scope cl C X.env) fp
abbrev E0 : XK := fun _ _ _ => False
theorem de_comp {m : Bool} {elt tg iter : Expr} {ifs : List Expr} {scope : Scope} {own : List (Str × Nat)} {fi : DS → M (List D)} {fg : D → DS → M DS} {ft : DS → M Bool} {fe : DS → M D} (hN : X.N.Nodup) (hi : DI X E tg iter fi) (ok : BlkOk X.N X.env.scope scope own)
    (hx : ∀ d σ g e g', fg d σ g ≠ .err e g')
    (hg : ∀ s H C cl fp, DG (Blk X scope s H C cl fp) E0 (own.map (·.2)) tg fg) (ht : ∀ s H C cl fp, DTs (Blk X scope s H C cl fp) E0 ifs ft)
    (he : ∀ s H C cl fp, DE (Blk X scope s H C cl fp) E0 false elt fe) (hc : X.calm = true := by rfl) (hs : ∀ x, foldedSetIterable iter X.env x = pure x := by intro _; rfl) :
    DE X E m (.ListComp elt [⟨tg, iter, ifs, 0⟩] scope pos) (eComp fi (own.map (·.2)) fg ft fe) :=
  PE.impD (pe_lc (own := own) (g := tG ⟨X.mg, X.K, E0⟩ (own.map fun (p : Str × Nat) => p.2) fg) (tt := tT ⟨X.mg, X.K, E0⟩ ft) (te := tE ⟨X.mg, X.K, E0⟩ false fe) hc hN hi ok hg ht he hs) fun σ H Q h => comp_read hx h
theorem gN_noerr (i : Nat) : ∀ d σ g e g', gN i d σ g ≠ .err e g' := fun _ _ _ _ _ h => by cases h
theorem gNs_noerr (is : List Nat) : ∀ d σ g e g', gNs is d σ g ≠ .err e g' := fun d σ g e g' h => by
  cases d <;> first
    | cases h
    | (have h' : ((if _ then M.pure _ else M.bad : M DS) g) = .err e g' := h
       split at h' <;> cases h')

structure En where
  A : List GAdr
  S : Hp
  H : Hp
structure Stt (K : PySem.W.Frag) (e0 : En) (A : List GAdr) (S : Hp) (g : G) (σd : DS) (σ : L2.St) (H : Hp) : Prop where
  ok : Ok K A S H g
  rep : SRep K A S H σ σd
  post : Post e0.A e0.S e0.H A S H
  own : ∀ (i : Nat) (d : D) (p : Addr), σd[i]? = some (some (.ow d)) → σ[i]? = some (some (.ref p)) → e0.H p = none
inductive Fl where
  | nx (σ : DS) | rt (d : D) | bk (σ : DS) | ct (σ : DS)
def KS (U : Sur) (m : Bool) (e0 : En) (A : List GAdr) (S : Hp) (r : Res Fl) (Z : Ends) : Prop :=
  match r with
  | .ok (.nx σd') g' => ∀ A' S' H' σ', A <+: A' → Same S S' → Stt U.K e0 A' S' g' σd' σ' H' → Z.nx σ' H'
  | .ok (.rt d) g' => ∀ A' S' H' v, Ok U.K A' S' H' g' → Post e0.A e0.S e0.H A' S' H' → RepM U.K e0.H A' S' H' v d m → Z.rt v H'
  | .ok (.bk σd') g' => ∀ A' S' H' σ', A <+: A' → Same S S' → Stt U.K e0 A' S' g' σd' σ' H' → Z.bk σ' H'
  | .ok (.ct σd') g' => ∀ A' S' H' σ', A <+: A' → Same S S' → Stt U.K e0 A' S' g' σd' σ' H' → Z.ct σ' H'
  | .err x g' => ∀ A' S' H' c dd, Post e0.A e0.S e0.H A' S' H' → Ok U.K A' S' H' g' → XRep U.mg U.K A' S' H' x c dd → U.E c dd H'
  | .bad => False
def tS (U : Sur) (m : Bool) (e0 : En) (f : DS → M Fl) : TS := fun Z σ H => ∃ A S g σd, Stt U.K e0 A S g σd σ H ∧ KS U m e0 A S (f σd g) Z
theorem KS.floor {U : Sur} {m : Bool} {e0 : En} {A A1 : List GAdr} {S S1 : Hp} {r : Res Fl} {Z : Ends} (a : A <+: A1) (b : Same S S1) (h : KS U m e0 A S r Z) : KS U m e0 A1 S1 r Z := by
  cases r with
  | ok fl g =>
    cases fl with
    | nx σ => exact fun A' S' H' σ' p q s => h A' S' H' σ' (a.trans p) (b.trans q) s
    | bk σ => exact fun A' S' H' σ' p q s => h A' S' H' σ' (a.trans p) (b.trans q) s
    | ct σ => exact fun A' S' H' σ' p q s => h A' S' H' σ' (a.trans p) (b.trans q) s
    | rt d => exact h
  | err x g => exact h
  | bad => exact h
def DS1 (X : Cx) (E : XK) (m : Bool) (e0 : En) (st : Stmt) (f : DS → M Fl) : Prop := PS X st (tS (Cx.sur X E) m e0 f)
def DSs (X : Cx) (E : XK) (m : Bool) (e0 : En) (st : List Stmt) (f : DS → M Fl) : Prop := PSs X st (tS (Cx.sur X E) m e0 f)
variable {m : Bool} {e0 : En}
theorem Stt.post' {K : PySem.W.Frag} {A A1 : List GAdr} {S S1 H H1 : Hp} {g g1 : G} {σd : DS} {σ : L2.St} (h : Stt K e0 A S g σd σ H) (p : Post A S H A1 S1 H1) (o : Ok K A1 S1 H1 g1) : Stt K e0 A1 S1 g1 σd σ H1 :=
  ⟨o, h.rep.post p, h.post.trans p, h.own⟩
theorem KS.bindE {U : Sur} {m1 : Bool} {A : List GAdr} {S H : Hp} {x : M D} {k : D → M Fl} {g : G} {Z : Ends} (p : Post e0.A e0.S e0.H A S H) (h : KS U m e0 A S (M.bind x k g) Z) :
    KE U m1 A S H (x g) fun v H1 => ∃ A1 S1 g1 d, Post A S H A1 S1 H1 ∧ Ok U.K A1 S1 H1 g1 ∧ RepM U.K H A1 S1 H1 v d m1 ∧ KS U m e0 A1 S1 (k d g1) Z := by
  cases e : x g with
  | ok d g1 => rw [bind_ok e] at h; exact fun A' S' H' v q o r => ⟨A', S', g1, d, q, o, r, h.floor q.a q.s⟩
  | err e1 g1 => rw [bind_err e] at h; exact fun A' S' H' c dd q o r => h A' S' H' c dd (p.trans q) o r
  | bad => rw [bind_bad e] at h; exact h
theorem KS.bindL {U : Sur} {A : List GAdr} {S H : Hp} {x : M (List D)} {k : List D → M Fl} {g : G} {Z : Ends} (p : Post e0.A e0.S e0.H A S H) (h : KS U m e0 A S (M.bind x k g) Z) :
    KL U A S H (x g) fun v H1 => ∃ A1 S1 g1 d, Post A S H A1 S1 H1 ∧ Ok U.K A1 S1 H1 g1 ∧ RepL U.K A1 S1 v d ∧ KS U m e0 A1 S1 (k d g1) Z := by
  cases e : x g with
  | ok d g1 => rw [bind_ok e] at h; exact fun A' S' H' v q o r => ⟨A', S', g1, d, q, o, r, h.floor q.a q.s⟩
  | err e1 g1 => rw [bind_err e] at h; exact fun A' S' H' c dd q o r => h A' S' H' c dd (p.trans q) o r
  | bad => rw [bind_bad e] at h; exact h
theorem KS.bindT {U : Sur} {A : List GAdr} {S H : Hp} {x : M Bool} {k : Bool → M Fl} {g : G} {Z : Ends} (p : Post e0.A e0.S e0.H A S H) (h : KS U m e0 A S (M.bind x k g) Z) :
    KT U A S H (x g) fun v H1 => ∃ A1 S1 g1, Post A S H A1 S1 H1 ∧ Ok U.K A1 S1 H1 g1 ∧ KS U m e0 A1 S1 (k v g1) Z := by
  cases e : x g with
  | ok d g1 => rw [bind_ok e] at h; exact fun A' S' H' q o => ⟨A', S', g1, q, o, h.floor q.a q.s⟩
  | err e1 g1 => rw [bind_err e] at h; exact fun A' S' H' c dd q o r => h A' S' H' c dd (p.trans q) o r
  | bad => rw [bind_bad e] at h; exact h
theorem KS.bindI {U : Sur} {A : List GAdr} {S H : Hp} {x : M (List D)} {k : List D → M Fl} {g : G} {Z : Ends} (p : Post e0.A e0.S e0.H A S H) (h : KS U m e0 A S (M.bind x k g) Z) :
    KI U A S H (x g) fun J H1 => ∃ A1 S1 g1 ds, Post A S H A1 S1 H1 ∧ Ok U.K A1 S1 H1 g1 ∧ DIt U.K A1 S1 J ds ∧ KS U m e0 A1 S1 (k ds g1) Z := by
  cases e : x g with
  | ok d g1 => rw [bind_ok e] at h; exact fun A' S' H' v q o r => ⟨A', S', g1, d, q, o, r, h.floor q.a q.s⟩
  | err e1 g1 => rw [bind_err e] at h; exact fun A' S' H' c dd q o r => h A' S' H' c dd (p.trans q) o r
  | bad => rw [bind_bad e] at h; exact h

def sNil : DS → M Fl := fun σ => M.pure (.nx σ)
def sSeq (f h : DS → M Fl) : DS → M Fl := fun σ => M.bind (f σ) fun x => match x with
  | .nx σ' => h σ'
  | y => M.pure y
variable {st : Stmt} {rest : List Stmt} {f h : DS → M Fl} {e : Expr} {fe : DS → M D}
theorem ds_nil : DSs X E m e0 [] sNil := PSs.impD pss_nil fun Z σ H ⟨A, S, g, σd, s, q⟩ => q A S H σ (List.prefix_refl _) (Same.refl _) s
theorem ds_one (h1 : DS1 X E m e0 st f) : DSs X E m e0 [st] f := pss_one h1
theorem ds_cons (h1 : DS1 X E m e0 st f) (h2 : DSs X E m e0 rest h) : DSs X E m e0 (st :: rest) (sSeq f h) :=
  (pss_cons h1 h2).impD fun Z σ H ⟨A, S, g, σd, s, q⟩ => by
    refine ⟨A, S, g, σd, s, ?_⟩
    have q' : KS (Cx.sur X E) m e0 A S (M.bind (f σd) (fun x => match x with | .nx σ' => h σ' | y => M.pure y) g) Z := q
    cases e : f σd g with
    | ok fl g1 =>
      rw [bind_ok e] at q'
      cases fl with
      | nx σ1 => exact fun A' S' H' σ' a b s' => ⟨A', S', g1, σ1, s', q'.floor a b⟩
      | rt d => exact q'
      | bk d => exact q'
      | ct d => exact q'
    | err x g1 => rw [bind_err e] at q'; exact q'
    | bad => rw [bind_bad e] at q'; exact q'
def sNever : DS → M Fl := fun _ => M.bad
def sBrk : DS → M Fl := fun σ => M.pure (.bk σ)
def sCnt : DS → M Fl := fun σ => M.pure (.ct σ)
def sRet (fe : DS → M D) : DS → M Fl := fun σ => M.bind (fe σ) fun d => M.pure (.rt d)
theorem ds_ret (he : DE X E m e fe) : DS1 X E m e0 (.Return (some e) pos) (sRet fe) :=
  PS.impD (ps_ret he) fun Z σ H ⟨A, S, g, σd, s, q⟩ => ⟨A, S, g, σd, s.ok, s.rep, (KS.bindE (m1 := m) s.post q).imp fun v H1 ⟨A1, S1, g1, d, p1, o1, r1, q1⟩ => by
    exact q1 A1 S1 H1 v o1 (s.post.trans p1) (RepM.back s.post r1)⟩
def sRetO (i : Nat) : DS → M Fl := fun σ => match σ[i]? with
  | some (some (.ow d)) => M.pure (.rt d)
  | _ => M.bad
theorem ds_retO (i : Nat) {x : Str} {p : Pos} (hN : X.N[i]? = some x := by rfl) (hv : Vis X.env.scope x := by first | exact Or.inl rfl | exact Or.inr (Or.inl rfl) | exact Or.inr (Or.inr rfl)) (hd : (x == ("__debug__" : Str)) = false := by decide)
    (hcd : (x == ("__classdict__" : Str)) = false := by decide) : DS1 X E true e0 (.Return (some (.Name x p)) pos) (sRetO i) :=
  PS.impD (ps_ret (pe_var hN hv hd hcd)) fun Z σ H ⟨A, S, g, σd, s, q⟩ => by
    unfold sRetO at q
    match e : σd[i]? with
    | some (some (.ow d)) =>
      rw [e] at q
      obtain ⟨p, e1, e2, e3, e4⟩ := s.rep.ow e
      exact ⟨.ref p, e1, q A S H (.ref p) s.ok s.post ⟨p, rfl, s.own i d p e e1, e2, e3, e4⟩⟩
    | some (some (.sh d)) => rw [e] at q; exact q.elim
    | some none => rw [e] at q; exact q.elim
    | none => rw [e] at q; exact q.elim
def sExpr (fe : DS → M D) : DS → M Fl := fun σ => M.bind (fe σ) fun _ => M.pure (.nx σ)
def sIf (t : DS → M Bool) (f h : DS → M Fl) : DS → M Fl := fun σ => M.bind (t σ) fun b => if b = true then f σ else h σ
theorem ds_if {c : Expr} {a b : List Stmt} {tc : DS → M Bool} (hc : DT X E c tc) (ha : DSs X E m e0 a f) (hb : DSs X E m e0 b h) : DS1 X E m e0 (.If c a b pos) (sIf tc f h) :=
  PS.impD (ps_if hc ha hb) fun Z σ H ⟨A, S, g, σd, s, q⟩ => ⟨A, S, g, σd, s.ok, s.rep, (KS.bindT s.post q).imp fun t H1 ⟨A1, S1, g1, p1, o1, q1⟩ => by
    show if t = true then _ else _
    cases t with
    | true => rw [if_pos rfl] at q1 ⊢; exact ⟨A1, S1, g1, σd, s.post' p1 o1, q1⟩
    | false => rw [if_neg (by decide)] at q1 ⊢; exact ⟨A1, S1, g1, σd, s.post' p1 o1, q1⟩⟩

theorem Stt.setSh {K : PySem.W.Frag} {A : List GAdr} {S H : Hp} {g : G} {σd : DS} {σ : L2.St} (s : Stt K e0 A S g σd σ H) {v : V} {d : D} (r : Rep K A S v d) (i : Nat) : Stt K e0 A S g (σd.set i (some (.sh d))) (σ.set i (some v)) H :=
  ⟨s.ok, s.rep.setSh r i, s.post, fun j d' p e1 e2 => by
    rcases set_get e1 with ⟨rfl, z, _⟩ | ⟨ne, e1⟩
    · cases z
    · rw [List.getElem?_set_ne ne] at e2; exact s.own j d' p e1 e2⟩
theorem Stt.setM {K : PySem.W.Frag} {A A1 : List GAdr} {S S1 H H1 : Hp} {g g1 : G} {σd : DS} {σ : L2.St} {m1 : Bool} (s : Stt K e0 A S g σd σ H) (p : Post A S H A1 S1 H1) (o : Ok K A1 S1 H1 g1) {v : V} {d : D} (r : RepM K H A1 S1 H1 v d m1) (i : Nat) : Stt K e0 A1 S1 g1 (σd.set i (some (mkV m1 d))) (σ.set i (some v)) H1 := by
  cases m1 with
  | false => exact (s.post' p o).setSh r i
  | true =>
    obtain ⟨q, rfl, h1, h2, h3, h4⟩ := r
    have s1 := s.post' p o
    refine ⟨o, s1.rep.setOw h2 h3 h4 i fun j e ne ej es => ?_, s1.post, fun j d' p' e1 e2 => ?_⟩
    · obtain ⟨p', e1, _, _, e4⟩ := s.rep.ow ej
      rw [es] at e1; cases e1
      obtain ⟨u, hu⟩ := e4.some
      rw [h1] at hu; cases hu
    · rcases set_get e1 with ⟨rfl, z, hl⟩ | ⟨ne, e1⟩
      · rw [List.getElem?_set_self (by rw [s.rep.len]; exact hl)] at e2
        cases e2
        exact none_back s.post.dom h1
      · rw [List.getElem?_set_ne ne] at e2; exact s.own j d' p' e1 e2
def sSet (m1 : Bool) (i : Nat) (fe : DS → M D) : DS → M Fl := fun σ => M.bind (fe σ) fun d => M.pure (.nx (σ.set i (some (mkV m1 d))))
theorem set_read {U : Sur} {m1 : Bool} {i : Nat} {Z : Ends} {σ : L2.St} {H : Hp} (h : tS U m e0 (sSet m1 i fe) Z σ H) : tAsg (tE U m1 fe) (gName i) Z σ H := by
  obtain ⟨A, S, g, σd, s, q⟩ := h
  exact ⟨A, S, g, σd, s.ok, s.rep, (KS.bindE (m1 := m1) s.post q).imp fun v H1 ⟨A1, S1, g1, d, p1, o1, r1, q1⟩ => q1 A1 S1 H1 _ (List.prefix_refl _) (Same.refl _) (s.setM p1 o1 r1 i)⟩
theorem ds_set {m1 : Bool} {i : Nat} {x : Str} {pos' : Pos} (hN : X.N.Nodup) (he : DE X E m1 e fe) (hi : X.N[i]? = some x := by rfl) (hx : Loc X.env.scope x := by first | exact Or.inl rfl | exact Or.inr rfl) (hs : swapsWith e (some (.Name x pos')) pos.line X.env = pure false := by rfl)
    (hf : X.fn x = true ∨ X.env.scope.names.lookup x = some .local := by first | exact .inl rfl | exact .inr rfl | assumption) : DS1 X E m e0 (.Assign [.Name x pos'] e pos) (sSet m1 i fe) :=
  PS.impD (ps_set hN hi hx he hs hf) fun Z σ H h => set_read h
def sAsg (fe : DS → M D) (fg : D → DS → M DS) : DS → M Fl := fun σ => M.bind (fe σ) fun d => M.bind (fg d σ) fun σ' => M.pure (.nx σ')
def Own2 (σd σd' : DS) (vs : List Nat) : Prop := ∀ i d, σd'[i]? = some (some (.ow d)) → σd[i]? = some (some (.ow d)) ∧ i ∉ vs
structure TgOk (vs : List Nat) (fg : D → DS → M DS) : Prop where
  ne : ∀ d σ g e g', fg d σ g ≠ .err e g'
  ow : ∀ d σ g σ' g', fg d σ g = .ok σ' g' → g' = g ∧ Own2 σ σ' vs
theorem tg_name (i : Nat) : TgOk [i] (gN i) := ⟨gN_noerr i, fun d σ g σ' g' h => by
  cases h
  refine ⟨rfl, fun j x e => ?_⟩
  rcases set_get e with ⟨rfl, z, _⟩ | ⟨ne, e⟩
  · cases z
  · exact ⟨e, by simp; exact Ne.symm ne⟩⟩
theorem tg_names (is : List Nat) : TgOk is (gNs is) := ⟨gNs_noerr is, fun d σ g σ' g' h => by
  cases d <;> first
    | cases h
    | skip
  rename_i ds
  have h' : ((if ds.length = is.length then M.pure ((is.zip ds).foldl (fun s p => s.set p.1 (some (.sh p.2))) σ) else M.bad : M DS) g) = .ok σ' g' := h
  split at h'
  · rename_i hl
    have e1 : σ' = (is.zip ds).foldl (fun s p => s.set p.1 (some (.sh p.2))) σ := by cases h'; rfl
    have e2 : g' = g := by cases h'; rfl
    refine ⟨e2, fun j x e => ?_⟩
    rw [e1] at e
    clear h h' e1 e2
    induction is generalizing ds σ with
    | nil => exact ⟨e, by simp⟩
    | cons i is ih =>
      cases ds with
      | nil => cases hl
      | cons y ys =>
        have q := ih (σ.set i (some (.sh y))) ys (Nat.succ.inj hl) e
        rcases set_get q.1 with ⟨rfl, z, _⟩ | ⟨ne, e'⟩
        · cases z
        · exact ⟨e', by simp; exact ⟨Ne.symm ne, q.2⟩⟩
  · cases h'⟩
theorem wipe_get {σ σ' : L2.St} {vs : List Nat} {i : Nat} (h : L2.wipe σ' vs = L2.wipe σ vs) (hi : i ∉ vs) : σ'[i]? = σ[i]? := by
  have gen : ∀ (σ : L2.St) (us : List Nat), i ∉ us → (L2.wipe σ us)[i]? = σ[i]? := by
    intro σ us
    induction us with
    | nil => intro _; rfl
    | cons u us ih =>
      intro hu
      show ((L2.wipe σ us).set u none)[i]? = _
      rw [List.getElem?_set_ne (fun z => hu (by rw [z]; exact List.mem_cons_self)), ih fun z => hu (List.mem_cons_of_mem _ z)]
  rw [← gen σ vs hi, ← gen σ' vs hi, h]
theorem Stt.tg {K : PySem.W.Frag} {A A1 : List GAdr} {S S1 H H1 : Hp} {g g1 : G} {σd σd' : DS} {σ σ' : L2.St} {vs : List Nat} (s : Stt K e0 A S g σd σ H) (ow : Own2 σd σd' vs) (p : Post A S H A1 S1 H1) (o : Ok K A1 S1 H1 g1) (r : SRep K A1 S1 H1 σ' σd') (w : L2.wipe σ' vs = L2.wipe σ vs) : Stt K e0 A1 S1 g1 σd' σ' H1 :=
  ⟨o, r, s.post.trans p, fun i d q e1 e2 => by
    obtain ⟨e3, ni⟩ := ow i d e1
    rw [wipe_get w ni] at e2
    exact s.own i d q e3 e2⟩
theorem ds_asg {tg : Expr} {vs : List Nat} {fg : D → DS → M DS} (he : DE X E false e fe) (hg : DG X E vs tg fg) (tk : TgOk vs fg) (hs : swapsWithSole [tg] e pos.line X.env = pure false := by rfl) (hw : swappedStores [tg] e X.env = pure none := by rfl)
    (h1 : (assignEach [tg] X.env).map (·.2) = [assign tg X.env] := by rfl) : DS1 X E m e0 (.Assign [tg] e pos) (sAsg fe fg) :=
  PS.impD (ps_asg he hg hs hw h1) fun Z σ H ⟨A, S, g, σd, s, q⟩ => ⟨A, S, g, σd, s.ok, s.rep, (KS.bindE (m1 := false) s.post q).imp fun v H1 ⟨A1, S1, g1, d, p1, o1, r1, q1⟩ => by
    have s1 := s.post' p1 o1
    refine ⟨A1, S1, g1, σd, d, o1, s1.rep, r1, ?_⟩
    cases e : fg d σd g1 with
    | err x g2 => exact (tk.ne _ _ _ _ _ e).elim
    | bad => rw [bind_bad e] at q1; exact q1.elim
    | ok σ2 g2 =>
      rw [bind_ok e] at q1
      exact fun A' S' H' σ' p o r w => q1 A' S' H' σ' p.a p.s (s1.tg (tk.ow _ _ _ _ _ e).2 p o r w)⟩
end
end NS
namespace NS
open PySem PySem.Spec PyProof.Rows L2
section
variable {X : Cx} {E : XK} {pos : Pos} {m : Bool} {e0 : En}

def forM (fg : D → DS → M DS) (b : DS → M Fl) : List D → DS → M Fl
  | [], σ => M.pure (.nx σ)
  | d :: ds, σ => M.bind (fg d σ) fun σ1 => M.bind (b σ1) fun fl => match fl with
    | .nx σ' => forM fg b ds σ'
    | .ct σ' => forM fg b ds σ'
    | .bk σ' => M.pure (.nx σ')
    | .rt d => M.pure (.rt d)
def sFor (fi : DS → M (List D)) (fg : D → DS → M DS) (b : DS → M Fl) : DS → M Fl := fun σ => M.bind (fi σ) fun ds => forM fg b ds σ
theorem ds_for {tg iter : Expr} {body : List Stmt} {fi : DS → M (List D)} {fg : D → DS → M DS} {b : DS → M Fl} {vs : List Nat} (hp : PassesOwn (model X.prog X.w) X.A X.env X.xe) (hi : DI X E tg iter fi) (hg : DG X E vs tg fg) (tk : TgOk vs fg) (hb : DSs X E m e0 body b)
    (hc : X.calm = true := by rfl) (hs : ∀ x, foldedSetIterable iter X.env x = pure x := by intro _; rfl) : DS1 X E m e0 (.For tg iter body [] pos) (sFor fi fg b) :=
  PS.impD (ps_for hp hc hi hg hb hs) fun Z σ H ⟨A, S, g, σd, s, q⟩ => ⟨A, S, g, σd, s.ok, s.rep, (KS.bindI s.post q).imp fun J H1 ⟨A1, S1, g1, ds, p1, o1, it, q1⟩ => by
    refine ⟨fun i mm σ2 H2 => mm = ds.length - i ∧ i ≤ ds.length ∧ ∃ A2 S2 g2 σd2, Stt X.K e0 A2 S2 g2 σd2 σ2 H2 ∧ Same S1 S2 ∧ A1 <+: A2 ∧ KS (Cx.sur X E) m e0 A2 S2 (forM fg b (ds.drop i) σd2 g2) Z, ⟨_, rfl, Nat.zero_le _, A1, S1, g1, σd, s.post' p1 o1, Same.refl _, List.prefix_refl _, by rw [List.drop_zero]; exact q1⟩, ?_⟩
    rintro i mm σ2 H2 ⟨rfl, hi, A2, S2, g2, σd2, s2, sm, pf, q2⟩
    by_cases hlt : i < ds.length
    · refine .inr ⟨it.go i H2 hlt (sm.trans s2.ok.ext), fun σ3 H3 => i + 1 ≤ ds.length ∧ ∃ A3 S3 g3 σd3, Stt X.K e0 A3 S3 g3 σd3 σ3 H3 ∧ Same S1 S3 ∧ A1 <+: A3 ∧ KS (Cx.sur X E) m e0 A3 S3 (forM fg b (ds.drop (i + 1)) σd3 g3) Z, fun σ3 H3 h3 => ⟨ds.length - (i + 1), by omega, rfl, h3⟩, fun x H3 y => ?_⟩
      obtain ⟨d, ed, yy⟩ := it.yld i H2 x H3 hlt (sm.trans s2.ok.ext) y
      have edrop : ds.drop i = d :: ds.drop (i + 1) := by
        obtain ⟨hl2, e2⟩ := List.getElem?_eq_some_iff.mp ed
        rw [List.drop_eq_getElem_cons hl2, e2]
      rw [edrop] at q2
      obtain ⟨S3, PX, oX, rX⟩ : ∃ S3, Post A2 S2 H2 A2 S3 H3 ∧ Ok X.K A2 S3 H3 g2 ∧ Rep X.K A2 S3 x d := yld_rep s2.ok pf sm yy
      have s3 := s2.post' PX oX
      refine ⟨A2, S3, g2, σd2, d, oX, s3.rep, rX, ?_⟩
      have q3 : KS (Cx.sur X E) m e0 A2 S2 (M.bind (fg d σd2) (fun σ1 => M.bind (b σ1) fun fl => match fl with
        | .nx σ' => forM fg b (ds.drop (i + 1)) σ'
        | .ct σ' => forM fg b (ds.drop (i + 1)) σ'
        | .bk σ' => M.pure (.nx σ')
        | .rt d => M.pure (.rt d)) g2) Z := q2
      cases e1 : fg d σd2 g2 with
      | err z g' => exact (tk.ne _ _ _ _ _ e1).elim
      | bad => rw [bind_bad e1] at q3; exact q3.elim
      | ok σd3 g3 =>
        rw [bind_ok e1] at q3
        intro A4 S4 H4 σ4 P4 o4 r4 w4
        have s4 := s3.tg (tk.ow _ _ _ _ _ e1).2 P4 o4 r4 w4
        have sm4 : Same S1 S4 := (sm.trans PX.s).trans P4.s
        have pf4 : A1 <+: A4 := (pf.trans PX.a).trans P4.a
        refine ⟨A4, S4, g3, σd3, s4, ?_⟩
        cases e2 : b σd3 g3 with
        | err z g' => rw [bind_err e2] at q3; exact q3
        | bad => rw [bind_bad e2] at q3; exact q3.elim
        | ok fl g4 =>
          rw [bind_ok e2] at q3
          have gi := (tk.ow _ _ _ _ _ e1).1
          cases fl with
          | nx σ5 => exact fun A5 S5 H5 σ6 a b s5 => ⟨hlt, A5, S5, g4, σ5, s5, sm4.trans b, pf4.trans a, q3.floor ((PX.a.trans P4.a).trans a) ((PX.s.trans P4.s).trans b)⟩
          | ct σ5 => exact fun A5 S5 H5 σ6 a b s5 => ⟨hlt, A5, S5, g4, σ5, s5, sm4.trans b, pf4.trans a, q3.floor ((PX.a.trans P4.a).trans a) ((PX.s.trans P4.s).trans b)⟩
          | bk σ5 => exact fun A5 S5 H5 σ6 a b s5 => q3 A5 S5 H5 σ6 ((PX.a.trans P4.a).trans a) ((PX.s.trans P4.s).trans b) s5
          | rt dd => exact q3
    · have ei : i = ds.length := by omega
      subst ei
      refine .inl ⟨it.stop _ H2 (Nat.le_refl _) (sm.trans s2.ok.ext), ?_⟩
      rw [List.drop_length] at q2
      exact q2 A2 S2 H2 σ2 (List.prefix_refl _) (Same.refl _) s2⟩

theorem Stt.write {K : PySem.W.Frag} {A : List GAdr} {S H : Hp} {g : G} {σd : DS} {σ : L2.St} (s : Stt K e0 A S g σd σ H) {i : Nat} {d d' : D} {p : Addr} {o : HO} (e : σd[i]? = some (some (.ow d))) (es : σ[i]? = some (some (.ref p))) (r : Top K A S (upd H p o) p d') :
    Stt K e0 A S g (σd.set i (some (.ow d'))) σ (upd H p o) := by
  obtain ⟨q, e1, q1, q2, q3⟩ := s.rep.ow e
  rw [es] at e1; cases e1
  have hp := s.own i d p e es
  refine ⟨s.ok.writeO q1 q2, s.rep.write e es r, s.post.writeNew hp, fun j d2 p2 e1 e2 => ?_⟩
  rcases set_get e1 with ⟨rfl, z, _⟩ | ⟨ne, e1⟩
  · exact s.own i d p2 e e2
  · exact s.own j d2 p2 e1 e2
def ownL : Option (Option DV) → Option (List D)
  | some (some (.ow (.lst ds))) => some ds
  | _ => none
theorem ownL_eq {o : Option (Option DV)} {ds : List D} (h : ownL o = some ds) : o = some (some (.ow (.lst ds))) := by
  unfold ownL at h
  split at h
  · cases h; rfl
  · cases h
def sOwn (i : Nat) (k : List D → D → Option (List D)) (fe : DS → M D) : DS → M Fl := fun σ => match ownL σ[i]? with
  | some ds => M.bind (fe σ) fun d => match k ds d with
    | some ds' => M.pure (.nx (σ.set i (some (.ow (.lst ds')))))
    | none => M.bad
  | none => M.bad
theorem own_read {U : Sur} {i : Nat} {k : List D → D → Option (List D)} {fe : DS → M D} {Z : Ends} {A : List GAdr} {S H : Hp} {g : G} {σd : DS} {σ : L2.St} (s : Stt U.K e0 A S g σd σ H) (q : KS U m e0 A S (sOwn i k fe σd g) Z) :
    ∃ p vs ds, σ[i]? = some (some (.ref p)) ∧ H p = some (.lst vs) ∧ KE U false A S H (fe σd g) fun v H1 => ∃ A1 S1 g1 d ds', Post A S H A1 S1 H1 ∧ Ok U.K A1 S1 H1 g1 ∧ Rep U.K A1 S1 v d ∧ H1 p = some (.lst vs) ∧ RepL U.K A1 S1 vs ds ∧ k ds d = some ds' ∧
      S1 p = none ∧ ∀ vs', RepL U.K A1 S1 vs' ds' → Z.nx σ (upd H1 p (.lst vs')) := by
  cases eo : ownL σd[i]? with
  | none =>
    have q' : KS U m e0 A S ((match ownL σd[i]? with | some ds => M.bind (fe σd) (fun d => match k ds d with | some ds' => M.pure (.nx (σd.set i (some (.ow (.lst ds'))))) | none => M.bad) | none => M.bad : M Fl) g) Z := q
    rw [eo] at q'; exact q'.elim
  | some ds =>
    have q' : KS U m e0 A S ((match ownL σd[i]? with | some ds => M.bind (fe σd) (fun d => match k ds d with | some ds' => M.pure (.nx (σd.set i (some (.ow (.lst ds'))))) | none => M.bad) | none => M.bad : M Fl) g) Z := q
    rw [eo] at q'
    have e := ownL_eq eo
    obtain ⟨p, e1, h1, h2, vs, h3, h4⟩ := s.rep.ow e
    refine ⟨p, vs, ds, e1, h3, (KS.bindE (m1 := false) s.post q').imp fun v H1 ⟨A1, S1, g1, d, p1, o1, r1, q1⟩ => ?_⟩
    have s1 := s.post' p1 o1
    have k1 : H1 p = some (.lst vs) := p1.keep p _ h3 h2
    have r2 : RepL U.K A1 S1 vs ds := h4.mono p1.a p1.s
    obtain ⟨p', e1', h1', _⟩ := s1.rep.ow e
    rw [e1] at e1'; cases e1'
    cases ek : k ds d with
    | none => rw [ek] at q1; exact q1.elim
    | some ds' =>
      rw [ek] at q1
      exact ⟨A1, S1, g1, d, ds', p1, o1, r1, k1, r2, ek, h1', fun vs' r' => q1 A1 S1 _ σ (List.prefix_refl _) (Same.refl _) (s1.write e e1 ⟨vs', upd_same, r'⟩)⟩
variable {e : Expr} {fe : DS → M D}
theorem tyV_lst {K : PySem.W.Frag} {H : Hp} {p : Addr} {vs : List V} (h : H p = some (.lst vs)) : tyV K "list" (.ref p) H := .inl ⟨rfl, _, .inl (.inl h)⟩
def kApp (ds : List D) (d : D) : Option (List D) := if fit ds.length = true then some (ds ++ [d]) else none
theorem ds_append (i : Nat) {x : Str} {px apos cpos : Pos} (he : DE X E false e fe) (hN : X.N[i]? = some x := by rfl) (hv : Vis X.env.scope x := by first | exact Or.inl rfl | exact Or.inr (Or.inl rfl) | exact Or.inr (Or.inr rfl)) (hd : (x == ("__debug__" : Str)) = false := by decide)
    (hcd : (x == ("__classdict__" : Str)) = false := by decide) (hbase : attributeBase (.Name x px) "append" X.env (eval (.Name x px) X.env) = eval (.Name x px) X.env := by rfl)
    (hfew : ((backTo cpos (starEach [e] X.env)).all (fun x => !x.1) && (backToKw cpos (keywordEach [] X.env)).all (fun x => x.1.isSome)
      && decide (([e] : List Expr).length + ([] : List Keyword).length + (if ([] : List Keyword).isEmpty then 0 else 1) < 30)) = true := by rfl)
    (hline : (apos.endLine == cpos.line) = true := by rfl) (hs : starEach [e] X.env = (false, eval e X.env) :: starEach [] X.env := by rfl) (hplain : (backTo cpos (starEach [] X.env)).any (·.1) = false := by rfl)
    (hsw : swapsWith (.Call (.Attribute (.Name x px) "append" apos) [e] [] cpos) none pos.line X.env = pure false := by rfl) :
    DS1 X E m e0 (.Expr (.Call (.Attribute (.Name x px) "append" apos) [e] [] cpos) pos) (sOwn i kApp fe) :=
  PS.impD (ps_expr (pe_bm PySem.F.plainAttrs_list PySem.F.slot_list_append PySem.F.type_list_append mt_append (pe_var hN hv hd hcd) (pa_cons he pa_nil hs) hbase hfew hline hs hplain) hsw) fun Z σ H ⟨A, S, g, σd, s, q⟩ => by
    obtain ⟨p, vs, ds, e1, h1, q'⟩ := own_read s q
    refine ⟨.ref p, e1, tyV_lst h1, A, S, g, σd, s.ok, s.rep, q'.imp fun v H1 ⟨A1, S1, g1, d, ds', p1, o1, r1, k1, r2, ek, sp, z⟩ => ?_⟩
    unfold kApp at ek
    by_cases hf : fit ds.length = true
    · rw [if_pos hf] at ek; cases ek
      exact ⟨p, vs, v, rfl, rfl, k1, by rw [r2.length]; exact fit_le hf, z _ (r2.append (.cons r1 .nil))⟩
    · rw [if_neg hf] at ek; cases ek
def kExt (ds : List D) (d : D) : Option (List D) := match d with
  | .lst es => if fit (ds.length + es.length) = true then some (ds ++ es) else none
  | _ => none
def sSetIx (j : Nat) (fe fi : DS → M D) : DS → M Fl := fun σ => M.bind (fe σ) fun d => match ownL σ[j]? with
  | some ds => M.bind (fi σ) fun i => match i with
    | .int k => (match ixN ds.length k with
      | some n => M.pure (.nx (σ.set j (some (.ow (.lst (ds.set n d))))))
      | none => M.bad)
    | _ => M.bad
  | none => M.bad
variable {ei : Expr} {fi : DS → M D}
theorem ds_setIx (j : Nat) {x : Str} {px tpos : Pos} (he : DE X E false e fe) (hi : DE X E false ei fi) (hN : X.N[j]? = some x := by rfl) (hv : Vis X.env.scope x := by first | exact Or.inl rfl | exact Or.inr (Or.inl rfl) | exact Or.inr (Or.inr rfl)) (hd : (x == ("__debug__" : Str)) = false := by decide)
    (hcd : (x == ("__classdict__" : Str)) = false := by decide)
    (ha : ∀ v, assign (.Subscript (.Name x px) ei tpos) X.env v = (do
      let ov ← holding [v] (eval (.Name x px) X.env)
      let iv ← holding [v, ov] (eval ei X.env)
      standAt tpos
      holding [v, ov, iv] (setItem ov iv v)
      release [v, ov, iv] []) := by intro _; rfl)
    (hs : swapsWithSole [.Subscript (.Name x px) ei tpos] e pos.line X.env = pure false := by rfl) (hw : swappedStores [.Subscript (.Name x px) ei tpos] e X.env = pure none := by rfl)
    (h1 : (assignEach [.Subscript (.Name x px) ei tpos] X.env).map (·.2) = [assign (.Subscript (.Name x px) ei tpos) X.env] := by rfl) :
    DS1 X E m e0 (.Assign [.Subscript (.Name x px) ei tpos] e pos) (sSetIx j fe fi) :=
  PS.impD (ps_asg he (pg_sub (pe_var hN hv hd hcd) hi set_list ha) hs hw h1) fun Z σ H ⟨A, S, g, σd, s, q⟩ => ⟨A, S, g, σd, s.ok, s.rep, (KS.bindE (m1 := false) s.post q).imp fun v H1 ⟨A1, S1, g1, d, p1, o1, r1, q1⟩ => by
    have s1 := s.post' p1 o1
    cases eo : ownL σd[j]? with
    | none => rw [eo] at q1; exact q1.elim
    | some ds =>
      rw [eo] at q1
      have e1 := ownL_eq eo
      obtain ⟨p, e2, h1, h2, vs, h3, h4⟩ := s1.rep.ow e1
      refine ⟨.ref p, e2, A1, S1, g1, σd, o1, s1.rep, (KS.bindE (m1 := false) s1.post q1).imp fun w H2 ⟨A2, S2, g2, d2, p2, o2, r2, q2⟩ => ?_⟩
      have s2 := s1.post' p2 o2
      have k1 : H2 p = some (.lst vs) := p2.keep p _ h3 h2
      have rr : RepL X.K A2 S2 vs ds := h4.mono p2.a p2.s
      cases r2 with
      | int k =>
        cases en : ixN ds.length k with
        | none =>
          have q2' : KS (Cx.sur X E) m e0 A2 S2 ((match ixN ds.length k with | some n => M.pure (.nx (σd.set j (some (.ow (.lst (ds.set n d)))))) | none => M.bad : M Fl) g2) Z := q2
          rw [en] at q2'; exact q2'.elim
        | some n =>
          have q2' : KS (Cx.sur X E) m e0 A2 S2 ((match ixN ds.length k with | some n => M.pure (.nx (σd.set j (some (.ow (.lst (ds.set n d)))))) | none => M.bad : M Fl) g2) Z := q2
          rw [en] at q2'
          exact ⟨p, vs, k, n, rfl, rfl, k1, by rw [rr.length]; exact en, q2' A2 S2 _ σ (List.prefix_refl _) (Same.refl _) (s2.write e1 e2 ⟨_, upd_same, rr.set (Rep.mono p2.a p2.s r1) n⟩)⟩
      | _ => exact q2.elim⟩

def sAug (k : D → D → M D) (i : Nat) (fe : DS → M D) : DS → M Fl := fun σ => M.bind (eVar i σ) fun x => M.bind (fe σ) fun y => M.bind (k x y) fun z => M.pure (.nx (σ.set i (some (.sh z))))
theorem eVar_get {U : Sur} {i : Nat} {A : List GAdr} {S H : Hp} {σ : L2.St} {σd : DS} {g : G} {m2 : Bool} {k : D → M Fl} {Z : Ends} (r : SRep U.K A S H σ σd) (q : KS U m2 e0 A S (M.bind (eVar i σd) k g) Z) :
    ∃ d v, σd[i]? = some (some (.sh d)) ∧ σ[i]? = some (some v) ∧ Rep U.K A S v d ∧ KS U m2 e0 A S (k d g) Z := by
  unfold eVar at q
  match e : σd[i]? with
  | some (some (.sh d)) =>
    rw [e] at q
    obtain ⟨v, e1, e2⟩ := r.sh e
    exact ⟨d, v, rfl, e1, e2, q⟩
  | some (some (.ow d)) => rw [e] at q; exact q.elim
  | some none => rw [e] at q; exact q.elim
  | none => rw [e] at q; exact q.elim
inductive RepMs (K : PySem.W.Frag) (H : Hp) (A' : List GAdr) (S' H' : Hp) : List V → List D → List Bool → Prop where
  | nil : RepMs K H A' S' H' [] [] []
  | cons {v : V} {d : D} {b : Bool} {vs : List V} {ds : List D} {bs : List Bool} : RepM K H A' S' H' v d b → RepMs K H A' S' H' vs ds bs → (b = true → ∀ (j : Nat) w, vs[j]? = some w → bs[j]? = some true → w ≠ v) → RepMs K H A' S' H' (v :: vs) (d :: ds) (b :: bs)
theorem RepM.post {K : PySem.W.Frag} {H : Hp} {A1 A2 : List GAdr} {S1 S2 H1 H2 : Hp} {v : V} {d : D} {b : Bool} (p : Post A1 S1 H1 A2 S2 H2) (r : RepM K H A1 S1 H1 v d b) : RepM K H A2 S2 H2 v d b := by
  cases b with
  | false => exact Rep.mono p.a p.s r
  | true =>
    obtain ⟨q, e, h0, h1, h2, h3⟩ := r
    have := SlotOk.post (v := some (.ref q)) (x := .ow d) p ⟨h1, h2, h3⟩
    exact ⟨q, e, h0, this⟩
theorem RepMs.back {K : PySem.W.Frag} {A A1 : List GAdr} {S S1 H H1 : Hp} {A' : List GAdr} {S' H' : Hp} (p : Post A S H A1 S1 H1) : ∀ {vs : List V} {ds : List D} {bs : List Bool}, RepMs K H1 A' S' H' vs ds bs → RepMs K H A' S' H' vs ds bs
  | _, _, _, .nil => .nil
  | _, _, _, .cons h r n => .cons (h.back p) (RepMs.back p r) n
theorem RepMs.own {K : PySem.W.Frag} {H : Hp} {A' : List GAdr} {S' H' : Hp} : ∀ {vs : List V} {ds : List D} {bs : List Bool} {j : Nat} {w : V}, RepMs K H A' S' H' vs ds bs → vs[j]? = some w → bs[j]? = some true → ∃ p, w = .ref p ∧ H p = none
  | _, _, _, 0, w, .cons h r n, e1, e2 => by
    simp at e1 e2; subst e1; subst e2
    obtain ⟨p, e, h0, _⟩ := h
    exact ⟨p, e, h0⟩
  | _, _, _, j + 1, w, .cons h r n, e1, e2 => RepMs.own (j := j) r (by simpa using e1) (by simpa using e2)
def KMs (U : Sur) (bs : List Bool) (A : List GAdr) (S H : Hp) (r : Res (List D)) (Q : List V → Hp → Prop) : Prop :=
  match r with
  | .ok ds g' => ∀ A' S' H' vs, Post A S H A' S' H' → Ok U.K A' S' H' g' → RepMs U.K H A' S' H' vs ds bs → Q vs H'
  | .err x g' => ∀ A' S' H' c dd, Post A S H A' S' H' → Ok U.K A' S' H' g' → XRep U.mg U.K A' S' H' x c dd → U.E c dd H'
  | .bad => False
def tMs (U : Sur) (bs : List Bool) (f : DS → M (List D)) : TA := fun σ H Q => ∃ A S g σd, Ok U.K A S H g ∧ SRep U.K A S H σ σd ∧ KMs U bs A S H (f σd g) Q
def DMs (X : Cx) (E : XK) (es : List Expr) (bs : List Bool) (f : DS → M (List D)) : Prop := PA X es (tMs (Cx.sur X E) bs f)
theorem dms_nil : DMs X E [] [] lNil := PA.impD pa_nil fun σ H Q ⟨A, S, g, σd, o, r, q⟩ => q A S H [] (Post.refl _ _ _) o .nil
theorem KMs.imp {U : Sur} {bs : List Bool} {A : List GAdr} {S H : Hp} {r : Res (List D)} {Q Q' : List V → Hp → Prop} (h : KMs U bs A S H r Q) (i : ∀ v H', Q v H' → Q' v H') : KMs U bs A S H r Q' := by
  cases r with
  | ok d g => exact fun A' S' H' vs q o r => i _ _ (h A' S' H' vs q o r)
  | err x g => exact h
  | bad => exact h
variable {es : List Expr} {bs : List Bool} {fl : DS → M (List D)} {b : Bool}
theorem dms_cons (ha : DE X E b e fe) (hr : DMs X E es bs fl) (hs : starEach (e :: es) X.env = (false, eval e X.env) :: starEach es X.env := by rfl) : DMs X E (e :: es) (b :: bs) (lCons fe fl) :=
  PA.impD (pa_cons ha hr hs) fun σ H Q ⟨A, S, g, σd, o, r, q⟩ => ⟨A, S, g, σd, o, r, by
    have q' : KMs (Cx.sur X E) (b :: bs) A S H (M.bind (fe σd) (fun x => M.bind (fl σd) fun xs => M.pure (x :: xs)) g) Q := q
    cases e1 : fe σd g with
    | err z g' => rw [bind_err e1] at q'; exact q'
    | bad => rw [bind_bad e1] at q'; exact q'
    | ok d g1 =>
      rw [bind_ok e1] at q'
      intro A1 S1 H1 v p1 o1 r1
      refine ⟨A1, S1, g1, σd, o1, r.post p1, ?_⟩
      cases e2 : fl σd g1 with
      | err z g' => rw [bind_err e2] at q'; exact fun A' S' H' c dd p o x => q' A' S' H' c dd (p1.trans p) o x
      | bad => rw [bind_bad e2] at q'; exact q'
      | ok ds g2 =>
        rw [bind_ok e2] at q'
        intro A2 S2 H2 vs p2 o2 r2
        refine q' A2 S2 H2 (v :: vs) (p1.trans p2) o2 (.cons (RepM.post p2 r1) (r2.back p1) fun hb j w ej eb => ?_)
        subst hb
        obtain ⟨p, rfl, hp⟩ := r2.own ej eb
        obtain ⟨p', rfl, h0, h1, h2, h3⟩ := r1
        rintro ⟨⟩
        obtain ⟨u, hu⟩ := h3.some
        rw [hp] at hu; cases hu⟩
def setMs : List Nat → List Bool → List D → DS → DS
  | i :: is, b :: bs, d :: ds, σ => setMs is bs ds (σ.set i (some (mkV b d)))
  | _, _, _, σ => σ
theorem Stt.setMs {K : PySem.W.Frag} {A : List GAdr} {S H : Hp} {g : G} {A1 : List GAdr} {S1 H1 : Hp} {g1 : G} {σd : DS} {σ : L2.St} (s : Stt K e0 A S g σd σ H) (p : Post A S H A1 S1 H1) (o : Ok K A1 S1 H1 g1) {vs : List V} {ds : List D} (r : RepMs K H A1 S1 H1 vs ds bs) (is : List Nat) :
    Stt K e0 A1 S1 g1 (NS.setMs is bs ds σd) ((is.zip vs).foldl (fun s p => s.set p.1 (some p.2)) σ) H1 := by
  -- no own slot holds one of the new own values
  have gen : ∀ {vs : List V} {ds : List D} {bs : List Bool} (is : List Nat) (σd : DS) (σ : L2.St), Stt K e0 A1 S1 g1 σd σ H1 → RepMs K H A1 S1 H1 vs ds bs →
      (∀ (j : Nat) (e : D) (k : Nat) (q : Addr), σd[j]? = some (some (.ow e)) → σ[j]? = some (some (.ref q)) → vs[k]? = some (.ref q) → bs[k]? = some true → False) →
      Stt K e0 A1 S1 g1 (NS.setMs is bs ds σd) ((is.zip vs).foldl (fun s p => s.set p.1 (some p.2)) σ) H1 := by
    intro vs
    induction vs with
    | nil =>
      intro ds bs is σd σ s1 r _
      cases r
      cases is <;> exact s1
    | cons v vs ih =>
      intro ds bs is σd σ s1 r no
      cases r with
      | @cons _ d b _ ds bs h r n =>
        cases is with
        | nil => exact s1
        | cons i is =>
          show Stt K e0 A1 S1 g1 (NS.setMs is bs ds (σd.set i (some (mkV b d)))) ((is.zip vs).foldl (fun s p => s.set p.1 (some p.2)) (σ.set i (some v))) H1
          have s2 : Stt K e0 A1 S1 g1 (σd.set i (some (mkV b d))) (σ.set i (some v)) H1 := by
            cases b with
            | false => exact s1.setSh h i
            | true =>
              obtain ⟨q, rfl, h0, h1, h2, h3⟩ := h
              refine ⟨o, s1.rep.setOw h1 h2 h3 i fun j e ne ej es => no j e 0 q ej es rfl rfl, s1.post, fun j d' p' e1 e2 => ?_⟩
              rcases set_get e1 with ⟨rfl, z, hl⟩ | ⟨ne, e1⟩
              · rw [List.getElem?_set_self (by rw [s1.rep.len]; exact hl)] at e2
                cases e2
                exact none_back s.post.dom h0
              · rw [List.getElem?_set_ne ne] at e2; exact s1.own j d' p' e1 e2
          refine ih is _ _ s2 r fun j e k q e1 e2 e3 e4 => ?_
          rcases set_get e1 with ⟨rfl, z, hl⟩ | ⟨ne, e1⟩
          · rw [List.getElem?_set_self (by rw [s1.rep.len]; exact hl)] at e2
            cases e2
            cases b with
            | false => cases z
            | true => exact n rfl k _ e3 e4 rfl
          · rw [List.getElem?_set_ne ne] at e2
            exact no j e (k + 1) q e1 e2 (by simpa using e3) (by simpa using e4)
  refine gen is σd σ (s.post' p o) r fun j e k q e1 e2 e3 e4 => ?_
  obtain ⟨q', e5, _, _, h4⟩ := s.rep.ow e1
  rw [e2] at e5; cases e5
  obtain ⟨u, hu⟩ := h4.some
  obtain ⟨q2, z, hq⟩ := r.own e3 e4
  cases z
  rw [hq] at hu; cases hu
def sPar (is : List Nat) (bs : List Bool) (fl : DS → M (List D)) : DS → M Fl := fun σ => M.bind (fl σ) fun ds => if ds.length = is.length then M.pure (.nx (setMs is bs ds σ)) else M.bad
theorem RepMs.length {K : PySem.W.Frag} {H : Hp} {A' : List GAdr} {S' H' : Hp} : ∀ {vs : List V} {ds : List D} {bs : List Bool}, RepMs K H A' S' H' vs ds bs → vs.length = ds.length ∧ ds.length = bs.length
  | _, _, _, .nil => ⟨rfl, rfl⟩
  | _, _, _, .cons _ r _ => ⟨congrArg (· + 1) r.length.1, congrArg (· + 1) r.length.2⟩
theorem par_read {U : Sur} {is : List Nat} {Z : Ends} {A : List GAdr} {S H : Hp} {g : G} {σd : DS} {σ : L2.St} (s : Stt U.K e0 A S g σd σ H) (q : KS U m e0 A S (sPar is bs fl σd g) Z) :
    KMs U bs A S H (fl σd g) fun vs H1 => vs.length = is.length ∧ Z.nx ((is.zip vs).foldl (fun s p => s.set p.1 (some p.2)) σ) H1 ∧ (∀ p T, H1 p = none → Z.nx ((is.zip vs).foldl (fun s p => s.set p.1 (some p.2)) σ) (upd H1 p (.tup T))) := by
  have q' : KS U m e0 A S (M.bind (fl σd) (fun ds => if ds.length = is.length then M.pure (.nx (setMs is bs ds σd)) else M.bad) g) Z := q
  cases e1 : fl σd g with
  | err z g' => rw [bind_err e1] at q'; exact fun A' S' H' c dd p o r => q' A' S' H' c dd (s.post.trans p) o r
  | bad => rw [bind_bad e1] at q'; exact q'
  | ok ds g1 =>
    rw [bind_ok e1] at q'
    intro A1 S1 H1 vs p1 o1 r1
    by_cases hl : ds.length = is.length
    · rw [if_pos hl] at q'
      have s1 := s.setMs p1 o1 r1 is
      exact ⟨by rw [r1.length.1, hl], q' A1 S1 H1 _ p1.a p1.s s1, fun p T hp => q' A1 S1 _ _ p1.a p1.s (s1.post' (Post.layO hp) (o1.layO hp))⟩
    · rw [if_neg hl] at q'; exact q'.elim
theorem ds_par2 {i j : Nat} {x y : Str} {a b : Expr} {b1 b2 : Bool} {px py pt : Pos} {kt k2 pt2} (hN : X.N.Nodup) (ha : DMs X E [a, b] [b1, b2] fl) (hij : i ≠ j := by decide) (hi : X.N[i]? = some x := by rfl) (hj : X.N[j]? = some y := by rfl)
    (hx : X.env.scope.names.lookup x = some .local := by rfl) (hy : X.env.scope.names.lookup y = some .local := by rfl)
    (hw : swappedStores [.Tuple [.Name x px, .Name y py] kt pt] (.Tuple [a, b] k2 pt2) X.env = pure (some [x, y]) := by rfl)
    (hs : swapsWithSole [.Tuple [.Name x px, .Name y py] kt pt] (.Tuple [a, b] k2 pt2) pos.line X.env = pure false := by rfl) (hc : X.calm = true := by rfl) :
    DS1 X E m e0 (.Assign [.Tuple [.Name x px, .Name y py] kt pt] (.Tuple [a, b] k2 pt2) pos) (sPar [i, j] [b1, b2] fl) :=
  PS.impD (ps_par hc hN hi hj hij hx hy ha hw hs) fun Z σ H ⟨A, S, g, σd, s, q⟩ => ⟨A, S, g, σd, s.ok, s.rep, (par_read s q).imp fun vs H1 ⟨hl, z, _⟩ => by
    match vs, hl, z with
    | [v, w], _, z => exact ⟨v, w, rfl, z⟩⟩
theorem ds_par3 {i j l : Nat} {x y z : Str} {a b c : Expr} {b1 b2 b3 : Bool} {px py pz pt : Pos} {kt k2 pt2} (hN : X.N.Nodup) (ha : DMs X E [a, b, c] [b1, b2, b3] fl) (hij : i ≠ j := by decide) (hil : i ≠ l := by decide) (hjl : j ≠ l := by decide) (hi : X.N[i]? = some x := by rfl) (hj : X.N[j]? = some y := by rfl) (hl : X.N[l]? = some z := by rfl)
    (hx : X.env.scope.names.lookup x = some .local := by rfl) (hy : X.env.scope.names.lookup y = some .local := by rfl) (hz : X.env.scope.names.lookup z = some .local := by rfl)
    (hw : swappedStores [.Tuple [.Name x px, .Name y py, .Name z pz] kt pt] (.Tuple [a, b, c] k2 pt2) X.env = pure (some [x, y, z]) := by rfl)
    (hs : swapsWithSole [.Tuple [.Name x px, .Name y py, .Name z pz] kt pt] (.Tuple [a, b, c] k2 pt2) pos.line X.env = pure false := by rfl) (hc : X.calm = true := by rfl) :
    DS1 X E m e0 (.Assign [.Tuple [.Name x px, .Name y py, .Name z pz] kt pt] (.Tuple [a, b, c] k2 pt2) pos) (sPar [i, j, l] [b1, b2, b3] fl) :=
  PS.impD (ps_par3 hc hN hi hj hl hij hil hjl hx hy hz ha hw hs) fun Z σ H ⟨A, S, g, σd, s, q⟩ => ⟨A, S, g, σd, s.ok, s.rep, (par_read s q).imp fun vs H1 ⟨hl, z, _⟩ => by
    match vs, hl, z with
    | [v, w, u], _, z => exact ⟨v, w, u, rfl, z⟩⟩
theorem ds_parT {is : List Nat} {tg ev : List Expr} {kt k2 : Nat} {pt pt2 : Pos} (ha : DMs X E ev bs fl) (h : PGs X tg (gNames is)) (hln : fit is.length = true := by rfl) (hc : X.calm = true := by rfl)
    (hn : (assignEach tg X.env).length = is.length := by rfl) (hst : (assignEach tg X.env).findIdx? (·.1) = none := by rfl)
    (hs : swapsWithSole [.Tuple tg kt pt] (.Tuple ev k2 pt2) pos.line X.env = pure false := by rfl) (hw : swappedStores [.Tuple tg kt pt] (.Tuple ev k2 pt2) X.env = pure none := by rfl)
    (h1 : (assignEach [.Tuple tg kt pt] X.env).map (·.2) = [assign (.Tuple tg kt pt) X.env] := by rfl) :
    DS1 X E m e0 (.Assign [.Tuple tg kt pt] (.Tuple ev k2 pt2) pos) (sPar is bs fl) :=
  PS.impD (ps_asg (pe_tup ha) (pg_tup hc h hn hst) hs hw h1) fun Z σ H ⟨A, S, g, σd, s, q⟩ => ⟨A, S, g, σd, s.ok, s.rep, (par_read s q).imp fun vs H1 ⟨hl, _, z⟩ => by
    refine ⟨by rw [hl]; exact Nat.le_of_lt (fit_le hln), fun p hp => ⟨p, vs, rfl, .inl (.inl upd_same), by rw [hl], by rw [hl], z p vs hp⟩⟩⟩
end
end NS
namespace NS
open PySem PySem.Spec PyProof.Rows L2

def startD (n : Nat) (ds : List D) : DS := ds.map (fun d => some (.sh d)) ++ List.replicate (n - ds.length) none
def runD (n : Nat) (m : Bool) (b : DS → M Fl) (ds : List D) : M D := M.bind (b (startD n ds)) fun fl => match fl with
  | .rt d => M.pure d
  | .nx _ => if m = true then M.bad else M.pure .non
  | _ => M.bad
theorem start_rep {K : PySem.W.Frag} {A : List GAdr} {S H : Hp} {N : List Str} {vs : List V} {ds : List D} (r : RepL K A S vs ds) : SRep K A S H (L2.start N vs) (startD N.length ds) := by
  have hl := r.length
  refine ⟨by simp [L2.start, startD, hl], fun i x e => ?_, fun i j d e p ne ea eb sa sb => ?_⟩
  · by_cases hi : i < ds.length
    · have e' : (ds.map (fun d => some (DV.sh d)))[i]? = some (some x) := by
        unfold startD at e
        rw [List.getElem?_append_left (by simpa using hi)] at e
        exact e
      rw [List.getElem?_map] at e'
      cases ed : ds[i]? with
      | none => rw [ed] at e'; cases e'
      | some d =>
        rw [ed] at e'
        cases e'
        obtain ⟨v, e1, e2⟩ := r.getD ed
        refine ⟨some v, ?_, e2⟩
        unfold L2.start
        rw [List.getElem?_append_left (by simp [hl]; exact hi), List.getElem?_map, e1]
        rfl
    · unfold startD at e
      rw [List.getElem?_append_right (by simpa using Nat.le_of_not_lt hi)] at e
      rw [List.getElem?_replicate] at e
      split at e <;> cases e
  · exfalso
    by_cases hi : i < ds.length
    · unfold startD at ea
      rw [List.getElem?_append_left (by simpa using hi), List.getElem?_map] at ea
      cases ed : ds[i]? with
      | none => rw [ed] at ea; cases ea
      | some d => rw [ed] at ea; cases ea
    · unfold startD at ea
      rw [List.getElem?_append_right (by simpa using Nat.le_of_not_lt hi), List.getElem?_replicate] at ea
      split at ea <;> cases ea
theorem start_noown {n : Nat} {ds : List D} {i : Nat} {d : D} (ea : (startD n ds)[i]? = some (some (.ow d))) : False := by
  by_cases hi : i < ds.length
  · unfold startD at ea
    rw [List.getElem?_append_left (by simpa using hi), List.getElem?_map] at ea
    cases ed : ds[i]? with
    | none => rw [ed] at ea; cases ea
    | some d => rw [ed] at ea; cases ea
  · unfold startD at ea
    rw [List.getElem?_append_right (by simpa using Nat.le_of_not_lt hi), List.getElem?_replicate] at ea
    split at ea <;> cases ea
abbrev XC (P : Program) (w : World) : CXT := L2.CX P w
theorem run_read {U : Sur} {m : Bool} {N : List Str} {b : DS → M Fl} {vs : List V} {ds : List D} {A : List GAdr} {S H : Hp} {g : G} {Q : VK} (o : Ok U.K A S H g) (r : RepL U.K A S vs ds) (q : KE U m A S H (runD N.length m b ds g) Q) :
    tS U m ⟨A, S, H⟩ b { nx := fun _ H' => Q .non H', rt := Q } (L2.start N vs) H := by
  refine ⟨A, S, g, startD N.length ds, ⟨o, start_rep r, Post.refl _ _ _, fun i d p e => (start_noown e).elim⟩, ?_⟩
  unfold runD at q
  cases e : b (startD N.length ds) g with
  | err z g' => rw [bind_err e] at q; exact q
  | bad => rw [bind_bad e] at q; exact q
  | ok fl g1 =>
    rw [bind_ok e] at q
    cases fl with
    | nx σ =>
      intro A' S' H' σ' _ _ s
      cases m with
      | true => exact q.elim
      | false => exact q A' S' H' .non s.post s.ok .non
    | rt d => exact fun A' S' H' v o' p rr => q A' S' H' v p o' rr
    | bk σ => exact q.elim
    | ct σ => exact q.elim
section
variable {P : Program} {w : World} {K : PySem.W.Frag} {mg : Str → Option Value} {base : Heap}
abbrev XOf (P : Program) (w : World) (K : PySem.W.Frag) (mg : Str → Option Value) (base : Heap) (N : List Str) (qual : Str) (sc : Scope) (f : Addr) (cdv : Value) (A : Around) (outer : List Env) (s : Shared) (H : Hp) (E : XK) : Cx :=
  cxOf (XC P w) P w K mg base N qual sc f cdv A outer s H E
theorem ok_def {x qual : Str} {st : Stmt} {f : Addr} {fd : FuncData} {N ps : List Str} {k : Nat} {m : Bool} {b : DS → M Fl} (F : Fun K x qual st f fd) (Sc : FnScope N ps (defScope st))
    (hbody : ∀ (cdv : Value) (A : Around) (outer : List Env) (s : Shared) (H : Hp) (E : XK) (e0 : En), RoomG k (XOf P w K mg base N qual (defScope st) f cdv A outer s H E).A →
      Passes (XC P w) (XOf P w K mg base N qual (defScope st) f cdv A outer s H E) E → PassesOwn (model P w) (XOf P w K mg base N qual (defScope st) f cdv A outer s H E).A (XOf P w K mg base N qual (defScope st) f cdv A outer s H E).env (XOf P w K mg base N qual (defScope st) f cdv A outer s H E).xe →
      DSs (XOf P w K mg base N qual (defScope st) f cdv A outer s H E) E m e0 (defBody st) b) :
    FnD P w K mg base (XC P w) (k + 1) f fd ps m (runD N.length m b) := by
  refine fnG F Sc (fun vs H Q E h => h.1) (fun cdv A outer s H vs Q E hr h => ?_)
  obtain ⟨hl, A0, S, g, ds, o, r, q⟩ := h
  have tk : Takes (XOf P w K mg base N qual (defScope st) f cdv A outer s H E) (fun cls d _ H => E cls d H) := takes_of rfl rfl rfl rfl
  exact ⟨_, hbody cdv A outer s H E ⟨A0, S, H⟩ hr (passes_call tk fun _ _ _ _ h => h) PassesOwn.leaving, run_read o r q⟩
end
theorem passD {X : Cx} : Passes (XC X.prog X.w) X E0 := passL
end NS
namespace NS
open PySem PySem.Spec PyProof.Rows L2

mutual
def D.py : D → PyData
  | .non => .none | .bl b => .bool b | .int i => .int i | .str x => .str x
  | .tup xs => .tuple (D.pys xs) | .lst xs => .list (D.pys xs) | .slst xs => .list (D.pys xs)
  | .dT _ => .none | .dK _ => .none | .hdl _ => .none | .ftup xs => .tuple (D.pys xs) | .fT _ => .none | .exc0 _ => .none | .exc1 _ _ _ => .none
def D.pys : List D → List PyData
  | [] => []
  | x :: xs => D.py x :: D.pys xs
end
mutual
def D.pyOk : D → Bool
  | .non => true | .bl _ => true | .int _ => true | .str _ => true
  | .tup xs => D.pysOk xs | .lst xs => D.pysOk xs | .slst xs => D.pysOk xs
  | .dT _ => false | .dK _ => false | .hdl _ => false | .ftup xs => D.pysOk xs | .fT _ => false | .exc0 _ => false | .exc1 _ _ _ => false
def D.pysOk : List D → Bool
  | [] => true
  | x :: xs => D.pyOk x && D.pysOk xs
end
section
variable {K : PySem.W.Frag} {A : List GAdr} {S H : Hp}
mutual
theorem Rep.dp (e : Same S H) : ∀ {v : V} {d : D}, Rep K A S v d → D.pyOk d = true → Dp K H v (D.py d)
  | _, _, .non, _ => .non
  | _, _, .bl b, _ => .bl b
  | _, _, .int i, _ => .int i
  | _, _, .str x, _ => .str x
  | _, _, .tup h r, p => .tup (tq e h) (RepL.dp e r p)
  | _, _, .ftup h r, p => .tup (h.sq e) (RepL.dp e r p)
  | _, _, .lst h r, p => .lst (.inl (.inl (e _ _ h))) (RepL.dp e r p)
  | _, _, .slst h r, p => .lst (SqL.mono e h) (RepL.dp e r p)
  | _, _, .dT _ _, p => nomatch p
  | _, _, .dK _ _, p => nomatch p
  | _, _, .hdl _, p => nomatch p
  | _, _, .fT _ _, p => nomatch p
  | _, _, .exc0 _ _, p => nomatch p
  | _, _, .exc1 _ _ _ _, p => nomatch p
theorem RepL.dp (e : Same S H) : ∀ {vs : List V} {ds : List D}, RepL K A S vs ds → D.pysOk ds = true → DpAll K H vs (D.pys ds)
  | _, _, .nil, _ => .nil
  | _, _, .cons h r, p => .cons (Rep.dp e h (Bool.and_eq_true_iff.mp p).1) (RepL.dp e r (Bool.and_eq_true_iff.mp p).2)
end
theorem Rep.sq (o : Same S H) {a : Addr} {xs : List D} (r : Rep K A S (.ref a) (.lst xs)) : ∃ vs, H a = some (.lst vs) ∧ RepL K A S vs xs := by
  cases r with | lst h r => exact ⟨_, o _ _ h, r⟩
end
def kEq (x y : D) : M D := if D.pyOk x = true ∧ D.pyOk y = true ∧ SeqAt.shaped (D.py x) = true ∧ SeqAt.shaped (D.py y) = true then M.pure (.bl (PyData.eqv (D.py x) (D.py y))) else M.bad
def kNe (x y : D) : M D := if D.pyOk x = true ∧ D.pyOk y = true ∧ SeqAt.shaped (D.py x) = true ∧ SeqAt.shaped (D.py y) = true then M.pure (.bl (!PyData.eqv (D.py x) (D.py y))) else M.bad
section
variable {X : Cx} {E : XK} {m : Bool}
theorem op_eqDD (hu : X.A.units + 64 < cLine) : OpD X E (compareOp .Eq) false kEq := OpR.imp (op_eqD hu) fun x y H Q ⟨A, S, g, dx, dy, o, r1, r2, q⟩ => by
  unfold kEq at q
  by_cases c : D.pyOk dx = true ∧ D.pyOk dy = true ∧ SeqAt.shaped (D.py dx) = true ∧ SeqAt.shaped (D.py dy) = true
  · rw [if_pos c] at q
    exact ⟨_, _, r1.dp o.ext c.1, r2.dp o.ext c.2.1, c.2.2.1, c.2.2.2, KE.val q o (.bl _)⟩
  · rw [if_neg c] at q; exact q.elim
theorem op_neDD (hu : X.A.units + 64 < cLine) : OpD X E (compareOp .NotEq) false kNe := OpR.imp (op_neD hu) fun x y H Q ⟨A, S, g, dx, dy, o, r1, r2, q⟩ => by
  unfold kNe at q
  by_cases c : D.pyOk dx = true ∧ D.pyOk dy = true ∧ SeqAt.shaped (D.py dx) = true ∧ SeqAt.shaped (D.py dy) = true
  · rw [if_pos c] at q
    exact ⟨_, _, r1.dp o.ext c.1, r2.dp o.ext c.2.1, c.2.2.1, c.2.2.2, KE.val q o (.bl _)⟩
  · rw [if_neg c] at q; exact q.elim
def kII (f : Int → Int → Option D) : D → D → M D
  | .int i, .int j => M.opt (f i j)
  | _, _ => M.bad
theorem op_II {fn : Value → Value → Sem Value} {r : R2} {f : Int → Int → Option D} (h : OpR X fn r)
    (hf : ∀ i j d, f i j = some d → ∃ v, (∀ A S, Rep X.K A S v d) ∧ ∀ (H : Hp) (Q : VK), Q v H → r (.int i) (.int j) H Q) : OpD X E fn false (kII f) := OpR.imp h fun x y H Q ⟨A, S, g, dx, dy, o, r1, r2, q⟩ => by
  cases r1 with
  | int i =>
    cases r2 with
    | int j =>
      have q' : KE (Cx.sur X E) false A S H (M.opt (f i j) g) Q := q
      cases e : f i j with
      | none => rw [e] at q'; exact q'.elim
      | some d =>
        rw [e] at q'
        obtain ⟨v, rv, k⟩ := hf i j d e
        exact k H Q (KE.val q' o (rv A S))
    | _ => exact q.elim
  | _ => cases r2 <;> exact q.elim
theorem op_int (f : Int → Int → Int) {fn : Value → Value → Sem Value} (h : OpR X fn (rI0 fun i j => .int (f i j))) : OpD X E fn false (kII fun i j => some (.int (f i j))) :=
  op_II h fun i j d e => by cases e; exact ⟨_, fun _ _ => .int _, fun H Q q => ⟨i, j, rfl, rfl, q⟩⟩
theorem op_cond (C : Int → Int → Prop) [∀ i j, Decidable (C i j)] (f : Int → Int → Int) {C' : Int → Int → Prop} (hc : ∀ i j, C i j → C' i j) {fn : Value → Value → Sem Value} (h : OpR X fn (rI C' fun i j => .int (f i j))) :
    OpD X E fn false (kII fun i j => if C i j then some (.int (f i j)) else none) :=
  op_II h fun i j d e => by
    by_cases c : C i j
    · rw [if_pos c] at e; cases e; exact ⟨_, fun _ _ => .int _, fun H Q q => ⟨i, j, rfl, rfl, hc i j c, q⟩⟩
    · rw [if_neg c] at e; cases e
theorem op_bool (f : Int → Int → Bool) {fn : Value → Value → Sem Value} (h : OpR X fn (rI0 fun i j => .bl (f i j))) : OpD X E fn false (kII fun i j => some (.bl (f i j))) :=
  op_II h fun i j d e => by cases e; exact ⟨_, fun _ _ => .bl _, fun H Q q => ⟨i, j, rfl, rfl, q⟩⟩
def sm (i : Int) : Bool := decide (-(2 ^ 64) < i) && decide (i < 2 ^ 64)
abbrev kSub := kII fun i j => some (.int (i - j))
abbrev kFdiv := kII fun i j => if 0 < j ∧ j < 1073741824 then some (.int (i / j)) else none
abbrev kMod := kII fun i j => if 0 < j then some (.int (i % j)) else none
abbrev kPow := kII fun i j => if 0 ≤ j ∧ j ≤ 1000000 ∧ i.natAbs < 2 ^ 64 then some (.int (i ^ j.toNat)) else none
theorem op_subD : OpD X E (binaryOp .Sub) false kSub := op_int (fun i j => i - j) op_sub
theorem op_fdivD : OpD X E (binaryOp .FloorDiv) false kFdiv := op_cond (fun i j => 0 < j ∧ j < 1073741824) (fun i j => i / j) (fun _ _ h => h) op_fdiv
theorem op_modD : OpD X E (binaryOp .Mod) false kMod := op_cond (fun i j => 0 < j) (fun i j => i % j) (fun _ _ h => h) op_mod
theorem op_powD : OpD X E (binaryOp .Pow) false kPow := op_cond (fun i j => 0 ≤ j ∧ j ≤ 1000000 ∧ i.natAbs < 2 ^ 64) (fun i j => i ^ j.toNat) (fun _ _ h => h) op_pow
def D.ints : List D → Option (List Int)
  | [] => some []
  | .int i :: r => (D.ints r).map (i :: ·)
  | _ => none
theorem ints_rep {K : PySem.W.Frag} {A : List GAdr} {S : Hp} : ∀ {vs : List V} {ds : List D} {ns : List Int}, RepL K A S vs ds → D.ints ds = some ns → vs = ns.map V.int
  | _, _, _, .nil, e => by cases e; rfl
  | _, _, _, .cons h r, e => by
    cases h with
    | int i =>
      unfold D.ints at e
      cases ei : D.ints _ with
      | none => rw [ei] at e; cases e
      | some ms => rw [ei] at e; cases e; rw [ints_rep r ei]; rfl
    | _ => cases e
def kLt : D → D → M D
  | .int i, .int j => M.pure (.bl (decide (i < j)))
  | .tup a, .tup b => (match D.ints a, D.ints b with
    | some ns, some ms => M.pure (.bl (HT.lexLt ns ms))
    | _, _ => M.bad)
  | _, _ => M.bad
theorem op_ltD (hu : X.A.units < cLine) : OpD X E (compareOp .Lt) false kLt := OpR.imp (OpR.or op_lt (op_ltT hu)) fun x y H Q ⟨A, S, g, dx, dy, o, r1, r2, q⟩ => by
  cases r1 with
  | int i =>
    cases r2 with
    | int j => exact .inl ⟨_, _, rfl, rfl, KE.val q o (.bl _)⟩
    | _ => exact q.elim
  | @tup a xs ds h1 r1 =>
    cases r2 with
    | @tup b ys es h2 r2 =>
      have q' : KE (Cx.sur X E) false A S H ((match D.ints ds, D.ints es with | some ns, some ms => M.pure (.bl (HT.lexLt ns ms)) | _, _ => M.bad : M D) g) Q := q
      cases e1 : D.ints ds with
      | none => rw [e1] at q'; exact q'.elim
      | some ns =>
        cases e2 : D.ints es with
        | none => rw [e1, e2] at q'; exact q'.elim
        | some ms =>
          rw [e1, e2] at q'
          have z1 := ints_rep r1 e1
          have z2 := ints_rep r2 e2
          subst z1 z2
          exact .inr ⟨a, b, ns, ms, rfl, rfl, tq o.ext h1, tq o.ext h2, KE.val q' o (.bl _)⟩
    | _ => exact q.elim
  | _ => cases r2 <;> exact q.elim
abbrev kLe := kII fun i j => some (.bl (decide (i ≤ j)))
abbrev kGt := kII fun i j => some (.bl (decide (j < i)))
abbrev kGe := kII fun i j => some (.bl (decide (j ≤ i)))
theorem op_leD : OpD X E (compareOp .LtE) false kLe := op_bool (fun i j => decide (i ≤ j)) op_le
theorem op_gtD : OpD X E (compareOp .Gt) false kGt := op_bool (fun i j => decide (j < i)) op_gt
theorem op_geD : OpD X E (compareOp .GtE) false kGe := op_bool (fun i j => decide (j ≤ i)) op_ge
def kAdd : D → D → M D
  | .int i, .int j => M.pure (.int (i + j))
  | .str a, .str b => if fit (a.length + b.length) = true then M.pure (.str (a ++ b)) else M.bad
  | .lst a, .lst b => if fit (a.length + b.length) = true then M.pure (.lst (a ++ b)) else M.bad
  | .tup a, .tup b => if fit (a.length + b.length) = true then M.pure (.tup (a ++ b)) else M.bad
  | _, _ => M.bad
def kCat : D → D → M D
  | .lst a, .lst b => if fit (a.length + b.length) = true then M.pure (.lst (a ++ b)) else M.bad
  | _, _ => M.bad
theorem cat_rd {U : Sur} {A : List GAdr} {S H : Hp} {g : G} {a b : Addr} {xs ys : List V} {ds es : List D} {Q : VK} (o : Ok U.K A S H g) (h1 : S a = some (.lst xs)) (r1 : RepL U.K A S xs ds) (h2 : S b = some (.lst ys)) (r2 : RepL U.K A S ys es)
    (q : KE U m A S H ((if fit (ds.length + es.length) = true then M.pure (.lst (ds ++ es)) else M.bad : M D) g) Q) : rCat (.ref a) (.ref b) H Q := by
  by_cases hf : fit (ds.length + es.length) = true
  · rw [if_pos hf] at q
    exact ⟨a, b, xs, ys, rfl, rfl, o.ext _ _ h1, o.ext _ _ h2, by rw [r1.length, r2.length]; exact Nat.le_of_lt (fit_le hf), fun p hp => KE.newL q o (r1.append r2) hp⟩
  · rw [if_neg hf] at q; exact q.elim
theorem op_catD : OpD X E (binaryOp .Add) m kCat := OpR.imp op_cat fun x y H Q ⟨A, S, g, dx, dy, o, r1, r2, q⟩ => by
  cases r1 with
  | lst h1 r1 =>
    cases r2 with
    | lst h2 r2 => exact cat_rd o h1 r1 h2 r2 q
    | _ => exact q.elim
  | _ => cases r2 <;> exact q.elim
theorem op_addD : OpD X E (binaryOp .Add) false kAdd := OpR.imp (OpR.or op_add (OpR.or op_add_str (OpR.or op_cat op_catA))) fun x y H Q ⟨A, S, g, dx, dy, o, r1, r2, q⟩ => by
  cases r1 with
  | int i =>
    cases r2 with
    | int j => exact .inl ⟨_, _, rfl, rfl, KE.val q o (.int _)⟩
    | _ => exact q.elim
  | str a =>
    cases r2 with
    | str b =>
      have q' : KE (Cx.sur X E) false A S H ((if fit (a.length + b.length) = true then M.pure (.str (a ++ b)) else M.bad : M D) g) Q := q
      by_cases hf : fit (a.length + b.length) = true
      · rw [if_pos hf] at q'
        exact .inr (.inl ⟨_, _, rfl, rfl, Nat.le_of_lt (fit_le hf), KE.val q' o (.str _)⟩)
      · rw [if_neg hf] at q'; exact q'.elim
    | _ => exact q.elim
  | lst h1 r1 =>
    cases r2 with
    | lst h2 r2 => exact .inr (.inr (.inl (cat_rd (m := false) o h1 r1 h2 r2 q)))
    | _ => exact q.elim
  | @tup a xs ds h1 r1 =>
    cases r2 with
    | @tup b ys es h2 r2 =>
      have q' : KE (Cx.sur X E) false A S H ((if fit (ds.length + es.length) = true then M.pure (.tup (ds ++ es)) else M.bad : M D) g) Q := q
      by_cases hf : fit (ds.length + es.length) = true
      · rw [if_pos hf] at q'
        refine .inr (.inr (.inr ⟨a, b, xs, ys, rfl, rfl, tq o.ext h1, tq o.ext h2, by rw [r1.length, r2.length]; exact Nat.le_of_lt (fit_le hf), fun e => ?_, fun _ e => ?_, fun _ _ p hp => KE.newT q' o (r1.append r2) hp⟩))
        · subst e
          cases r1
          exact KE.val q' o (.tup h2 r2)
        · subst e
          cases r2
          rw [List.append_nil] at q'
          exact KE.val q' o (.tup h1 r1)
      · rw [if_neg hf] at q'; exact q'.elim
    | _ => exact q.elim
  | _ => cases r2 <;> exact q.elim
def kAddI := kII fun i j => some (.int (i + j))
def mulI (i j : Int) : Option D := if (sm i || sm j) = true then some (.int (i * j)) else none
theorem sm_iff {i : Int} : sm i = true ↔ -(2 ^ 64) < i ∧ i < 2 ^ 64 := by simp [sm]
section
variable {X : Cx}
theorem ns_tuple_mul1 (l : Addr) (items : Array Value) (n : Nat) (dd : Option Addr) (sl : Array (Option Value)) (u : Tok) :
    Meets (Builtin.«tuple.__mul__» ⟨[.ref l, .int 1 u], []⟩) (fun _ R s => s.heap.get? l = some { cls := .type "tuple", dict := dd, data := .seq items n, slots := sl } ∧ R (.ok (.ret (Value.ref l))) s) :=
  .of_wp fun prog w A R s h => by
    obtain ⟨hp, g, d, tk, os⟩ := s
    obtain ⟨hl, h⟩ := h
    have f1 := AutoSeq1.idx_int
    wp_walk using wpAny_loadPart' hl
    exact ⟨_, rfl, h⟩
def rRep1 (K : PySem.W.Frag) : R2 := fun x y H Q => ∃ l xs, x = .ref l ∧ y = .int 1 ∧ SqT K H l xs ∧ Q (.ref l) H
theorem op_rep1 : OpR X (binaryOp .Mult) (rRep1 X.K) := by
  intro pins s σ H x y v u Q I rx ry h
  obtain ⟨l, xs, rfl, rfl, hT, q⟩ := h
  cases rx
  obtain ⟨t, rfl⟩ := ry
  obtain ⟨its, r, ⟨⟨cls, dd, data, sl⟩, ho, hc, n, hd⟩, hs⟩ := I.tuple hT
  simp only at hc hd
  subst hc hd
  refine wpAny_binaryOp_repeat_ref (T := "tuple") (U := "int") (by decide) ⟨_, ho, rfl⟩ (fun s' => typeIs_int s' 1 t) noFill_tuple_mul F.fills_int_mul F.slot_int_rmul repeat_tuple F.slot_int_index.lookup
    (call_meets F.slot_int_rmul (typeIs_int s 1 t) F.entry_int_rmul (F.args_int_rmul_2 _ _) (int_rmul_tuple 1 t l its.toArray n dd sl)
      ⟨ho, rfl, ⟨_, ho, rfl⟩, call_meets F.slot_tuple_mul ⟨_, ho, rfl⟩ F.entry_tuple_mul (F.args_tuple_mul_2 _ _) (ns_tuple_mul1 l its.toArray n dd sl t) ⟨ho, ?_⟩⟩)
  exact ⟨.ref l, H, I, rfl, q⟩
end
def kMul : D → D → M D
  | .int i, .int j => M.opt (mulI i j)
  | .lst a, .int k => if 0 ≤ k ∧ k ≤ 1000 ∧ a.length ≤ 1000 then M.pure (.lst (List.replicate k.toNat a).flatten) else M.bad
  | .tup a, .int k => if k = 1 then M.pure (.tup a) else if 2 ≤ k ∧ k ≤ 1000 ∧ a.length ≤ 1000 ∧ a ≠ [] then M.pure (.tup (List.replicate k.toNat a).flatten) else M.bad
  | _, _ => M.bad
def kRep : D → D → M D
  | .lst a, .int k => if 0 ≤ k ∧ k ≤ 1000 ∧ a.length ≤ 1000 then M.pure (.lst (List.replicate k.toNat a).flatten) else M.bad
  | _, _ => M.bad
theorem rep_rd {U : Sur} {A : List GAdr} {S H : Hp} {g : G} {a : Addr} {k : Int} {xs : List V} {ds : List D} {Q : VK} (o : Ok U.K A S H g) (h1 : S a = some (.lst xs)) (r1 : RepL U.K A S xs ds)
    (q : KE U m A S H ((if 0 ≤ k ∧ k ≤ 1000 ∧ ds.length ≤ 1000 then M.pure (.lst (List.replicate k.toNat ds).flatten) else M.bad : M D) g) Q) : rRep (.ref a) (.int k) H Q := by
  by_cases c : 0 ≤ k ∧ k ≤ 1000 ∧ ds.length ≤ 1000
  · rw [if_pos c] at q
    refine ⟨a, k, xs, rfl, rfl, o.ext _ _ h1, by omega, by omega, ?_, fun p hp => KE.newL q o (r1.rep _) hp⟩
    rw [r1.length, sizeLine_eq]
    calc ds.length * k.toNat ≤ 1000 * 1000 := Nat.mul_le_mul c.2.2 (by omega)
      _ ≤ 16777216 := by decide
  · rw [if_neg c] at q; exact q.elim
theorem op_repD : OpD X E (binaryOp .Mult) m kRep := OpR.imp op_rep fun x y H Q ⟨A, S, g, dx, dy, o, r1, r2, q⟩ => by
  cases r1 with
  | lst h1 r1 =>
    cases r2 with
    | int k => exact rep_rd o h1 r1 q
    | _ => exact q.elim
  | _ => cases r2 <;> exact q.elim
theorem op_mulD : OpD X E (binaryOp .Mult) false kMul := OpR.imp (OpR.or op_mul (OpR.or op_rep (OpR.or op_repT op_rep1))) fun x y H Q ⟨A, S, g, dx, dy, o, r1, r2, q⟩ => by
  cases r1 with
  | int i =>
    cases r2 with
    | int j =>
      have q' : KE (Cx.sur X E) false A S H (M.opt (mulI i j) g) Q := q
      unfold mulI at q'
      by_cases c : (sm i || sm j) = true
      · rw [if_pos c] at q'
        refine .inl ⟨_, _, rfl, rfl, ?_, KE.val q' o (.int _)⟩
        rcases Bool.or_eq_true_iff.mp c with c | c
        · exact .inl (sm_iff.mp c)
        · exact .inr (sm_iff.mp c)
      · rw [if_neg c] at q'; exact q'.elim
    | _ => exact q.elim
  | lst h1 r1 =>
    cases r2 with
    | int k => exact .inr (.inl (rep_rd (m := false) o h1 r1 q))
    | _ => exact q.elim
  | @tup a xs ds h1 r1 =>
    cases r2 with
    | int k =>
      have q0 : KE (Cx.sur X E) false A S H ((if k = 1 then M.pure (.tup ds) else if 2 ≤ k ∧ k ≤ 1000 ∧ ds.length ≤ 1000 ∧ ds ≠ [] then M.pure (.tup (List.replicate k.toNat ds).flatten) else M.bad : M D) g) Q := q
      by_cases c1 : k = 1
      · subst c1
        rw [if_pos rfl] at q0
        exact .inr (.inr (.inr ⟨a, xs, rfl, rfl, tq o.ext h1, KE.val q0 o (.tup h1 r1)⟩))
      rw [if_neg c1] at q0
      have q' : KE (Cx.sur X E) false A S H ((if 2 ≤ k ∧ k ≤ 1000 ∧ ds.length ≤ 1000 ∧ ds ≠ [] then M.pure (.tup (List.replicate k.toNat ds).flatten) else M.bad : M D) g) Q := q0
      by_cases c : 2 ≤ k ∧ k ≤ 1000 ∧ ds.length ≤ 1000 ∧ ds ≠ []
      · rw [if_pos c] at q'
        refine .inr (.inr (.inl ⟨a, k, xs, rfl, rfl, tq o.ext h1, fun e => ?_, c.1, c.2.1, by rw [r1.length]; exact c.2.2.1, fun p hp => KE.newT q' o (r1.rep _) hp⟩))
        subst e
        cases r1
        exact c.2.2.2 rfl
      · rw [if_neg c] at q'; exact q'.elim
    | _ => exact q.elim
  | _ => cases r2 <;> exact q.elim
def D.isN : D → Bool
  | .non => true
  | _ => false
def kIs : D → D → M D
  | x, .non => M.pure (.bl (D.isN x))
  | .bl a, .bl b => M.pure (.bl (decide (a = b)))
  | _, _ => M.bad
def kIsNot : D → D → M D
  | x, .non => M.pure (.bl (!D.isN x))
  | .bl a, .bl b => M.pure (.bl (!decide (a = b)))
  | _, _ => M.bad
theorem isN_dec {K : PySem.W.Frag} {A : List GAdr} {S : Hp} {v : V} {d : D} (r : Rep K A S v d) : decide (v = .non) = D.isN d := by cases r <;> rfl
theorem op_isD : OpD X E (compareOp .Is) false kIs := OpR.imp (OpR.or op_isN op_isBl) fun x y H Q ⟨A, S, g, dx, dy, o, r1, r2, q⟩ => by
  cases r2 with
  | non => exact .inl ⟨rfl, by rw [isN_dec r1]; exact KE.val (by cases r1 <;> exact q) o (.bl _)⟩
  | bl b =>
    cases r1 with
    | bl a => exact .inr ⟨a, b, rfl, rfl, KE.val q o (.bl _)⟩
    | _ => exact q.elim
  | _ => cases r1 <;> exact q.elim
theorem op_isnotD : OpD X E (compareOp .IsNot) false kIsNot := OpR.imp (OpR.or op_notN op_notBl) fun x y H Q ⟨A, S, g, dx, dy, o, r1, r2, q⟩ => by
  cases r2 with
  | non => exact .inl ⟨rfl, by rw [isN_dec r1]; exact KE.val (by cases r1 <;> exact q) o (.bl _)⟩
  | bl b =>
    cases r1 with
    | bl a => exact .inr ⟨a, b, rfl, rfl, KE.val q o (.bl _)⟩
    | _ => exact q.elim
  | _ => cases r1 <;> exact q.elim
end
end NS
namespace NS
open PySem PySem.Spec PyProof.Rows L2
section
variable {X : Cx} {E : XK} {m : Bool} {pos : Pos} {a b e : Expr} {fa fb fe : DS → M D}
theorem RepL.atI {K : PySem.W.Frag} {A : List GAdr} {S : Hp} {vs : List V} {ds : List D} {i : Int} {d : D} (r : RepL K A S vs ds) (h : L2.atI ds i = some d) : ∃ v, L2.atI vs i = some v ∧ Rep K A S v d := by
  unfold L2.atI at h ⊢
  rw [r.length]
  cases e : ixN ds.length i with
  | none => rw [e] at h; cases h
  | some j =>
    rw [e] at h
    obtain ⟨v, e1, e2⟩ := r.getD (i := j) h
    exact ⟨v, e1, e2⟩
def cellIx (c : GCell) (i : Int) : Option D := match c with
  | .src x y z => L2.atI [D.int x, D.int y, D.int z] i
  | _ => none
def kIx : D → D → M D
  | .lst xs, .int i => M.opt (L2.atI xs i)
  | .slst xs, .int i => M.opt (L2.atI xs i)
  | .tup xs, .int i => M.opt (L2.atI xs i)
  | .ftup xs, .int i => M.opt (L2.atI xs i)
  | .str z, .int i => if fit z.length = true then M.opt ((L2.atI z.cps.toList i).map fun c => .str ⟨#[c]⟩) else M.bad
  | .hdl h, .int i => fun g => M.opt (match g[h]? with | some c => cellIx c i | none => none) g
  | _, _ => M.bad
theorem opt_ok {U : Sur} {A : List GAdr} {S H : Hp} {g : G} {Q : VK} {o : Option D} (q : KE U m A S H (M.opt o g) Q) : ∃ d, o = some d ∧ KE U m A S H (.ok d g) Q := by
  cases o with
  | none => exact q.elim
  | some d => exact ⟨d, rfl, q⟩
theorem ix_rd {K : PySem.W.Frag} {U : Sur} (hK : U.K = K) : ∀ x y H Q, rD U false kIx x y H Q → rIx K x y H Q := by
  subst hK
  intro x y H Q ⟨A, S, g, dx, dy, o, r1, r2, q⟩
  cases r1 with
  | @lst p xs ds h r =>
    cases r2 with
    | int i =>
      obtain ⟨d, e1, q⟩ := opt_ok (o := L2.atI ds i) q
      obtain ⟨v, e2, rv⟩ := r.atI e1
      exact .inl ⟨p, xs, i, v, rfl, rfl, .inl (.inl (o.ext _ _ h)), e2, KE.val q o rv⟩
    | _ => exact q.elim
  | @slst p xs ds h r =>
    cases r2 with
    | int i =>
      obtain ⟨d, e1, q⟩ := opt_ok (o := L2.atI ds i) q
      obtain ⟨v, e2, rv⟩ := r.atI e1
      exact .inl ⟨p, xs, i, v, rfl, rfl, SqL.mono o.ext h, e2, KE.val q o rv⟩
    | _ => exact q.elim
  | @tup p xs ds h r =>
    cases r2 with
    | int i =>
      obtain ⟨d, e1, q⟩ := opt_ok (o := L2.atI ds i) q
      obtain ⟨v, e2, rv⟩ := r.atI e1
      exact .inr (.inl ⟨p, xs, i, v, rfl, rfl, tq o.ext h, e2, KE.val q o rv⟩)
    | _ => exact q.elim
  | @ftup p xs ds h r =>
    cases r2 with
    | int i =>
      obtain ⟨d, e1, q⟩ := opt_ok (o := L2.atI ds i) q
      obtain ⟨v, e2, rv⟩ := r.atI e1
      exact .inr (.inl ⟨p, xs, i, v, rfl, rfl, h.sq o.ext, e2, KE.val q o rv⟩)
    | _ => exact q.elim
  | str z =>
    cases r2 with
    | int i =>
      have q' : KE U false A S H ((if fit z.length = true then M.opt ((L2.atI z.cps.toList i).map fun c => D.str ⟨#[c]⟩) else M.bad : M D) g) Q := q
      by_cases hf : fit z.length = true
      · rw [if_pos hf] at q'
        obtain ⟨d, e1, q⟩ := opt_ok q'
        cases e2 : L2.atI z.cps.toList i with
        | none => rw [e2] at e1; cases e1
        | some c =>
          rw [e2] at e1; cases e1
          exact .inr (.inr ⟨z, i, c, rfl, rfl, Nat.le_of_lt (fit_le hf), e2, KE.val q o (.str _)⟩)
      · rw [if_neg hf] at q'; exact q'.elim
    | _ => exact q.elim
  | @hdl k ga hk =>
    cases r2 with
    | int i =>
      have q' : KE U false A S H (M.opt (match g[k]? with | some c => cellIx c i | none => none) g) Q := q
      obtain ⟨d, e1, q⟩ := opt_ok q'
      cases e2 : g[k]? with
      | none => rw [e2] at e1; cases e1
      | some c =>
        rw [e2] at e1
        have cl := o.cel k ga c hk e2
        cases c with
        | sto _ _ => cases e1
        | tab _ => cases e1
        | src x y z =>
          cases ga with
          | sto _ _ _ _ _ => exact cl.elim
          | tab _ => exact cl.elim
          | src p =>
            have e1' : L2.atI [D.int x, D.int y, D.int z] i = some d := e1
            have rr : RepL U.K A S [.int x, .int y, .int z] [D.int x, D.int y, D.int z] := .cons (.int _) (.cons (.int _) (.cons (.int _) .nil))
            obtain ⟨v, e3, rv⟩ := rr.atI e1'
            exact .inl ⟨p, _, i, v, rfl, rfl, .inl (.inl cl), e3, KE.val q o rv⟩
    | _ => exact q.elim
  | _ => cases r2 <;> exact q.elim
theorem de_ix (ha : DE X E false a fa) (hb : DE X E false b fb) (hs : PlainIx b := by exact fun _ _ => rfl) : DE X E false (.Subscript a b pos) (eBin kIx fa fb) :=
  PE.impD (pe_ix ix_seq ha hb hs) fun σ H Q h => by
    have := bin_read h
    obtain ⟨A, S, g, σd, o, r, q⟩ := this
    exact ⟨A, S, g, σd, o, r, q.imp fun v H1 ⟨A1, S1, g1, σd1, o1, r1, q1⟩ => ⟨A1, S1, g1, σd1, o1, r1, q1.imp fun u H2 q2 => ix_rd rfl _ _ _ _ q2⟩⟩
def cutD (xs : List D) (lo hi : Option Int) : List D := (xs.drop (HT.sIx xs.length 0 lo)).take (HT.sIx xs.length xs.length hi - HT.sIx xs.length 0 lo)
def kSl (lo hi : Option Int) : D → M D
  | .lst xs => M.pure (.lst (cutD xs lo hi))
  | .tup xs => M.pure (.tup (cutD xs lo hi))
  | .ftup xs => if HT.sIx xs.length 0 lo = 0 ∧ HT.sIx xs.length xs.length hi = xs.length then M.pure (.ftup xs) else M.pure (.tup (cutD xs lo hi))
  | .str z => if fit z.length = true then M.pure (.str (cutS z lo hi)) else M.bad
  | _ => M.bad
def kSlL (lo hi : Option Int) : D → M D
  | .lst xs => M.pure (.lst (cutD xs lo hi))
  | _ => M.bad
abbrev FO := DS → M (Option Int)
def KO (U : Sur) (A : List GAdr) (S H : Hp) (r : Res (Option Int)) (Q : Option Int → Hp → Prop) : Prop :=
  match r with
  | .ok b g' => ∀ A' S' H', Post A S H A' S' H' → Ok U.K A' S' H' g' → Q b H'
  | .err x g' => ∀ A' S' H' c dd, Post A S H A' S' H' → Ok U.K A' S' H' g' → XRep U.mg U.K A' S' H' x c dd → U.E c dd H'
  | .bad => False
def tO (U : Sur) (f : FO) : TO := fun σ H Q => ∃ A S g σd, Ok U.K A S H g ∧ SRep U.K A S H σ σd ∧ KO U A S H (f σd g) Q
def DO (X : Cx) (E : XK) (e : Option Expr) (f : FO) : Prop := PO X e (tO (Cx.sur X E) f)
theorem _root_.L2.PO.impD {X : Cx} {e : Option Expr} {t t' : TO} (h : PO X e t) (i : ∀ σ H Q, t' σ H Q → t σ H Q) : PO X e t' := ⟨fun pins s σ H Q I q => h.run pins s σ H Q I (i σ H Q q)⟩
def oNone : FO := fun _ => M.pure none
def oSome (f : DS → M D) : FO := fun σ => M.bind (f σ) fun d => match d with | .int i => M.pure (some i) | _ => M.bad
theorem do_none : DO X E none oNone := PO.impD po_none fun σ H Q ⟨A, S, g, σd, o, r, q⟩ => q A S H (Post.refl _ _ _) o
theorem do_some (h : DE X E false e fe) : DO X E (some e) (oSome fe) := PO.impD (po_some h) fun σ H Q ⟨A, S, g, σd, o, r, q⟩ => ⟨A, S, g, σd, o, r, by
  have q' : KO (Cx.sur X E) A S H (M.bind (fe σd) (fun d => match d with | .int i => M.pure (some i) | _ => M.bad) g) Q := q
  cases e1 : fe σd g with
  | err z g' => rw [bind_err e1] at q'; exact q'
  | bad => rw [bind_bad e1] at q'; exact q'
  | ok d g1 =>
    rw [bind_ok e1] at q'
    intro A1 S1 H1 v p1 o1 r1
    cases r1 with
    | int i => exact ⟨i, rfl, q' A1 S1 H1 p1 o1⟩
    | _ => exact q'.elim⟩
def eSl (k : Option Int → Option Int → D → M D) (fe : DS → M D) (fl fh : FO) : DS → M D := fun σ => M.bind (fe σ) fun x => M.bind (fl σ) fun l => M.bind (fh σ) fun h => k l h x
theorem KE.bindO {U : Sur} {A : List GAdr} {S H : Hp} {x : M (Option Int)} {k : Option Int → M D} {g : G} {Q : VK} (h : KE U m A S H (M.bind x k g) Q) :
    KO U A S H (x g) fun b H1 => ∃ A1 S1 g1, Post A S H A1 S1 H1 ∧ Ok U.K A1 S1 H1 g1 ∧ KE U m A1 S1 H1 (k b g1) Q := by
  unfold M.bind at h
  cases e : x g with
  | ok d g1 => rw [e] at h; exact fun A' S' H' p o => ⟨A', S', g1, p, o, h.shift p⟩
  | err e1 g1 => rw [e] at h; exact h
  | bad => rw [e] at h; exact h
theorem KO.imp {U : Sur} {A : List GAdr} {S H : Hp} {r : Res (Option Int)} {Q Q' : Option Int → Hp → Prop} (h : KO U A S H r Q) (i : ∀ v H', Q v H' → Q' v H') : KO U A S H r Q' := by
  cases r with
  | ok d g => exact fun A' S' H' q o => i _ _ (h A' S' H' q o)
  | err x g => exact h
  | bad => exact h
theorem RepL.cut {K : PySem.W.Frag} {A : List GAdr} {S : Hp} {vs : List V} {ds : List D} (r : RepL K A S vs ds) (lo hi : Option Int) : RepL K A S (cutV vs lo hi) (cutD ds lo hi) := by
  unfold cutV cutD
  rw [r.length]
  exact (r.drop _).take _
theorem cutD_whole {xs : List D} {lo hi : Option Int} (h : HT.sIx xs.length 0 lo = 0 ∧ HT.sIx xs.length xs.length hi = xs.length) : cutD xs lo hi = xs := by
  unfold cutD
  rw [h.1, h.2]
  simp
variable {lo hi : Option Expr} {fl fh : FO} {p2 : Pos}
theorem sl_read {U : Sur} {k : Option Int → Option Int → D → M D} {r : V → Option Int → Option Int → Hp → VK → Prop} (hr : ∀ A S H g x dx l h Q, Ok U.K A S H g → Rep U.K A S x dx → KE U m A S H (k l h dx g) Q → r x l h H Q) {σ : L2.St} {H : Hp} {Q : VK}
    (h : tE U m (eSl k fe fl fh) σ H Q) : tSl r (tE U false fe) (tO U fl) (tO U fh) σ H Q := by
  obtain ⟨A, S, g, σd, o, rr, q⟩ := h
  refine ⟨A, S, g, σd, o, rr, (KE.bindE q).imp fun v H1 ⟨A1, S1, g1, d, p1, o1, r1, q1⟩ => ?_⟩
  refine ⟨A1, S1, g1, σd, o1, rr.post p1, (KE.bindO q1).imp fun l H2 ⟨A2, S2, g2, p2, o2, q2⟩ => ?_⟩
  refine ⟨A2, S2, g2, σd, o2, (rr.post p1).post p2, (KE.bindO q2).imp fun l2 H3 ⟨A3, S3, g3, p3, o3, q3⟩ => ?_⟩
  exact hr A3 S3 H3 g3 v d l l2 Q o3 (Rep.mono (p2.trans p3).a (p2.trans p3).s r1) q3
theorem de_sl (he : DE X E false e fe) (hl : DO X E lo fl) (hh : DO X E hi fh) : DE X E false (.Subscript e (.Slice lo hi none p2) pos) (eSl kSl fe fl fh) :=
  PE.impD (pe_slice (SlR.or sl_list (SlR.or sl_tupA sl_str)) he hl hh) fun σ H Q h => sl_read (m := false) (fun A S H g x dx l h Q o r q => by
    cases r with
    | @lst p xs ds h1 r1 => exact .inl ⟨p, xs, rfl, .inl (.inl (o.ext _ _ h1)), fun q0 hq => KE.newL q o (r1.cut l h) hq⟩
    | @tup p xs ds h1 r1 =>
      refine .inr (.inl ⟨p, xs, rfl, tq o.ext h1, fun w => ?_, fun _ q0 hq => KE.newT q o (r1.cut l h) hq⟩)
      have q' : KE (Cx.sur X E) false A S H (.ok (.tup (cutD ds l h)) g) Q := q
      rw [cutD_whole (by rw [← r1.length]; exact w)] at q'
      exact KE.val q' o (.tup h1 r1)
    | @ftup p xs ds h1 r1 =>
      have q' : KE (Cx.sur X E) false A S H ((if HT.sIx ds.length 0 l = 0 ∧ HT.sIx ds.length ds.length h = ds.length then M.pure (.ftup ds) else M.pure (.tup (cutD ds l h)) : M D) g) Q := q
      rw [← r1.length] at q'
      refine .inr (.inl ⟨p, xs, rfl, h1.sq o.ext, fun w => ?_, fun w q0 hq => ?_⟩)
      · rw [if_pos w] at q'
        exact KE.val q' o (.ftup h1 r1)
      · rw [if_neg w] at q'
        exact KE.newT q' o (r1.cut l h) hq
    | str z =>
      have q' : KE (Cx.sur X E) false A S H ((if fit z.length = true then M.pure (.str (cutS z l h)) else M.bad : M D) g) Q := q
      by_cases hf : fit z.length = true
      · rw [if_pos hf] at q'; exact .inr (.inr ⟨z, rfl, Nat.le_of_lt (fit_le hf), KE.val q' o (.str _)⟩)
      · rw [if_neg hf] at q'; exact q'.elim
    | _ => exact q.elim) h
def D.flat : D → Bool
  | .non => true | .bl _ => true | .int _ => true | .str _ => true
  | _ => false
def eqF : D → D → Bool
  | .non, .non => true
  | .bl a, .bl b => a == b
  | .bl a, .int b => (if a then 1 else 0) == b
  | .int a, .bl b => a == (if b then 1 else 0)
  | .int a, .int b => a == b
  | .str a, .str b => a == b
  | _, _ => false
def inF (x : D) (xs : List D) : Bool := xs.any fun y => eqF y x
def kInF (x : D) (xs : List D) : Option Bool := if D.flat x = true ∧ xs.all D.flat = true then some (inF x xs) else none
def kInP (x : D) (xs : List D) : Option Bool := if D.pyOk x = true ∧ D.pysOk xs = true ∧ SeqAt.shaped (D.py x) = true ∧ SeqAt.shaped (.list (D.pys xs)) = true then some ((D.pys xs).any fun z => PyData.eqv z (D.py x)) else none
def sign1 (a : Str) : Option Nat := match a.cps.toList with
  | [c] => some c
  | _ => none
theorem sign1_eq {a : Str} {c : Nat} (h : sign1 a = some c) : a = ⟨#[c]⟩ := by
  unfold sign1 at h
  split at h
  · rename_i d e
    cases h
    cases a with | mk cps => cases cps with | mk l => cases e; rfl
  · cases h
def inD : D → D → Option Bool
  | x, .lst xs => (match kInF x xs with | some b => some b | none => kInP x xs)
  | x, .tup xs => kInF x xs
  | x, .ftup xs => kInF x xs
  | .str a, .str b => (sign1 a).map fun c => decide (c ∈ b.cps.toList)
  | _, _ => none
def kIn (x y : D) : M D := M.opt ((inD x y).map .bl)
def kNotIn (x y : D) : M D := M.opt ((inD x y).map fun b => .bl !b)
theorem flat_of {K : PySem.W.Frag} {A : List GAdr} {S : Hp} {v : V} {d : D} (r : Rep K A S v d) : flatV v = D.flat d := by cases r <;> rfl
theorem eqF_of {K : PySem.W.Frag} {A : List GAdr} {S : Hp} {v w : V} {d c : D} (r : Rep K A S v d) (r2 : Rep K A S w c) (h : D.flat d = true) (h2 : D.flat c = true) : eqV v w = eqF d c := by
  cases r <;> cases r2 <;> first
    | rfl
    | exact absurd h (by decide)
    | exact absurd h2 (by decide)
    | (simp [D.flat] at h; done)
    | (simp [D.flat] at h2; done)
theorem flats_of {K : PySem.W.Frag} {A : List GAdr} {S : Hp} : ∀ {vs : List V} {ds : List D}, RepL K A S vs ds → vs.all flatV = ds.all D.flat
  | _, _, .nil => rfl
  | _, _, .cons h r => by simp only [List.all_cons, flat_of h, flats_of r]
theorem inF_of {K : PySem.W.Frag} {A : List GAdr} {S : Hp} {w : V} {c : D} (r2 : Rep K A S w c) (h2 : D.flat c = true) : ∀ {vs : List V} {ds : List D}, RepL K A S vs ds → ds.all D.flat = true → inV w vs = inF c ds
  | _, _, .nil, _ => rfl
  | _, _, .cons h r, e => by
    simp only [List.all_cons, Bool.and_eq_true] at e
    have := inF_of r2 h2 r e.2
    unfold inV inF at this ⊢
    simp only [List.any_cons, this, eqF_of h r2 e.1 h2]
theorem in_rd {K : PySem.W.Frag} {A : List GAdr} {S H : Hp} (o : Same S H) {x y : V} {dx dy : D} (r1 : Rep K A S x dx) (r2 : Rep K A S y dy) {b : Bool} (h : inD dx dy = some b) :
    (∃ p xs, y = .ref p ∧ (SqL K H p xs ∨ SqT K H p xs) ∧ flatV x = true ∧ xs.all flatV = true ∧ b = inV x xs) ∨
    (∃ d ds, Dp K H x d ∧ Dp K H y (.list ds) ∧ SeqAt.shaped d = true ∧ SeqAt.shaped (.list ds) = true ∧ b = ds.any fun z => PyData.eqv z d) ∨
    (∃ (c : Nat) (z : Str), x = .str ⟨#[c]⟩ ∧ y = .str z ∧ b = decide (c ∈ z.cps.toList)) := by
  have fl : ∀ {xs : List V} {ds : List D}, RepL K A S xs ds → kInF dx ds = some b → flatV x = true ∧ xs.all flatV = true ∧ b = inV x xs := fun {xs ds} r e => by
    unfold kInF at e
    by_cases c : D.flat dx = true ∧ ds.all D.flat = true
    · rw [if_pos c] at e; cases e
      exact ⟨by rw [flat_of r1]; exact c.1, by rw [flats_of r]; exact c.2, (inF_of r1 c.1 r c.2).symm⟩
    · rw [if_neg c] at e; cases e
  cases r2 with
  | @lst p xs ds h2 r2 =>
    have h' : (match kInF dx ds with | some b => some b | none => kInP dx ds) = some b := by cases r1 <;> exact h
    cases e : kInF dx ds with
    | some b' =>
      rw [e] at h'; cases h'
      exact .inl ⟨p, xs, rfl, .inl (.inl (.inl (o _ _ h2))), fl r2 e⟩
    | none =>
      rw [e] at h'
      have h2' : kInP dx ds = some b := h'
      unfold kInP at h2'
      by_cases c : D.pyOk dx = true ∧ D.pysOk ds = true ∧ SeqAt.shaped (D.py dx) = true ∧ SeqAt.shaped (.list (D.pys ds)) = true
      · rw [if_pos c] at h2'; cases h2'
        exact .inr (.inl ⟨_, _, r1.dp o c.1, .lst (.inl (.inl (o _ _ h2))) (r2.dp o c.2.1), c.2.2.1, c.2.2.2, rfl⟩)
      · rw [if_neg c] at h2'; cases h2'
  | @tup p xs ds h2 r2 =>
    have h' : kInF dx ds = some b := by cases r1 <;> exact h
    exact .inl ⟨p, xs, rfl, .inr (tq o h2), fl r2 h'⟩
  | @ftup p xs ds h2 r2 =>
    have h' : kInF dx ds = some b := by cases r1 <;> exact h
    exact .inl ⟨p, xs, rfl, .inr (h2.sq o), fl r2 h'⟩
  | str z =>
    cases r1 with
    | str a =>
      have h' : ((sign1 a).map fun c => decide (c ∈ z.cps.toList)) = some b := h
      cases e : sign1 a with
      | none => rw [e] at h'; cases h'
      | some c =>
        rw [e] at h'; cases h'
        have := sign1_eq e
        subst this
        exact .inr (.inr ⟨c, z, rfl, rfl, rfl⟩)
    | _ => cases h
  | _ => cases r1 <;> cases h
theorem op_inDD (hu : X.A.units + 65 < cLine) : OpD X E (compareOp .In) false kIn := OpR.imp (OpR.or op_in_seq (OpR.or (op_inD hu) op_in_sign)) fun x y H Q ⟨A, S, g, dx, dy, o, r1, r2, q⟩ => by
  obtain ⟨d, e1, q1⟩ := opt_ok (o := (inD dx dy).map D.bl) q
  cases e2 : inD dx dy with
  | none => rw [e2] at e1; cases e1
  | some b =>
    rw [e2] at e1; cases e1
    rcases in_rd o.ext r1 r2 e2 with ⟨p, xs, h1, h2, h3, h4, h5⟩ | ⟨d, ds, h1, h2, h3, h4, h5⟩ | ⟨c, z, h1, h2, h3⟩
    · subst h5; exact .inl ⟨p, xs, h1, h2, h3, h4, KE.val q1 o (.bl _)⟩
    · subst h5; exact .inr (.inl ⟨d, ds, h1, h2, h3, h4, KE.val q1 o (.bl _)⟩)
    · subst h3; exact .inr (.inr ⟨c, z, h1, h2, KE.val q1 o (.bl _)⟩)
def kAbs : List D → M D
  | [.int i] => M.pure (.int (if i < 0 then -i else i))
  | _ => M.bad
theorem CallR.imp {f : Value} {r r' : List V → Hp → VK → Prop} (h : CallR X f r) (i : ∀ xs H Q, r' xs H Q → r xs H Q) : CallR X f r' := fun pins s σ H xs us Q I rr q => h pins s σ H xs us Q I rr (i xs H Q q)
theorem cl_abs : CallD X E (.builtin "abs") false kAbs := CallR.imp call_abs fun xs H Q ⟨A, S, g, ds, o, r, q⟩ => by
  cases r with
  | cons h r =>
    cases h with
    | int i =>
      cases r with
      | nil => exact ⟨i, rfl, KE.val q o (.int _)⟩
      | _ => exact q.elim
    | _ => cases r <;> exact q.elim
  | _ => exact q.elim
def D.len : D → Option Nat
  | .lst xs => some xs.length | .tup xs => some xs.length | .slst xs => some xs.length | .ftup xs => some xs.length
  | .str z => if fit z.length = true then some z.length else none
  | .hdl _ => none
  | _ => none
def kLen : List D → M D
  | [d] => M.opt ((D.len d).map fun n => .int (n : Int))
  | _ => M.bad
theorem cl_len : CallD X E (.builtin "len") false kLen := CallR.imp (CallR.or call_len_seq call_len_str) fun xs H Q ⟨A, S, g, ds, o, r, q⟩ => by
  cases r with
  | nil => exact q.elim
  | @cons v d vs ds h r =>
    cases r with
    | cons _ _ => exact q.elim
    | nil =>
      obtain ⟨c, e1, q1⟩ := opt_ok (o := (D.len d).map fun n => D.int (n : Int)) q
      cases h with
      | @lst p ws es h r => cases e1; exact .inl ⟨p, ws, rfl, .inl (.inl (.inl (o.ext _ _ h))), by rw [r.length]; exact KE.val q1 o (.int _)⟩
      | @slst p ws es h r => cases e1; exact .inl ⟨p, ws, rfl, .inl (SqL.mono o.ext h), by rw [r.length]; exact KE.val q1 o (.int _)⟩
      | @tup p ws es h r => cases e1; exact .inl ⟨p, ws, rfl, .inr (tq o.ext h), by rw [r.length]; exact KE.val q1 o (.int _)⟩
      | @ftup p ws es h r => cases e1; exact .inl ⟨p, ws, rfl, .inr (h.sq o.ext), by rw [r.length]; exact KE.val q1 o (.int _)⟩
      | str z =>
        have e2 : ((if fit z.length = true then some z.length else none : Option Nat).map fun n => D.int (n : Int)) = some c := e1
        by_cases hf : fit z.length = true
        · rw [if_pos hf] at e2; cases e2
          exact .inr ⟨z, rfl, Nat.le_of_lt (fit_le hf), KE.val q1 o (.int _)⟩
        · rw [if_neg hf] at e2; cases e2
      | _ => cases e1
def kMax2 : List D → M D
  | [.int i, .int j] => M.pure (.int (if j > i then j else i))
  | _ => M.bad
def kMin2 : List D → M D
  | [.int i, .int j] => M.pure (.int (if j < i then j else i))
  | _ => M.bad
theorem rep2 {K : PySem.W.Frag} {A : List GAdr} {S : Hp} {xs : List V} {ds : List D} {i j : Int} (r : RepL K A S xs ds) (e : ds = [.int i, .int j]) : xs = [.int i, .int j] := by
  subst e
  cases r with | cons h r => cases r with | cons h2 r => cases r; cases h; cases h2; rfl
theorem cl_max2 (hc : X.calm = true := by rfl) : CallD X E (.builtin "max") false kMax2 := CallR.imp (call_max2 hc) fun xs H Q ⟨A, S, g, ds, o, r, q⟩ => by
  unfold kMax2 at q
  split at q
  · rename_i i j
    exact ⟨i, j, rep2 r rfl, KE.val q o (.int _)⟩
  · exact q.elim
theorem cl_min2 (hc : X.calm = true := by rfl) : CallD X E (.builtin "min") false kMin2 := CallR.imp (call_min2 hc) fun xs H Q ⟨A, S, g, ds, o, r, q⟩ => by
  unfold kMin2 at q
  split at q
  · rename_i i j
    exact ⟨i, j, rep2 r rfl, KE.val q o (.int _)⟩
  · exact q.elim
theorem rep1 {K : PySem.W.Frag} {A : List GAdr} {S : Hp} {xs : List V} {d : D} (r : RepL K A S xs [d]) : ∃ v, xs = [v] ∧ Rep K A S v d := by
  cases r with | cons h r => cases r; exact ⟨_, rfl, h⟩
def kOfInts (f : List Int → M D) : List D → M D
  | [.lst ds] => (match D.ints ds with | some ns => f ns | none => M.bad)
  | _ => M.bad
def maxI : List Int → Option Int
  | [] => none
  | x :: r => some (r.foldl max x)
def minI : List Int → Option Int
  | [] => none
  | x :: r => some (r.foldl min x)
def D.bls : List D → Option (List Bool)
  | [] => some []
  | .bl b :: r => (D.bls r).map (b :: ·)
  | _ => none
theorem bls_rep {K : PySem.W.Frag} {A : List GAdr} {S : Hp} : ∀ {vs : List V} {ds : List D} {ns : List Bool}, RepL K A S vs ds → D.bls ds = some ns → vs = ns.map V.bl
  | _, _, _, .nil, e => by cases e; rfl
  | _, _, _, .cons h r, e => by
    cases h with
    | bl i =>
      unfold D.bls at e
      cases ei : D.bls _ with
      | none => rw [ei] at e; cases e
      | some ms => rw [ei] at e; cases e; rw [bls_rep r ei]; rfl
    | _ => cases e
def kOfBls (f : List Bool → M D) : List D → M D
  | [.lst ds] => (match D.bls ds with | some ns => f ns | none => M.bad)
  | _ => M.bad
theorem ofBls {U : Sur} {f : List Bool → M D} {A : List GAdr} {S H : Hp} {g : G} {ds : List D} {xs : List V} {Q : VK} (o : Ok U.K A S H g) (r : RepL U.K A S xs ds) (q : KE U m A S H (kOfBls f ds g) Q) :
    ∃ a ns, xs = [.ref a] ∧ SqL U.K H a (ns.map V.bl) ∧ KE U m A S H (f ns g) Q := by
  unfold kOfBls at q
  split at q
  · rename_i ds
    obtain ⟨v, rfl, h⟩ := rep1 r
    cases h with
    | @lst a ws _ h r =>
      cases e : D.bls ds with
      | none => rw [e] at q; exact q.elim
      | some ns =>
        rw [e] at q
        have z := bls_rep r e
        subst z
        exact ⟨a, ns, rfl, .inl (.inl (o.ext _ _ h)), q⟩
  · exact q.elim
theorem cl_all (hc : X.calm = true := by rfl) : CallD X E (.builtin "all") false (kOfBls fun bs => M.pure (.bl (bs.all id))) := CallR.imp (cr_all hc) fun xs H Q ⟨A, S, g, ds, o, r, q⟩ => by
  obtain ⟨a, ns, e, h, q⟩ := ofBls o r q
  exact ⟨a, ns, e, h, KE.val q o (.bl _)⟩
def kList : List D → M D
  | [.lst xs] => M.pure (.lst xs)
  | [.tup xs] => M.pure (.lst xs)
  | [.slst xs] => M.pure (.lst xs)
  | _ => M.bad
theorem cl_list : CallD X E (.type "list") m kList := CallR.imp call_list_of fun xs H Q ⟨A, S, g, ds, o, r, q⟩ => by
  unfold kList at q
  split at q
  · obtain ⟨v, rfl, h⟩ := rep1 r
    cases h with
    | @lst a ws _ h r => exact ⟨a, ws, rfl, .inl (.inl (.inl (o.ext _ _ h))), fun l hl => KE.newL q o r hl⟩
  · obtain ⟨v, rfl, h⟩ := rep1 r
    cases h with
    | @tup a ws _ h r => exact ⟨a, ws, rfl, .inr (tq o.ext h), fun l hl => KE.newL q o r hl⟩
  · obtain ⟨v, rfl, h⟩ := rep1 r
    cases h with
    | @slst a ws _ h r => exact ⟨a, ws, rfl, .inl (SqL.mono o.ext h), fun l hl => KE.newL q o r hl⟩
  · exact q.elim
def kTuple : List D → M D
  | [.lst xs] => M.pure (.tup xs)
  | [.tup xs] => M.pure (.tup xs)
  | [.slst xs] => M.pure (.tup xs)
  | _ => M.bad
theorem cl_tuple : CallD X E (.type "tuple") false kTuple := CallR.imp call_tuple_of fun xs H Q ⟨A, S, g, ds, o, r, q⟩ => by
  unfold kTuple at q
  split at q
  · obtain ⟨v, rfl, h⟩ := rep1 r
    cases h with
    | @lst a ws _ h r => exact ⟨a, ws, rfl, .inl ⟨.inl (.inl (o.ext _ _ h)), fun l hl => KE.newT q o r hl⟩⟩
  · obtain ⟨v, rfl, h⟩ := rep1 r
    cases h with
    | @tup a ws _ h r => exact ⟨a, ws, rfl, .inr ⟨tq o.ext h, KE.val q o (.tup h r)⟩⟩
  · obtain ⟨v, rfl, h⟩ := rep1 r
    cases h with
    | @slst a ws _ h r => exact ⟨a, ws, rfl, .inl ⟨SqL.mono o.ext h, fun l hl => KE.newT q o r hl⟩⟩
  · exact q.elim
def kInt : List D → M D
  | [.int i] => M.pure (.int i)
  | [.bl k] => M.pure (.int (if k then 1 else 0))
  | _ => M.bad
theorem cl_int : CallD X E (.type "int") false kInt := CallR.imp call_int1 fun xs H Q ⟨A, S, g, ds, o, r, q⟩ => by
  unfold kInt at q
  split at q
  · obtain ⟨v, rfl, h⟩ := rep1 r
    cases h with
    | int i => exact .inl ⟨_, rfl, KE.val q o (.int _)⟩
  · obtain ⟨v, rfl, h⟩ := rep1 r
    cases h with
    | bl k => exact .inr ⟨_, rfl, KE.val q o (.int _)⟩
  · exact q.elim
def D.ty : D → String
  | .non => "NoneType" | .bl _ => "bool" | .int _ => "int" | .str _ => "str"
  | .tup _ => "tuple" | .lst _ => "list" | .slst _ => "list" | .dT _ => "dict" | .dK _ => "dict" | .hdl _ => "?" | .ftup _ => "tuple" | .fT _ => "?" | .exc0 _ => "?" | .exc1 _ _ _ => "?"
def tyOk : D → Bool
  | .hdl _ => false | .fT _ => false | .exc0 _ => false | .exc1 _ _ _ => false
  | _ => true
def isTy (t n : String) : Bool := t == n || (t == "bool" && n == "int")
def kIsi (ns : List String) : D → M D
  | .hdl _ => M.bad
  | .fT _ => M.bad
  | .exc0 _ => M.bad
  | .exc1 _ _ _ => M.bad
  | d => M.pure (.bl (ns.any (isTy (D.ty d))))
theorem Rep.tyx {K : PySem.W.Frag} {A : List GAdr} {S H : Hp} (o : Same S H) {v : V} {d : D} (r : Rep K A S v d) (hn : tyOk d = true) : TyX K H v (.type (D.ty d)) := by
  cases r with
  | non => exact .base .non
  | bl b => exact .base (.bl b)
  | int i => exact .base (.int i)
  | str x => exact .base (.str x)
  | tup h r =>
    exact .base (.tup (o _ _ h))
  | ftup h r =>
    obtain ⟨u, h, _⟩ := h
    exact .fTuple (o _ _ h)
  | lst h r => exact .base (.lst (o _ _ h))
  | slst h r =>
    rcases h with (h | ⟨u, h⟩) | ⟨ob, its, n, hk, hc, _⟩
    · exact .base (.lst (o _ _ h))
    · exact .base (.frz (o _ _ h))
    · exact .kList hk hc
  | dT h r => exact .base (.dT (o _ _ h))
  | dK h r => exact .base (.dK (o _ _ h))
  | @hdl k _ h => cases hn
  | fT h r => cases hn
  | exc0 c h => cases hn
  | exc1 c h x r => cases hn
def tyNames : List String := ["NoneType", "bool", "int", "str", "tuple", "list", "dict"]
def clNames : List String := ["int", "bool", "str", "list", "tuple"]
theorem kit_one (K : PySem.W.Frag) : ∀ t ∈ tyNames, ∀ n ∈ clNames, PySem.W.kitOne K (.type t) (.type n) = some (isTy t n) := by
  intro t ht n hn
  simp only [tyNames, clNames, List.mem_cons, List.not_mem_nil, or_false] at ht hn
  rcases ht with rfl | rfl | rfl | rfl | rfl | rfl | rfl <;> rcases hn with rfl | rfl | rfl | rfl | rfl <;> rfl
end
end NS
namespace NS
open PySem PySem.Spec PyProof.Rows L2
section
variable {X : Cx} {E : XK} {m : Bool} {pos : Pos} {tg e : Expr} {fe : DS → M D}
theorem dit_list {K : PySem.W.Frag} {A : List GAdr} {S : Hp} {a : Addr} {xs : List V} {ds : List D} (r : RepL K A S xs ds) (h : SqL K S a xs) : DIt K A S (Itl K a) ds := by
  have w := walk_list (K := K) (a := a) (xs := xs)
  refine ⟨fun i H hi e => w.goes i H (by rw [r.length]; exact hi) (SqL.mono e h), fun i H hi e => ⟨xs, SqL.mono e h, by rw [r.length]; exact hi⟩, fun i H x H' hi e y => ?_⟩
  obtain ⟨e1, e2⟩ := w.yields i H x H' (by rw [r.length]; exact hi) (SqL.mono e h) y
  obtain ⟨d, e3, rr⟩ := r.get e2
  exact ⟨d, e3, .inl ⟨e1, rr⟩⟩
theorem dit_tup {K : PySem.W.Frag} {A : List GAdr} {S : Hp} {a : Addr} {xs : List V} {ds : List D} (r : RepL K A S xs ds) (h : SqT K S a xs) : DIt K A S (Itt K a) ds := by
  have w := walk_tup (K := K) (a := a) (xs := xs)
  refine ⟨fun i H hi e => w.goes i H (by rw [r.length]; exact hi) (SqT.mono e h), fun i H hi e => ⟨xs, SqT.mono e h, by rw [r.length]; exact hi⟩, fun i H x H' hi e y => ?_⟩
  obtain ⟨e1, e2⟩ := w.yields i H x H' (by rw [r.length]; exact hi) (SqT.mono e h) y
  obtain ⟨d, e3, rr⟩ := r.get e2
  exact ⟨d, e3, .inl ⟨e1, rr⟩⟩
theorem PI.or {t t' : TI} (h : PI X tg e t) (h' : PI X tg e t') : PI X tg e (fun σ H R => t σ H R ∨ t' σ H R) := ⟨fun pins s σ H R I q => q.elim (h.run pins s σ H R I) (h'.run pins s σ H R I)⟩
def itD : D → M (List D)
  | .lst xs => M.pure xs
  | .slst xs => M.pure xs
  | .tup xs => M.pure xs
  | .ftup xs => M.pure xs
  | _ => M.bad
def iSeq (f : DS → M D) : DS → M (List D) := fun σ => M.bind (f σ) itD
theorem KI.now {U : Sur} {A : List GAdr} {S H : Hp} {ds : List D} {g : G} {R : It → Hp → Prop} (h : KI U A S H (.ok ds g) R) (o : Ok U.K A S H g) {J : It} (d : DIt U.K A S J ds) : R J H := h A S H J (Post.refl _ _ _) o d
theorem di_seq (he : DE X E false e fe) : DI X E tg e (iSeq fe) :=
  PI.impD (PI.or (pi_list he) (pi_tup he)) fun σ H R ⟨A, S, g, σd, o, r, q⟩ => by
    have q' : KI (Cx.sur X E) A S H (M.bind (fe σd) itD g) R := q
    cases e1 : fe σd g with
    | bad => rw [bind_bad e1] at q'; exact q'.elim
    | err x g' =>
      rw [bind_err e1] at q'
      refine .inl ⟨A, S, g, σd, o, r, ?_⟩
      rw [e1]
      exact q'
    | ok d g1 =>
      rw [bind_ok e1] at q'
      cases d with
      | lst ds =>
        refine .inl ⟨A, S, g, σd, o, r, ?_⟩
        rw [e1]
        intro A' S' H' v p o' rv
        cases rv with
        | @lst a xs _ h rr => exact ⟨a, rfl, ⟨xs, .inl (.inl (o'.ext _ _ h))⟩, KI.now (q'.shift p) o' (dit_list rr (.inl (.inl h)))⟩
      | slst ds =>
        refine .inl ⟨A, S, g, σd, o, r, ?_⟩
        rw [e1]
        intro A' S' H' v p o' rv
        cases rv with
        | @slst a xs _ h rr => exact ⟨a, rfl, ⟨xs, SqL.mono o'.ext h⟩, KI.now (q'.shift p) o' (dit_list rr h)⟩
      | tup ds =>
        refine .inr ⟨A, S, g, σd, o, r, ?_⟩
        rw [e1]
        intro A' S' H' v p o' rv
        cases rv with
        | @tup a xs _ h rr => exact ⟨a, rfl, ⟨xs, tq o'.ext h⟩, KI.now (q'.shift p) o' (dit_tup rr (.inl (.inl h)))⟩
      | ftup ds =>
        refine .inr ⟨A, S, g, σd, o, r, ?_⟩
        rw [e1]
        intro A' S' H' v p o' rv
        cases rv with
        | @ftup a xs _ h rr => exact ⟨a, rfl, ⟨xs, h.sq o'.ext⟩, KI.now (q'.shift p) o' (dit_tup rr (h.sq (Same.refl _)))⟩
      | _ => exact q'.elim
def rngD (i j : Int) : List D := (List.range (j - i).toNat).map fun k => .int (i + (k : Nat))
def inR (i : Int) : Bool := decide (-(2 ^ 62) ≤ i) && decide (i < 2 ^ 62)
theorem inR_iff {i : Int} : inR i = true ↔ -(2 ^ 62) ≤ i ∧ i < 2 ^ 62 := by simp [inR]
def rng1 : List D → M (List D)
  | [.int j] => if inR j = true then M.pure (rngD 0 j) else M.bad
  | _ => M.bad
def rng2 : List D → M (List D)
  | [.int i, .int j] => if inR i = true ∧ inR j = true then M.pure (rngD i j) else M.bad
  | _ => M.bad
def iArgs (k : List D → M (List D)) (fl : DS → M (List D)) : DS → M (List D) := fun σ => M.bind (fl σ) k
theorem dit_rng {K : PySem.W.Frag} {A : List GAdr} {S : Hp} {lo hi : Int} {n : Nat} (hn : (hi - lo).toNat = n) : DIt K A S (Itr lo n) (rngD lo hi) := by
  have hl : (rngD lo hi).length = n := by simp [rngD, hn]
  refine ⟨fun i H h _ => by rw [hl] at h; exact h, fun i H h _ => by rw [hl] at h; exact h, fun i H x H' h _ y => ?_⟩
  obtain ⟨e1, e2⟩ := y
  subst e2
  refine ⟨.int (lo + (i : Nat)), ?_, .inl ⟨e1, .int _⟩⟩
  rw [hl] at h
  simp [rngD, hn, h]
variable {a b : Expr} {fl : DS → M (List D)} {p : Pos}
theorem di_range1 (hm : X.mg "range" = none) (ha : DL X E [a] fl) (hg : Gl X "range" := by rfl) (hs : starEach [a] X.env = [(false, eval a X.env)] := by rfl) : DI X E tg (.Call (.Name "range" p) [a] [] pos) (iArgs rng1 fl) :=
  PI.impD (pi_range1 hg hm ha hs) fun σ H R ⟨A, S, g, σd, o, r, q⟩ => ⟨A, S, g, σd, o, r, (KI.bindL q).imp fun vs H1 ⟨A1, S1, g1, ds, p1, o1, r1, q1⟩ => by
    unfold rng1 at q1
    split at q1
    · rename_i j
      obtain ⟨v, rfl, h⟩ := rep1 r1
      cases h
      by_cases c : inR j = true
      · rw [if_pos c] at q1
        have := inR_iff.mp c
        exact ⟨j, rfl, this.1, this.2, KI.now q1 o1 (dit_rng (by omega))⟩
      · rw [if_neg c] at q1; exact q1.elim
    · exact q1.elim⟩
def PRD (X : Cx) (E : XK) (e : Expr) (f : DS → M (Int × Int)) : Prop := PRg X e fun σ H Q => ∃ A S g σd, Ok X.K A S H g ∧ SRep X.K A S H σ σd ∧ match f σd g with
  | .ok (i, j) g' => ∀ A' S' H', Post A S H A' S' H' → Ok X.K A' S' H' g' → Q i j H'
  | .err x g' => ∀ A' S' H' c dd, Post A S H A' S' H' → Ok X.K A' S' H' g' → XRep X.mg X.K A' S' H' x c dd → E c dd H'
  | .bad => False
def asI : D → M Int
  | .int i => M.pure i
  | _ => M.bad
def r1D (fa : DS → M D) : DS → M (Int × Int) := fun σ => M.bind (M.bind (fa σ) asI) fun j => M.pure (0, j)
def r2D (fa fb : DS → M D) : DS → M (Int × Int) := fun σ => M.bind (fa σ) fun x => M.bind (fb σ) fun y => M.bind (asI x) fun i => M.bind (asI y) fun j => M.pure (i, j)
variable {fa fb : DS → M D}
theorem dr_1 (hm : X.mg "range" = none) (ha : DE X E false a fa) (hg : Gl X "range" := by rfl) (na : starEach [a] X.env = (false, eval a X.env) :: starEach [] X.env := by rfl) : PRD X E (.Call (.Name "range" p) [a] [] pos) (r1D fa) :=
  fun pins s σ H Q I ⟨A, S, g, σd, o, r, q⟩ => prg_1 hg hm ha na pins s σ H Q I ⟨A, S, g, σd, o, r, by
    unfold r1D at q
    cases e1 : fa σd g with
    | bad => rw [bind_bad (bind_bad e1)] at q; exact q.elim
    | err x g' => rw [bind_err (bind_err e1)] at q; exact q
    | ok d g1 =>
      intro A' S' H' v p' o' rv
      cases rv with
      | int j =>
        have e2 : M.bind (fa σd) asI g = .ok j g1 := by rw [bind_ok e1]; rfl
        rw [bind_ok e2] at q
        exact ⟨j, rfl, q A' S' H' p' o'⟩
      | _ =>
        rw [bind_bad (show M.bind (fa σd) asI g = .bad by rw [bind_ok e1]; rfl)] at q
        exact q.elim⟩
def rgOk (i j : Int) : Bool := inR i && inR j && decide ((j - i).toNat < 1000000)
def eLRg (f : DS → M (Int × Int)) : DS → M D := fun σ => M.bind (f σ) fun p => if rgOk p.1 p.2 = true then M.pure (.lst (rngD p.1 p.2)) else M.bad
def eTRg (f : DS → M (Int × Int)) : DS → M D := fun σ => M.bind (f σ) fun p => if rgOk p.1 p.2 = true then M.pure (.tup (rngD p.1 p.2)) else M.bad
theorem rgOk_of {i j : Int} (h : rgOk i j = true) : RgOk i j := by
  unfold rgOk at h
  simp only [Bool.and_eq_true, decide_eq_true_eq] at h
  have h1 := inR_iff.mp h.1.1
  have h2 := inR_iff.mp h.1.2
  exact ⟨h1.1, h1.2, h2.1, h2.2, by omega⟩
theorem rng_rep {K : PySem.W.Frag} {A : List GAdr} {S : Hp} (i j : Int) : RepL K A S (rgV i j) (rngD i j) := by
  unfold rgV rngD
  generalize List.range (j - i).toNat = l
  induction l with
  | nil => exact .nil
  | cons x l ih => exact .cons (.int _) ih
variable {fr : DS → M (Int × Int)}
theorem de_listRg (hm : X.mg "list" = none) (he : PRD X E e fr) (hc : X.calm = true := by rfl) (hg : Gl X "list" := by rfl) (na : starEach [e] X.env = (false, eval e X.env) :: starEach [] X.env := by rfl) : DE X E m (.Call (.Name "list" p) [e] [] pos) (eLRg fr) :=
  PE.impD (pe_listRg hc hg hm he na) fun σ H Q ⟨A, S, g, σd, o, r, q⟩ => ⟨A, S, g, σd, o, r, by
    unfold eLRg at q
    cases e1 : fr σd g with
    | bad => rw [bind_bad e1] at q; exact q.elim
    | err x g' => rw [bind_err e1] at q; exact q
    | ok d g1 =>
      rw [bind_ok e1] at q
      obtain ⟨i, j⟩ := d
      intro A1 S1 H1 p1 o1
      by_cases c : rgOk i j = true
      · rw [if_pos c] at q
        exact ⟨rgOk_of c, fun l hl => KE.newL (KE.shift p1 q) o1 (rng_rep i j) hl⟩
      · rw [if_neg c] at q; exact q.elim⟩
def zipD (xs ys : List D) : List D := (xs.zip ys).map fun p => .tup [p.1, p.2]
end
section
variable {X : Cx} {E : XK} {pos p p1 p2 p3 : Pos} {e : Expr} {fe : DS → M D}
def eIsi (ns : List String) (fe : DS → M D) : DS → M D := fun σ => M.bind (fe σ) (kIsi ns)
theorem kIsi_or (ns : List String) (d : D) (g : G) : kIsi ns d g = .bad ∨ (tyOk d = true ∧ kIsi ns d g = .ok (.bl (ns.any (isTy (D.ty d)))) g) := by
  cases d <;> first
    | exact .inl rfl
    | exact .inr ⟨rfl, rfl⟩
theorem ty_in (d : D) (h : tyOk d = true) : D.ty d ∈ tyNames := by
  cases d <;> first
    | exact absurd h Bool.false_ne_true
    | (simp [D.ty, tyNames])
theorem de_isi {T : Str} {n : String} (hm : X.mg "isinstance" = none) (hT : X.mg T = none) (he : DE X E false e fe) (hn : n ∈ clNames := by decide) (hv : bootBuiltins T = some (.type n) := by decide +kernel) (hgT : Gl X T := by rfl) (hg : Gl X "isinstance" := by rfl)
    (n1 : T ≠ "__name__" := by decide) (n2 : (T == ("__debug__" : Str)) = false := by decide)
    (hs : starEach [e, .Name T p1] X.env = (false, eval e X.env) :: starEach [.Name T p1] X.env := by rfl) (hs2 : starEach [.Name T p1] X.env = (false, eval (.Name T p1) X.env) :: starEach [] X.env := by rfl)
    (hpl : (backTo pos (starEach [.Name T p1] X.env)).any (·.1) = false := by rfl) : DE X E false (.Call (.Name "isinstance" p) [e, .Name T p1] [] pos) (eIsi [n] fe) :=
  PE.impD (pe_callB call_isi hg hm (by decide +kernel) (pa_cons he (pa_cons (pe_bltn (v := .ty n) hgT hT hv rfl n1 n2) pa_nil hs2) hs) (by decide) (by decide) hs hpl) fun σ H Q ⟨A, S, g, σd, o, r, q⟩ => ⟨A, S, g, σd, o, r, (KE.bindE q).imp fun v H1 ⟨A1, S1, g1, d, p1, o1, r1, q1⟩ => by
    rcases kIsi_or [n] d g1 with h | ⟨h, h2⟩
    · rw [h] at q1; exact q1.elim
    · rw [h2] at q1
      have hk := kit_one X.K _ (ty_in d h) n hn
      exact ⟨v, .ty n, _, _, _, rfl, .ty n, Rep.tyx o1.ext r1 h, hk, by simpa using KE.val q1 o1 (.bl _)⟩⟩
theorem kit_any2 (K : PySem.W.Frag) (t n1 n2 : String) (h1 : t ∈ tyNames) (h2 : n1 ∈ clNames) (h3 : n2 ∈ clNames) : PySem.W.kitAny K (.type t) [.type n1, .type n2] = some ([n1, n2].any (isTy t)) := by
  unfold PySem.W.kitAny PySem.W.kitAny PySem.W.kitAny
  rw [kit_one K t h1 n1 h2, kit_one K t h1 n2 h3]
  simp only [List.any_cons, List.any_nil, Bool.or_false]
  cases isTy t n1 <;> cases isTy t n2 <;> rfl
theorem de_isi2 {T1 T2 : Str} {n1 n2 : String} {kt : Nat} (hm : X.mg "isinstance" = none) (hT1 : X.mg T1 = none) (hT2 : X.mg T2 = none) (he : DE X E false e fe) (hn1 : n1 ∈ clNames := by decide) (hn2 : n2 ∈ clNames := by decide) (hv1 : bootBuiltins T1 = some (.type n1) := by decide +kernel) (hv2 : bootBuiltins T2 = some (.type n2) := by decide +kernel)
    (hgT1 : Gl X T1 := by rfl) (hgT2 : Gl X T2 := by rfl) (hg : Gl X "isinstance" := by rfl)
    (a1 : T1 ≠ "__name__" := by decide) (a2 : (T1 == ("__debug__" : Str)) = false := by decide) (b1 : T2 ≠ "__name__" := by decide) (b2 : (T2 == ("__debug__" : Str)) = false := by decide)
    (hs : starEach [e, .Tuple [.Name T1 p1, .Name T2 p2] kt p3] X.env = (false, eval e X.env) :: starEach [.Tuple [.Name T1 p1, .Name T2 p2] kt p3] X.env := by rfl) (hs2 : starEach [.Tuple [.Name T1 p1, .Name T2 p2] kt p3] X.env = (false, eval (.Tuple [.Name T1 p1, .Name T2 p2] kt p3) X.env) :: starEach [] X.env := by rfl)
    (hs3 : starEach [.Name T1 p1, .Name T2 p2] X.env = (false, eval (.Name T1 p1) X.env) :: starEach [.Name T2 p2] X.env := by rfl) (hs4 : starEach [.Name T2 p2] X.env = (false, eval (.Name T2 p2) X.env) :: starEach [] X.env := by rfl)
    (hpl : (backTo pos (starEach [.Tuple [.Name T1 p1, .Name T2 p2] kt p3] X.env)).any (·.1) = false := by rfl) : DE X E false (.Call (.Name "isinstance" p) [e, .Tuple [.Name T1 p1, .Name T2 p2] kt p3] [] pos) (eIsi [n1, n2] fe) :=
  PE.impD (pe_callB call_isiT hg hm (by decide +kernel) (pa_cons he (pa_cons (pe_tup (pa_cons (pe_bltn (v := .ty n1) hgT1 hT1 hv1 rfl a1 a2) (pa_cons (pe_bltn (v := .ty n2) hgT2 hT2 hv2 rfl b1 b2) pa_nil hs4) hs3)) pa_nil hs2) hs) (by decide) (by decide) hs hpl) fun σ H Q ⟨A, S, g, σd, o, r, q⟩ => ⟨A, S, g, σd, o, r, (KE.bindE q).imp fun v H1 ⟨A1, S1, g1, d, p1, o1, r1, q1⟩ => by
    refine ⟨by show 2 ≤ sizeLine; decide, fun tp htp => ?_⟩
    have P := Post.lay (A := A1) (o := .tup [.ty n1, .ty n2]) htp o1.ext
    have o2 := o1.lay (o := .tup [.ty n1, .ty n2]) htp
    rcases kIsi_or [n1, n2] d g1 with h | ⟨h, h2⟩
    · rw [h] at q1; exact q1.elim
    · rw [h2] at q1
      have hk := kit_any2 X.K _ n1 n2 (ty_in d h) hn1 hn2
      exact ⟨v, tp, _, _, _, _, rfl, upd_same, .cons (.ty n1) (.cons (.ty n2) .nil), Rep.tyx o2.ext (Rep.mono P.a P.s r1) h, hk, KE.val (KE.shift P q1) o2 (.bl _)⟩⟩
end
end NS
namespace NS
open PySem PySem.Spec PyProof.Rows L2
theorem gfp_sep : ∀ {A : List GAdr}, (gfp A).Nodup → ∀ {k k' : Nat} {ga ga' : GAdr} {x : Addr}, A[k]? = some ga → A[k']? = some ga' → k ≠ k' → x ∈ ga.fp → x ∉ ga'.fp
  | [], _, _, _, _, _, _, e, _, _, _ => by simp at e
  | b :: A, h, k, k', ga, ga', x, e, e', ne, hx => by
    have h1 : (b.fp ++ gfp A).Nodup := h
    obtain ⟨n1, n2, n3⟩ := List.nodup_append.mp h1
    cases k with
    | zero =>
      cases k' with
      | zero => exact absurd rfl ne
      | succ k' =>
        have ea : b = ga := by simpa using e
        subst ea
        have e2 : A[k']? = some ga' := by simpa using e'
        intro hx'
        exact n3 x hx x (List.mem_flatMap.mpr ⟨ga', List.mem_of_getElem? e2, hx'⟩) rfl
    | succ k =>
      have e1 : A[k]? = some ga := by simpa using e
      cases k' with
      | zero =>
        have ea : b = ga' := by simpa using e'
        subst ea
        intro hx'
        exact n3 x hx' x (List.mem_flatMap.mpr ⟨ga, List.mem_of_getElem? e1, hx⟩) rfl
      | succ k' =>
        have e2 : A[k']? = some ga' := by simpa using e'
        exact gfp_sep n2 e1 e2 (fun z => ne (by rw [z])) hx
section
variable {K : PySem.W.Frag} {A : List GAdr} {S H : Hp} {g : G}
theorem Ok.setSrc (o : Ok K A S H g) {k : Nat} {a : Addr} {x y z x' y' z' : Int} (e : A[k]? = some (.src a)) (eg : g[k]? = some (.src x y z)) : Ok K A S (upd H a (.lst [.int x', .int y', .int z'])) (g.set k (.src x' y' z')) := by
  have ha : a ∈ gfp A := List.mem_flatMap.mpr ⟨_, List.mem_of_getElem? e, by simp [GAdr.fp]⟩
  have sa := o.out a ha
  refine ⟨fun b u eb => by rw [upd_ne (ne_of_none eb sa)]; exact o.ext _ _ eb, by simp [o.len], fun j ga c e1 e2 => ?_, o.nd, o.out⟩
  rcases set_get e2 with ⟨rfl, z, _⟩ | ⟨ne, e2⟩
  · rw [e] at e1; cases e1; subst z; exact upd_same
  · refine (o.cel j ga c e1 e2).mono (List.prefix_refl _) (Same.refl _) fun b hb => upd_ne ?_
    rintro rfl
    exact gfp_sep o.nd e e1 ne (by simp [GAdr.fp]) hb
theorem Post.cell {A0 : List GAdr} {S0 H0 : Hp} {a : Addr} {o : HO} (p : Post A0 S0 H0 A S H) (ha : a ∈ gfp A) : Post A0 S0 H0 A S (upd H a o) where
  a := p.a
  s := p.s
  snew := p.snew
  keep := fun x u h n => by
    have ne : x ≠ a := by
      rintro rfl
      rcases p.anew x ha with z | z
      · exact n z
      · rw [h] at z; cases z
    rw [upd_ne ne]; exact p.keep x u h n
  dom := fun x u h => by
    by_cases e : x = a
    · subst e; exact ⟨_, upd_same⟩
    · obtain ⟨v, hv⟩ := p.dom x u h; exact ⟨v, by rw [upd_ne e]; exact hv⟩
  anew := p.anew
theorem Stt.setSrc {e0 : En} {σd : DS} {σ : L2.St} (s : Stt K e0 A S g σd σ H) {k : Nat} {a : Addr} {x y z x' y' z' : Int} (e : A[k]? = some (.src a)) (eg : g[k]? = some (.src x y z)) :
    Stt K e0 A S (g.set k (.src x' y' z')) σd σ (upd H a (.lst [.int x', .int y', .int z'])) := by
  have ha : a ∈ gfp A := List.mem_flatMap.mpr ⟨_, List.mem_of_getElem? e, by simp [GAdr.fp]⟩
  refine ⟨s.ok.setSrc e eg, s.rep.loose (s.ok.out a ha) fun j d ed es => ?_, s.post.cell ha, s.own⟩
  obtain ⟨p, e1, _, e3, _⟩ := s.rep.ow ed
  rw [es] at e1; cases e1
  exact e3 ha
theorem Ok.newSrc (o : Ok K A S H g) {p : Addr} {x y z : Int} (hp : S p = none) (hg : p ∉ gfp A) (hH : H p = some (.lst [.int x, .int y, .int z])) : Ok K (A ++ [.src p]) S H (g ++ [.src x y z]) := by
  refine ⟨o.ext, by simp [o.len], fun k ga c e1 e2 => ?_, ?_, fun b hb => ?_⟩
  · by_cases h : k < A.length
    · rw [List.getElem?_append_left h] at e1
      rw [List.getElem?_append_left (by rw [← o.len]; exact h)] at e2
      exact (o.cel k ga c e1 e2).mono (List.prefix_append _ _) (Same.refl _) fun _ _ => rfl
    · rw [List.getElem?_append_right (Nat.le_of_not_lt h)] at e1
      rw [List.getElem?_append_right (by rw [← o.len]; exact Nat.le_of_not_lt h)] at e2
      rw [← o.len] at e2
      cases q : k - A.length with
      | zero =>
        rw [q] at e1 e2
        cases e1; cases e2
        exact hH
      | succ n => rw [q] at e1; simp at e1
  · rw [gfp_append]
    refine List.nodup_append.mpr ⟨o.nd, by simp [gfp, GAdr.fp], fun x hx y hy => ?_⟩
    have : y = p := by simpa [gfp, GAdr.fp] using hy
    subst this
    exact fun z => hg (z ▸ hx)
  · rw [gfp_append] at hb
    rcases List.mem_append.mp hb with hb | hb
    · exact o.out b hb
    · have : b = p := by simpa [gfp, GAdr.fp] using hb
      subst this; exact hp
end
section
variable {X : Cx} {E : XK} {pos : Pos} {m : Bool} {e0 : En} {e ei : Expr} {fe fi : DS → M D}
def srcSet (x i d : D) (σ : DS) : M Fl := match x, i, d with
  | .hdl k, .int n, .int v => fun g => (match g[k]? with
    | some (.src a b c) => (match ixN 3 n with
      | some 0 => .ok (.nx σ) (g.set k (.src v b c))
      | some 1 => .ok (.nx σ) (g.set k (.src a v c))
      | some 2 => .ok (.nx σ) (g.set k (.src a b v))
      | _ => .bad)
    | _ => .bad)
  | _, _, _ => M.bad
def sSetIxH (j : Nat) (fe fi : DS → M D) : DS → M Fl := fun σ => M.bind (fe σ) fun d => M.bind (eVar j σ) fun x => M.bind (fi σ) fun i => srcSet x i d σ
theorem ds_setIxH (j : Nat) {x : Str} {px tpos : Pos} (he : DE X E false e fe) (hi : DE X E false ei fi) (hN : X.N[j]? = some x := by rfl) (hv : Vis X.env.scope x := by first | exact Or.inl rfl | exact Or.inr (Or.inl rfl) | exact Or.inr (Or.inr rfl)) (hd : (x == ("__debug__" : Str)) = false := by decide)
    (hcd : (x == ("__classdict__" : Str)) = false := by decide)
    (ha : ∀ v, assign (.Subscript (.Name x px) ei tpos) X.env v = (do
      let ov ← holding [v] (eval (.Name x px) X.env)
      let iv ← holding [v, ov] (eval ei X.env)
      standAt tpos
      holding [v, ov, iv] (setItem ov iv v)
      release [v, ov, iv] []) := by intro _; rfl)
    (hs : swapsWithSole [.Subscript (.Name x px) ei tpos] e pos.line X.env = pure false := by rfl) (hw : swappedStores [.Subscript (.Name x px) ei tpos] e X.env = pure none := by rfl)
    (h1 : (assignEach [.Subscript (.Name x px) ei tpos] X.env).map (·.2) = [assign (.Subscript (.Name x px) ei tpos) X.env] := by rfl) :
    DS1 X E m e0 (.Assign [.Subscript (.Name x px) ei tpos] e pos) (sSetIxH j fe fi) :=
  PS.impD (ps_asg he (pg_sub (pe_var hN hv hd hcd) hi set_list ha) hs hw h1) fun Z σ H ⟨A, S, g, σd, s, q⟩ => ⟨A, S, g, σd, s.ok, s.rep, (KS.bindE (m1 := false) s.post q).imp fun v H1 ⟨A1, S1, g1, d, p1, o1, r1, q1⟩ => by
    have s1 := s.post' p1 o1
    obtain ⟨dx, vx, e1, e2, rx, q2⟩ := eVar_get s1.rep q1
    refine ⟨vx, e2, A1, S1, g1, σd, o1, s1.rep, (KS.bindE (m1 := false) s1.post q2).imp fun w H2 ⟨A2, S2, g2, d2, p2, o2, r2, q3⟩ => ?_⟩
    have s2 := s1.post' p2 o2
    have rx2 := Rep.mono p2.a p2.s rx
    have r12 := Rep.mono p2.a p2.s r1
    have q3 : KS (Cx.sur X E) m e0 A2 S2 (srcSet dx d2 d σd g2) Z := q3
    cases rx2 with
    | @hdl k ga hk =>
      cases r2 with
      | int n =>
        cases r12 with
        | int u =>
          have q4 : KS (Cx.sur X E) m e0 A2 S2 ((match g2[k]? with
            | some (.src a b c) => (match ixN 3 n with
              | some 0 => .ok (.nx σd) (g2.set k (.src u b c))
              | some 1 => .ok (.nx σd) (g2.set k (.src a u c))
              | some 2 => .ok (.nx σd) (g2.set k (.src a b u))
              | _ => .bad)
            | _ => .bad : Res Fl)) Z := q3
          cases eg : g2[k]? with
          | none => rw [eg] at q4; exact q4.elim
          | some c =>
            rw [eg] at q4
            cases c with
            | sto _ _ => exact q4.elim
            | tab _ => exact q4.elim
            | src x y z =>
              have cl := o2.cel k ga _ hk eg
              cases ga with
              | sto _ _ _ _ _ => exact cl.elim
              | tab _ => exact cl.elim
              | src p =>
                have cl : H2 p = some (.lst [.int x, .int y, .int z]) := cl
                have q5 : KS (Cx.sur X E) m e0 A2 S2 ((match ixN 3 n with
                  | some 0 => .ok (.nx σd) (g2.set k (.src u y z))
                  | some 1 => .ok (.nx σd) (g2.set k (.src x u z))
                  | some 2 => .ok (.nx σd) (g2.set k (.src x y u))
                  | _ => .bad : Res Fl)) Z := q4
                cases en : ixN 3 n with
                | none => rw [en] at q5; exact q5.elim
                | some j =>
                  rw [en] at q5
                  match j, en, q5 with
                  | 0, en, q5 => exact ⟨p, _, n, 0, rfl, rfl, cl, en, q5 A2 S2 _ σ (List.prefix_refl _) (Same.refl _) (s2.setSrc hk eg)⟩
                  | 1, en, q5 => exact ⟨p, _, n, 1, rfl, rfl, cl, en, q5 A2 S2 _ σ (List.prefix_refl _) (Same.refl _) (s2.setSrc hk eg)⟩
                  | 2, en, q5 => exact ⟨p, _, n, 2, rfl, rfl, cl, en, q5 A2 S2 _ σ (List.prefix_refl _) (Same.refl _) (s2.setSrc hk eg)⟩
                  | j + 3, en, q5 => exact q5.elim
        | _ => exact q3.elim
      | _ => cases r12 <;> exact q3.elim
    | _ => cases r2 <;> cases r12 <;> exact q3.elim⟩
def srcNew : D → M Fl
  | .lst [.int a, .int b, .int c] => fun g => .ok (.rt (.hdl g.length)) (g ++ [.src a b c])
  | _ => M.bad
def sRetH (fe : DS → M D) : DS → M Fl := fun σ => M.bind (fe σ) srcNew
theorem rep3 {K : PySem.W.Frag} {A : List GAdr} {S : Hp} {xs : List V} {a b c : Int} (r : RepL K A S xs [.int a, .int b, .int c]) : xs = [.int a, .int b, .int c] := by
  cases r with | cons h r => cases r with | cons h2 r => cases r with | cons h3 r => cases r; cases h; cases h2; cases h3; rfl
theorem ds_retH (he : DE X E true e fe) : DS1 X E false e0 (.Return (some e) pos) (sRetH fe) :=
  PS.impD (ps_ret he) fun Z σ H ⟨A, S, g, σd, s, q⟩ => ⟨A, S, g, σd, s.ok, s.rep, (KS.bindE (m1 := true) s.post q).imp fun v H1 ⟨A1, S1, g1, d, p1, o1, r1, q1⟩ => by
    have s1 := s.post' p1 o1
    unfold srcNew at q1
    split at q1
    · rename_i a b c
      obtain ⟨p, rfl, h0, h1, h2, vs, h3, h4⟩ := r1
      have := rep3 h4
      subst this
      have o2 := o1.newSrc h1 h2 h3
      have q2 : KS (Cx.sur X E) false e0 A1 S1 (.ok (.rt (.hdl g1.length)) (g1 ++ [.src a b c])) Z := q1
      refine q2 (A1 ++ [.src p]) S1 H1 (.ref p) o2 ?_ (.hdl (ga := .src p) ?_)
      · refine s.post.trans ⟨p1.a.trans (List.prefix_append _ _), p1.s, p1.snew, p1.keep, p1.dom, fun x hx => ?_⟩
        rw [gfp_append] at hx
        rcases List.mem_append.mp hx with hx | hx
        · exact p1.anew x hx
        · have : x = p := by simpa [gfp, GAdr.fp] using hx
          subst this; exact .inr h0
      · rw [← o1.len]; simp
    · exact q1.elim⟩
theorem zipD_get {xs ys : List D} {i : Nat} {x y : D} (h1 : xs[i]? = some x) (h2 : ys[i]? = some y) : (zipD xs ys)[i]? = some (.tup [x, y]) := by
  unfold zipD
  rw [List.getElem?_map, (List.getElem?_zip_eq_some (z := (x, y))).mpr ⟨h1, h2⟩]
  rfl
theorem zipD_len (xs ys : List D) : (zipD xs ys).length = min xs.length ys.length := by simp [zipD]
variable {a b : Expr} {fl : DS → M (List D)} {p tpos : Pos} {elts : List Expr} {kk : Nat}
theorem rep2' {K : PySem.W.Frag} {A : List GAdr} {S : Hp} {xs : List V} {d c : D} (r : RepL K A S xs [d, c]) : ∃ v w, xs = [v, w] ∧ Rep K A S v d ∧ Rep K A S w c := by
  cases r with | cons h r => cases r with | cons h2 r => cases r; exact ⟨_, _, rfl, h, h2⟩
end
end NS
namespace NS
open PySem PySem.Spec PyProof.Rows L2
def frz1 (i : Nat) (σ : DS) : DS := match σ[i]? with
  | some (some (.ow d)) => σ.set i (some (.sh d))
  | _ => σ
mutual
def D.pur : D → Bool
  | .non => true | .bl _ => true | .int _ => true | .str _ => true | .hdl _ => true
  | .tup xs => D.purs xs
  | .lst _ => false | .slst _ => false | .dT _ => false | .dK _ => false | .ftup xs => D.purs xs | .fT _ => false | .exc0 _ => false | .exc1 _ _ _ => false
def D.purs : List D → Bool
  | [] => true
  | x :: xs => D.pur x && D.purs xs
end
def GCell.pur : GCell → Bool
  | .src _ _ _ => true
  | .sto a b => D.purs a && D.purs b
  | .tab _ => true
def Gpur (g : G) : Bool := g.all GCell.pur
section
variable {K : PySem.W.Frag} {A : List GAdr} {S S' H H' : Hp} {g : G} {σd : DS} {σ : L2.St}
theorem frz1_ok (o : Ok K A S H g) (r : SRep K A S H σ σd) (i : Nat) : (frz1 i σd = σd) ∨ ∃ p d u, σd[i]? = some (some (.ow d)) ∧ σ[i]? = some (some (.ref p)) ∧ S p = none ∧ p ∉ gfp A ∧ H p = some u ∧ Top K A S H p d ∧ frz1 i σd = σd.set i (some (.sh d)) ∧
    Ok K A (upd S p u) H g ∧ SRep K A (upd S p u) H σ (frz1 i σd) := by
  unfold frz1
  match e : σd[i]? with
  | some (some (.ow d)) =>
    obtain ⟨p, e1, h1, h2, h3⟩ := r.ow e
    obtain ⟨u, hu, rr⟩ := h3.frozen h1
    exact .inr ⟨p, d, u, rfl, e1, h1, h2, hu, h3, rfl, o.freeze h1 hu h2, r.freeze e e1 h1 hu rr⟩
  | some (some (.sh d)) => exact .inl rfl
  | some none => exact .inl rfl
  | none => exact .inl rfl
def delH (S : Hp) (p : Addr) : Hp := fun x => if x = p then none else S x
theorem delH_ne {p x : Addr} (h : x ≠ p) : delH S p x = S x := if_neg h
theorem delH_same {p : Addr} : delH S p p = none := if_pos rfl
def NoTup (S : Hp) (p : Addr) : Prop := (∀ xs, ¬ Rd S p (.tup xs)) ∧ ∀ φ, S p ≠ some (.ext φ)
theorem fz_del {S : Hp} {p a : Addr} {xs : List V} (nt : NoTup S p) (h : FzT S a xs) : FzT (delH S p) a xs := by
  obtain ⟨o, h, d⟩ := h
  have ne : a ≠ p := by rintro rfl; exact nt.1 _ (.inr ⟨o, h⟩)
  exact ⟨o, by rw [delH_ne ne]; exact h, d⟩
mutual
theorem Rep.del {p : Addr} (nt : NoTup S p) : ∀ {v : V} {d : D}, Rep K A S v d → D.pur d = true → Rep K A (delH S p) v d
  | _, _, .non, _ => .non
  | _, _, .bl b, _ => .bl b
  | _, _, .int i, _ => .int i
  | _, _, .str x, _ => .str x
  | _, _, .hdl h, _ => .hdl h
  | _, _, .tup h r, q => .tup (by
      rw [delH_ne]; exact h; rintro rfl; exact nt.1 _ (.inl h)) (RepL.del nt r q)
  | _, _, .ftup h r, q => .ftup (fz_del nt h) (RepL.del nt r q)
  | _, _, .lst _ _, q => nomatch q
  | _, _, .slst _ _, q => nomatch q
  | _, _, .dT _ _, q => nomatch q
  | _, _, .dK _ _, q => nomatch q
  | _, _, .fT _ _, q => nomatch q
  | _, _, .exc0 _ _, q => nomatch q
  | _, _, .exc1 _ _ _ _, q => nomatch q
theorem RepL.del {p : Addr} (nt : NoTup S p) : ∀ {vs : List V} {ds : List D}, RepL K A S vs ds → D.purs ds = true → RepL K A (delH S p) vs ds
  | _, _, .nil, _ => .nil
  | _, _, .cons h r, q => .cons (Rep.del nt h (Bool.and_eq_true_iff.mp q).1) (RepL.del nt r (Bool.and_eq_true_iff.mp q).2)
end
theorem CellOk.del {p : Addr} (nt : NoTup S p) {ga : GAdr} {c : GCell} (h : CellOk K A S H ga c) (q : c.pur = true) : CellOk K A (delH S p) H ga c := by
  cases ga <;> cases c <;> first
    | exact h.elim
    | exact h
    | (obtain ⟨h1, ps, h2, h3, h4⟩ := h
       refine ⟨h1, ps, h2, h3, fun pos cv z => ?_⟩
       obtain ⟨c, e1, e2⟩ := h4 pos cv z
       exact ⟨c, e1, by rw [delH_ne (by rintro rfl; exact nt.2 _ e2)]; exact e2⟩)
    | (obtain ⟨h0, h1, h2, ⟨vs, h3, h4⟩, ws, h5, h6⟩ := h
       have q' := Bool.and_eq_true_iff.mp q
       exact ⟨h0, h1, h2, ⟨vs, h3, h4.del nt q'.1⟩, ws, h5, h6.del nt q'.2⟩)
theorem Ok.del {p : Addr} (o : Ok K A S H g) (nt : NoTup S p) (q : Gpur g = true) : Ok K A (delH S p) H g := by
  refine ⟨fun b u e => ?_, o.len, fun k ga c e1 e2 => (o.cel k ga c e1 e2).del nt (List.all_eq_true.mp q c (List.mem_of_getElem? e2)), o.nd, fun x hx => ?_⟩
  · by_cases h : b = p
    · subst h; rw [delH_same] at e; cases e
    · rw [delH_ne h] at e; exact o.ext _ _ e
  · by_cases h : x = p
    · subst h; exact delH_same
    · rw [delH_ne h]; exact o.out x hx
theorem Top.notup {p : Addr} {d : D} (h : Top K A S H p d) (e : ∀ u, H p = Option.some u → S' p = Option.some u) : NoTup S' p := by
  constructor
  · intro xs hr
    cases d <;> first
      | exact h.elim
      | (obtain ⟨vs, h1, _⟩ := h
         have h2 := e _ h1
         rcases hr with hr | ⟨o, hr⟩
         · rw [h2] at hr; cases hr
         · rw [h2] at hr; cases hr)
  · intro φ hr
    cases d <;> first
      | exact h.elim
      | (obtain ⟨vs, h1, _⟩ := h
         have h2 := e _ h1
         rw [h2] at hr; cases hr)
theorem Post.thaw {A' : List GAdr} {S1 S' H' : Hp} {p : Addr} {u : HO} (hp : S p = none) (q : Post A (upd S p u) H A' S' H') : Post A S H A' (delH S' p) H' where
  a := q.a
  s := fun x o e => by
    have ne := ne_of_none e hp
    rw [delH_ne ne]
    exact q.s x o (by rw [upd_ne ne]; exact e)
  snew := fun x o e => by
    by_cases h : x = p
    · subst h; rw [delH_same] at e; cases e
    · rw [delH_ne h] at e
      rcases q.snew x o e with z | z
      · rw [upd_ne h] at z; exact .inl z
      · exact .inr z
  keep := q.keep
  dom := q.dom
  anew := q.anew
end
def eBor (i : Nat) (f : DS → M D) : DS → M D := fun σ => fun g => match f (frz1 i σ) g with
  | .ok d g' => if (D.pur d && Gpur g') = true then .ok d g' else .bad
  | .err _ _ => .bad
  | .bad => .bad
def eBorO (i : Nat) (f : DS → M D) : DS → M D := fun σ => fun g => match f (frz1 i σ) g with
  | .ok (.lst ds) g' => if (D.purs ds && Gpur g') = true then .ok (.lst ds) g' else .bad
  | _ => .bad
def tBor (i : Nat) (f : DS → M Bool) : DS → M Bool := fun σ => fun g => match f (frz1 i σ) g with
  | .ok d g' => if Gpur g' = true then .ok d g' else .bad
  | .err _ _ => .bad
  | .bad => .bad
section
variable {X : Cx} {E : XK} {e : Expr} {fe : DS → M D} {ft : DS → M Bool} {m : Bool} {e0 : En}
theorem de_bor (i : Nat) (he : DE X E false e fe) : DE X E false e (eBor i fe) := PE.impD he fun σ H Q ⟨A, S, g, σd, o, r, q⟩ => by
  unfold eBor at q
  rcases frz1_ok o r i with h | ⟨p, d0, u, e1, e2, h1, h2, hu, tp, ef, o2, r2⟩
  · rw [h] at q
    refine ⟨A, S, g, σd, o, r, ?_⟩
    cases e1 : fe σd g with
    | ok d g' =>
      rw [e1] at q
      have q : KE (Cx.sur X E) false A S H (if (D.pur d && Gpur g') = true then .ok d g' else .bad) Q := q
      by_cases c : (D.pur d && Gpur g') = true
      · rw [if_pos c] at q; exact q
      · rw [if_neg c] at q; exact q.elim
    | err x g' => rw [e1] at q; exact q.elim
    | bad => rw [e1] at q; exact q.elim
  · refine ⟨A, upd S p u, g, frz1 i σd, o2, r2, ?_⟩
    cases e1 : fe (frz1 i σd) g with
    | err x g' => rw [e1] at q; exact q.elim
    | bad => rw [e1] at q; exact q.elim
    | ok d g' =>
      rw [e1] at q
      have q : KE (Cx.sur X E) false A S H (if (D.pur d && Gpur g') = true then .ok d g' else .bad) Q := q
      by_cases c : (D.pur d && Gpur g') = true
      · rw [if_pos c] at q
        have c' := Bool.and_eq_true_iff.mp c
        intro A' S' H' v P o' rv
        have nt : NoTup S' p := tp.notup fun w hw => P.s p w (by rw [upd_same]; rw [hu] at hw; exact hw)
        exact q A' (delH S' p) H' v (Post.thaw (S1 := S) h1 P) (o'.del nt c'.2) (Rep.del nt rv c'.1)
      · rw [if_neg c] at q; exact q.elim
def sFrz (i : Nat) (f : DS → M Fl) : DS → M Fl := fun σ => f (frz1 i σ)
theorem Stt.frz {K : PySem.W.Frag} {A : List GAdr} {S H : Hp} {g : G} {σd : DS} {σ : L2.St} (s : Stt K e0 A S g σd σ H) (i : Nat) : ∃ S', Same S S' ∧ Stt K e0 A S' g (frz1 i σd) σ H := by
  rcases frz1_ok s.ok s.rep i with h | ⟨p, d0, u, e1, e2, h1, h2, hu, tp, ef, o2, r2⟩
  · rw [h]; exact ⟨S, Same.refl _, s⟩
  · have sm : Same S (upd S p u) := fun b x e => by rw [upd_ne (ne_of_none e h1)]; exact e
    refine ⟨_, sm, o2, r2, ⟨s.post.a, s.post.s.trans sm, fun x o e => ?_, s.post.keep, s.post.dom, s.post.anew⟩, fun j d q e3 e4 => ?_⟩
    · by_cases h : x = p
      · subst h; exact .inr (.inl (s.own i d0 x e1 e2))
      · rw [upd_ne h] at e; exact s.post.snew x o e
    · rw [ef] at e3
      rcases set_get e3 with ⟨rfl, z, _⟩ | ⟨ne, e3⟩
      · cases z
      · exact s.own j d q e3 e4
variable {st : Stmt} {f : DS → M Fl}
theorem ds_frz (i : Nat) (h : DS1 X E m e0 st f) : DS1 X E m e0 st (sFrz i f) := PS.impD h fun Z σ H ⟨A, S, g, σd, s, q⟩ => by
  obtain ⟨S', sm, s'⟩ := s.frz i
  exact ⟨A, S', g, frz1 i σd, s', KS.floor (List.prefix_refl _) sm q⟩
end
end NS
namespace NS
open PySem PySem.Spec PyProof.Rows L2
structure Has (P : Program) (w : World) (K : PySem.W.Frag) (mg : Str → Option Value) (base : Heap) (x : Str) (st : Stmt) (k : Nat) (ps : List Str) (m : Bool) (d : List D → M D) : Prop where
  ex : ∃ f fd, Fun K x x st f fd ∧ mg x = some (.ref f) ∧ FnD P w K mg base (XC P w) k f fd ps m d
structure At (K : PySem.W.Frag) (mg : Str → Option Value) (x : Str) (st : Stmt) : Prop where
  ex : ∃ f fd, Fun K x x st f fd ∧ mg x = some (.ref f)
def permL {α : Type} (idx : List Nat) (l : List α) : List α := idx.filterMap fun i => l[i]?
section
variable {K : PySem.W.Frag} {A : List GAdr} {S : Hp}
theorem permL_vals {zs : List V} {ws : List Value} (r : Vals zs ws) : ∀ idx : List Nat, Vals (permL idx zs) (permL idx ws)
  | [] => .nil
  | i :: idx => by
    have ih := permL_vals r idx
    unfold permL at ih ⊢
    cases e : zs[i]? with
    | none => rw [List.filterMap_cons, List.filterMap_cons, e, r.none_of e]; exact ih
    | some x =>
      obtain ⟨u, e2, h⟩ := r.get e
      rw [List.filterMap_cons, List.filterMap_cons, e, e2]
      exact .cons h ih
theorem permL_rep {zs : List V} {ws : List D} (r : RepL K A S zs ws) : ∀ idx : List Nat, RepL K A S (permL idx zs) (permL idx ws)
  | [] => .nil
  | i :: idx => by
    have ih := permL_rep r idx
    unfold permL at ih ⊢
    cases e : zs[i]? with
    | none =>
      have e2 : ws[i]? = none := by
        rw [List.getElem?_eq_none_iff] at e ⊢
        rw [← r.length]; exact e
      rw [List.filterMap_cons, List.filterMap_cons, e, e2]; exact ih
    | some x =>
      obtain ⟨u, e2, h⟩ := r.get e
      rw [List.filterMap_cons, List.filterMap_cons, e, e2]
      exact .cons h ih
theorem binds_of {x : Str} {st : Stmt} {f : Addr} {fd : FuncData} {ps : List Str} (F : Fun K x x st f fd)
    (h : ∀ (kV doc pm : Value) (an : Option Addr) (cdv ct : Value) (us : List Value), us.length = ps.length → bindArgs (PySem.W.fnOf x x (defArgs st) (defBody st) (defScope st) .none kV doc pm an cdv ct) ⟨us, []⟩ = pure (ps.zip us)) : Binds K fd ps [] := F.binds h
theorem kbinds_of {x : Str} {st : Stmt} {f : Addr} {fd : FuncData} {ps ks : List Str} {idx : List Nat} (F : Fun K x x st f fd) (hp : 0 < ps.length)
    (h : ∀ (kV doc pm : Value) (an : Option Addr) (cdv ct : Value) (ws : List Value), ws.length = ks.length → bindArgs (PySem.W.fnOf x x (defArgs st) (defBody st) (defScope st) .none kV doc pm an cdv ct) ⟨[], ks.zip ws⟩ = pure (ps.zip (permL idx ws))) :
    KBinds K fd ps ks (fun us ws => if us.length = 0 ∧ ws.length = ks.length then permL idx ws else []) (fun us ws => if us.length = 0 ∧ ws.length = ks.length then permL idx ws else []) := by
  obtain ⟨oc, od, kV, doc, pm, an, cdv, ct, osl, rfl, lk, hcd⟩ := F.ex
  refine ⟨fun s us ws hK hl => ?_, fun {vs us zs ws} r1 r2 => ?_⟩
  · by_cases c : us.length = 0 ∧ ws.length = ks.length
    · have e : us = [] := List.length_eq_zero_iff.mp c.1
      subst e
      rw [if_pos c]
      exact .of_eq (h kV doc pm an cdv ct ws c.2)
    · rw [if_neg c] at hl; simp at hl; omega
  · rw [r1.length, r2.length]
    by_cases c : us.length = 0 ∧ ws.length = ks.length
    · rw [if_pos c, if_pos c]; exact permL_vals r2 idx
    · rw [if_neg c, if_neg c]; exact .nil
end
section
variable {X : Cx} {E : XK} {m : Bool} {pos p : Pos} {x : Str} {st : Stmt} {kk : Nat} {ps : List Str} {d : List D → M D} {e : Expr} {es : List Expr} {fl : DS → M (List D)}
theorem de_fn {n : Nat} (h : Has X.prog X.w X.K X.mg X.base x st kk ps m d) (hr : RoomG kk X.A) (hx : Passes (XC X.prog X.w) X E) (ha : DL X E (e :: es) fl)
    (hb : ∀ (kV doc pm : Value) (an : Option Addr) (cdv ct : Value) (us : List Value), us.length = ps.length → bindArgs (PySem.W.fnOf x x (defArgs st) (defBody st) (defScope st) .none kV doc pm an cdv ct) ⟨us, []⟩ = pure (ps.zip us))
    (hg : Gl X x := by rfl) (hdb : (x == ("__debug__" : Str)) = false := by decide) (he : starEach (e :: es) X.env = (false, eval e X.env) :: starEach es X.env := by rfl) (hpl : (backTo pos (starEach es X.env)).any (·.1) = false := by rfl) (hn : ps.length = n := by rfl) :
    DE X E m (.Call (.Name x p) (e :: es) [] pos) (eArgs (callN n d) fl) := by
  obtain ⟨f, fd, F, hm, G⟩ := h.ex
  subst hn
  exact de_call G hr hm F.kp (binds_of F hb) hx ha hg hdb he hpl
def kwN (n : Nat) (idx : List Nat) (nk : Nat) (d : List D → M D) : List D → M D := fun ds => if ds.length = nk then callN n d (permL idx ds) else M.bad
theorem de_fnK {n nk : Nat} {kws : List Keyword} (ks : List Str) (idx : List Nat) (h : Has X.prog X.w X.K X.mg X.base x st kk ps m d) (hr : RoomG kk X.A) (hx : Passes (XC X.prog X.w) X E) (hkw : DK X E kws fl)
    (hb : ∀ (kV doc pm : Value) (an : Option Addr) (cdv ct : Value) (ws : List Value), ws.length = ks.length → bindArgs (PySem.W.fnOf x x (defArgs st) (defBody st) (defScope st) .none kV doc pm an cdv ct) ⟨[], ks.zip ws⟩ = pure (ps.zip (permL idx ws)))
    (hp : 0 < ps.length := by decide) (hg : Gl X x := by rfl) (hall : (backToKw pos (keywordEach kws X.env)).all (·.1.isSome) = true := by rfl) (hks : (backToKw pos (keywordEach kws X.env)).filterMap (·.1) = ks := by rfl)
    (hdb : (x == ("__debug__" : Str)) = false := by decide) (hpl : ((backTo pos (starEach [] X.env)).any (·.1) || (backToKw pos (keywordEach kws X.env)).any (·.1.isNone)) = false := by rfl) (hn : ps.length = n := by rfl) (hnk : ks.length = nk := by rfl) :
    DE X E m (.Call (.Name x p) [] kws pos) (eArgs (kwN n idx nk d) fl) := by
  obtain ⟨f, fd, F, hm, G⟩ := h.ex
  subst hn hnk
  have kb := kbinds_of (ks := ks) (idx := idx) F hp hb
  refine ⟨fun pins s σ H Q I ⟨A, S, g, σd, o, r, q⟩ => ?_⟩
  refine wpAny_Call_Name_kw (ld_glob I hg hm ?_ hdb)
  refine PySem.W.callWith_KW0 (h₀ := X.base) I.ok.mod.kin F.kp hall (thn (hkw.run pos pins s σ H _ I ⟨A, S, g, σd, o, r, (KE.bindL q)⟩) fun ws s2 ⟨zs, H2, I2, rz, A1, S1, g1, ds, p1, o1, r1, q1⟩ => ⟨I2.kIn, ?_⟩) hpl
  rw [hks]
  have q1 : KE (Cx.sur X E) m A1 S1 H2 (kwN ps.length idx ks.length d ds g1) Q := q1
  unfold kwN callN at q1
  by_cases c : ds.length = ks.length
  · rw [if_pos c] at q1
    by_cases c2 : (permL idx ds).length = ps.length
    · rw [if_pos c2] at q1
      refine run_fnkG (us := []) (vs := []) G hr kb hx I2 .nil rz ?_
      have cz : zs.length = ks.length := by rw [r1.length]; exact c
      have rp := permL_rep r1 idx
      show spD X.mg X.K ps.length m d (if ([] : List V).length = 0 ∧ zs.length = ks.length then permL idx zs else []) H2 Q E
      rw [if_pos ⟨rfl, cz⟩]
      exact ⟨by rw [rp.length]; exact c2, A1, S1, g1, permL idx ds, o1, rp, q1⟩
    · rw [if_neg c2] at q1; exact q1.elim
  · rw [if_neg c] at q1; exact q1.elim
end
section
variable {P : Program} {w : World} {K : PySem.W.Frag} {mg : Str → Option Value} {base : Heap}
theorem Has.bad {x : Str} {st : Stmt} (a : At K mg x st) (k : Nat) (ps : List Str) (m : Bool) : Has P w K mg base x st k ps m (fun _ => M.bad) := by
  obtain ⟨f, fd, F, hm⟩ := a.ex
  exact ⟨f, fd, F, hm, ⟨fun vs H Q E h => h.1, fun A outer s H args us vs Q E _ _ _ _ h => by obtain ⟨_, _, _, _, _, _, _, q⟩ := h; exact q.elim⟩⟩
theorem Has.mk' {x : Str} {st : Stmt} {N ps : List Str} {k : Nat} {m : Bool} {b : DS → M Fl} (a : At K mg x st) (Sc : FnScope N ps (defScope st))
    (hbody : ∀ (f : Addr) (cdv : Value) (A : Around) (outer : List Env) (s : Shared) (H : Hp) (E : XK) (e0 : En), RoomG k (XOf P w K mg base N x (defScope st) f cdv A outer s H E).A →
      Passes (XC P w) (XOf P w K mg base N x (defScope st) f cdv A outer s H E) E → PassesOwn (model P w) (XOf P w K mg base N x (defScope st) f cdv A outer s H E).A (XOf P w K mg base N x (defScope st) f cdv A outer s H E).env (XOf P w K mg base N x (defScope st) f cdv A outer s H E).xe →
      DSs (XOf P w K mg base N x (defScope st) f cdv A outer s H E) E m e0 (defBody st) b) : Has P w K mg base x st (k + 1) ps m (runD N.length m b) := by
  obtain ⟨f, fd, F, hm⟩ := a.ex
  exact ⟨f, fd, F, hm, ok_def F Sc (hbody f)⟩
theorem Has.up {x : Str} {st : Stmt} {ps : List Str} {j k : Nat} {m : Bool} {d : List D → M D} (h : Has P w K mg base x st j ps m d) (hk : j ≤ k) : Has P w K mg base x st k ps m d := by
  obtain ⟨f, fd, F, hm, G⟩ := h.ex
  exact ⟨f, fd, F, hm, G.mono hk⟩
theorem At.mk' {x : Str} {st : Stmt} {f : Addr} {oc : Value} {od an : Option Addr} {osl : Array (Option Value)} {kV doc pm cdv ct : Value} {h : Heap} (X : K.In h) (G : h.Ns mainGlobals mg) (a : PySem.W.nsIn K mainGlobals x = some (some (.ref f)))
    (l : K.lookup f = some ⟨oc, od, .func (PySem.W.fnOf x x (defArgs st) (defBody st) (defScope st) .none kV doc pm an cdv ct), osl⟩)
    (c : PySem.W.codeIn K cdv x = true) (k : PySem.W.keepIn K (.ref f) = true) : At K mg x st := ⟨f, _, fun_mk l c k, PySem.W.mg_of X G a⟩
end
end NS
namespace NS
open PySem PySem.Spec PyProof.Rows L2
section
variable {X : Cx} {E : XK} {pos : Pos} {e : Expr} {fe : DS → M D}
theorem dt_val (h : DE X E false e fe) (he : ∀ whole, isTrue e X.env whole = (do let v ← whole; standAt e.pos; holding [v] (truthy v)) := by intro _; rfl) : DT X E e (eTst fe) :=
  (pt_val h he).impD fun σ H Q h => tst_read h
def GStr (mg : Str → Option Value) (x s : Str) : Prop := ∃ t, mg x = some (.str s t)
theorem de_gstr {x s : Str} (h : GStr X.mg x s) (hg : Gl X x := by rfl) (hd : (x == ("__debug__" : Str)) = false := by decide) : DE X E false (.Name x pos) (eC (.str s)) := by
  obtain ⟨t, h⟩ := h
  exact de_glob (v := .str s) h ⟨t, rfl⟩ (fun _ _ => .str s) hg hd
end
end NS
namespace NS
open PySem PySem.Spec PyProof.Rows L2
theorem room0 {k : Nat} {A : Around} (h : RoomG k A) : A.units < cLine := by have := h.r.un; omega
theorem room64 {k : Nat} {A : Around} (h : RoomG k A) : A.units + 64 < cLine := by have := h.r.un; omega
theorem room65 {k : Nat} {A : Around} (h : RoomG k A) : A.units + 65 < cLine := by have := h.r.un; omega
section
variable {X : Cx} {E : XK} {pos : Pos} {e : Expr} {fe : DS → M D}
def kNeg : D → M D
  | .int i => M.pure (.int (-i))
  | _ => M.bad
def eNeg (fe : DS → M D) : DS → M D := fun σ => M.bind (fe σ) kNeg
end
end NS
namespace NS
open PySem PySem.Spec PyProof.Rows L2
theorem meets_enumT {v : Value} {o : Obj} {H : Heap → Prop} (B : Begins v o H) :
    Meets (Builtin.«enumerate.__new__» ⟨[.type "enumerate", v], []⟩) (fun _ R s => H s.heap ∧
      R (.ok (.ret (.ref (s.heap.push o).objs.size))) { s with heap := (s.heap.push o).push { cls := .type "enumerate", data := .fields #[.none, .bool false, .ref s.heap.objs.size, rawInt 0, .none, .none] } }) :=
  .of_wp fun prog w A R s h => by
    obtain ⟨hp, g, d, tk, os⟩ := s; obtain ⟨h1, h⟩ := h
    have hsub := sub_enumerate
    have q1 : ∀ {A' : Around} {E : Value → Shared → Prop} {Q : Value → Shared → Prop}, Q (.ref hp.objs.size) ⟨hp.push o, g, d, tk, os⟩ → wpAny (model prog w) A' (pyIter v) Q E ⟨hp, g, d, tk, os⟩ :=
      fun q => B.iter prog w _ _ ⟨hp, g, d, tk, os⟩ _ h1 q
    wp_walk using q1
    refine wpAny_stack_any fun st => wpAny_pure ?_
    split
    · rename_i c _ _ _ _ _
      cases (c == Value.type "enumerate")
      · wp_walk using q1
        exact ⟨_, rfl, h⟩
      · wp_walk using q1
        exact ⟨_, rfl, h⟩
    · wp_walk using q1
      exact ⟨_, rfl, h⟩
section
variable {prog : Program} {w : World} {A : Around} {E : Value → Shared → Prop} {s : Shared}
theorem call_enumT {t : Addr} {items : Array Value} {Q : Value → Shared → Prop} (h1 : s.heap.IsTuple t items)
    (h : ∀ h', IsEnum h' (s.heap.objs.size + 1) s.heap.objs.size 0 .none → h'.IsTupleIter s.heap.objs.size t 0 → h'.objs.size = s.heap.objs.size + 2 →
      (∀ b o, s.heap.get? b = some o → h'.get? b = some o) → Q (.ref (s.heap.objs.size + 1)) { s with heap := h' }) :
    wpAny (model prog w) A (call (.type "enumerate") [.ref t]) Q E s := by
  refine callType_new F.called_enumerate (by decide) (F.typeCall_enumerate_1 _) (F.newCall_enumerate_1 _) (fun obj => F.args_object_init_2 obj _) F.entry_enumerate_new
    (meets_enumT (begins_tuple t items)) ⟨h1, ?_⟩
  have hz : (s.heap.push { cls := .type "tuple_iterator", data := .fields #[.ref t, .int 0 0] }).objs.size = s.heap.objs.size + 1 := Heap.size_push ..
  show _ ∧ _
  rw [hz]
  have he : IsEnum ((s.heap.push { cls := .type "tuple_iterator", data := .fields #[.ref t, .int 0 0] }).push { cls := .type "enumerate", data := .fields #[.none, .bool false, .ref s.heap.objs.size, rawInt 0, .none, .none] }) (s.heap.objs.size + 1) s.heap.objs.size 0 .none := by
    have := Heap.get?_push_size (s.heap.push { cls := .type "tuple_iterator", data := .fields #[.ref t, .int 0 0] }) (o := { cls := .type "enumerate", data := .fields #[.none, .bool false, .ref s.heap.objs.size, rawInt 0, .none, .none] }) rfl
    rw [hz] at this; exact this
  refine ⟨⟨_, he, rfl⟩, h _ he ⟨_, Heap.get?_push_of_some _ (Heap.get?_push_size _ rfl), rfl, rfl⟩ (by rw [Heap.size_push, hz]) fun b o x => Heap.get?_push_of_some _ (Heap.get?_push_of_some _ x)⟩
theorem enumT_end {e it l : Addr} {i : Nat} {items : Array Value} {old : Value} {k : Int} {Q : Option Value → Shared → Prop} (hh : A.handled = none)
    (he : IsEnum s.heap e it k old) (hit : s.heap.IsTupleIter it l i) (hl : s.heap.IsTuple l items) (hx : items[i]? = none)
    (hQ : ∀ h', Heap.ExtBut it s.heap h' → Q none { s with heap := h' }) : wpAny (model prog w) A (pyNext (.ref e)) Q E s := by
  have hT : s.TypeIs (.ref e) "enumerate" := ⟨_, he, rfl⟩
  unfold pyNext
  refine wpAny_bind (wpAny_attempt (wpAny_callSpecial?_slot (name := Str.ofString "__next__") hT F.slot_enumerate_next
    (wpAny_call_entry F.slot_enumerate_next hT F.entry_enumerate_next ?_ (F.args_enumerate_next_1 _))))
  show wpAny _ _ (field (.ref e) 2 >>= _) _ _ _
  refine wpAny_bind (wpAny_field he rfl (x := .ref it) rfl ?_)
  refine wpAny_bind (wpAny_nextOf_tuple_end hh hit hl hx fun h' x he' hx' => ?_)
  obtain ⟨o, ho, hc⟩ := hx'
  refine wpAny_bind (wpAny_isInstance (T := "StopIteration") (b := true) ⟨o, ho, hc⟩ isSubtype_stop ?_)
  exact wpAny_pure (hQ _ he')
end
def Iet (K : PySem.W.Frag) (a : Addr) : It :=
  ⟨fun i H => ∃ (xs : List V) (x : V), SqT K H a xs ∧ xs[i]? = some x, fun i H v H' => ∃ T x, v = .ref T ∧ H T = none ∧ H' = upd H T (.tup [.int (i : Nat), x]) ∧ ∀ xs, SqT K H a xs → xs[i]? = some x, fun i H => ∃ xs : List V, SqT K H a xs ∧ xs.length ≤ i⟩
theorem turn_enumT {P : Program} {w : World} {K : PySem.W.Frag} {elts : List Expr} {kk : Nat} {tpos : Pos} (a e it : Addr) :
    Turn P w K (.Tuple elts kk tpos) (Iet K a) [e, it] e (fun i h => (∃ old, IsEnum h e it ((i : Nat) : Int) old) ∧ h.IsTupleIter it a i ∧ e ≠ it ∧ a ≠ e ∧ a ≠ it) where
  mem := by simp
  obj := fun i h st b hb => by
    obtain ⟨⟨old, he⟩, ⟨o, ho, hc, hd⟩, _⟩ := st
    have e' : b = e ∨ b = it := by simpa using hb
    rcases e' with z | z
    · rw [z]; exact ⟨_, he, fun v q => nomatch q⟩
    · rw [z]; exact ⟨o, ho, fun v q => by rw [hd] at q; cases q⟩
  keep := fun i h h' st k => let ⟨⟨old, he⟩, hi, hne⟩ := st; ⟨⟨old, k e (by simp) _ he⟩, hi.at fun o q => k it (by simp) o q, hne⟩
  item := by
    intro X hP hw hK hc i pins s σ H E I hf st hg
    subst hP hw hK
    obtain ⟨⟨old, he⟩, hit, hne, hae, hai⟩ := st
    obtain ⟨xs, x, hq, hx⟩ := hg
    obtain ⟨its, rv, p, hz⟩ := I.tuple hq
    obtain ⟨u, hu, ru⟩ := rv.get hx
    have hel : e < s.heap.objs.size := Heap.lt_size he
    have hil : it < s.heap.objs.size := by obtain ⟨_, q, _⟩ := hit; exact Heap.lt_size q
    have hlt : i < its.toArray.size := by
      have := (List.getElem?_eq_some_iff.mp hu).1
      simpa using this
    refine wpAny_pyNext_enum_itemD (Draws.tuple (A := X.A.in1) (I.ok.hd hc) it a hai its.toArray) he ⟨hit, p⟩ hlt hne (by simp; exact ⟨hne, Ne.symm hae⟩) fun y h' tk hP ho hst' hT hsz hk => ?_
    obtain ⟨hit', ht'⟩ := hst'
    have ey : y = u := by
      have : its.toArray[i]? = some u := by simpa using hu
      rw [this] at hP; exact (Option.some.inj hP).symm
    subst ey
    refine ⟨_, rfl, wpAny_letOwnedTupleGo_enum (s := { s with heap := h', toks := tk + 1 }) ho fun h'' he' sb => ?_⟩
    have hT2 : h''.get? s.heap.objs.size = some { cls := .type "tuple", data := .seq #[.int i tk, y] } := (sb.2 _ (Nat.ne_of_gt hel)).trans hT
    have new : ObjOk X.prog X.w (upd H s.heap.objs.size (.tup [.int (i : Nat), x])) h'' s.heap.objs.size (.tup [.int (i : Nat), x]) :=
      ⟨by show 2 ≤ sizeLine; decide, [.int i tk, y], .cons ⟨_, rfl⟩ (.cons ru .nil), ⟨_, hT2, rfl, _, rfl⟩⟩
    have I1 : Inv X pins σ (upd H s.heap.objs.size (.tup [.int (i : Nat), x])) { s with heap := h'', toks := tk + 1 } :=
      I.turnedNew (ch := [e, it]) (fun b ob hb q => (sb.2 b (fun z => hb (by simp [z]))).trans (hk b ob (fun z => hb (by simp [z])) (fun z => hb (by simp [z])) q)) hf (Nat.le_refl _) new
    refine ⟨.ref s.heap.objs.size, _, I1, rfl, ⟨_, x, rfl, I.hok.fresh (Nat.le_refl _), rfl, fun ys hy => ?_⟩, ⟨⟨y, ?_⟩, hit'.at fun o q => (sb.2 it (Ne.symm hne)).trans q, hne, hae, hai⟩, fun b hb => ?_⟩
    · have e9 : ys = xs := (I.tuple_inj hy hq)
      rw [e9]; exact hx
    · have e1 : ((i + 1 : Nat) : Int) = (i : Int) + 1 := by omega
      rw [e1]; exact he'
    · have hb' : b < s.heap.objs.size := by
        have e' : b = e ∨ b = it := by simpa using hb
        rcases e' with z | z
        · rw [z]; exact hel
        · rw [z]; exact hil
      rw [upd_ne (Nat.ne_of_lt hb')]
      exact (hf b hb).1
  done := by
    intro X hP hw hK hc i pins s σ H E I hf st hg
    subst hP hw hK
    obtain ⟨⟨old, he⟩, hit, hne, hae, hai⟩ := st
    obtain ⟨xs, hq, hx⟩ := hg
    obtain ⟨its, rv, p, hz⟩ := I.tuple hq
    obtain ⟨f0, f1, f2, f3, f4, f5⟩ := hf it (by simp)
    have hl := rv.length
    exact enumT_end (I.ok.hd hc) he hit p (by simp; omega) fun h' eb => ⟨rfl, I.turned (t' := s.toks) (fun b o hb q => eb b o hb q) f0 f1 f3 f4 f5⟩
  self := fun A i s Q E st h => let ⟨⟨_, he⟩, _⟩ := st; wpAny_pyIter_enum he h
def iEnumT (K : PySem.W.Frag) (ta : TA) : TI := fun σ H R => ta σ H fun vs H1 => ∃ a xs, vs = [.ref a] ∧ SqT K H1 a xs ∧ R (Iet K a) H1
theorem pi_enumT {X : Cx} {e : Expr} {ta : TA} {p pos tpos : Pos} {elts : List Expr} {kk : Nat} (hg : Gl X "enumerate") (hm : X.mg "enumerate" = none) (ha : PA X [e] ta) (hs : starEach [e] X.env = [(false, eval e X.env)] := by rfl) :
    PI X (.Tuple elts kk tpos) (.Call (.Name "enumerate" p) [e] [] pos) (iEnumT X.K ta) := by
  refine ⟨fun pins s σ H R I h => ?_⟩
  refine Call_ (ld_blt I hg hm (by decide +kernel : bootBuiltins "enumerate" = some (.type "enumerate")) (PyProof.Rows.callWith_type1 (thn (ha.run pos pins s σ H _ I h) fun us s1 ⟨vs, H1, I1, r1, q1⟩ => ?_) hs rfl))
  obtain ⟨a, xs, ex, hq, q⟩ := q1
  subst ex
  cases r1 with
  | cons r rr =>
    cases rr
    cases r
    obtain ⟨its, rv, p', hz⟩ := I1.tuple hq
    have al : a < s1.heap.objs.size := by obtain ⟨_, q, _⟩ := p'; exact Heap.lt_size q
    refine call_enumT p' fun h' he hit hsz hk => wpAny_pyIter_enum he ?_
    have I2 : Inv X pins σ H1 { s1 with heap := h' } := I1.kept (t' := s1.toks) hk
    refine ⟨s1.heap.objs.size + 1, [s1.heap.objs.size + 1, s1.heap.objs.size], _, _, H1, rfl, I2, turn_enumT a (s1.heap.objs.size + 1) s1.heap.objs.size, ⟨⟨.none, he⟩, hit, Nat.succ_ne_self _, Nat.ne_of_lt (Nat.lt_succ_of_lt al), Nat.ne_of_lt al⟩, fun b hb => ?_, q⟩
    have e' : b = s1.heap.objs.size + 1 ∨ b = s1.heap.objs.size := by simpa using hb
    have hle : s1.heap.objs.size ≤ b := by
      rcases e' with z | z
      · rw [z]; exact Nat.le_add_right _ _
      · rw [z]; exact Nat.le_refl _
    exact I1.fpOk hle (I1.hok.fresh hle)
def enumD (xs : List D) : List D := (List.range xs.length).zip xs |>.map fun p => .tup [.int (p.1 : Nat), p.2]
theorem enumD_len (xs : List D) : (enumD xs).length = xs.length := by simp [enumD]
theorem enumD_get {xs : List D} {i : Nat} {d : D} (h : xs[i]? = some d) : (enumD xs)[i]? = some (.tup [.int (i : Nat), d]) := by
  have hl := (List.getElem?_eq_some_iff.mp h).1
  unfold enumD
  rw [List.getElem?_map, (List.getElem?_zip_eq_some (z := (i, d))).mpr ⟨by simp [hl], h⟩]
  rfl
def enumK : List D → M (List D)
  | [.lst xs] => M.pure (enumD xs)
  | [.tup xs] => M.pure (enumD xs)
  | [.ftup xs] => M.pure (enumD xs)
  | _ => M.bad
section
variable {X : Cx} {E : XK} {pos p tpos : Pos} {e : Expr} {elts : List Expr} {kk : Nat} {fl : DS → M (List D)}
theorem dit_enumL {K : PySem.W.Frag} {A : List GAdr} {S : Hp} {a : Addr} {xs : List V} {ds : List D} (r : RepL K A S xs ds) (h : SqL K S a xs) : DIt K A S (Ite K a) (enumD ds) := by
  refine ⟨fun i H hi e => ?_, fun i H hi e => ⟨xs, SqL.mono e h, by rw [r.length, ← enumD_len]; exact hi⟩, fun i H x H' hi e y => ?_⟩
  · rw [enumD_len, ← r.length] at hi
    exact ⟨xs, xs[i], SqL.mono e h, List.getElem?_eq_getElem hi⟩
  · obtain ⟨T, z, rfl, h1, h2, h3⟩ := y
    have hz := h3 xs (SqL.mono e h)
    obtain ⟨d, hd, rd⟩ := r.get hz
    exact ⟨_, enumD_get hd, .inr ⟨T, _, _, rfl, rfl, .inl ⟨h1, h2⟩, .cons (.int _) (.cons rd .nil)⟩⟩
theorem dit_enumT {K : PySem.W.Frag} {A : List GAdr} {S : Hp} {a : Addr} {xs : List V} {ds : List D} (r : RepL K A S xs ds) (h : SqT K S a xs) : DIt K A S (Iet K a) (enumD ds) := by
  refine ⟨fun i H hi e => ?_, fun i H hi e => ⟨xs, SqT.mono e h, by rw [r.length, ← enumD_len]; exact hi⟩, fun i H x H' hi e y => ?_⟩
  · rw [enumD_len, ← r.length] at hi
    exact ⟨xs, xs[i], SqT.mono e h, List.getElem?_eq_getElem hi⟩
  · obtain ⟨T, z, rfl, h1, h2, h3⟩ := y
    have hz := h3 xs (SqT.mono e h)
    obtain ⟨d, hd, rd⟩ := r.get hz
    exact ⟨_, enumD_get hd, .inr ⟨T, _, _, rfl, rfl, .inl ⟨h1, h2⟩, .cons (.int _) (.cons rd .nil)⟩⟩
theorem di_enum (hm : X.mg "enumerate" = none) (ha : DL X E [e] fl) (hg : Gl X "enumerate" := by rfl) (hs : starEach [e] X.env = [(false, eval e X.env)] := by rfl) :
    DI X E (.Tuple elts kk tpos) (.Call (.Name "enumerate" p) [e] [] pos) (iArgs enumK fl) :=
  PI.impD (PI.or (pi_enum hg hm ha hs) (pi_enumT hg hm ha hs)) fun σ H R ⟨A, S, g, σd, o, r, q⟩ => by
    have q' : KI (Cx.sur X E) A S H (M.bind (fl σd) enumK g) R := q
    cases e1 : fl σd g with
    | bad => rw [bind_bad e1] at q'; exact q'.elim
    | err x g' =>
      rw [bind_err e1] at q'
      refine .inl ⟨A, S, g, σd, o, r, ?_⟩
      rw [e1]
      exact q'
    | ok ds g1 =>
      rw [bind_ok e1] at q'
      unfold enumK at q'
      split at q'
      · rename_i xs
        refine .inl ⟨A, S, g, σd, o, r, ?_⟩
        rw [e1]
        intro A' S' H' vs P o' rv
        obtain ⟨v, rfl, rv1⟩ := rep1 rv
        cases rv1 with
        | @lst a ws _ h rr => exact ⟨a, ws, rfl, .inl (.inl (o'.ext _ _ h)), KI.now (q'.shift P) o' (dit_enumL rr (.inl (.inl h)))⟩
      · rename_i xs
        refine .inr ⟨A, S, g, σd, o, r, ?_⟩
        rw [e1]
        intro A' S' H' vs P o' rv
        obtain ⟨v, rfl, rv1⟩ := rep1 rv
        cases rv1 with
        | @tup a ws _ h rr => exact ⟨a, ws, rfl, tq o'.ext h, KI.now (q'.shift P) o' (dit_enumT rr (.inl (.inl h)))⟩
      · rename_i xs
        refine .inr ⟨A, S, g, σd, o, r, ?_⟩
        rw [e1]
        intro A' S' H' vs P o' rv
        obtain ⟨v, rfl, rv1⟩ := rep1 rv
        cases rv1 with
        | @ftup a ws _ h rr => exact ⟨a, ws, rfl, h.sq o'.ext, KI.now (q'.shift P) o' (dit_enumT rr (h.sq (Same.refl _)))⟩
      · exact q'.elim
end
end NS
namespace NS
open PySem PySem.Spec PyProof.Rows L2
def compM2 (fg : D → DS → M DS) (ft : DS → M Bool) (fi1 : DS → M (List D)) (vs1 : List Nat) (fg1 : D → DS → M DS) (ft1 : DS → M Bool) (fe : DS → M D) (σ : DS) : List D → M (List D)
  | [] => M.pure []
  | d :: ds => M.bind (fg d σ) fun σ1 => M.bind (M.noerr (ft σ1)) fun b => if b = true then
      M.bind (M.noerr (fi1 σ1)) fun es => M.bind (compM fg1 ft1 fe (wipeD σ1 vs1) es) fun r1 => M.bind (compM2 fg ft fi1 vs1 fg1 ft1 fe σ ds) fun r => M.pure (r1 ++ r)
    else compM2 fg ft fi1 vs1 fg1 ft1 fe σ ds
def eComp2 (fi : DS → M (List D)) (vs : List Nat) (fg : D → DS → M DS) (ft : DS → M Bool) (fi1 : DS → M (List D)) (vs1 : List Nat) (fg1 : D → DS → M DS) (ft1 : DS → M Bool) (fe : DS → M D) : DS → M D := fun σ =>
  M.bind (fi σ) fun ds => if fit ds.length = true then M.bind (M.noerr (compM2 fg ft fi1 vs1 fg1 ft1 fe (wipeD σ vs) ds)) fun r => if fit r.length = true then M.pure (.lst r) else M.bad else M.bad
def CQ2 (U : Sur) (m : Bool) (A1 : List GAdr) (S1 H1 : Hp) (Q : VK) (es : List D) (r : Res (List D)) : Prop :=
  match r with
  | .ok rs g => fit (es ++ rs).length = true ∧ KE U m A1 S1 H1 (.ok (.lst (es ++ rs)) g) Q
  | _ => False
theorem CQ2.cons {U : Sur} {m : Bool} {A1 : List GAdr} {S1 H1 : Hp} {Q : VK} {es : List D} {y : D} {C R : M (List D)} {g : G}
    (h : CQ2 U m A1 S1 H1 Q es (M.bind C (fun r => M.bind R fun r' => M.pure ((y :: r) ++ r')) g)) : CQ2 U m A1 S1 H1 Q (es ++ [y]) (M.bind C (fun r => M.bind R fun r' => M.pure (r ++ r')) g) := by
  cases e : C g with
  | err z g' => rw [bind_err e] at h; exact h.elim
  | bad => rw [bind_bad e] at h; exact h.elim
  | ok r g' =>
    rw [bind_ok e] at h ⊢
    cases e2 : R g' with
    | err z g2 => rw [bind_err e2] at h; exact h.elim
    | bad => rw [bind_bad e2] at h; exact h.elim
    | ok r' g2 =>
      rw [bind_ok e2] at h ⊢
      have h' : fit (es ++ ((y :: r) ++ r')).length = true ∧ KE U m A1 S1 H1 (.ok (.lst (es ++ ((y :: r) ++ r'))) g2) Q := h
      show fit (es ++ [y] ++ (r ++ r')).length = true ∧ KE U m A1 S1 H1 (.ok (.lst (es ++ [y] ++ (r ++ r'))) g2) Q
      rw [List.append_assoc]
      exact h'
theorem CQ2.fit {U : Sur} {m : Bool} {A1 : List GAdr} {S1 H1 : Hp} {Q : VK} {es : List D} {r : Res (List D)} (h : CQ2 U m A1 S1 H1 Q es r) : es.length < 1000000 := by
  cases r with
  | ok rs g =>
    have := of_decide_eq_true h.1
    rw [List.length_append] at this
    omega
  | err _ _ => exact h.elim
  | bad => exact h.elim
section
variable {X : Cx} {E : XK} {m : Bool} {e0 : En} {pos : Pos} {elt tg iter tg1 iter1 : Expr} {ifs ifs1 : List Expr} {scope : Scope} {own : List (Str × Nat)} {vs0 vs1 : List Nat} {fi fi1 : DS → M (List D)} {fg fg1 : D → DS → M DS} {ft ft1 : DS → M Bool} {fe : DS → M D}
end
end NS
namespace PySem.W
open PySem PySem.Calls PyProof.Rows
section
variable {prog : Program} {w : World} {A : Around} {E : Value → Shared → Prop} {s : Shared}
theorem SortsAt.unit {v : Value} {as : List Addr} (r : Reads s.heap v (.tuple []) as) : SortsAt prog w A s (dataKind s.heap [.tuple []]) [v] := by
  have hal : AllAlike [.tuple []] := by
    intro d hd e he
    rw [List.mem_singleton.mp hd, List.mem_singleton.mp he]; rfl
  refine ⟨fun x hx => ?_, tuples' false, fun E x y a b Q ha hb hq => ?_, fun h2 => absurd h2 (by simp)⟩
  · rw [List.mem_singleton.mp hx]; exact ⟨_, dataKind_some hal (List.mem_singleton.mpr rfl) r⟩
  · obtain ⟨d, as, hd, ra, rfl⟩ := dataKind_inv ha
    obtain ⟨d', as', hd', rb, rfl⟩ := dataKind_inv hb
    obtain rfl := List.mem_singleton.mp hd
    obtain rfl := List.mem_singleton.mp hd'
    cases ra with
    | @tuple l o xs n _ _ h1 h2 h3 h4 =>
      cases rb with
      | @tuple l' o' xs' n' _ _ k1 k2 k3 k4 =>
        refine kat_lt h1 h3 k1 k3 ?_
        have e1 : xs.toList = [] := by cases q : xs.toList with | nil => rfl | cons f fr => rw [q] at h4; cases h4
        have e2 : xs'.toList = [] := by cases q : xs'.toList with | nil => rfl | cons f fr => rw [q] at k4; cases k4
        have e3 : xs = #[] := by rw [← Array.toArray_toList (xs := xs), e1]
        have e4 : xs' = #[] := by rw [← Array.toArray_toList (xs := xs'), e2]
        subst e3 e4
        exact hq
end
end PySem.W
namespace NS
open PySem PySem.Spec PyProof.Rows L2
def isTN : PyData → Bool
  | .tuple (_ :: _) => true
  | _ => false
def notTN : PyData → Bool
  | .tuple _ => false | .none => false
  | _ => true
def srtOk (ds : List D) : Bool := D.pysOk ds && (D.pys ds).all (fun d => (D.pys ds).all (fun e => PySem.W.alike d e)) && ((D.pys ds).all isTN || (D.pys ds).all notTN) && decide (PyData.depthAll (D.pys ds) ≤ 60) && fit ds.length
def leD (x y : D) : Bool := PySem.W.dataLe false D.py x y
def insD (le : D → D → Bool) (x : D) : List D → List D
  | [] => [x]
  | y :: ys => if le x y = true then x :: y :: ys else y :: insD le x ys
def isrt (le : D → D → Bool) : List D → List D
  | [] => []
  | x :: xs => insD le x (isrt le xs)
def oneE : List D → Bool
  | [.tup []] => true
  | _ => false
def kSorted : List D → M D
  | [.lst ds] => if srtOk ds = true then M.pure (.lst (isrt leD ds)) else if oneE ds = true then M.pure (.lst ds) else M.bad
  | [.tup ds] => if srtOk ds = true then M.pure (.lst (isrt leD ds)) else M.bad
  | _ => M.bad
theorem pys_map : ∀ ds : List D, D.pys ds = ds.map D.py
  | [] => rfl
  | d :: ds => by simp [D.pys, pys_map ds]
section
variable {X : Cx} {E : XK} {m : Bool}
theorem each_reads {pins : List (Addr × Obj)} {s : Shared} {σ : L2.St} {H : Hp} {A : List GAdr} {S : Hp} (I : Inv X pins σ H s) (e : Same S H) : ∀ {vs : List V} {ds : List D} {us : List Value}, RepL X.K A S vs ds → Vals vs us → D.pysOk ds = true → PySem.W.EachIs (fun u d => ∃ as, Reads s.heap u (D.py d) as) us ds
  | _, _, _, .nil, .nil, _ => .nil
  | _, _, _, .cons h r, .cons q qs, p => .cons (Dp.reads I _ _ _ (h.dp e (Bool.and_eq_true_iff.mp p).1) q) (each_reads I e r qs (Bool.and_eq_true_iff.mp p).2)
end
end NS
namespace NS
open PySem PySem.Spec PyProof.Rows L2
theorem vals_back {vs : List V} {us : List Value} (r : Vals vs us) {i : Nat} {u : Value} (h : us[i]? = some u) : ∃ v, vs[i]? = some v ∧ RelV v u := by
  have hl := (List.getElem?_eq_some_iff.mp h).1
  have hv : i < vs.length := by rw [r.length]; exact hl
  have e : vs[i]? = some vs[i] := List.getElem?_eq_getElem hv
  obtain ⟨w, hw, q⟩ := r.get e
  rw [h] at hw
  cases hw
  exact ⟨_, e, q⟩
def D.prs : List D → Option (List (Int × Int))
  | [] => some []
  | .tup [.int i, .int j] :: r => (D.prs r).map ((i, j) :: ·)
  | _ => none
def minPr : Int × Int → List (Int × Int) → Int × Int
  | p, [] => p
  | p, q :: r => minPr (if q.1 < p.1 ∨ (q.1 = p.1 ∧ q.2 < p.2) then q else p) r
def kMinP : List D → M D
  | [.lst ds] => if fit ds.length = true then (match D.prs ds with | some (p :: r) => M.pure (.tup [.int (minPr p r).1, .int (minPr p r).2]) | _ => M.bad) else M.bad
  | _ => M.bad
def encP (p : Int × Int) : D := .tup [.int p.1, .int p.2]
def pyP (p : Int × Int) : PyData := .tuple [.int p.1, .int p.2]
theorem prs_eq : ∀ {ds : List D} {ps : List (Int × Int)}, D.prs ds = some ps → ds = ps.map encP
  | [], _, h => by cases h; rfl
  | d :: ds, ps, h => by
    unfold D.prs at h
    split at h
    · rename_i h0; cases h0
    · rename_i h0
      cases h0
      cases e : D.prs ds with
      | none => rw [e] at h; cases h
      | some qs =>
        rw [e] at h; cases h
        simp [prs_eq e, encP]
    · cases h
@[simp] theorem prs_map (ps : List (Int × Int)) : D.prs (ps.map encP) = some ps := by
  induction ps with
  | nil => rfl
  | cons p ps ih => simp [encP, D.prs] at ih ⊢; exact ih
theorem dataLt_pr (p q : Int × Int) : PySem.W.dataLt (pyP p) (pyP q) = decide (p.1 < q.1 ∨ (p.1 = q.1 ∧ p.2 < q.2)) := by
  unfold pyP
  rw [PySem.W.dataLt_pair (by simp [PySem.W.alike]) (by simp [PySem.W.alike]), PySem.W.dataLt_int, PySem.W.dataLt_int]
  simp only [PyData.eqv]
  by_cases h1 : p.1 = q.1
  · by_cases h2 : p.2 = q.2
    · simp [h1, h2]
    · simp [h1, h2]
  · simp [h1]
theorem minD_prs : ∀ (ps : List (Int × Int)) (p : Int × Int), PySem.W.minD (pyP p) (ps.map pyP) = pyP (minPr p ps)
  | [], p => rfl
  | q :: ps, p => by
    have ih := minD_prs ps (if q.1 < p.1 ∨ (q.1 = p.1 ∧ q.2 < p.2) then q else p)
    unfold PySem.W.minD at ih ⊢
    rw [List.map_cons, List.foldl_cons, dataLt_pr]
    show List.foldl _ (if decide (q.1 < p.1 ∨ (q.1 = p.1 ∧ q.2 < p.2)) = true then pyP q else pyP p) _ = pyP (minPr (if q.1 < p.1 ∨ (q.1 = p.1 ∧ q.2 < p.2) then q else p) ps)
    rw [← ih]
    congr 1
    by_cases h : q.1 < p.1 ∨ (q.1 = p.1 ∧ q.2 < p.2) <;> simp [h]
theorem pys_prs (ps : List (Int × Int)) : D.pys (ps.map encP) = ps.map pyP := by
  rw [pys_map, List.map_map]; rfl
theorem pysOk_prs : ∀ ps : List (Int × Int), D.pysOk (ps.map encP) = true
  | [] => rfl
  | p :: ps => by simp [D.pysOk, encP, D.pyOk, pysOk_prs ps]
theorem depth_prs : ∀ ps : List (Int × Int), PyData.depthAll (ps.map pyP) ≤ 1
  | [] => by simp [PyData.depthAll]
  | p :: ps => by
    have := depth_prs ps
    simp only [List.map_cons, PyData.depthAll, pyP, PyData.depth]
    omega
section
variable {X : Cx} {E : XK}
theorem cl_minP (hu : X.A.units + 65 < cLine) (hc : X.calm = true := by rfl) : CallD X E (.builtin "min") false kMinP := fun pins s σ H xs us Q I rs ⟨A, S, g, ds, o, r, q⟩ => by
  unfold kMinP at q
  split at q
  · rename_i ds
    by_cases hf : fit ds.length = true
    · rw [if_pos hf] at q
      cases e : D.prs ds with
      | none => rw [e] at q; exact q.elim
      | some ps =>
        rw [e] at q
        cases ps with
        | nil => exact q.elim
        | cons p ps =>
          have ed := prs_eq e
          subst ed
          obtain ⟨v, rfl, h⟩ := rep1 r
          cases h with
          | @lst a ws _ h rr =>
            rw [Vals.ref1 rs]
            obtain ⟨its, rv, hl, hz⟩ := I.list (.inl (.inl (o.ext _ _ h)))
            have er := each_reads I o.ext rr rv (pysOk_prs _)
            obtain ⟨as, hr⟩ := PySem.W.each_readsAll D.py er
            have em : ((p :: ps).map encP).map D.py = pyP p :: ps.map pyP := by rw [← pys_map, pys_prs]; rfl
            rw [em] at hr
            refine PySem.W.min_list_data (I.ok.hd hc) hl.isList (by simpa using hr) ⟨?_, ?_⟩ (by
              have : PyData.depthAll (pyP p :: ps.map pyP) ≤ 1 := depth_prs (p :: ps)
              omega) fun i v h' tk bs hi hrd hk => ?_
            · intro x hx y hy
              have hx' : x ∈ (p :: ps).map pyP := hx
              have hy' : y ∈ (p :: ps).map pyP := hy
              obtain ⟨x', _, rfl⟩ := List.mem_map.mp hx'
              obtain ⟨y', _, rfl⟩ := List.mem_map.mp hy'
              simp [pyP, PySem.W.alike, PySem.W.alikeAll]
            · intro x hx
              have hx' : x ∈ (p :: ps).map pyP := hx
              obtain ⟨x', _, rfl⟩ := List.mem_map.mp hx'
              simp [pyP]
            · have hi' : its[i]? = some v := by simpa using hi
              obtain ⟨w, hw, rw'⟩ := vals_back rv hi'
              obtain ⟨d, hd, rd⟩ := rr.get hw
              rw [List.getElem?_map] at hd
              cases ep : (p :: ps)[i]? with
              | none => rw [ep] at hd; cases hd
              | some pp =>
                rw [ep] at hd
                have hd : encP pp = d := Option.some.inj hd
                subst hd
                have I2 : Inv X pins σ H { s with heap := h', toks := tk } := I.kept (t' := tk) hk
                have rd2 := Dp.reads I2 _ _ _ (rd.dp o.ext rfl) rw'
                obtain ⟨as2, hrd2⟩ := rd2
                rw [minD_prs] at hrd
                have eu := SeqAt.Reads.unique _ _ _ _ _ (by simp [encP, D.py, D.pys, PyData.canLay0, PyData.canLayAll0]) hrd2 hrd
                have ee : pyP pp = pyP (minPr p ps) := eu
                have e3 : pp = minPr p ps := by
                  unfold pyP at ee
                  simp at ee
                  exact Prod.ext ee.1 ee.2
                subst e3
                exact ⟨w, H, I2, rw', KE.val q o rd⟩
    · rw [if_neg hf] at q; exact q.elim
  · exact q.elim
variable {pos p : Pos} {a b c tg e : Expr} {fl : DS → M (List D)} {fe : DS → M D}
def kRev : D → M D
  | .lst xs => M.pure (.lst xs.reverse)
  | _ => M.bad
def eRev (fe : DS → M D) : DS → M D := fun σ => M.bind (fe σ) kRev
theorem de_rev {m : Bool} {k : Nat} {p1 p2 p3 : Pos} (he : DE X E false e fe) : DE X E m (.Subscript e (.Slice none none (some (.UnaryOp .USub (.Constant (.int 1) k p1) p2)) p3) pos) (eRev fe) :=
  PE.impD (pe_revL he) fun σ H Q ⟨A, S, g, σd, o, r, q⟩ => ⟨A, S, g, σd, o, r, (KE.bindE q).imp fun v H1 ⟨A1, S1, g1, d, p1, o1, r1, q1⟩ => by
    unfold kRev at q1
    split at q1
    · cases r1 with
      | @lst a ws _ h rr => exact ⟨a, ws, rfl, .inl (.inl (o1.ext _ _ h)), fun l hl => KE.newL q1 o1 rr.reverse hl⟩
    · exact q1.elim⟩
end
end NS
namespace NS
open PySem PySem.Spec PyProof.Rows L2
theorem MtR.imp {X : Cx} {id : String} {r r' : V → List V → Hp → VK → Prop} (h : MtR X id r) (i : ∀ x xs H Q, r' x xs H Q → r x xs H Q) : MtR X id r' := fun pins s σ H x xs v us Q I q qs k => h pins s σ H x xs v us Q I q qs (i _ _ _ _ k)
section
variable {X : Cx} {E : XK} {m : Bool} {pos p apos cpos : Pos} {o e : Expr} {es : List Expr} {fo fe : DS → M D} {fl : DS → M (List D)} {name : Str} {id : String} {k : D → List D → M D} {e0 : En}
def sOwnL (i : Nat) (k : List D → List D → Option (List D)) (fl : DS → M (List D)) : DS → M Fl := fun σ => match ownL σ[i]? with
  | some ds => M.bind (fl σ) fun xs => match k ds xs with
    | some ds' => M.pure (.nx (σ.set i (some (.ow (.lst ds')))))
    | none => M.bad
  | none => M.bad
end
end NS
namespace NS
open PySem PySem.Spec PyProof.Rows L2
def keyOf : D → Option Key
  | .int i => some (.inl i)
  | .str x => some (.inr x)
  | _ => none
def keysOf : List D → Option (List Key)
  | [] => some []
  | d :: ds => match keyOf d, keysOf ds with
    | some k, some ks => some (k :: ks)
    | _, _ => none
section
variable {κ : Type} [DecidableEq κ]
def valD (kvs : List (κ × D)) (k : κ) : Option D := (kvs.find? fun kv => decide (kv.1 = k)).map (·.2)
def putD (kvs : List (κ × D)) (k : κ) (v : D) : List (κ × D) :=
  if (kvs.any fun kv => decide (kv.1 = k)) = true then kvs.map (fun kv => if kv.1 = k then (kv.1, v) else kv) else kvs ++ [(k, v)]
end
section
variable {K : PySem.W.Frag} {A : List GAdr} {S H : Hp}
theorem RepT.val {k : List Key} : ∀ {vs : List (List Key × V)} {ds : List (List Key × D)} {d : D}, RepT K A S vs ds → valD ds k = some d → ∃ v, valV vs k = some v ∧ Rep K A S v d
  | _, _, _, .nil, h => by cases h
  | (j, v) :: vs, (_, c) :: ds, d, .cons h1 r, h => by
    by_cases e : j = k
    · subst e
      simp [valD] at h
      subst h
      exact ⟨v, by simp [valV], h1⟩
    · have h' : valD ds k = some d := by simpa [valD, e] using h
      obtain ⟨w, hw, rw'⟩ := RepT.val r h'
      exact ⟨w, by simpa [valV, e] using hw, rw'⟩
theorem RepK.val {k : Key} : ∀ {vs : List (Key × V)} {ds : List (Key × D)} {d : D}, RepK K A S vs ds → valD ds k = some d → ∃ v, valV vs k = some v ∧ Rep K A S v d
  | _, _, _, .nil, h => by cases h
  | (j, v) :: vs, (_, c) :: ds, d, .cons h1 r, h => by
    by_cases e : j = k
    · subst e
      simp [valD] at h
      subst h
      exact ⟨v, by simp [valV], h1⟩
    · have h' : valD ds k = some d := by simpa [valD, e] using h
      obtain ⟨w, hw, rw'⟩ := RepK.val r h'
      exact ⟨w, by simpa [valV, e] using hw, rw'⟩
theorem RepT.no {k : List Key} : ∀ {vs : List (List Key × V)} {ds : List (List Key × D)}, RepT K A S vs ds → valD ds k = none → valV vs k = none
  | _, _, .nil, _ => rfl
  | (j, v) :: vs, (_, c) :: ds, .cons h1 r, h => by
    by_cases e : j = k
    · subst e; simp [valD] at h
    · have h' : valD ds k = none := by simpa [valD, e] using h
      have := RepT.no r h'
      simpa [valV, e] using this
theorem RepK.no {k : Key} : ∀ {vs : List (Key × V)} {ds : List (Key × D)}, RepK K A S vs ds → valD ds k = none → valV vs k = none
  | _, _, .nil, _ => rfl
  | (j, v) :: vs, (_, c) :: ds, .cons h1 r, h => by
    by_cases e : j = k
    · subst e; simp [valD] at h
    · have h' : valD ds k = none := by simpa [valD, e] using h
      have := RepK.no r h'
      simpa [valV, e] using this
theorem RepT.len : ∀ {vs : List (List Key × V)} {ds : List (List Key × D)}, RepT K A S vs ds → vs.length = ds.length
  | _, _, .nil => rfl
  | _, _, .cons _ r => congrArg (· + 1) r.len
theorem RepK.len : ∀ {vs : List (Key × V)} {ds : List (Key × D)}, RepK K A S vs ds → vs.length = ds.length
  | _, _, .nil => rfl
  | _, _, .cons _ r => congrArg (· + 1) r.len
theorem RepT.any (k : List Key) : ∀ {vs : List (List Key × V)} {ds : List (List Key × D)}, RepT K A S vs ds → (vs.any fun kv => decide (kv.1 = k)) = ds.any fun kv => decide (kv.1 = k)
  | _, _, .nil => rfl
  | _, _, .cons _ r => by simp only [List.any_cons, r.any k]
theorem RepK.any (k : Key) : ∀ {vs : List (Key × V)} {ds : List (Key × D)}, RepK K A S vs ds → (vs.any fun kv => decide (kv.1 = k)) = ds.any fun kv => decide (kv.1 = k)
  | _, _, .nil => rfl
  | _, _, .cons _ r => by simp only [List.any_cons, r.any k]
theorem RepT.app : ∀ {vs ws : List (List Key × V)} {ds es : List (List Key × D)}, RepT K A S vs ds → RepT K A S ws es → RepT K A S (vs ++ ws) (ds ++ es)
  | _, _, _, _, .nil, r => r
  | _, _, _, _, .cons h r, r2 => .cons h (r.app r2)
theorem RepK.app : ∀ {vs ws : List (Key × V)} {ds es : List (Key × D)}, RepK K A S vs ds → RepK K A S ws es → RepK K A S (vs ++ ws) (ds ++ es)
  | _, _, _, _, .nil, r => r
  | _, _, _, _, .cons h r, r2 => .cons h (r.app r2)
theorem RepT.put {k : List Key} {v : V} {d : D} (hv : Rep K A S v d) {vs : List (List Key × V)} {ds : List (List Key × D)} (r : RepT K A S vs ds) : RepT K A S (putK vs k v) (putD ds k d) := by
  have gen : ∀ {vs : List (List Key × V)} {ds : List (List Key × D)}, RepT K A S vs ds → RepT K A S (vs.map fun kv => if kv.1 = k then (kv.1, v) else kv) (ds.map fun kv => if kv.1 = k then (kv.1, d) else kv) := by
    intro vs ds r
    induction vs generalizing ds with
    | nil => cases r; exact .nil
    | cons p vs ih =>
      cases r with
      | @cons j w c _ ds h r =>
        simp only [List.map_cons]
        by_cases e : j = k
        · simp only [e, if_true]; exact .cons hv (ih r)
        · simp only [e, if_false]; exact .cons h (ih r)
  unfold putK putD
  rw [r.any k]
  split
  · exact gen r
  · exact r.app (.cons hv .nil)
theorem RepK.put {k : Key} {v : V} {d : D} (hv : Rep K A S v d) {vs : List (Key × V)} {ds : List (Key × D)} (r : RepK K A S vs ds) : RepK K A S (putK vs k v) (putD ds k d) := by
  have gen : ∀ {vs : List (Key × V)} {ds : List (Key × D)}, RepK K A S vs ds → RepK K A S (vs.map fun kv => if kv.1 = k then (kv.1, v) else kv) (ds.map fun kv => if kv.1 = k then (kv.1, d) else kv) := by
    intro vs ds r
    induction vs generalizing ds with
    | nil => cases r; exact .nil
    | cons p vs ih =>
      cases r with
      | @cons j w c _ ds h r =>
        simp only [List.map_cons]
        by_cases e : j = k
        · simp only [e, if_true]; exact .cons hv (ih r)
        · simp only [e, if_false]; exact .cons h (ih r)
  unfold putK putD
  rw [r.any k]
  split
  · exact gen r
  · exact r.app (.cons hv .nil)
end
theorem PE.or {X : Cx} {e : Expr} {t t' : TE} (h : PE X e t) (h' : PE X e t') : PE X e (fun σ H Q => t σ H Q ∨ t' σ H Q) := ⟨fun pins s σ H Q I q => q.elim (h.run pins s σ H Q I) (h'.run pins s σ H Q I)⟩
def isDc : D → Bool
  | .dT _ => true | .dK _ => true | .fT _ => true
  | _ => false
def dGet : D → D → Option D
  | .dT kvs, .tup ks => (keysOf ks).bind fun k => valD kvs k
  | .dK kvs, y => (keyOf y).bind fun k => valD kvs k
  | .fT kvs, .tup ks => (keysOf ks).bind fun k => valD kvs k
  | _, _ => none
def kIxD (x y : D) : M D := if isDc x = true then M.opt (dGet x y) else kIx x y
section
variable {X : Cx} {E : XK} {m : Bool} {pos : Pos} {a b e : Expr} {fa fb fe : DS → M D} {e0 : En}
def dPut : D → D → D → Option D
  | .dT kvs, .tup ks, v => if fit kvs.length = true then (keysOf ks).map fun k => .dT (putD kvs k v) else none
  | .dK kvs, y, v => if fit kvs.length = true then (keyOf y).map fun k => .dK (putD kvs k v) else none
  | _, _, _ => none
def ownD : Option (Option DV) → Option D
  | some (some (.ow d)) => some d
  | _ => none
def sDPut' (j : Nat) (fe fi : DS → M D) : DS → M Fl := fun σ => M.bind (fe σ) fun d => match ownD σ[j]? with
  | some x => M.bind (fi σ) fun i => match dPut x i d with
    | some x' => M.pure (.nx (σ.set j (some (.ow x'))))
    | none => M.bad
  | none => M.bad
end
end NS
namespace NS
open PySem PySem.Spec PyProof.Rows L2
section
variable {X : Cx} {E : XK} {m : Bool} {pos : Pos} {ei e : Expr} {fi fe : DS → M D} {e0 : En}
end
end NS
namespace NS
open PySem PySem.Spec PyProof.Rows L2
def SqX (t : Bool) (K : PySem.W.Frag) (H : Hp) (a : Addr) (xs : List V) : Prop := if t = true then SqT K H a xs else SqL K H a xs
def ItX (t : Bool) (h : Heap) (it a : Addr) (i : Nat) : Prop := if t = true then h.IsTupleIter it a i else h.IsListIter it a i
def HsX (t : Bool) (h : Heap) (a : Addr) (its : Array Value) : Prop := if t = true then h.IsTuple a its else h.IsList a its
theorem drawsX {prog : Program} {w : World} {A : Around} (hh : A.handled = none) (t : Bool) (it l : Addr) (hne : l ≠ it) (items : Array Value) :
    Draws prog w A it [it, l] items.size (fun i v => items[i]? = some v) (fun i h => ItX t h it l i ∧ HsX t h l items) := by
  cases t with
  | true => exact Draws.tuple hh it l hne items
  | false => exact Draws.list hh it l hne items
def oX (t : Bool) (a : Addr) : Obj := if t = true then { cls := .type "tuple_iterator", data := .fields #[.ref a, .int 0 0] } else { cls := .type "list_iterator", data := .fields #[.ref a, .int 0 0] }
theorem beginsX (t : Bool) (l : Addr) (items : Array Value) : Begins (.ref l) (oX t l) fun h => HsX t h l items := by
  cases t with
  | true => exact begins_tuple l items
  | false => exact begins_list l items
theorem itX_new {t : Bool} {h : Heap} {it a : Addr} (e : h.get? it = some (oX t a)) : ItX t h it a 0 := by
  cases t with
  | true => exact ⟨_, e, rfl, rfl⟩
  | false => exact ⟨_, e, rfl, rfl⟩
theorem ItX.at {t : Bool} {h h' : Heap} {it a : Addr} {i : Nat} (x : ItX t h it a i) (k : ∀ o, h.get? it = some o → h'.get? it = some o) : ItX t h' it a i := by
  cases t with
  | true => exact Heap.IsTupleIter.at (h := h) x k
  | false => exact Heap.IsListIter.at (h := h) x k
theorem ItX.obj {t : Bool} {h : Heap} {it a : Addr} {i : Nat} (x : ItX t h it a i) : ∃ o, h.get? it = some o ∧ ∀ v, o.data ≠ .cell v := by
  cases t with
  | true => obtain ⟨o, ho, hc, hd⟩ := (show h.IsTupleIter it a i from x); exact ⟨o, ho, fun v q => by rw [hd] at q; cases q⟩
  | false => obtain ⟨o, ho, hc, hd⟩ := (show h.IsListIter it a i from x); exact ⟨o, ho, fun v q => by rw [hd] at q; cases q⟩
theorem SqX.inv {X : Cx} {pins : List (Addr × Obj)} {σ : L2.St} {H : Hp} {s : Shared} {t : Bool} {a : Addr} {xs : List V} (I : Inv X pins σ H s) (h : SqX t X.K H a xs) : ∃ its : List Value, Vals xs its ∧ HsX t s.heap a its.toArray ∧ a < s.heap.objs.size := by
  cases t with
  | true =>
    obtain ⟨its, r, p, z⟩ := I.tuple h
    obtain ⟨o, ho, _⟩ := id p
    exact ⟨its, r, p, Heap.lt_size ho⟩
  | false =>
    obtain ⟨its, r, p, z⟩ := I.list h
    exact ⟨its, r, p.isList, p.lt⟩
def ItzM (t1 t2 : Bool) (K : PySem.W.Frag) (a b : Addr) (xs ys : List V) : It :=
  ⟨fun i H => SqX t1 K H a xs ∧ SqX t2 K H b ys ∧ i < xs.length ∧ i < ys.length,
    fun i H v H' => ∃ T x y, v = .ref T ∧ H T = none ∧ H' = upd H T (.tup [x, y]) ∧ xs[i]? = some x ∧ ys[i]? = some y,
    fun i H => SqX t1 K H a xs ∧ SqX t2 K H b ys ∧ (xs.length ≤ i ∨ ys.length ≤ i)⟩
theorem sepOf {z TI TO i1 i2 a b : Addr} (D : ZipApart z TI TO i1 i2 a b) (h : ZipApart z TI TO i1 i2 b a) : ZipSep2 z TI TO i1 i2 [i1, a] [i2, b] where
  TIz := D.TIz
  TOz := D.TOz
  TITO := D.TITO
  TIi1 := D.TIi1
  mem1 := by simp
  zf1 := by simp; exact ⟨Ne.symm D.i1z, Ne.symm D.l1z⟩
  Tf1 := by simp; exact ⟨D.TOi1, Ne.symm D.l1TO⟩
  TIi2 := D.TIi2
  mem2 := by simp
  zf2 := by simp; exact ⟨Ne.symm D.i2z, Ne.symm h.l1z⟩
  Tf2 := by simp; exact ⟨D.TOi2, Ne.symm h.l1TO⟩
  sep1_2 := by simp; exact ⟨D.i12, Ne.symm h.l1i1⟩
  sep2_1 := by simp; exact ⟨Ne.symm D.i12, Ne.symm D.l1i2⟩
theorem turn_zipM {P : Program} {w : World} {K : PySem.W.Frag} {elts : List Expr} {kk : Nat} {tpos : Pos} (t1 t2 : Bool) {a b z TI TO i1 i2 : Addr} {xs ys : List V} (D : ZipApart z TI TO i1 i2 a b) (D2 : ZipApart z TI TO i1 i2 b a) :
    Turn P w K (.Tuple elts kk tpos) (ItzM t1 t2 K a b xs ys) [z, TI, TO, i1, i2] z (fun i h => IsZip h z TI TO .none ∧ IsTupOf2 h TI (.ref i1) (.ref i2) ∧ (∃ x y, IsTupOf2 h TO x y) ∧ ItX t1 h i1 a i ∧ ItX t2 h i2 b i ∧ i ≤ xs.length ∧ i ≤ ys.length) where
  mem := by simp
  obj := fun i h st c hc => by
    obtain ⟨hz, hTI, ⟨x, y, hTO⟩, h1, h2, _⟩ := st
    have e' : c = z ∨ c = TI ∨ c = TO ∨ c = i1 ∨ c = i2 := by simpa using hc
    rcases e' with q | q | q | q | q
    · rw [q]; exact ⟨_, hz, fun v q => nomatch q⟩
    · rw [q]; exact ⟨_, hTI, fun v q => nomatch q⟩
    · rw [q]; exact ⟨_, hTO, fun v q => nomatch q⟩
    · rw [q]; exact h1.obj
    · rw [q]; exact h2.obj
  keep := fun i h h' st k => by
    obtain ⟨hz, hTI, ⟨x, y, hTO⟩, h1, h2, l⟩ := st
    exact ⟨k z (by simp) _ hz, k TI (by simp) _ hTI, ⟨x, y, k TO (by simp) _ hTO⟩, h1.at fun o q => k i1 (by simp) o q, h2.at fun o q => k i2 (by simp) o q, l⟩
  item := by
    intro X hP hw hK hc i pins s σ H E I hf st hg
    subst hP hw hK
    obtain ⟨hz, hTI, ⟨x0, y0, hTO⟩, h1, h2, l1, l2⟩ := st
    obtain ⟨hqx, hqy, g1, g2⟩ := hg
    obtain ⟨its, rv, p, _⟩ := hqx.inv I
    obtain ⟨its2, rv2, p2, _⟩ := hqy.inv I
    have hzl : z < s.heap.objs.size := Heap.lt_size hz
    have hi1l : i1 < s.heap.objs.size := by obtain ⟨_, e, _⟩ := h1.obj; exact Heap.lt_size e
    have hi2l : i2 < s.heap.objs.size := by obtain ⟨_, e, _⟩ := h2.obj; exact Heap.lt_size e
    have n1 : i < its.toArray.size := by rw [List.size_toArray, ← rv.length]; exact g1
    have n2 : i < its2.toArray.size := by rw [List.size_toArray, ← rv2.length]; exact g2
    refine wpAny_pyNext_zipD2_item (sepOf D D2) (drawsX (A := X.A.in1) (I.ok.hd hc) t1 i1 a D.l1i1 its.toArray) (drawsX (A := X.A.in1) (I.ok.hd hc) t2 i2 b D2.l1i2 its2.toArray) hz hTI hTO ⟨h1, p⟩ ⟨h2, p2⟩ n1 n2
      fun u u2 h' tk e1 e2 z' TO' st1' st2' hT hsz hk => ?_
    obtain ⟨h1', _⟩ := st1'
    obtain ⟨h2', _⟩ := st2'
    obtain ⟨x, hx, ru⟩ := vals_back rv (by simpa using e1)
    obtain ⟨y, hy, ru2⟩ := vals_back rv2 (by simpa using e2)
    refine ⟨_, rfl, wpAny_letOwnedTupleGo_zip (s := { s with heap := h', toks := tk }) z' fun h'' z'' sb => ?_⟩
    have hT2 : h''.get? s.heap.objs.size = some { cls := .type "tuple", data := .seq #[u, u2] } := (sb.2 _ (Nat.ne_of_gt hzl)).trans hT
    have new : ObjOk X.prog X.w (upd H s.heap.objs.size (.tup [x, y])) h'' s.heap.objs.size (.tup [x, y]) :=
      ⟨by show 2 ≤ sizeLine; decide, [u, u2], .cons ru (.cons ru2 .nil), ⟨_, hT2, rfl, _, rfl⟩⟩
    have I1 : Inv X pins σ (upd H s.heap.objs.size (.tup [x, y])) { s with heap := h'', toks := tk } :=
      I.turnedNew (t' := tk) (ch := [z, TI, TO, i1, i2]) (fun c o hb q => (sb.2 c (fun q' => hb (by simp [q']))).trans (hk c o (fun q' => hb (by simp [q'])) (fun q' => hb (by simp [q'])) (fun q' => hb (by simp [q'])) (fun q' => hb (by simp [q'])) q)) hf (Nat.le_refl _) new
    refine ⟨.ref s.heap.objs.size, _, I1, rfl, ⟨_, x, y, rfl, I.hok.fresh (Nat.le_refl _), rfl, hx, hy⟩, ⟨z'', ?_, ⟨u, u2, ?_⟩, ?_, ?_, g1, g2⟩, fun c hcm => ?_⟩
    · exact (sb.2 _ D.TIz).trans (hk _ _ D.TIz D.TITO D.TIi1 D.TIi2 hTI)
    · exact (sb.2 _ D.TOz).trans TO'
    · exact h1'.at fun o q => (sb.2 _ D.i1z).trans q
    · exact h2'.at fun o q => (sb.2 _ D.i2z).trans q
    · have hlt : c < s.heap.objs.size := by
        have e' : c = z ∨ c = TI ∨ c = TO ∨ c = i1 ∨ c = i2 := by simpa using hcm
        rcases e' with q | q | q | q | q
        · rw [q]; exact hzl
        · rw [q]; exact Heap.lt_size hTI
        · rw [q]; exact Heap.lt_size hTO
        · rw [q]; exact hi1l
        · rw [q]; exact hi2l
      rw [upd_ne (Nat.ne_of_lt hlt)]
      exact (hf c hcm).1
  done := by
    intro X hP hw hK hc i pins s σ H E I hf st hg
    subst hP hw hK
    obtain ⟨hz, hTI, ⟨x0, y0, hTO⟩, h1, h2, l1, l2⟩ := st
    obtain ⟨hqx, hqy, hend⟩ := hg
    obtain ⟨its, rv, p, _⟩ := hqx.inv I
    obtain ⟨its2, rv2, p2, _⟩ := hqy.inv I
    have e1 := rv.length
    have e2 := rv2.length
    exact wpAny_pyNext_zipD2_end (sepOf D D2) (drawsX (A := X.A.in1) (I.ok.hd hc) t1 i1 a D.l1i1 its.toArray) (drawsX (A := X.A.in1) (I.ok.hd hc) t2 i2 b D2.l1i2 its2.toArray) hz hTI hTO ⟨h1, p⟩ ⟨h2, p2⟩
      (by rw [List.size_toArray]; omega) (by rw [List.size_toArray]; omega) (by rw [List.size_toArray, List.size_toArray]; omega) fun h' tk hk => ⟨rfl, I.turnedL (t' := tk) (ch := [z, TI, TO, i1, i2]) (fun c o hb q =>
        hk c o (fun q' => hb (by simp [q'])) (fun q' => hb (by simp [q'])) (fun q' => hb (by simp [q'])) (fun q' => hb (by simp [q'])) q) hf⟩
  self := fun A i s Q E st h => wpAny_pyIter_zip st.1 h
def iZipM (K : PySem.W.Frag) (ta : TA) : TI := fun σ H R => ta σ H fun vs H1 => ∃ t1 t2 a b xs ys, vs = [.ref a, .ref b] ∧ SqX t1 K H1 a xs ∧ SqX t2 K H1 b ys ∧ R (ItzM t1 t2 K a b xs ys) H1
theorem pi_zipM {X : Cx} {e e2 : Expr} {ta : TA} {p pos tpos : Pos} {elts : List Expr} {kk : Nat} (hg : Gl X "zip") (hm : X.mg "zip" = none) (ha : PA X [e, e2] ta)
    (hs : starEach [e, e2] X.env = (false, eval e X.env) :: starEach [e2] X.env := by rfl) (hpl : (backTo pos (starEach [e2] X.env)).any (·.1) = false := by rfl) :
    PI X (.Tuple elts kk tpos) (.Call (.Name "zip" p) [e, e2] [] pos) (iZipM X.K ta) := by
  refine ⟨fun pins s σ H R I h => ?_⟩
  refine Call_ (ld_blt I hg hm PyProof.Rows.boot_zip (PyProof.Rows.callWith_type1 (thn (ha.run pos pins s σ H _ I h) fun us s1 ⟨vs, H1, I1, r1, q1⟩ => ?_) hs hpl))
  obtain ⟨t1, t2, a, b, xs, ys, ex, hqx, hqy, q⟩ := q1
  subst ex
  cases r1 with
  | cons r rr =>
    cases rr with
    | cons r' rr =>
      cases rr
      cases r
      cases r'
      have fresh5 : ∀ c, c ∈ [s1.heap.objs.size + 4, s1.heap.objs.size + 2, s1.heap.objs.size + 3, s1.heap.objs.size, s1.heap.objs.size + 1] → FpOk X pins H1 c := fun c hcm => by
        have e' : c = s1.heap.objs.size + 4 ∨ c = s1.heap.objs.size + 2 ∨ c = s1.heap.objs.size + 3 ∨ c = s1.heap.objs.size ∨ c = s1.heap.objs.size + 1 := by simpa using hcm
        have hle : s1.heap.objs.size ≤ c := by
          rcases e' with z | z | z | z | z
          · rw [z]; exact Nat.le_add_right _ _
          · rw [z]; exact Nat.le_add_right _ _
          · rw [z]; exact Nat.le_add_right _ _
          · rw [z]; exact Nat.le_refl _
          · rw [z]; exact Nat.le_add_right _ _
        exact I1.fpOk hle (I1.hok.fresh hle)
      obtain ⟨its, rv, p1, lt1⟩ := hqx.inv I1
      obtain ⟨its2, rv2, p2, lt2⟩ := hqy.inv I1
      refine zip_begins2 (beginsX t1 a its.toArray) (beginsX t2 b its2.toArray) p1 p2 fun h' hz hTI hTO h1 h2 hsz hk => wpAny_pyIter_zip hz ?_
      have I2 : Inv X pins σ H1 { s1 with heap := h' } := I1.kept (t' := s1.toks) hk
      exact ⟨s1.heap.objs.size + 4, [s1.heap.objs.size + 4, s1.heap.objs.size + 2, s1.heap.objs.size + 3, s1.heap.objs.size, s1.heap.objs.size + 1], _, _, H1, rfl, I2,
        turn_zipM t1 t2 (PySem.W.ktu_apart s1.heap.objs.size a b lt1 lt2) (PySem.W.ktu_apart s1.heap.objs.size b a lt2 lt1), ⟨hz, hTI, ⟨_, _, hTO⟩, itX_new h1, itX_new h2, Nat.zero_le _, Nat.zero_le _⟩, fresh5, q⟩
def seqD : D → Option (List D)
  | .lst xs => some xs
  | .tup xs => some xs
  | .ftup xs => some xs
  | _ => none
def zipK2 : List D → M (List D)
  | [x, y] => (match seqD x, seqD y with | some xs, some ys => M.pure (zipD xs ys) | _, _ => M.bad)
  | _ => M.bad
section
variable {X : Cx} {E : XK} {pos p tpos : Pos} {a b : Expr} {elts : List Expr} {kk : Nat} {fl : DS → M (List D)}
theorem seqD_rep {K : PySem.W.Frag} {A : List GAdr} {S H : Hp} (e : Same S H) {v : V} {d : D} {ds : List D} (r : Rep K A S v d) (h : seqD d = some ds) : ∃ t a xs, v = .ref a ∧ SqX t K S a xs ∧ SqX t K H a xs ∧ RepL K A S xs ds := by
  cases r with
  | @lst a xs _ h1 rr => cases h; exact ⟨false, a, xs, rfl, .inl (.inl h1), .inl (.inl (e _ _ h1)), rr⟩
  | @tup a xs _ h1 rr => cases h; exact ⟨true, a, xs, rfl, .inl (.inl h1), .inl (.inl (e _ _ h1)), rr⟩
  | @ftup a xs _ h1 rr => cases h; exact ⟨true, a, xs, rfl, h1.sq (Same.refl _), h1.sq e, rr⟩
  | _ => cases h
theorem SqX.mono {K : PySem.W.Frag} {S H : Hp} {t : Bool} {a : Addr} {xs : List V} (e : Same S H) (h : SqX t K S a xs) : SqX t K H a xs := by
  cases t with
  | true => exact SqT.mono e h
  | false => exact SqL.mono e h
theorem di_zip2 (hm : X.mg "zip" = none) (ha : DL X E [a, b] fl) (hg : Gl X "zip" := by rfl) (hs : starEach [a, b] X.env = (false, eval a X.env) :: starEach [b] X.env := by rfl) (hpl : (backTo pos (starEach [b] X.env)).any (·.1) = false := by rfl) :
    DI X E (.Tuple elts kk tpos) (.Call (.Name "zip" p) [a, b] [] pos) (iArgs zipK2 fl) :=
  PI.impD (pi_zipM hg hm ha hs hpl) fun σ H R ⟨A, S, g, σd, o, r, q⟩ => ⟨A, S, g, σd, o, r, (KI.bindL q).imp fun vs H1 ⟨A1, S1, g1, ds, p1, o1, r1, q1⟩ => by
    unfold zipK2 at q1
    split at q1
    · rename_i x y
      cases e1 : seqD x with
      | none => rw [e1] at q1; exact q1.elim
      | some xs =>
        cases e2 : seqD y with
        | none => rw [e1, e2] at q1; exact q1.elim
        | some ys =>
          rw [e1, e2] at q1
          obtain ⟨v, w, rfl, rx, ry⟩ := rep2' r1
          obtain ⟨t1, a1, us, rfl, s1, h1, rr1⟩ := seqD_rep o1.ext rx e1
          obtain ⟨t2, a2, ws, rfl, s2, h2, rr2⟩ := seqD_rep o1.ext ry e2
          refine ⟨t1, t2, a1, a2, us, ws, rfl, h1, h2, KI.now q1 o1 ⟨fun i H hi e => ?_, fun i H hi e => ?_, fun i H v H' hi e y => ?_⟩⟩
          · rw [zipD_len, ← rr1.length, ← rr2.length] at hi
            exact ⟨s1.mono e, s2.mono e, by omega, by omega⟩
          · rw [zipD_len, ← rr1.length, ← rr2.length] at hi
            exact ⟨s1.mono e, s2.mono e, by omega⟩
          · obtain ⟨T, x, y', rfl, hT, rfl, f1, f2⟩ := y
            obtain ⟨d, e3, rx⟩ := rr1.get f1
            obtain ⟨c, e4, ry⟩ := rr2.get f2
            exact ⟨_, zipD_get e3 e4, .inr ⟨T, _, _, rfl, rfl, .inl ⟨hT, rfl⟩, .cons rx (.cons ry .nil)⟩⟩
    · exact q1.elim⟩
end
end NS
namespace NS
open PySem PySem.Spec PyProof.Rows L2
section
variable {X : Cx} {E : XK} {m : Bool} {pos : Pos} {e0 : En}
def borOs : List Nat → (DS → M D) → DS → M D
  | [], f => f
  | i :: is, f => eBorO i (borOs is f)
end
end NS
namespace NS
open PySem PySem.Spec PyProof.Rows L2
section
variable {X : Cx} {E : XK} {m : Bool}
end
end NS
namespace NS
open PySem PySem.Spec PyProof.Rows L2
section
variable {K : PySem.W.Frag} {A : List GAdr} {S H : Hp}
end
section
variable {X : Cx} {E : XK} {m : Bool}
end
end NS
namespace PySem
open Sem (wp)
def nszRefs (base i : Nat) : Array Value := ((List.range i).map fun j => Value.ref (base + j)).toArray
theorem nszRefs_succ (base i : Nat) : nszRefs base (i + 1) = (nszRefs base i).push (.ref (base + i)) := by
  unfold nszRefs; rw [List.range_succ, List.map_append]; simp
structure NszSt (h0 : Heap) (S z TI i1 i2 l1 l2 base : Addr) (xs ys : Array Value) (h : Heap) (i : Nat) : Prop where
  pTI : IsPair h TI (.ref i1) (.ref i2)
  a1 : h.IsListIter i1 l1 i
  a2 : h.IsListIter i2 l2 i
  b1 : h.IsList l1 xs
  b2 : h.IsList l2 ys
  sS : ∃ c, h.get? S = some { cls := .type "list", dict := none, data := .seq (nszRefs base i) c, slots := #[] }
  sz : h.objs.size = base + i
  prs : ∀ (j : Nat) x y, j < i → xs[j]? = some x → ys[j]? = some y → IsPair h (base + j) x y
  kp : ∀ b o, h0.get? b = some o → h.get? b = some o
structure NszEnd (h0 : Heap) (S base : Addr) (xs ys : Array Value) (h : Heap) : Prop where
  sS : ∃ c, h.get? S = some { cls := .type "list", dict := none, data := .seq (nszRefs base xs.size) c, slots := #[] }
  prs : ∀ (j : Nat) x y, xs[j]? = some x → ys[j]? = some y → IsPair h (base + j) x y
  kp : ∀ b o, h0.get? b = some o → h.get? b = some o
structure NszOk (h0 : Heap) (S z TI TO i1 i2 l1 l2 base : Addr) : Prop where
  D : ZipApart z TI TO i1 i2 l1 l2
  Sz : S ≠ z
  S1 : S ≠ i1
  S2 : S ≠ i2
  STI : S ≠ TI
  STO : S ≠ TO
  Sl1 : S ≠ l1
  Sl2 : S ≠ l2
  n0 : ∀ c ∈ [S, z, i1, i2, TO], h0.objs.size ≤ c
  lt : ∀ c ∈ [S, z, i1, i2, TI, TO, l1, l2], c < base
section
variable {h0 h h' : Heap} {S z TI TO i1 i2 l1 l2 base : Addr} {xs ys : Array Value} {i : Nat} {x y : Value}
theorem NszSt.next (K : NszOk h0 S z TI TO i1 i2 l1 l2 base) (st : NszSt h0 S z TI i1 i2 l1 l2 base xs ys h i) (hx : xs[i]? = some x) (hy : ys[i]? = some y)
    (c1 : h'.IsListIter i1 l1 (i + 1)) (c2 : h'.IsListIter i2 l2 (i + 1)) (pr : IsPair h' h.objs.size x y) (sz' : h'.objs.size = h.objs.size + 1)
    (kp : ∀ c o, c ≠ z → c ≠ TO → c ≠ i1 → c ≠ i2 → h.get? c = some o → h'.get? c = some o) :
    NszSt h0 S z TI i1 i2 l1 l2 base xs ys (h'.update S (Obj.mapSeq (·.push (.ref h.objs.size)))) (i + 1) := by
  have D := K.D
  have up : ∀ c o, S ≠ c → h'.get? c = some o → (h'.update S (Obj.mapSeq (·.push (.ref h.objs.size)))).get? c = some o := fun c o hc e => (Heap.get?_update_other _ _ hc).trans e
  have pl : ∀ j, base + j ≠ z ∧ base + j ≠ TO ∧ base + j ≠ i1 ∧ base + j ≠ i2 ∧ S ≠ base + j := fun j => by
    have q1 := K.lt z (by simp); have q2 := K.lt TO (by simp); have q3 := K.lt i1 (by simp); have q4 := K.lt i2 (by simp); have q5 := K.lt S (by simp)
    exact ⟨Nat.ne_of_gt (Nat.lt_of_lt_of_le q1 (Nat.le_add_right _ _)), Nat.ne_of_gt (Nat.lt_of_lt_of_le q2 (Nat.le_add_right _ _)), Nat.ne_of_gt (Nat.lt_of_lt_of_le q3 (Nat.le_add_right _ _)), Nat.ne_of_gt (Nat.lt_of_lt_of_le q4 (Nat.le_add_right _ _)), Nat.ne_of_lt (Nat.lt_of_lt_of_le q5 (Nat.le_add_right _ _))⟩
  refine ⟨up _ _ K.STI (kp _ _ D.TIz D.TITO D.TIi1 D.TIi2 st.pTI), ?_, ?_, ?_, ?_, ?_, ?_, ?_, ?_⟩
  · obtain ⟨o, e, r⟩ := c1; exact ⟨o, up _ _ K.S1 e, r⟩
  · obtain ⟨o, e, r⟩ := c2; exact ⟨o, up _ _ K.S2 e, r⟩
  · obtain ⟨o, e, r⟩ := st.b1; exact ⟨o, up _ _ K.Sl1 (kp _ _ D.l1z D.l1TO D.l1i1 D.l1i2 e), r⟩
  · obtain ⟨o, e, r⟩ := st.b2; exact ⟨o, up _ _ K.Sl2 (kp _ _ D.l2z D.l2TO D.l2i1 D.l2i2 e), r⟩
  · obtain ⟨c, e⟩ := st.sS
    have e2 := kp _ _ K.Sz K.STO K.S1 K.S2 e
    have e3 := Heap.get?_update_self (Obj.mapSeq (·.push (.ref h.objs.size))) e2 rfl
    rw [nszRefs_succ, ← st.sz]
    exact ⟨_, e3⟩
  · rw [Heap.size_update, sz', st.sz]; rfl
  · intro j x' y' hj hx' hy'
    by_cases e : j = i
    · subst e
      rw [hx] at hx'; rw [hy] at hy'
      cases hx'; cases hy'
      rw [st.sz] at pr
      exact up _ _ (pl j).2.2.2.2 pr
    · have := st.prs j x' y' (by omega) hx' hy'
      obtain ⟨p1, p2, p3, p4, p5⟩ := pl j
      exact up _ _ p5 (kp _ _ p1 p2 p3 p4 this)
  · intro b o e
    have hb := Heap.lt_size e
    have nb : ∀ c ∈ [S, z, i1, i2, TO], b ≠ c := fun c hc z => by
      have := K.n0 c hc
      rw [← z] at this
      exact absurd hb (Nat.not_lt_of_le this)
    exact up _ _ (Ne.symm (nb S (by simp))) (kp _ _ (nb z (by simp)) (nb TO (by simp)) (nb i1 (by simp)) (nb i2 (by simp)) (st.kp b o e))
theorem NszSt.fin (K : NszOk h0 S z TI TO i1 i2 l1 l2 base) (st : NszSt h0 S z TI i1 i2 l1 l2 base xs ys h xs.size) (kp : ∀ c o, c ≠ z → c ≠ TO → c ≠ i1 → c ≠ i2 → h.get? c = some o → h'.get? c = some o) : NszEnd h0 S base xs ys h' := by
  have pl : ∀ j, base + j ≠ z ∧ base + j ≠ TO ∧ base + j ≠ i1 ∧ base + j ≠ i2 := fun j => by
    have q1 := K.lt z (by simp); have q2 := K.lt TO (by simp); have q3 := K.lt i1 (by simp); have q4 := K.lt i2 (by simp)
    exact ⟨Nat.ne_of_gt (Nat.lt_of_lt_of_le q1 (Nat.le_add_right _ _)), Nat.ne_of_gt (Nat.lt_of_lt_of_le q2 (Nat.le_add_right _ _)), Nat.ne_of_gt (Nat.lt_of_lt_of_le q3 (Nat.le_add_right _ _)), Nat.ne_of_gt (Nat.lt_of_lt_of_le q4 (Nat.le_add_right _ _))⟩
  refine ⟨?_, fun j x y hx hy => ?_, fun b o e => ?_⟩
  · obtain ⟨c, e⟩ := st.sS
    exact ⟨c, kp _ _ K.Sz K.STO K.S1 K.S2 e⟩
  · obtain ⟨p1, p2, p3, p4⟩ := pl j
    exact kp _ _ p1 p2 p3 p4 (st.prs j x y (Array.getElem?_eq_some_iff.mp hx).1 hx hy)
  · have hb := Heap.lt_size e
    have nb : ∀ c ∈ [S, z, i1, i2, TO], b ≠ c := fun c hc z => by
      have := K.n0 c hc
      rw [← z] at this
      exact absurd hb (Nat.not_lt_of_le this)
    exact kp _ _ (nb z (by simp)) (nb TO (by simp)) (nb i1 (by simp)) (nb i2 (by simp)) (st.kp b o e)
variable {prog : Program} {w : World} {A : Around} {s : Shared} {R : Result → Shared → Prop}
end
end PySem
namespace PySem
section
variable {prog : Program} {w : World} {A : Around} {s : Shared} {R : Result → Shared → Prop}
variable {h0 : Heap} {S z TI TO i1 i2 l1 l2 base : Addr} {xs ys : Array Value}
structure NszIn (h0 : Heap) (S z TI TO i1 i2 l1 l2 base : Addr) (xs ys : Array Value) (h : Heap) : Prop where
  hz : IsZip h z TI TO .none
  pTI : IsPair h TI (.ref i1) (.ref i2)
  pTO : ∃ a b, IsPair h TO a b
  a1 : h.IsListIter i1 l1 0
  a2 : h.IsListIter i2 l2 0
  b1 : h.IsList l1 xs
  b2 : h.IsList l2 ys
  kp : ∀ b o, h0.get? b = some o → h.get? b = some o
theorem NszIn.to {h h' : Heap} (K : NszOk h0 S z TI TO i1 i2 l1 l2 base) (q : NszIn h0 S z TI TO i1 i2 l1 l2 base xs ys h) (k : ∀ b o, b ≠ S → h.get? b = some o → h'.get? b = some o) : NszIn h0 S z TI TO i1 i2 l1 l2 base xs ys h' := by
  refine ⟨k _ _ (Ne.symm K.Sz) q.hz, k _ _ (Ne.symm K.STI) q.pTI, ?_, ?_, ?_, ?_, ?_, fun b o e => ?_⟩
  · obtain ⟨a, b, e⟩ := q.pTO; exact ⟨a, b, k _ _ (Ne.symm K.STO) e⟩
  · obtain ⟨o, e, r⟩ := q.a1; exact ⟨o, k _ _ (Ne.symm K.S1) e, r⟩
  · obtain ⟨o, e, r⟩ := q.a2; exact ⟨o, k _ _ (Ne.symm K.S2) e, r⟩
  · obtain ⟨o, e, r⟩ := q.b1; exact ⟨o, k _ _ (Ne.symm K.Sl1) e, r⟩
  · obtain ⟨o, e, r⟩ := q.b2; exact ⟨o, k _ _ (Ne.symm K.Sl2) e, r⟩
  · exact k b o (fun z => absurd (Heap.lt_size e) (Nat.not_lt_of_le (z ▸ K.n0 S (by simp)))) (q.kp b o e)
theorem NszIn.st {h : Heap} (q : NszIn h0 S z TI TO i1 i2 l1 l2 base xs ys h) (hb : h.objs.size = base) (hS : ∃ c, h.get? S = some { cls := .type "list", dict := none, data := .seq #[] c, slots := #[] }) : NszSt h0 S z TI i1 i2 l1 l2 base xs ys h 0 :=
  ⟨q.pTI, q.a1, q.a2, q.b1, q.b2, hS, hb, fun j _ _ hj => absurd hj (Nat.not_lt_zero j), q.kp⟩
end
section
variable {prog : Program} {w : World} {A : Around} {E : Value → Shared → Prop} {s : Shared} {Q : Value → Shared → Prop}
variable {h0 : Heap} {S z TI TO i1 i2 l1 l2 base : Addr} {xs ys : Array Value}
end
end PySem
namespace L2
open PySem PySem.Spec PyProof.Rows
section
variable {X : Cx} {a b : Expr} {ta : TA} {p p2 pos pos2 : Pos}
end
end L2
namespace NS
open PySem PySem.Spec PyProof.Rows L2
section
variable {K : PySem.W.Frag} {A : List GAdr} {g : G}
end
section
variable {X : Cx} {E : XK} {m : Bool} {a b : Expr} {pos1 pos2 p1 p2 : Pos} {fl : DS → M (List D)}
end
end NS
namespace L2
open PySem PySem.Spec PyProof.Rows
section
variable {X : Cx} {es : List Expr} {t : TA} {pos : Pos}
variable {o e : Expr} {to : TE} {name : Str} {apos cpos : Pos} {id : String} {r : V → List V → Hp → VK → Prop}
end
end L2
namespace NS
open PySem PySem.Spec PyProof.Rows L2
section
variable {X : Cx} {E : XK} {es : List Expr} {fl : DS → M (List D)} {pos : Pos} {m : Bool}
variable {apos cpos : Pos} {o e : Expr} {fo : DS → M D} {name : Str} {id : String} {k : D → List D → M D}
end
end NS
namespace HT
open PySem PySem.Spec PyProof.Rows
section
variable {prog : Program} {w : World} {A : Around} {E : Value → Shared → Prop} {s : Shared}
end
end HT
namespace L2
open PySem PySem.Spec PyProof.Rows
open Sem (wp)
section
variable {prog : Program} {w : World} {K : Type} [DecidableEq K] {knd : HeapKind prog w K} {A : Around} {E : Value → Shared → Prop} {s : Shared}
end
section
variable {X : Cx} {pos : Pos} {ek ev : Expr} {tk tv : TE}
end
end L2
namespace NS
open PySem PySem.Spec PyProof.Rows L2
section
variable {X : Cx} {E : XK} {m : Bool} {e0 : En} {pos : Pos} {tg e : Expr} {fe : DS → M D}
variable {eo ek ed : Expr} {fo fk fd : DS → M D} {apos cpos : Pos}
theorem RepT.at_ {K : PySem.W.Frag} {A : List GAdr} {S : Hp} : ∀ {vs : List (List Key × V)} {ds : List (List Key × D)} {i : Nat} {k : List Key} {v : V}, RepT K A S vs ds → vs[i]? = some (k, v) → ∃ d, ds[i]? = some (k, d)
  | _, _, _, _, _, .nil, e => by simp at e
  | _, _, 0, _, _, .cons h r, e => by simp at e; obtain ⟨rfl, rfl⟩ := e; exact ⟨_, rfl⟩
  | _, _, i + 1, _, _, .cons h r, e => by
    obtain ⟨d, e1⟩ := RepT.at_ (i := i) r (by simpa using e)
    exact ⟨d, by simpa using e1⟩
def lk1 (i : Nat) (σ : DS) : DS := match σ[i]? with
  | some (some (.ow (.dT kvs))) => σ.set i (some (.sh (.fT kvs)))
  | _ => σ
theorem Stt.lk {K : PySem.W.Frag} {A : List GAdr} {S H : Hp} {g : G} {σd : DS} {σ : L2.St} (s : Stt K e0 A S g σd σ H) (i : Nat) : lk1 i σd = σd ∨ ∃ p xs, H p = some (.dT xs) ∧ ∀ od, ∃ S', Same S S' ∧ Stt K e0 A S' g (lk1 i σd) σ (upd H p (.frz od (.dT xs))) := by
  unfold lk1
  match e : σd[i]? with
  | some (some (.ow (.dT kvs))) =>
    obtain ⟨p, e1, h1, h2, xs, hx, rr⟩ := s.rep.ow e
    refine .inr ⟨p, xs, hx, fun od => ⟨upd S p (.frz od (.dT xs)), fun b x z => by rw [upd_ne (ne_of_none z h1)]; exact z, ?_⟩⟩
    have sm : Same S (upd S p (.frz od (.dT xs))) := fun b x z => by rw [upd_ne (ne_of_none z h1)]; exact z
    have hn := s.own i _ p e e1
    refine ⟨⟨fun b x z => ?_, s.ok.len, fun k ga c g1 g2 => (s.ok.cel k ga c g1 g2).mono (List.prefix_refl _) sm fun x hx' => ?_, s.ok.nd, fun x hx' => ?_⟩, ⟨by simp [s.rep.len], fun j x e' => ?_, fun a b d1 d2 q ne ea eb sa sb => ?_⟩,
      ⟨s.post.a, s.post.s.trans sm, fun x o z => ?_, fun x o z n => ?_, fun x o z => ?_, s.post.anew⟩, fun j d q z1 z2 => ?_⟩
    · by_cases q : b = p
      · subst q; rw [upd_same] at z ⊢; exact z
      · rw [upd_ne q] at z ⊢; exact s.ok.ext _ _ z
    · exact upd_ne fun (z : x = p) => h2 (by rw [← z]; exact List.mem_flatMap.mpr ⟨ga, List.mem_of_getElem? g1, hx'⟩)
    · rw [upd_ne fun (z : x = p) => h2 (by rw [← z]; exact hx')]; exact s.ok.out x hx'
    · rcases set_get e' with ⟨rfl, z, hl⟩ | ⟨ne, e'⟩
      · cases z
        exact ⟨_, e1, .fT upd_same (rr.mono (List.prefix_refl _) sm)⟩
      · obtain ⟨w, w1, w2⟩ := s.rep.at_ j x e'
        refine ⟨w, w1, ?_⟩
        cases w with
        | none => cases x <;> exact w2.elim
        | some w =>
          cases x with
          | sh d2 => exact Rep.mono (List.prefix_refl _) sm w2
          | ow d2 =>
            cases w with
            | ref q =>
              obtain ⟨q1, q2, q3⟩ := w2
              have nq : q ≠ p := fun z => by subst z; exact s.rep.sep i j _ d2 q ne e e' e1 w1
              exact ⟨by rw [upd_ne nq]; exact q1, q2, q3.mono (List.prefix_refl _) sm (upd_ne nq)⟩
            | _ => exact w2.elim
    · rcases set_get ea with ⟨rfl, z, hl⟩ | ⟨na, ea⟩
      · cases z
      · rcases set_get eb with ⟨rfl, z, hl⟩ | ⟨nb, eb⟩
        · cases z
        · exact s.rep.sep a b d1 d2 q ne ea eb sa sb
    · by_cases h : x = p
      · subst h; exact .inr (.inl hn)
      · rw [upd_ne h] at z; exact s.post.snew x o z
    · rw [upd_ne (ne_of_none z hn)]; exact s.post.keep x o z n
    · rw [upd_ne (ne_of_none z hn)]; exact s.post.dom x o z
    · rcases set_get z1 with ⟨rfl, z, _⟩ | ⟨ne, z1⟩
      · cases z
      · exact s.own j d q z1 z2
  | some (some (.ow (.lst _))) | some (some (.ow (.dK _))) | some (some (.ow .non)) | some (some (.ow (.bl _))) | some (some (.ow (.int _))) | some (some (.ow (.str _))) | some (some (.ow (.tup _))) | some (some (.ow (.hdl _))) | some (some (.ow (.slst _))) | some (some (.ow (.ftup _))) | some (some (.ow (.fT _))) | some (some (.ow (.exc0 _))) | some (some (.ow (.exc1 _ _ _))) => exact .inl rfl
  | some (some (.sh d)) => exact .inl rfl
  | some none => exact .inl rfl
  | none => exact .inl rfl
variable {st : Stmt} {f : DS → M Fl}
end
end NS
namespace NS
open PySem PySem.Spec PyProof.Rows L2
section
variable {K : PySem.W.Frag} {A : List GAdr} {S H : Hp}
end
section
variable {X : Cx} {E : XK} {e : Expr} {fe : DS → M D}
end
end NS
namespace L2
open PySem PySem.Spec PyProof.Rows
section
variable {X : Cx} {e : Expr} {t : TE}
end
end L2
namespace NS
open PySem PySem.Spec PyProof.Rows L2
section
variable {X : Cx} {E : XK} {m : Bool} {e0 : En} {pos px : Pos} {tg e ei a b : Expr} {fe fi fa fb : DS → M D}
end
end NS
set_option maxHeartbeats 4000000
namespace L2
open PySem PySem.Spec PyProof.Rows
open Builtin Builtin.ObjectAttr
def refsT (tl : List Value) : List Value → Bool
  | .ref _ :: r => refsT tl r
  | l => l == tl
theorem refsT_cases {tl : List Value} : ∀ l : List Value, refsT tl l = true → (∃ c r, l = .ref c :: r ∧ refsT tl r = true) ∨ l = tl := by
  intro l e
  cases l with
  | nil => exact .inr (beq_iff_eq.mp e)
  | cons a r => cases a <;> first
    | exact .inl ⟨_, _, rfl, e⟩
    | exact .inr (beq_iff_eq.mp e)
structure XBse (B newId initId : String) (tl : List Value) : Prop where
  F : ExcBaseFacts B newId initId tl
  pass : ∀ self, refuseLoop self "__setattr__" tl = pure ()
  obj : tl.contains (.type "object") = true
  ne : tl ≠ []
  typ : typeOf (.type B) = pure (.type "type")
variable {B newId initId : String} {tl : List Value}
theorem refsT_ind (G : XBse B newId initId tl) (P : List Value → Prop) (h0 : P tl) (h1 : ∀ c r, P r → P (.ref c :: r)) : ∀ l : List Value, refsT tl l = true → P l := by
  intro l
  induction l with
  | nil =>
    intro e
    rcases refsT_cases [] e with ⟨c, r, q, _⟩ | q
    · cases q
    · rw [q]; exact h0
  | cons a r ih =>
    intro e
    rcases refsT_cases (a :: r) e with ⟨c, r', q, h⟩ | q
    · obtain ⟨rfl, rfl⟩ := List.cons.inj q
      exact h1 c r (ih h)
    · rw [q]; exact h0
theorem refsT_pass (G : XBse B newId initId tl) (self : Value) : ∀ l : List Value, refsT tl l = true → refuseLoop self "__setattr__" l = pure () :=
  refsT_ind G _ (G.pass self) fun c r h => by rw [refuseLoop_ref]; exact h
theorem refsT_contains (G : XBse B newId initId tl) (X : String) : ∀ l : List Value, refsT tl l = true → l.contains (.type X) = tl.contains (.type X) :=
  refsT_ind G _ rfl fun c r h => by rw [List.contains_cons, h]; rfl
theorem refsT_ne (G : XBse B newId initId tl) : ∀ l : List Value, refsT tl l = true → l.isEmpty = false :=
  refsT_ind G _ (by cases e : tl with
    | nil => exact absurd e G.ne
    | cons _ _ => rfl) fun c r h => rfl
theorem xb_VE : XBse "ValueError" "ValueError.__new__" "ValueError.__init__" [.type "ValueError", .type "Exception", .type "BaseException", .type "object"] :=
  ⟨F.excBase_ValueError, fun self => by kernel_rfl, by decide +kernel, by simp, by kernel_rfl⟩
open PySem.W PySem.HandSPX in
theorem exo_store {prog : Program} {w : World} {A : Around} {R : Result → Shared → Prop} {hp : Heap} {g : Array GenState} {d : Drawn} {t : Nat} {os : OsState} {K : PySem.W.Frag} {name : Str} {tk : Tok} {v : Value} {x C : Addr} {fv : Array Value} {cd : ClassData}
    (G : XBse B newId initId tl) (KI : K.In hp) (hx : hp.get? x = some { cls := .ref C, data := .fields fv }) (hcd : clsIn K C = some cd) (hm : refsT tl cd.mro = true) (hh : cd.hasDict = true) (ha : findIn K (.ref C) name = some none)
    (hq : ∀ h' tk' dx, (∀ b o, b ≠ x → hp.get? b = some o → h'.get? b = some o) → hp.objs.size ≤ dx → dx ≠ x → h'.get? x = some { cls := .ref C, dict := some dx, data := .fields fv } →
      h'.Ns1 dx (fun y => if y = name then some v else none) → R (.ok (.ret .none)) ⟨h', g, d, tk', os⟩) :
    codeAny (model prog w) A (.call (.builtin "object.__setattr__") ⟨[.ref x, .str name tk, v], []⟩) R ⟨hp, g, d, t, os⟩ := by
  have at_ : InstAt hp x { cls := .ref C, data := .fields fv } C none := ⟨hx, rfl, rfl, trivial⟩
  have st := F.store_object
  have full := refsT_ne G _ hm
  have isO : cd.mro.contains (.type "object") = true := (refsT_contains G "object" _ hm).trans G.obj
  have away : x ≠ hp.objs.size := Nat.ne_of_lt (Heap.lt_size hx)
  have inst : Looks (model prog w) hp (isInstance (.ref x) (.type "object")) true := at_.type.andThen (looks_mroIn KI (by unfold mroIn; rw [hcd, Option.bind_some, if_neg (by rw [full]; decide), isO]))
  refine codeAny_call_builtin st.slot.plain st.entry (@check_slot (model prog w) _ _ ⟨hp, g, d, t, os⟩ "object.__setattr__" "object" "__setattr__" (.ref x) [.str name tk, v] [] _ st.kind st.split inst (st.args (.ref x) (.str name tk) v) ?_)
  have lm : Looks (model prog w) hp (mroOf (.ref C)) cd.mro := (looks_clsIn KI hcd).andThen .now
  have lt : Looks (model prog w) hp (storeTaker? none) none := .now
  have lc : Looks (model prog w) hp (classData C) cd := looks_clsIn KI hcd
  rw [osa_eq, refuse_eq]
  refine wpAny_bind (wpAny_bind (at_.type.at (wpAny_bind (lm.at ?_))))
  rw [refsT_pass G _ _ hm]
  refine wpAny_pure (wpAny_bind (at_.type.at (wpAny_bind ((looks_findIn KI ha).at (wpAny_bind (lt.at ?_))))))
  show wpAny _ _ (storeInOwnDict (.ref x) (.ref C) (.str name tk) name v false) _ _ _
  obtain ⟨nm, bs, mro, ns, qn, hd, sn, sb, ab, col, del⟩ := cd
  dsimp only at hh
  subst hh
  unfold storeInOwnDict ownDictForStores
  repeat (first | with_reducible refine store_in_new ?_ ?_ | with_reducible refine wpAny_loadPart_at hx ?_ | with_reducible refine lc.at ?_ | wp_step)
  · exact ⟨_, #[], _, (Heap.get?_update_ne _ _ _ _ away.symm).trans (Heap.get?_push_at rfl rfl), rfl, fun e he => absurd he (by simp), fun _ => rfl⟩
  · intro h' tk' hn' hs
    have hx1 : (hp.push { cls := .type "dict", data := .dict #[] }).get? x = some { cls := .ref C, data := .fields fv } := Heap.get?_push_of_some _ hx
    refine hq h' tk' hp.objs.size (fun b o hb ho => ?_) (Nat.le_refl _) away.symm ?_ hn'
    · exact (hs.2 b (Nat.ne_of_lt (Heap.lt_size ho))).trans ((Heap.get?_update_ne _ _ _ _ hb).trans (Heap.get?_push_of_some _ ho))
    · exact (hs.2 x away).trans (Heap.get?_update_self _ hx1 rfl)
structure OexG (K : PySem.W.Frag) (C : Addr) (newId : String) (tl : List Value) : Prop where
  cls : ∃ nm q N bs bm sn sub ab col dd k0 k1 k2 k3 k5, K.lookup C = some (excClassObj nm q C N bs bm true sn sub ab col dd k0 k1 k2 k3 k5 newId) ∧ refsT tl bm = true
  sa : PySem.W.findIn K (.ref C) "__setattr__" = some (some (.builtin "object.__setattr__"))
  exC : PySem.W.subIn K (.ref C) (.type "BaseException") = some true
  tyC : PySem.W.typeIn K (.ref C) = some (.type "type")
  kC : PySem.W.keepIn K (.ref C) = true
section
variable {X : Cx} {pins : List (Addr × Obj)} {σ : St} {H : Hp} {s : Shared} {a C dx : Addr} {f : Str} {y : V} {u : Value} {A : Around} {E : Value → Shared → Prop}
theorem exo_set (G : XBse B newId initId tl) {Q : Unit → Shared → Prop} (T : OexG X.K C newId tl) (I : Inv X pins σ H s) (e : H a = some (exo a C none)) (hno : PySem.W.findIn X.K (.ref C) f = some none) (ry : RelV y u)
    (h : ∀ dx s', H dx = none → dx ≠ a → Inv X pins σ (upd (upd H dx (exd dx [(f, y)])) a (exo a C (some dx))) s' → Q () s') : wpAny (model X.prog X.w) A (setAttr (.ref a) f u) Q E s := by
  obtain ⟨nm, q, N, bs, bm, sn, sub, ab, col, dd, k0, k1, k2, k3, k5, hC, hbm⟩ := T.cls
  have hcl : PySem.W.clsIn X.K C = some { name := nm, bases := bs, mro := .ref C :: bm, ns := N, qualname := q, hasDict := true, slotNames := sn, subclasses := sub, abstract := ab, collection := col, hasDel := false } := by unfold PySem.W.clsIn; rw [hC] <;> rfl
  obtain ⟨t1, ho⟩ := exo_at I.hok e
  obtain ⟨hp, g, d, t, os⟩ := s
  refine PySem.W.set_plain I.kIn (ox := { cls := .ref C, dict := none, data := .fields #[.ref t1, .none, .none, .none, .bool false, .none] }) (od := none) ⟨ho, rfl, rfl, trivial⟩ T.sa ?_
  refine exo_store G I.kIn ho hcl (show refsT tl (.ref C :: bm) = true from hbm) rfl hno (fun h' tk' dx k dn dne hx hn => ?_)
  have hnd : H dx = none := I.hok.fresh dn
  have nd : ∀ {b : Addr} {o : Obj}, hp.get? b = some o → b ≠ dx := fun {b o} q => Nat.ne_of_lt (Nat.lt_of_lt_of_le (Heap.lt_size q) dn)
  have na : ∀ {b : Addr}, H b = none → b ≠ a := fun {b} n z => by rw [z, e] at n; cases n
  have un : Un X.fs [] H (upd (upd H dx (exd dx [(f, y)])) a (exo a C (some dx))) hp h' := {
    keep := fun b o q n _ _ => k b o (na n) q
    slot := fun b o q n _ _ => ⟨o.slots, k b o (na n) q⟩
    free := fun b o q n _ => by rw [upd_ne (na n), upd_ne (nd q)]; exact n
    there := fun b o q _ => by
      by_cases hb : b = a
      · exact ⟨_, by rw [hb]; exact hx⟩
      · exact ⟨o, k b o hb q⟩
    tups := fun b xs q => by rw [upd_ne (at_ne e q exo_tup), upd_ne (ne_of_none q hnd)]; exact q
    frzs := fun b o v q => by rw [upd_ne (at_ne e q exo_frz), upd_ne (ne_of_none q hnd)]; exact q
    tbls := fun b ps q => ⟨#[], by rw [upd_ne (at_ne e q exo_tbl), upd_ne (ne_of_none q hnd), q]; simp⟩ }
  refine h dx _ hnd dne (I.un (t' := tk') un fun b o q => ?_)
  by_cases hb : b = a
  · subst hb
    rw [upd_same] at q
    cases q
    exact exo_ok hx
  · rw [upd_ne hb] at q
    by_cases hd : b = dx
    · subst hd
      rw [upd_same] at q
      cases q
      exact exd_ok hn (relO_put (fs := []) ry fun g => True.intro)
    · rw [upd_ne hd] at q
      exact (I.hok b o q).stay (fun c v hc z => k c v (by
          rcases hc with hc | hc
          · rw [hc]; exact hb
          · exact at_ne e hc exo_own) z)
        (fun c hc => by rw [upd_ne (at_ne e hc exo_own), upd_ne (ne_of_none hc hnd)]; exact hc) (fun c xs hc => by rw [upd_ne (at_ne e hc exo_tup), upd_ne (ne_of_none hc hnd)]; exact hc)
theorem exo_init (G : XBse B newId initId tl) {us : List Value} {Q : Value → Shared → Prop} (T : OexG X.K C newId tl) (I : Inv X pins σ H s) (e : H a = some (exo a C none)) (hl : us.length ≤ sizeLine) (h : ∀ s', Inv X pins σ H s' → Q .none s') :
    wpAny (model X.prog X.w) A (call (.builtin initId) (.ref a :: us)) Q E s := by
  obtain ⟨nm, q, N, bs, bm, sn, sub, ab, col, dd, k0, k1, k2, k3, k5, hC, hbm⟩ := T.cls
  obtain ⟨t1, ho⟩ := exo_at I.hok e
  obtain ⟨hp, g, d, t, os⟩ := s
  refine wpAny_call (PySem.HandSPX.init_base G.F (fun Y => refsT_contains G Y bm hbm) (I.kIn _ _ hC) ho hl fun h' t2 k hx => ?_)
  have J := I.write (t' := t) (x := a) (e := a) (o := exo a C none) (by rw [e]; exact True.intro) (.inl rfl) k ⟨_, hx⟩ (exo_ok hx)
  have eu : upd H a (exo a C none) = H := by
    funext b
    by_cases hb : b = a
    · rw [hb, upd_same, e]
    · rw [upd_ne hb]
  rw [eu] at J
  exact h _ J
end
def tExI (K : PySem.W.Frag) (newId : String) (tl : List Value) (ta : TA) : TE := fun σ H Q => ta σ H fun vs H1 => ∃ (a C : Addr) (ws : List V), vs = .ref a :: ws ∧ ws.length ≤ 1000 ∧ OexG K C newId tl ∧ H1 a = some (exo a C none) ∧ Q .non H1
def tExS (K : PySem.W.Frag) (newId : String) (tl : List Value) (f : Str) (to te : TE) : TS := fun D σ H => te σ H fun y H1 => to σ H1 fun x H2 => ∃ a C : Addr, x = .ref a ∧ OexG K C newId tl ∧ PySem.W.findIn K (.ref C) f = some none ∧
  H2 a = some (exo a C none) ∧ ∀ dx, H2 dx = none → dx ≠ a → D.nx σ (upd (upd H2 dx (exd dx [(f, y)])) a (exo a C (some dx)))
section
variable {X : Cx} {o e : Expr} {es : List Expr} {to te : TE} {ta : TA} {f : Str} {p p' p1 p2 pos : Pos} {Bs : Str}
theorem pe_exI {pl : Sem Bool} (G : XBse B newId initId tl) (hg : Gl X Bs) (hm : X.mg Bs = none) (hbB : bootBuiltins Bs = some (.type B)) (vV : PySem.W.findCls X.K (.type B) (.type "type") "__init__" = some (.val (.builtin initId))) (ha : PA X (e :: es) ta)
    (hc : eval (.Call (.Attribute (.Name Bs p1) "__init__" p2) (e :: es) [] pos) X.env = (do
      let ov ← eval (.Name Bs p1) X.env
      standAt p2.atName
      let (f, first) ← holding [ov] (getMethod ov "__init__" pl)
      callWith pos f first (backTo pos (starEach (e :: es) X.env)) (backToKw pos (keywordEach [] X.env))) := by rfl)
    (n1 : Bs ≠ "__name__" := by decide) (n2 : (Bs == ("__debug__" : Str)) = false := by decide) (hB0 : Manifest.isStub B = false := by decide +kernel) (hB1 : PySem.W.handedIn (.builtin initId) = true := by decide +kernel) (hB2 : PySem.W.handedIn (.type B) = true := by decide +kernel)
    (he : starEach (e :: es) X.env = (false, eval e X.env) :: starEach es X.env := by rfl) (hpl : (backTo pos (starEach es X.env)).any (·.1) = false := by rfl) :
    PE X (.Call (.Attribute (.Name Bs p1) "__init__" p2) (e :: es) [] pos) (tExI X.K newId tl ta) := by
  refine ⟨fun pins s σ H Q I h => ?_⟩
  refine PySem.W.methodCall_KW (ld_blt I hg hm hbB ?_ n1 n2) hc
  obtain ⟨m, fr⟩ := I.fr
  refine PySem.W.method_type fr I.ok.mod.kin G.typ hB0 vV hB1 ?_
  show wpAny _ _ (callWith pos (Value.builtin initId) [] (backTo pos (starEach (e :: es) X.env)) []) _ _ _
  refine PyProof.Rows.callWith_method1 (thn (ha.run pos pins _ σ H _ (I.tok _) h) fun us s1 ⟨vs, H1, I1, r1, a, C, ws, ev, hl, T, ea, q⟩ => ?_) he hpl
  subst ev
  cases r1 with
  | @cons _ u0 _ ur ra rw' =>
    obtain rfl : u0 = Value.ref a := ra
    have hlen : ur.length ≤ sizeLine := by
      rw [← Paired.length rw', sizeLine_eq]
      omega
    exact exo_init G T I1 ea hlen fun s' J => ⟨.non, H1, J, rfl, q⟩
theorem ps_exS (G : XBse B newId initId tl) (ho : PE X o to) (he : PE X e te) (hs : swapsWith e (some (.Attribute o f p')) pos.line X.env = pure false := by rfl) : PS X (.Assign [.Attribute o f p'] e pos) (tExS X.K newId tl f to te) := by
  refine ⟨fun pins s σ H D I h => ?_⟩
  refine plainObj_wpAny_Assign_Attribute (thn (he.run pins s σ H _ I h) fun v s1 ⟨y, H1, I1, r1, q1⟩ => thn (ho.run pins s1 σ H1 _ I1 q1) fun u s2 ⟨x, H2, I2, r2, a, C, ex, T, hno, ea, q⟩ => ?_) hs
  subst ex
  obtain rfl : u = Value.ref a := r2
  exact exo_set G T I2 ea hno r1 fun dx s' n ne J => ⟨σ, _, J, q dx n ne⟩
end
end L2
set_option maxHeartbeats 4000000
namespace L2
open PySem PySem.Spec PyProof.Rows
theorem NS_make {k : Nat} {A : Around} {C : Addr} {us : List Value} (h : NS.RoomG (k + 1) A) : NS.RoomG k (A.under (.builtin "type.__call__" ⟨.ref C :: us, []⟩)) := ⟨h.r.make C us [], h.g⟩
section
variable {X : Cx} {e : Expr} {es : List Expr} {ta : TA} {p pos : Pos} {B newId initId : String} {tl : List Value} {CX : CXT} {x : Str} {C fI : Addr} {k : Nat} {fd : FuncData} {ps : List Str} {sp : Sp}
theorem ex_make (G : XBse B newId initId tl) (T : OexG X.K C newId tl) (iC : PySem.W.findIn X.K (.ref C) "__init__" = some (some (.ref fI))) (tI : PySem.W.typeIn X.K (.ref fI) = some (.type "function"))
    (F1 : NS.FnOkG X.prog X.w X.K X.mg X.base CX k fI fd ps sp) (hr : NS.RoomG (k + 1) X.A) (hb : Binds X.K fd ps []) (hx : Passes CX X (fun _ _ _ => False)) {pins : List (Addr × Obj)} {σ : St} {H1 : Hp} {s1 : Shared} {vs : List V} {us : List Value} {R : Value → Shared → Prop}
    (I1 : Inv X pins σ H1 s1) (r1 : Vals vs us) (hz : vs.length ≤ 1000)
    (q1 : sp (.ref (s1.heap.objs.size + 1) :: vs) (upd H1 (s1.heap.objs.size + 1) (exo (s1.heap.objs.size + 1) C none)) (fun v H2 => v = .non ∧ ∀ h2 g2 d2 t2 os2, os2 = s1.os → AllBare g2 → HOk X.prog X.w H2 h2 →
      Un (frs X.stack) [] (upd H1 (s1.heap.objs.size + 1) (exo (s1.heap.objs.size + 1) C none)) H2 ((s1.heap.push (PySem.W.kdv_tup us)).push (PySem.HandSPX.excO C s1.heap.objs.size)) h2 → R (.ref (s1.heap.objs.size + 1)) ⟨h2, g2, d2, t2, os2⟩) (fun _ _ _ => False)) :
    wpAny (model X.prog X.w) X.A (call (.ref C) us) R X.xe s1 := by
  obtain ⟨nm, q, N, bs, bm, sn, sub, ab, col, dd, k0, k1, k2, k3, k5, hC, hbm⟩ := T.cls
  obtain ⟨hp, g, dr, tk, os⟩ := s1
  have hsz : hp.objs.size ≤ hp.objs.size + 1 := Nat.le_succ _
  have hn : H1 (hp.objs.size + 1) = none := I1.hok.fresh hsz
  have kk : ∀ b o, hp.get? b = some o → ((hp.push (PySem.W.kdv_tup us)).push (PySem.HandSPX.excO C hp.objs.size)).get? b = some o := fun b o e => Heap.get?_push_of_some _ (Heap.get?_push_of_some _ e)
  have hget : ((hp.push (PySem.W.kdv_tup us)).push (PySem.HandSPX.excO C hp.objs.size)).get? (hp.objs.size + 1) = some (PySem.HandSPX.excO C hp.objs.size) := by heap_get
  have I2 : Inv X pins σ (upd H1 (hp.objs.size + 1) (exo (hp.objs.size + 1) C none)) ⟨(hp.push (PySem.W.kdv_tup us)).push (PySem.HandSPX.excO C hp.objs.size), g, dr, tk, os⟩ :=
    I1.laid (t' := tk) (a := hp.objs.size + 1) (o := exo (hp.objs.size + 1) C none) (h' := (hp.push (PySem.W.kdv_tup us)).push (PySem.HandSPX.excO C hp.objs.size)) kk hsz (exo_ok hget)
  have r2 : Vals (V.ref (hp.objs.size + 1) :: vs) (Value.ref (hp.objs.size + 1) :: us) := .cons rfl r1
  have hl : (Value.ref (hp.objs.size + 1) :: us).length = ps.length := by
    have e := r2.length
    rw [F1.len _ _ _ _ q1] at e
    exact e.symm
  have hus : us.length ≤ sizeLine := by
    rw [← Paired.length r1, sizeLine_eq]
    omega
  have hbb := hb _ (Value.ref (hp.objs.size + 1) :: us) I2.kIn (by rw [List.append_nil]; exact hl)
  rw [List.append_nil] at hbb
  refine wpAny_call (PySem.HandSPX.call_own G.F (fun Y => refsT_contains G Y bm hbm) (I1.kIn _ _ hC) (PySem.W.looks_findIn I1.kIn iC) (fun self => PySem.W.bind_fn I1.kIn self tI) hus
    (codeAny_mono (F1.run _ X.stack _ _ ⟨Value.ref (hp.objs.size + 1) :: us, []⟩ (Value.ref (hp.objs.size + 1) :: us) _ _ (fun _ _ _ => False) (NS_make hr) (I2.env0.make C us []) hbb r2 q1) fun r s' hq' => ?_))
  cases r with
  | error er => exact hx pins σ _ _ er s' I2 hq'
  | ok fl =>
    cases fl with
    | ret u =>
      obtain ⟨v, H2, os2, bare2, un2, hok2, rv, ev, q2⟩ := hq'
      subst ev
      obtain ⟨h2, g2, d2, t2, os'⟩ := s'
      exact ⟨rv, q2 h2 g2 d2 t2 os' os2 bare2 hok2 un2⟩
    | next => exact False.elim hq'
    | brk => exact False.elim hq'
    | cont => exact False.elim hq'
theorem pmk_exG (G : XBse B newId initId tl) (T : OexG X.K C newId tl) (iC : PySem.W.findIn X.K (.ref C) "__init__" = some (some (.ref fI))) (tI : PySem.W.typeIn X.K (.ref fI) = some (.type "function"))
    (F1 : NS.FnOkG X.prog X.w X.K X.mg X.base CX k fI fd ps sp) (hr : NS.RoomG (k + 1) X.A) (hb : Binds X.K fd ps []) (hx : Passes CX X (fun _ _ _ => False)) (hg : Gl X x) (hm : X.mg x = some (.ref C)) (ha : PA X (e :: es) ta)
    (hsp : ∀ vs H Q Q' E, (∀ v H', Q v H' → Q' v H') → sp vs H Q E → sp vs H Q' E)
    (hdb : (x == ("__debug__" : Str)) = false := by decide) (he : starEach (e :: es) X.env = (false, eval e X.env) :: starEach es X.env := by rfl) (hpl : (backTo pos (starEach es X.env)).any (·.1) = false := by rfl) :
    PMk X (.Call (.Name x p) (e :: es) [] pos) (tMkO C sp [] ta) := by
  intro pins s σ H Q I h
  refine wpAny_Call_Name_kw (ld_glob I hg hm ?_ hdb)
  refine PySem.W.callWith_K (h₀ := X.base) I.ok.mod.kin T.kC (thn (ha.run pos pins s σ H _ I h) fun us s1 ⟨vs, H1, I1, r1, hz, q1⟩ => ⟨I1.kIn, ?_⟩) he hpl
  have hn : H1 (s1.heap.objs.size + 1) = none := I1.hok.fresh (Nat.le_succ _)
  have hq := q1 (s1.heap.objs.size + 1) hn
  rw [List.append_nil] at hq
  obtain ⟨hp, g, dr, tk, os⟩ := s1
  refine ex_make G T iC tI F1 hr hb hx I1 r1 hz (hsp _ _ _ _ _ (fun v H2 ⟨ev, d, fs, ea, ed, hd1, q2⟩ => ⟨ev, fun h2 g2 d2 t2 os2 eo hbare hok un => ?_⟩) hq)
  exact mk_end (raises_own T.exC T.tyC) I1 (Nat.le_succ _) (fun b o e => Heap.get?_push_of_some _ (Heap.get?_push_of_some _ e)) un hok eo hbare ea ed hd1 q2
end
end L2
set_option maxHeartbeats 4000000
namespace L2
open PySem PySem.Spec PyProof.Rows
theorem loop_all {M : Model} {A : Around} {α : Type} {f : α → PUnit → Sem (ForInStep PUnit)} {s : Shared} : ∀ (l : List α) (E : Value → Shared → Prop) (Q : PUnit → Shared → Prop), (∀ a ∈ l, ∀ Q' : ForInStep PUnit → Shared → Prop, Q' (.yield ⟨⟩) s → wpAny M A (f a ⟨⟩) Q' E s) → Q ⟨⟩ s → wpAny M A (forIn l PUnit.unit f) Q E s
  | [], E, Q, _, h => wpAny_pure h
  | a :: l, E, Q, hf, h => by
    rw [List.forIn_cons]
    exact wpAny_bind (hf a List.mem_cons_self _ (loop_all l E Q (fun b hb => hf b (List.mem_cons_of_mem _ hb)) h))
theorem loop_any {M : Model} {A : Around} {α β : Type} {f : α → β → Sem (ForInStep β)} {b0 bt : β} {v : α → Bool} {s : Shared} : ∀ (l : List α) (E : Value → Shared → Prop) (Q : β → Shared → Prop),
    (∀ a ∈ l, ∀ Q' : ForInStep β → Shared → Prop, Q' (if v a = true then .done bt else .yield b0) s → wpAny M A (f a b0) Q' E s) → Q (if l.any v = true then bt else b0) s → wpAny M A (forIn l b0 f) Q E s
  | [], E, Q, _, h => wpAny_pure h
  | a :: l, E, Q, hf, h => by
    rw [List.forIn_cons]
    refine wpAny_bind (hf a List.mem_cons_self _ ?_)
    cases e : v a with
    | true =>
      rw [List.any_cons, e, Bool.true_or, if_pos rfl] at h
      exact wpAny_pure h
    | false =>
      rw [List.any_cons, e, Bool.false_or] at h
      exact loop_any l E Q (fun b hb => hf b (List.mem_cons_of_mem _ hb)) h
theorem exm_list {K : PySem.W.Frag} {cls : Value} : ∀ (cs : List Value) (b : Bool), PySem.W.exmAny K cls cs = some b → ∃ v : Value → Bool, (∀ c ∈ cs, PySem.W.exmOne K cls c = some (v c)) ∧ b = cs.any v
  | [], b, h => ⟨fun _ => false, fun c hc => absurd hc (by simp), by cases h; rfl⟩
  | c :: cs, b, h => by
    obtain ⟨b1, d1, e1, e2, rfl⟩ := PySem.W.exmAny_cons h
    obtain ⟨v, hv, rfl⟩ := exm_list cs d1 e2
    refine ⟨fun x => (PySem.W.exmOne K cls x).getD false, fun x hx => ?_, ?_⟩
    · rcases List.mem_cons.mp hx with rfl | hx
      · show _ = some ((PySem.W.exmOne K cls x).getD false); rw [e1]; rfl
      · show _ = some ((PySem.W.exmOne K cls x).getD false); rw [hv x hx]; rfl
    · rw [List.any_cons, e1]
      congr 1
      have : ∀ l : List Value, (∀ x ∈ l, PySem.W.exmOne K cls x = some (v x)) → l.any v = l.any fun x => (PySem.W.exmOne K cls x).getD false := by
        intro l
        induction l with
        | nil => intro _; rfl
        | cons y l ih => intro hl; rw [List.any_cons, List.any_cons, ih fun x hx => hl x (List.mem_cons_of_mem _ hx), hl y List.mem_cons_self]; rfl
      exact this cs hv
open PySem.W in
theorem exm_tupN {M : Model} {K : Frag} {cs : List Value} {cls : Value} {tp e : Addr} {b : Bool} {h : Heap} (X : K.In h) (LT : Looks M h (typeOf (.ref e)) cls) (hp : h.get? tp = some { cls := .type "tuple", data := .seq cs.toArray }) (hx : exmAny K cls cs = some b) :
    Looks M h (excMatches (.ref e) (.ref tp)) b := by
  intro A Q E s k₀ q
  obtain ⟨hh, g, d, tk, os⟩ := s
  have k : ∀ b o, h.get? b = some o → hh.get? b = some o := k₀
  have LT0 : Looks M hh (isInstance (.ref tp) (.type "tuple")) true := (((Looks.ld hp).andThen .now).andThen (Looks.of_pure isSubtype_tuple_tuple)).keeps k
  have LT := LT.keeps k
  have hp' := k _ _ hp
  obtain ⟨v, hv, rfl⟩ := exm_list cs b hx
  unfold excMatches
  refine wpAny_bind (LT0.at ?_)
  dsimp only
  rw [if_pos rfl]
  first
    | refine wpAny_bind (wpAny_seqItems hp' rfl ?_)
    | refine wpAny_bind (wpAny_bind (wpAny_seqItems hp' rfl (wpAny_pure ?_)))
  dsimp only [Option.getD_some, Option.getD]
  refine wpAny_bind (wpAny_pure ?_)
  refine wpAny_bind (loop_all cs _ _ (fun c hc Q' q' => ?_) ?_)
  · obtain ⟨e1, _⟩ := exm_cls (M := M) X (hv c hc)
    refine wpAny_bind ((e1.keeps k).at ?_)
    simp only [Bool.not_true, Bool.false_eq_true, if_false]
    first
      | exact wpAny_pure q'
      | exact wpAny_bind (wpAny_pure (wpAny_pure q'))
  · refine wpAny_bind (LT.at ?_)
    refine wpAny_bind (loop_any (bt := (some true, PUnit.unit)) (v := v) cs _ _ (fun c hc Q' q' => ?_) ?_)
    · obtain ⟨_, S1⟩ := exm_cls (M := M) X (hv c hc)
      refine wpAny_bind ((S1.keeps k).at ?_)
      cases e : v c <;> rw [e] at q' <;> first
        | exact wpAny_pure q'
        | exact wpAny_bind (wpAny_pure (wpAny_pure q'))
    · cases e : cs.any v <;> rw [e] at q <;> exact wpAny_pure q

section
variable {X : Cx} {pins : List (Addr × Obj)} {σ : St} {H : Hp} {s : Shared}
theorem Inv.reg {a : Addr} {o : HO} {oe : Obj} {vs : Array Value} (I : Inv X pins σ H s) (h0 : X.s_0.heap.get? a = none) (ha : s.heap.get? a = some oe) (hd : oe.data = .fields vs) (na : H a = none) (nL : a ≠ X.env.locals)
    (np : ∀ p ∈ X.pn ++ pins, p.1 ≠ a) (new : ObjOk X.prog X.w (upd H a o) s.heap a o) : Inv X pins σ (upd H a o) s := by
  have ne0 : ∀ b u, X.s_0.heap.get? b = some u → b ≠ a := fun b u e z => by rw [z, h0] at e; cases e
  have neS : ∀ b u, H b = some u → b ≠ a := fun b u e z => by rw [z, na] at e; cases e
  have ncell : ∀ x c, X.env.cells.lookup x = some c → c ≠ a := fun x c e z => by
    obtain ⟨v, u, hu, hc⟩ := I.cell x c e
    rw [z, ha] at hu
    cases hu
    rw [hd] at hc
    cases hc
  refine ⟨I.ok, I.os, I.bare, ⟨I.base.keep, I.base.slot, fun b u e n hx => ?_, I.base.there, fun b xs e => ?_, fun b u xs e => ?_, fun b ps e => ?_⟩, I.loc, I.cell, ?_, fun x c e => ?_, fun p hp => ?_, fun b u e => ?_, I.len⟩
  · rw [upd_ne (ne0 b u e)]; exact I.base.free b u e n hx
  · have q := I.base.tups b xs e; rw [upd_ne (neS b _ q)]; exact q
  · have q := I.base.frzs b u xs e; rw [upd_ne (neS b _ q)]; exact q
  · obtain ⟨m, q⟩ := I.base.tbls b ps e; exact ⟨m, by rw [upd_ne (neS b _ q)]; exact q⟩
  · rw [upd_ne (Ne.symm nL)]; exact I.free
  · rw [upd_ne (ncell x c e)]; exact I.freeC x c e
  · obtain ⟨e, n, r⟩ := I.pin p hp
    exact ⟨e, by rw [upd_ne (np p hp)]; exact n, r⟩
  · by_cases hb : b = a
    · subst hb
      rw [upd_same] at e
      cases e
      exact new
    · rw [upd_ne hb] at e
      exact (I.hok b u e).stay (fun c v _ q => q) (fun c q => by rw [upd_ne (neS c _ q)]; exact q) fun c xs q => by rw [upd_ne (neS c _ q)]; exact q
theorem XE_new {a : Addr} {B : Heap} {sI : Shared} (I : Inv X pins σ H sI) (hx : X.ex = []) (nb : ∀ b o, sI.heap.get? b = some o → b ∉ frs X.stack → B.get? b = some o) (hB : B.get? a = none) (nf : a ∉ frs X.stack) : sI.heap.get? a = none ∧ X.s_0.heap.get? a = none := by
  have h1 : sI.heap.get? a = none := by
    cases e : sI.heap.get? a with
    | none => rfl
    | some u =>
      have := nb a u e nf
      rw [hB] at this; cases this
  refine ⟨h1, ?_⟩
  cases e : X.s_0.heap.get? a with
  | none => rfl
  | some u =>
    obtain ⟨u', e'⟩ := I.base.there a u e (by rw [hx]; exact fun z => nomatch z)
    rw [h1] at e'; cases e'
end
theorem Traced_kept {h h' base : Heap} {e : Addr} {Z : Obj → Prop} {fl : Value} (k : ∀ b o, h.get? b = some o → h'.get? b = some o) (t : HandSPX.TracedZ h base e Z fl) : HandSPX.TracedZ h' base e Z fl := by
  obtain ⟨oe, vs, T, oT, ts, e1, e2, e3, e4, e5, e6, e7, r⟩ := t
  exact ⟨oe, vs, T, oT, ts, k _ _ e1, e2, e3, e4, e5, e6, k _ _ e7, r⟩
theorem Flying_kept {h h' base : Heap} {l : List Env} {e : Addr} {Z : Obj → Prop} (k : ∀ b o, h.get? b = some o → h'.get? b = some o) (t : HandSPX.FlyingZ base l e Z h) : HandSPX.FlyingZ base l e Z h' := by
  obtain ⟨h1, h2, h3, h4⟩ := t
  exact ⟨fun b o e => k b o (h1 b o e), h2, Heap.FunFrames.of_keeps (fun b o e _ => ⟨o, k b o e, rfl⟩) h3, Traced_kept k h4⟩
inductive TestC (X : Cx) : Expr → List Value → Bool → Prop
  | one {x : Str} {C : Addr} {p : Pos} : Gl X x → X.mg x = some (.ref C) → (x == ("__debug__" : Str)) = false → TestC X (.Name x p) [.ref C] false
  | tup {es : List Expr} {cs : List Value} {k : Nat} {p : Pos} : (∀ (A : Around) (E : Value → Shared → Prop) (pos : Pos) (Y : Cx) (pins : List (Addr × Obj)) (σ : St) (H : Hp) (s : Shared) (Q : List Value → Shared → Prop), Y.prog = X.prog → Y.w = X.w → Y.env = X.env → Y.mg = X.mg → Y.A = A → Inv Y pins σ H s → Q cs s →
      wpAny (model X.prog X.w) A (spliced (backTo pos (starEach es X.env))) Q E s) → cs.length ≤ 1000 → TestC X (.Tuple es k p) cs true
def exmL (K : PySem.W.Frag) (cls : Value) (cs : List Value) : Bool → Option Bool
  | true => PySem.W.exmAny K cls cs
  | false => match cs with
    | [c] => PySem.W.exmOne K cls c
    | _ => none
def ExVO (cls : Value) (dd : Option Addr) (a : Addr) : HO := .ext fun h => ∃ (oe : Obj) (vs : Array Value), h.get? a = some oe ∧ Zc cls dd oe ∧ oe.data = .fields vs
theorem exVO_ok {P : Program} {w : World} {H : Hp} {h : Heap} {a : Addr} {cls : Value} {dd : Option Addr} {oe : Obj} {vs : Array Value} (e : h.get? a = some oe) (z : Zc cls dd oe) (d : oe.data = .fields vs) : ObjOk P w H h a (ExVO cls dd a) :=
  ⟨⟨oe, vs, e, z, d⟩, ⟨oe, e⟩, fun _ _ ⟨o, v, q, r⟩ k => ⟨o, v, k o q, r⟩⟩
def wV (K : PySem.W.Frag) (cs : List Value) (tp : Bool) (n i j : Nat) (Wout : WX) (nx : St → Hp → Prop) : WX := fun cls d σ H =>
  ∃ b, exmL K cls cs tp = some b ∧ (b = true → σ.length = n → ∀ a, H a = none → nx (((σ.set i (some (.ref a))).set j (some (.ref a))).set i none) (upd H a (ExVO cls d a))) ∧ (b = false → Wout cls d σ H)
section
variable {X : Cx} {te : Expr} {cs : List Value} {tp : Bool} {n y : Str} {i j : Nat} {body : List Stmt} {np yp pos pos' apos : Pos} {tb : WX → TS} {Wout : WX}
theorem ps_tryV (hs : X.stack = X.env :: X.outer) (hf : X.env.frame = some X.env.locals) (hex : X.ex = []) (hN : X.N.Nodup) (hi : X.N[i]? = some n) (hj : X.N[j]? = some y) (hln : X.env.kindOf n = some .local) (hly : X.env.scope.names.lookup y = some .local)
    (hc : TestC X te cs tp) (tk : Takes X Wout) (hnn : (n == ("__debug__" : Str)) = false) (hnc : (n == ("__classdict__" : Str)) = false)
    (hb : ∀ (W : WX) (pn : List (Addr × Obj)) (xe : Value → Shared → Prop), Takes (X.tr pn xe) W → PassesOwn (model X.prog X.w) X.A X.env xe → PSs (X.tr pn xe) body (tb W))
    (hsw : swapsWith (.Name n np) (some (.Name y yp)) apos.line X.env = pure false := by rfl) :
    PS X (.Try body [.ExceptHandler (some te) (some n) [.Assign [.Name y yp] (.Name n np) apos] pos'] [] [] pos) (fun D σ H => tb (wV X.K cs tp X.N.length i j Wout D.nx) D σ H) := by
  refine ⟨fun pins s σ H D I h => ?_⟩
  have ok := I.ok
  have hfr : X.A.frames = some (X.env :: X.outer) := by rw [ok.frames, hs]
  have hloc : Loc X.env.scope n := .inl hln
  refine wpAny_Try_except ?_
  refine wpAny_mono ((hb (wV X.K cs tp X.N.length i j Wout D.nx) (X.pn ++ pins) (fun e s₁ => wpAny (model X.prog X.w) X.A (noteFrame e X.env) (fun _ s₂ => wpAny (model X.prog X.w) X.A (setFlight e none) (fun _ s₃ =>
    wpAny (model X.prog X.w) X.A (handleBy e X.env [.ExceptHandler (some te) (some n) [.Assign [.Name y yp] (.Name n np) apos] pos']) (SP X pins D) X.xe s₃) X.xe s₂) X.xe s₁) (fun u s' xx => ?_) PassesOwn.looking).run [] s σ H D (I.toTry _) h) (fun f s1 hsp => ?_) (fun e s1 he => he)
  · obtain ⟨a, B, sI, pins', σ', H', cls, d, rfl, J', nb, up, sky, na, os, ag, b, hb1, hyes, hno⟩ := xx
    have J : Inv X pins σ' H' sI := J'.ofTry ok
    have sky' : Sky B (X.env :: X.outer) a (Zc cls d) X.env.locals s'.heap := by rw [← hs]; exact sky
    show wpAny (model X.prog X.w) X.A (noteFrame (.ref a) X.env) _ _ _
    refine Sky.land Zc.steady hfr hf sky' fun h3 fl3 up3 => ?_
    obtain ⟨oe3, vs3, he3, hz3, hd3⟩ := fl3.there
    have notFr : ∀ {h : Heap} {o : Obj} {vs : Array Value}, h.FunFrames B (X.env :: X.outer) → h.get? a = some o → o.data = .fields vs → a ∉ frs (X.env :: X.outer) := fun {h o vs} ff e dd hm => by
      obtain ⟨_, o', e', hnf⟩ := ff.mem hm
      rw [e] at e'; cases e'
      exact hnf _ dd
    have nfr := notFr fl3.2.2.1 he3 hd3
    have nL : a ≠ X.env.locals := fun z => nfr (List.mem_filterMap.mpr ⟨X.env, List.mem_cons_self, by rw [hf, z]⟩)
    have nF : a ∉ X.fs := fun hm => by
      obtain ⟨e, he, q⟩ := List.mem_filterMap.mp hm
      exact nfr (List.mem_filterMap.mpr ⟨e, List.mem_cons_of_mem _ he, q⟩)
    obtain ⟨hI, h0⟩ := XE_new J hex nb fl3.2.1 (by rw [hs]; exact nfr)
    have np0 : ∀ p ∈ X.pn ++ pins, p.1 ≠ a := fun p hp z => by
      have q := (J.pin p hp).1
      rw [z, hI] at q; cases q
    -- the state on the ground, at any heap over h3
    have land : ∀ h4 tk4, (∀ b o, h3.get? b = some o → h4.get? b = some o) → Inv X pins σ' H' { s' with heap := h4, toks := tk4 } := fun h4 tk4 k => by
      have J3 : Inv X pins σ' H' { s' with heap := h3 } := J.landed nb fl3.1 (up.trans up3) os ag
      exact J3.kept k
    have S3 : ∀ h4 tk4 (k : ∀ b o, h3.get? b = some o → h4.get? b = some o), Inv (X.suite a ((a, oe3) :: (X.pn ++ pins))) [] σ' H' { s' with heap := h4, toks := tk4 } := fun h4 tk4 k => (land h4 tk4 k).suite (k _ _ he3) hd3 na nL nF
    refine wpAny_handleBy_cons (codeAny_handlers_test ?_) (by intro q; cases q)
    have LT : PySem.W.Looks (model X.prog X.w) h3 (typeOf (.ref a)) cls := fun A Q E s k q => wpAny_typeOf_ref (k _ _ he3) (by rw [hz3.1]; exact q)
    -- the test: the classes, the answer
    have test : ∀ {Q : Value → Shared → Prop} {E : Value → Shared → Prop}, (∀ c h4 tk4, (∀ b o, h3.get? b = some o → h4.get? b = some o) → PySem.W.Looks (model X.prog X.w) h4 (excMatches (.ref a) c) b → Q c { s' with heap := h4, toks := tk4 }) →
        wpAny (model X.prog X.w) (X.A.mark (some (.ref a))) (eval te X.env) Q E { s' with heap := h3 } := fun {Q E} q => by
      have S := S3 h3 s'.toks fun _ _ z => z
      cases hc with
      | @one x C p hg hm hdbg =>
        exact ld_glob (X := X.suite a ((a, oe3) :: (X.pn ++ pins))) S hg hm (q _ h3 s'.toks (fun _ _ z => z) (PySem.W.exm_one S.kIn LT hb1)) hdbg
      | @tup es cs k p hes hcl =>
        refine wpAny_Tuple_spliced (hes _ _ p (X.suite a ((a, oe3) :: (X.pn ++ pins))) [] σ' H' _ _ rfl rfl rfl rfl rfl S ⟨?_, ?_⟩)
        · have := sizeLine_eq; omega
        · have kp : ∀ b o, h3.get? b = some o → (h3.push { cls := .type "tuple", data := .seq cs.toArray }).get? b = some o := fun b o e => Heap.get?_push_of_some _ e
          exact q _ _ s'.toks kp (exm_tupN (S.kIn.keeps kp) (LT.keeps kp) (Heap.get?_push_size h3 rfl) hb1)
    refine test fun c h4 tk4 k4 LM => LM.here ?_
    have fl4 := Flying_kept k4 fl3
    have up4 := (up.trans up3).trans (Heap.UpToSlots.of_keeps k4)
    cases b with
    | true =>
      refine codeAny_handlers_suite_as ?_
      refine HandSPX.lands_againZ fl4 fun h5 fl5 up5 => ?_
      have J5 : Inv X pins σ' H' { s' with heap := h5, toks := tk4 } := J.landed nb fl5.1 (up4.trans up5) os ag
      obtain ⟨oe5, vs5, he5, hz5, hd5⟩ := fl5.there
      have S5 := J5.suite he5 hd5 na nL nF
      refine store_ok (X := X.suite a ((a, oe5) :: (X.pn ++ pins))) (v := .ref a) S5 hN hi hloc rfl (fun s6 S6 => ?_) (.inr hln)
      refine wpAny_mono ((pss_one (ps_set (X := X.suite a ((a, oe5) :: (X.pn ++ pins))) hN hj (.inl hly) (pe_var (pos := np) hi (.inl hln) hnn hnc) hsw (.inr hly))).run [] s6 _ H' { nx := fun σ6 H6 => σ6 = (σ'.set i (some (.ref a))).set j (some (.ref a)) ∧ H6 = H', rt := fun _ _ => False } S6 ?_) (fun f s7 hsp => ?_) (fun _ _ z => False.elim z)
      · exact ⟨.ref a, List.getElem?_set_self (by rw [J.len]; exact (List.getElem?_eq_some_iff.mp hi).1), rfl, rfl⟩
      · cases f with
        | next =>
          obtain ⟨σ6, H6, S7, rfl, rfl⟩ := hsp
          have hp7 := (S7.pin (a, oe5) (List.mem_append_left _ List.mem_cons_self)).1
          have J7 : Inv X pins _ (upd H6 a (ExVO cls d a)) s7 := (S7.unsuite ok).reg h0 hp7 hd5 na nL np0 (exVO_ok hp7 hz5 hd5)
          exact gone_ok J7 hN hi hln fun s8 J8 => ⟨_, _, J8, hyes rfl J.len a na⟩
        | brk => obtain ⟨_, _, _, q⟩ := hsp; exact q.elim
        | cont => obtain ⟨_, _, _, q⟩ := hsp; exact q.elim
        | ret u => obtain ⟨_, _, _, _, _, q⟩ := hsp; exact q.elim
    | false =>
      show wpAny _ X.A (handleBy (.ref a) X.env []) _ _ _
      refine wpAny_handleBy_nil ?_
      obtain ⟨k1, k2, k3, oe, vs, T, oT, ts', he, hz, hd, h1, hr⟩ := id fl4
      unfold PySem.passOn
      refine wpAny_bind (wpAny_field he hd h1 ?_)
      rw [if_neg (show ¬ ((Value.ref T == Value.none) = true) from by simp)]
      have fin : wpAny (model X.prog X.w) X.A (setFlight (.ref a) X.env.frame) (fun _ s4 => wpAny (model X.prog X.w) X.A (throw (.ref a) : Sem Flow) (SP X pins D) X.xe s4) X.xe { s' with heap := h4, toks := tk4 } := by
        rw [hf]
        refine HandSPX.setFlight_upZ fl4 fun h5 hh5 up5 => wpAny_throw (tk _ _ ?_)
        exact ⟨a, B, sI, pins, σ', H', cls, d, rfl, J, nb, up4.trans up5, .inr (.inr (by rw [hs]; exact hh5)), na, os, ag, hno rfl⟩
      first
        | exact wpAny_bind (wpAny_pure (wpAny_bind fin))
        | exact wpAny_bind fin
  · cases f with
    | next =>
      obtain ⟨σ', H', J', q⟩ := hsp
      exact wpAny_execs_nil ⟨σ', H', J'.ofTry ok, q⟩
    | brk =>
      obtain ⟨σ', H', J', q⟩ := hsp
      exact ⟨σ', H', J'.ofTry ok, q⟩
    | cont =>
      obtain ⟨σ', H', J', q⟩ := hsp
      exact ⟨σ', H', J'.ofTry ok, q⟩
    | ret u =>
      obtain ⟨v, σ', H', J', r, q⟩ := hsp
      exact ⟨v, σ', H', J'.ofTry ok, r, q⟩
end
end L2
set_option maxHeartbeats 4000000
namespace L2
open PySem PySem.Spec PyProof.Rows
section
variable {X : Cx} {pins : List (Addr × Obj)} {σ : St} {H1 H2 : Hp}
variable {B newId initId : String} {tl : List Value} {CX : CXT} {x : Str} {C fI : Addr} {k : Nat} {fd : FuncData} {ps : List Str} {sp : Sp} {p pos : Pos}
end
end L2
namespace NS
open PySem PySem.Spec PyProof.Rows L2
def sp1 (C : Addr) (f : Str) : Sp := fun vs H Q E => vs.length = 2 ∧ ∃ a y, vs = [.ref a, y] ∧ H a = some (exo a C none) ∧ ∀ dx, H dx = none → dx ≠ a → Q .non (upd (upd H dx (exd dx [(f, y)])) a (exo a C (some dx)))
def sp0 (C : Addr) : Sp := fun vs H Q E => vs.length = 1 ∧ ∃ a, vs = [.ref a] ∧ H a = some (exo a C none) ∧ Q .non H
structure Ex1 (P : Program) (w : World) (K : PySem.W.Frag) (mg : Str → Option Value) (base : Heap) (cls f : Str) : Prop where
  ex : ∃ (B newId initId : String) (tl : List Value) (C fI : Addr) (fd : FuncData), XBse B newId initId tl ∧ OexG K C newId tl ∧ mg cls = some (.ref C) ∧ PySem.W.findIn K (.ref C) "__init__" = some (some (.ref fI)) ∧
    PySem.W.typeIn K (.ref fI) = some (.type "function") ∧ Binds K fd ["self", f] [] ∧ FnOkG P w K mg base (XC P w) 1 fI fd ["self", f] (sp1 C f)
structure Ex0 (P : Program) (w : World) (K : PySem.W.Frag) (mg : Str → Option Value) (base : Heap) (cls : Str) : Prop where
  ex : ∃ (B newId initId : String) (tl : List Value) (C fI : Addr) (fd : FuncData), XBse B newId initId tl ∧ OexG K C newId tl ∧ mg cls = some (.ref C) ∧ PySem.W.findIn K (.ref C) "__init__" = some (some (.ref fI)) ∧
    PySem.W.typeIn K (.ref fI) = some (.type "function") ∧ Binds K fd ["self"] [] ∧ FnOkG P w K mg base (XC P w) 1 fI fd ["self"] (sp0 C)
section
variable {P : Program} {w : World} {K : PySem.W.Frag} {mg : Str → Option Value} {base : Heap}
theorem Ex1.mk' {B newId initId : String} {tl : List Value} {C fI : Addr} {cls f : Str} {st : Stmt} {fd : FuncData} (G : XBse B newId initId tl) (T : OexG K C newId tl) (hm : mg cls = some (.ref C)) (hi : PySem.W.findIn K (.ref C) "__init__" = some (some (.ref fI)))
    (ht : PySem.W.typeIn K (.ref fI) = some (.type "function")) (hno : PySem.W.findIn K (.ref C) f = some none) {qual : Str} (F : L2.Fun K "__init__" qual st fI fd) (Sc : FnScope ["self", f] ["self", f] (defScope st))
    (hb : ∀ (kV doc pm : Value) (an : Option Addr) (cdv ct : Value) (us : List Value), us.length = 2 → bindArgs (PySem.W.fnOf "__init__" qual (defArgs st) (defBody st) (defScope st) .none kV doc pm an cdv ct) ⟨us, []⟩ = pure ((["self", f] : List Str).zip us))
    (hbody : ∀ (cdv : Value) (A : Around) (outer : List Env) (s : Shared) (H : Hp) (E : XK), ∃ m : Str, PSs (cxOf (XC P w) P w K mg base ["self", f] qual (defScope st) fI cdv A outer s H E) (defBody st)
      (tSeq (tDrop (tExI K newId tl (tCons (tVar 0) (tCons (tC (.str m)) tNil)))) (tExS K newId tl f (tVar 0) (tVar 1)))) : Ex1 P w K mg base cls f := by
  refine ⟨B, newId, initId, tl, C, fI, fd, G, T, hm, hi, ht, F.binds hb, fnG F Sc (fun vs H Q E h => h.1) fun cdv A outer s H vs Q E hr h => ?_⟩
  obtain ⟨m, h1⟩ := hbody cdv A outer s H E
  refine ⟨_, h1, ?_⟩
  obtain ⟨hl, a, y, rfl, ea, q⟩ := h
  exact ⟨.ref a, rfl, a, C, [.str m], rfl, by simp, T, ea, y, rfl, .ref a, rfl, a, C, rfl, T, hno, ea, fun dx h1 h2 => q dx h1 h2⟩
theorem Ex0.mk' {B newId initId : String} {tl : List Value} {C fI : Addr} {cls : Str} {st : Stmt} {fd : FuncData} (G : XBse B newId initId tl) (T : OexG K C newId tl) (hm : mg cls = some (.ref C)) (hi : PySem.W.findIn K (.ref C) "__init__" = some (some (.ref fI)))
    (ht : PySem.W.typeIn K (.ref fI) = some (.type "function")) {qual : Str} (F : L2.Fun K "__init__" qual st fI fd) (Sc : FnScope ["self"] ["self"] (defScope st))
    (hb : ∀ (kV doc pm : Value) (an : Option Addr) (cdv ct : Value) (us : List Value), us.length = 1 → bindArgs (PySem.W.fnOf "__init__" qual (defArgs st) (defBody st) (defScope st) .none kV doc pm an cdv ct) ⟨us, []⟩ = pure ((["self"] : List Str).zip us))
    (hbody : ∀ (cdv : Value) (A : Around) (outer : List Env) (s : Shared) (H : Hp) (E : XK), ∃ m : Str, PSs (cxOf (XC P w) P w K mg base ["self"] qual (defScope st) fI cdv A outer s H E) (defBody st)
      (tDrop (tExI K newId tl (tCons (tVar 0) (tCons (tC (.str m)) tNil))))) : Ex0 P w K mg base cls := by
  refine ⟨B, newId, initId, tl, C, fI, fd, G, T, hm, hi, ht, F.binds hb, fnG F Sc (fun vs H Q E h => h.1) fun cdv A outer s H vs Q E hr h => ?_⟩
  obtain ⟨m, h1⟩ := hbody cdv A outer s H E
  refine ⟨_, h1, ?_⟩
  obtain ⟨hl, a, rfl, ea, q⟩ := h
  exact ⟨.ref a, rfl, a, C, [.str m], rfl, by simp, T, ea, q⟩
end
def sRaise1 (cls f : Str) (fe : DS → M D) : DS → M Fl := fun σ => M.bind (fe σ) fun d => fun g => .err ⟨cls, some (f, d)⟩ g
def sRaise0 (cls : Str) : DS → M Fl := fun _ g => .err ⟨cls, none⟩ g
section
variable {X : Cx} {E : XK} {m : Bool} {e0 : En} {cls f : Str} {e : Expr} {fe : DS → M D} {p pos pos' : Pos}
theorem upd_init {H1 : Hp} {a dx C : Addr} {f : Str} {y : V} (ha : H1 a = none) (hd : dx ≠ a) : upd (del (upd (upd (upd H1 a (exo a C none)) dx (exd dx [(f, y)])) a (exo a C (some dx))) a) dx (.xd [(f, y)]) = upd H1 dx (.xd [(f, y)]) := by
  funext b
  by_cases h1 : b = dx
  · subst h1; rw [upd_same, upd_same]
  · rw [upd_ne h1, upd_ne h1]
    by_cases h2 : b = a
    · subst h2; rw [del_same, ha]
    · rw [del_ne h2, upd_ne h2, upd_ne h1, upd_ne h2]
theorem passF {X : Cx} : Passes (XC X.prog X.w) X (fun _ _ _ => False) := fun _ _ _ _ _ _ _ ⟨_, _, _, _, _, _, _, _, _, _, _, _, z⟩ => z.elim
theorem sp1_mono {C : Addr} {f : Str} : ∀ vs H Q Q' E, (∀ v H', Q v H' → Q' v H') → sp1 C f vs H Q E → sp1 C f vs H Q' E := fun vs H Q Q' E i ⟨hl, a, y, e, ea, q⟩ => ⟨hl, a, y, e, ea, fun dx h1 h2 => i _ _ (q dx h1 h2)⟩
theorem ds_raise1 (h : Ex1 X.prog X.w X.K X.mg X.base cls f) (hr : RoomG 2 X.A) (tk : Takes X (fun c d _ H => E c d H)) (he : DE X E false e fe) (hc : X.calm = true := by rfl) (hg : Gl X cls := by rfl)
    (hdb : (cls == ("__debug__" : Str)) = false := by decide) (hs : starEach [e] X.env = (false, eval e X.env) :: starEach [] X.env := by rfl) (hpl : (backTo pos (starEach [] X.env)).any (·.1) = false := by rfl) :
    DS1 X E m e0 (.Raise (some (.Call (.Name cls p) [e] [] pos)) none pos') (sRaise1 cls f fe) := by
  obtain ⟨B, newId, initId, tl, C, fI, fd, G, T, hm, hi, ht, hb, F⟩ := h.ex
  refine PS.impD (ps_raise hc tk (pmk_exG G T hi ht F hr hb passF hg hm (dl_cons he dl_nil hs) sp1_mono hdb hs hpl)) fun Z σ H ⟨A, S, g, σd, s, q⟩ => ?_
  have q : KS (Cx.sur X E) m e0 A S (M.bind (fe σd) (fun d => fun g => .err ⟨cls, some (f, d)⟩ g) g) Z := q
  refine ⟨A, S, g, σd, s.ok, s.rep, ?_⟩
  show KL (Cx.sur X E) A S H (M.bind (fe σd) (fun x => M.bind (lNil σd) fun xs => M.pure (x :: xs)) g) _
  cases e1 : fe σd g with
  | err z g' => rw [bind_err e1] at q ⊢; exact fun A' S' H' c dd p' o r => q A' S' H' c dd (s.post.trans p') o r
  | bad => rw [bind_bad e1] at q; exact q.elim
  | ok d g1 =>
    rw [bind_ok e1] at q ⊢
    intro A1 S1 H1 vs p1 o1 r1
    cases r1 with
    | @cons v _ vs' _ rv rr =>
      cases rr
      refine ⟨by simp, fun a ha => ⟨rfl, a, v, rfl, upd_same, fun dx hdx hda => ⟨rfl, dx, [(f, v)], upd_same, ?_, ?_, ?_⟩⟩⟩
      · rw [upd_ne hda, upd_same]
      · rw [upd_ne hda] at hdx; exact hdx
      · have hdx' : H1 dx = none := by rw [upd_ne hda] at hdx; exact hdx
        rw [upd_init ha hda]
        have PL := Post.lay (A := A1) (o := .xd [(f, v)]) hdx' o1.ext
        exact q A1 (upd S1 dx (.xd [(f, v)])) _ (.ref C) (some dx) ((s.post.trans p1).trans PL) (o1.lay hdx') ⟨hm, (fun z => nomatch z), fun f' d' z => (by cases z; exact ⟨dx, v, rfl, upd_same, rv.mono PL.a PL.s⟩)⟩
end
end NS
set_option maxHeartbeats 4000000
namespace PySem.W
open PySem PySem.Spec PySem.Calls PyProof.Rows
section
variable {prog : Program} {w : World} {A : Around} {E : Value → Shared → Prop} {s : Shared} {K : Frag} {x D : Addr} {ox : Obj} {od : Option Obj}
theorem findObj_dataO {C : Addr} {name : Str} {a g : Value} (hc : (clsIn K C).isSome = true) (ha : findIn K (.ref C) name = some (some a)) (hg : specialIn K a "__get__" = some (some g)) (ht : takesIn K a = some true) : findObj K C od name = some (.bind g a) := by
  obtain ⟨cd, hc⟩ := Option.isSome_iff_exists.mp hc
  unfold findObj
  rw [hc, Option.bind_some, ha, Option.bind_some]
  simp [hg, ht]
structure ExcW (K : Frag) (D : Addr) : Prop where
  hga : findIn K (.ref D) "__getattribute__" = some (some (.builtin "BaseException.__getattribute__"))
  hgt : findIn K (.ref D) "__getattr__" = some none
  hsub : subIn K (.ref D) (.type "BaseException") = some true
  hdct : hasDictIn K D = true
  ha : findIn K (.ref D) "__class__" = some (some (.builtin "object.__class__"))
  hn : specialIn K (.builtin "object.__class__") "__get__" = some (some (.builtin "getset_descriptor.__get__"))
  htk : takesIn K (.builtin "object.__class__") = some true
  hm : mroIn K D (.type "object") = some true
def excWB (K : Frag) (D : Addr) : Bool :=
  decide (findIn K (.ref D) "__getattribute__" = some (some (.builtin "BaseException.__getattribute__"))) && decide (findIn K (.ref D) "__getattr__" = some none) && decide (subIn K (.ref D) (.type "BaseException") = some true) && hasDictIn K D &&
  decide (findIn K (.ref D) "__class__" = some (some (.builtin "object.__class__"))) && decide (specialIn K (.builtin "object.__class__") "__get__" = some (some (.builtin "getset_descriptor.__get__"))) && decide (takesIn K (.builtin "object.__class__") = some true) &&
  decide (mroIn K D (.type "object") = some true)
theorem ExcW.of (h : excWB K D = true) : ExcW K D := by
  unfold excWB at h
  simp only [Bool.and_eq_true, decide_eq_true_eq] at h
  obtain ⟨⟨⟨⟨⟨⟨⟨h1, h2⟩, h3⟩, h4⟩, h5⟩, h6⟩, h7⟩, h8⟩ := h
  exact ⟨h1, h2, h3, h4, h5, h6, h7, h8⟩
theorem kin_classO {Q : Option Value → Shared → Prop} (W : ExcW K D) (X : K.In s.heap) (I : InstAt s.heap x ox D od) (h : Q (some (.ref D)) { s with toks := s.toks + 1 }) : wpAny (model prog w) A (getAttr? (.ref x) "__class__") Q E s := by
  obtain ⟨hga, hgt, hsub, hdct, ha, hn, htk, hm⟩ := W
  have hf : findObj K D od "__class__" = some (.bind (.builtin "getset_descriptor.__get__") (.builtin "object.__class__")) := findObj_dataO (by obtain ⟨cd, hc, _⟩ := any_some hdct; rw [hc]; rfl) ha hn htk
  obtain ⟨hp, g, d, t, os⟩ := s
  have L0 := I.type (M := model prog w)
  have L3 := looks_find (M := model prog w) X I hf
  have hx2 : (Value.builtin "BaseException.__getattribute__" == Value.builtin "object.__getattribute__") = false := by decide +kernel
  have hx1 : (onTheHeap (Value.ref D) && Value.builtin "BaseException.__getattribute__" == Value.builtin "object.__getattribute__") = false := by rw [hx2]; rfl
  unfold getAttr? getAttrBy? getAttrBy
  refine wpAny_bind (wpAny_mkText (wpAny_bind (wpAny_attempt (wpAny_holding (wpAny_bind (L0.at (wpAny_bind ((looks_findIn (M := model prog w) X hga).at ?_))))))))
  show wpAny _ _ (if (onTheHeap (Value.ref D) && Value.builtin "BaseException.__getattribute__" == Value.builtin "object.__getattribute__") = true then _ else _) _ _ _
  rw [hx1, if_neg Bool.false_ne_true]
  unfold getAttrByItsOwn hookBefore
  refine wpAny_bind ?_
  rw [if_pos (show onTheHeap (Value.ref D) = true from rfl)]
  refine (looks_findIn (M := model prog w) X hgt).at (wpAny_bind (wpAny_attempt (wpAny_holding ?_)))
  unfold callGetattribute
  rw [show (false && onTheHeap (Value.builtin "BaseException.__getattribute__")) = false from rfl, if_neg Bool.false_ne_true]
  unfold boundAndCalled
  rw [PySem.F.excAttr_ValueError.ga.bind (.ref x)]
  refine wpAny_bind (wpAny_pure ?_)
  show wpAny _ _ (call (.builtin "BaseException.__getattribute__") [.ref x, .str "__class__" t]) _ _ _
  refine wpAny_call (codeAny_call_builtin PySem.F.excAttr_ValueError.ga.plain PySem.F.entry_bexc_ga ?_)
  refine @check_slot (model prog w) _ _ ⟨hp, g, d, t + 1, os⟩ "BaseException.__getattribute__" "BaseException" "__getattribute__" (.ref x) [.str "__class__" t] [] _ (by decide +kernel) (by decide +kernel) (L0.andThen (looks_subIn X hsub)) (PySem.F.args_bexc_ga (.ref x) (.str "__class__" t)) ?_
  unfold Builtin.«object.__getattribute__»
  refine wpAny_bind (wpAny_of_eq (a := ((Value.ref x : Value), [Value.str "__class__" t])) (by first | rfl | (simp only [slotArgs]; rfl)) ?_)
  refine wpAny_bind (wpAny_pure (wpAny_bind (L0.at (wpAny_bind (L3.at ?_)))))
  show wpAny _ _ (holding [Value.builtin "object.__class__"] (call (.builtin "getset_descriptor.__get__") [.builtin "object.__class__", .ref x, .ref D]) >>= ret) _ _ _
  refine wpAny_bind (wpAny_holding (wpAny_call (class_get (s := ⟨hp, g, d, t + 1, os⟩) X I hm ?_)))
  refine wpAny_pure ?_
  show wpAny _ _ (handedOut (.ref D)) _ _ _
  rw [handedOut_of (v := .ref D) rfl]
  first
    | exact wpAny_pure (wpAny_pure h)
    | exact wpAny_pure h
    | exact wpAny_pure (wpAny_bind (wpAny_pure (wpAny_pure h)))
theorem kitx_excO (W : ExcW K D) : KitX K (.ref x) (.ref D) (fun h => ∃ ox od, InstAt h x ox D od) := by
  obtain ⟨cdD, hcD, _⟩ := any_some W.hdct
  refine ⟨fun _ _ _ ⟨_, _, I⟩ => I.type, fun _ _ X _ => ?_, fun h tp dd its n sl X htp => ?_, fun X ⟨_, _, I⟩ k => kin_classO W X I k⟩
  · unfold clsIn at hcD
    split at hcD
    · rename_i c' d' cd' sl' ho
      intro A' Q' E' s' k q
      unfold isType loadHead
      exact wpAny_bind (wpAny_loadPart (k _ _ (X _ _ ho)) (wpAny_pure q))
    · cases hcD
  · refine Bool.eq_false_iff.mpr fun q => ?_
    have e : D = tp := Value.ref.inj (beq_iff_eq.mp q)
    subst e
    unfold clsIn at hcD
    split at hcD
    · rename_i c' d' cd' sl' ho
      have z := (X _ _ ho).symm.trans htp
      cases z
    · cases hcD
end
end PySem.W
namespace NS
open PySem PySem.Spec PyProof.Rows L2
def exBase (c : Str) : Str :=
  if c == ("Misfit" : Str) || c == ("Impossible" : Str) || c == ("BadText" : Str) || c == ("BadLine" : Str) then "ValueError"
  else if c == ("NoObject" : Str) || c == ("NoOrder" : Str) || c == ("NoState" : Str) then "LookupError"
  else if c == ("NoWay" : Str) || c == ("Needed" : Str) then "RuntimeError" else "OverflowError"
def exIs (c d : Str) : Bool := c == d || exBase c == d
def clsV (K : PySem.W.Frag) (d : Str) : Option Value := match PySem.W.nsIn K mainGlobals d with
  | some (some v) => some v
  | some none => bootBuiltins d
  | none => none
def exAt (K : PySem.W.Frag) (c : Str) : Option Addr := match PySem.W.nsIn K mainGlobals c with
  | some (some (.ref C)) => some C
  | _ => none
def excChk (K : PySem.W.Frag) (cs ds fs : List Str) : Bool := (ds.all fun d => match clsV K d with
  | some (.ref _) => true
  | some (.type _) => true
  | _ => false) && cs.all fun c => match exAt K c with
  | some C => PySem.W.excWB K C && (fs.all fun f => decide (PySem.W.findIn K (.ref C) f = some none)) && (ds.all fun d => match clsV K d with
      | some dv => decide (PySem.W.kitOne K (.ref C) dv = some (exIs c d))
      | none => false)
  | none => false
theorem exAt_ns {K : PySem.W.Frag} {c : Str} {C : Addr} (h : exAt K c = some C) : PySem.W.nsIn K mainGlobals c = some (some (.ref C)) := by
  unfold exAt at h
  split at h
  · rename_i C' e; cases h; exact e
  · cases h
structure ExT (K : PySem.W.Frag) (mg : Str → Option Value) (cs ds fs : List Str) : Prop where
  own : ∀ c ∈ cs, ∃ C, PySem.W.nsIn K mainGlobals c = some (some (.ref C)) ∧ PySem.W.ExcW K C ∧ ∀ d ∈ ds, ∃ dv, clsV K d = some dv ∧ PySem.W.kitOne K (.ref C) dv = some (exIs c d)
  fld : ∀ c ∈ cs, ∀ C, PySem.W.nsIn K mainGlobals c = some (some (.ref C)) → ∀ f ∈ fs, PySem.W.findIn K (.ref C) f = some none
  nm : ∀ d ∈ ds, ∃ dv, clsV K d = some dv ∧ ((∃ C, dv = .ref C) ∨ ∃ n, dv = .type n) ∧ (mg d = some dv ∨ (mg d = none ∧ bootBuiltins d = some dv))
theorem ExT.of {K : PySem.W.Frag} {h : Heap} {mg : Str → Option Value} {cs ds fs : List Str} (X : K.In h) (G : h.Ns mainGlobals mg) (e : excChk K cs ds fs = true) : ExT K mg cs ds fs := by
  obtain ⟨e0, e⟩ := Bool.and_eq_true_iff.mp e
  refine ⟨fun c hc => ?_, fun c hc C hn f hf => ?_, fun d hd => ?_⟩
  · have e1 := List.all_eq_true.mp e c hc
    cases hC : exAt K c with
    | none => rw [hC] at e1; cases e1
    | some C =>
      rw [hC] at e1
      obtain ⟨h1, h2⟩ := Bool.and_eq_true_iff.mp e1
      obtain ⟨h1, _⟩ := Bool.and_eq_true_iff.mp h1
      refine ⟨C, exAt_ns hC, PySem.W.ExcW.of h1, fun d hd => ?_⟩
      have e2 := List.all_eq_true.mp h2 d hd
      cases hv : clsV K d with
      | none => rw [hv] at e2; cases e2
      | some dv => rw [hv] at e2; exact ⟨dv, rfl, of_decide_eq_true e2⟩
  · have e1 := List.all_eq_true.mp e c hc
    have hC : exAt K c = some C := by unfold exAt; rw [hn]
    rw [hC] at e1
    obtain ⟨h1, _⟩ := Bool.and_eq_true_iff.mp e1
    obtain ⟨_, h2⟩ := Bool.and_eq_true_iff.mp h1
    exact of_decide_eq_true (List.all_eq_true.mp h2 f hf)
  · have e1 := List.all_eq_true.mp e0 d hd
    have key : ∀ dv, clsV K d = some dv → mg d = some dv ∨ (mg d = none ∧ bootBuiltins d = some dv) := fun dv hv => by
      unfold clsV at hv
      split at hv
      · rename_i v e1; cases hv; exact .inl (PySem.W.mg_of X G e1)
      · rename_i e1; exact .inr ⟨PySem.W.mg_none_of X G e1, hv⟩
      · cases hv
    cases hv : clsV K d with
    | none => rw [hv] at e1; cases e1
    | some dv =>
      rw [hv] at e1
      refine ⟨dv, rfl, ?_, key dv hv⟩
      cases dv <;> first
        | exact .inl ⟨_, rfl⟩
        | exact .inr ⟨_, rfl⟩
        | cases e1
def kIsE (cs : List Str) (d : Str) : D → M D
  | .exc0 c => if cs.contains c = true then M.pure (.bl (exIs c d)) else M.bad
  | .exc1 c _ _ => if cs.contains c = true then M.pure (.bl (exIs c d)) else M.bad
  | _ => M.bad
def eIsE (cs : List Str) (d : Str) (fe : DS → M D) : DS → M D := fun σ => M.bind (fe σ) (kIsE cs d)
def kFld (cs : List Str) (f : Str) : D → M D
  | .exc1 c f' v => if (cs.contains c && f == f') = true then M.pure v else M.bad
  | _ => M.bad
def eFld (cs : List Str) (f : Str) (fe : DS → M D) : DS → M D := fun σ => M.bind (fe σ) (kFld cs f)
theorem exv_inst {X : Cx} {pins : List (Addr × Obj)} {σ : L2.St} {H : Hp} {s : Shared} {a C : Addr} {dd : Option Addr} (I : Inv X pins σ H s) (ha : H a = some (ExV C dd a)) (hd : ∀ dx, dd = some dx → ∃ fs, H dx = some (.xd fs)) :
    ∃ ox od, PySem.W.InstAt s.heap a ox C od ∧ ∀ dx fs, dd = some dx → H dx = some (.xd fs) → ∃ od', od = some od' ∧ ∀ n v, fs.lookup n = some v → ∃ u, RelV v u ∧ PySem.W.lookIn n od' = some (some u) := by
  have hok : ObjOk X.prog X.w H s.heap a (.ext fun h => ∃ (oe : Obj) (vs : Array Value), h.get? a = some oe ∧ Zc (.ref C) dd oe ∧ oe.data = .fields vs) := I.hok a _ ha
  obtain ⟨⟨oe, vs, e1, ⟨z1, z2⟩, e3⟩, _⟩ := hok
  cases dd with
  | none => exact ⟨oe, none, ⟨e1, z1, by unfold PySem.W.notCls; rw [e3], by rw [z2]; trivial⟩, fun dx fs z => nomatch z⟩
  | some dx =>
    obtain ⟨fs, hx⟩ := hd dx rfl
    have hx' : ObjOk X.prog X.w H s.heap dx (.xd fs) := I.hok dx _ hx
    obtain ⟨mA, hns, hr⟩ := hx'
    obtain ⟨od, ho, hl⟩ := lookIn_ns hns
    refine ⟨oe, some od, ⟨e1, z1, by unfold PySem.W.notCls; rw [e3], by rw [z2]; exact ho⟩, fun dx' fs' z h2 => ?_⟩
    cases z
    rw [hx] at h2; cases h2
    refine ⟨od, rfl, fun n v hv => ?_⟩
    obtain ⟨u, hu, ru⟩ := RelO.some_of (v := v) (o := mA n) (by rw [← hv]; exact hr n)
    exact ⟨u, ru, by rw [hl, hu]⟩
section
variable {X : Cx} {E : XK} {pos p p1 : Pos} {e : Expr} {fe : DS → M D} {cs ds fs : List Str}
theorem rep_exc {K : PySem.W.Frag} {A : List GAdr} {S H : Hp} {v : V} {c : Str} {d : D} (o : Same S H) (r : Rep K A S v d) (hd : d = .exc0 c ∨ ∃ f y, d = .exc1 c f y) :
    ∃ a C dd, v = .ref a ∧ PySem.W.nsIn K mainGlobals c = some (some (.ref C)) ∧ H a = some (ExV C dd a) ∧ ∀ dx, dd = some dx → ∃ fs, H dx = some (.xd fs) := by
  rcases hd with rfl | ⟨f, y, rfl⟩
  · cases r with | exc0 hc ha => exact ⟨_, _, none, rfl, hc, o _ _ ha, fun _ z => nomatch z⟩
  · cases r with | exc1 hc ha hx rv => exact ⟨_, _, some _, rfl, hc, o _ _ ha, fun dx z => by cases z; exact ⟨_, o _ _ hx⟩⟩
def rIsO (K : PySem.W.Frag) : List V → Hp → VK → Prop := fun xs H Q => ∃ (a C : Addr) (dd : Option Addr) (c : V) (cv : Value) (b : Bool), xs = [.ref a, c] ∧ (∀ u, RelV c u → u = cv) ∧ H a = some (ExV C dd a) ∧ (∀ dx, dd = some dx → ∃ fs, H dx = some (.xd fs)) ∧
  PySem.W.ExcW K C ∧ PySem.W.kitOne K (.ref C) cv = some b ∧ Q (.bl b) H
theorem call_isO : CallR X (.builtin "isinstance") (rIsO X.K) := by
  intro pins s σ H xs us Q I r h
  obtain ⟨a, C, dd, c, cv, b, rfl, hcv, ha, hd, W, e, q⟩ := h
  cases r with
  | cons rx rr =>
    cases rr with
    | cons rt rr =>
      cases rr
      cases rx
      have ec := hcv _ rt
      subst ec
      obtain ⟨ox, od, J, _⟩ := exv_inst I ha hd
      exact PySem.W.kia_one (PySem.W.kitx_excO W) I.kIn ⟨ox, od, J⟩ e (fun z => nomatch z) fun tk => ⟨.bl b, H, I.kept (t' := tk) fun _ _ z => z, rfl, q⟩
theorem de_isE {d : Str} (T : ExT X.K X.mg cs ds fs) (hm : X.mg "isinstance" = none) (he : DE X E false e fe) (hd : d ∈ ds := by decide) (hgT : Gl X d := by rfl) (hg : Gl X "isinstance" := by rfl)
    (n1 : d ≠ "__name__" := by decide) (n2 : (d == ("__debug__" : Str)) = false := by decide)
    (hs : starEach [e, .Name d p1] X.env = (false, eval e X.env) :: starEach [.Name d p1] X.env := by rfl) (hs2 : starEach [.Name d p1] X.env = (false, eval (.Name d p1) X.env) :: starEach [] X.env := by rfl)
    (hpl : (backTo pos (starEach [.Name d p1] X.env)).any (·.1) = false := by rfl) :
    DE X E false (.Call (.Name "isinstance" p) [e, .Name d p1] [] pos) (eIsE cs d fe) := by
  obtain ⟨dv, hv, hty, hn⟩ := T.nm d hd
  obtain ⟨cv, hpe, hrel⟩ : ∃ cv : V, PE X (.Name d p1) (tC cv) ∧ ∀ u, RelV cv u → u = dv := by
    rcases hty with ⟨C, rfl⟩ | ⟨n, rfl⟩
    · rcases hn with hn | ⟨hn, hb⟩
      · exact ⟨.ref C, pe_glob hgT hn rfl n2, fun u h => h⟩
      · exact ⟨.ref C, pe_bltn hgT hn hb rfl n1 n2, fun u h => h⟩
    · rcases hn with hn | ⟨hn, hb⟩
      · exact ⟨.ty n, pe_glob hgT hn rfl n2, fun u h => h⟩
      · exact ⟨.ty n, pe_bltn hgT hn hb rfl n1 n2, fun u h => h⟩
  refine PE.impD (pe_callB call_isO hg hm (by decide +kernel) (pa_cons he (pa_cons hpe pa_nil hs2) hs) (by decide) (by decide) hs hpl) fun σ H Q ⟨A, S, g, σd, o, r, q⟩ => ⟨A, S, g, σd, o, r, (KE.bindE q).imp fun v H1 ⟨A1, S1, g1, x, p1, o1, r1, q1⟩ => ?_⟩
  have go : ∀ c, (x = .exc0 c ∨ ∃ f y, x = .exc1 c f y) → KE (Cx.sur X E) false A1 S1 H1 ((if cs.contains c = true then M.pure (.bl (exIs c d)) else M.bad : M D) g1) Q → rIsO X.K [v, cv] H1 Q := fun c hx q2 => by
    by_cases hc : cs.contains c = true
    · rw [if_pos hc] at q2
      obtain ⟨a, C, dd, rfl, h1, h2, h3⟩ := rep_exc o1.ext r1 hx
      obtain ⟨C', h4, W, hds⟩ := T.own c (by simpa using hc)
      rw [h1] at h4
      cases h4
      obtain ⟨dv', e1, e2⟩ := hds d hd
      rw [hv] at e1; cases e1
      exact ⟨a, C, dd, cv, dv, _, rfl, hrel, h2, h3, W, e2, KE.val q2 o1 (.bl _)⟩
    · rw [if_neg hc] at q2; exact q2.elim
  cases x with
  | exc0 c => exact go c (.inl rfl) q1
  | exc1 c f y => exact go c (.inr ⟨f, y, rfl⟩) q1
  | _ => exact q1.elim
theorem de_fld {f : Str} (T : ExT X.K X.mg cs ds fs) (he : DE X E false e fe) (hf : f ∈ fs := by decide)
    (hb : attributeBase e f X.env (eval e X.env) = eval e X.env := by rfl) : DE X E false (.Attribute e f pos) (eFld cs f fe) := by
  refine ⟨fun pins s σ H Q I ⟨A, S, g, σd, o, r, q⟩ => ?_⟩
  refine attr_of hb (thn (he.run pins s σ H _ I ⟨A, S, g, σd, o, r, KE.bindE (m1 := false) q⟩) fun u s1 ⟨v, H1, I1, r1, A1, S1, g1, x, p1, o1, rx, q1⟩ => ?_)
  have rx : Rep X.K A1 S1 v x := rx
  cases x with
  | exc1 c f' y =>
    have q2 : KE (Cx.sur X E) false A1 S1 H1 ((if (cs.contains c && f == f') = true then M.pure y else M.bad : M D) g1) Q := q1
    by_cases hc : (cs.contains c && f == f') = true
    · rw [if_pos hc] at q2
      obtain ⟨hc1, hc2⟩ := Bool.and_eq_true_iff.mp hc
      have hf : f = f' := beq_iff_eq.mp hc2
      subst hf
      cases rx with
      | @exc1 a C dx _ _ vv _ hcl ha hx rv =>
        obtain rfl : u = Value.ref a := r1
        obtain ⟨C', h4, W, _⟩ := T.own c (by simpa using hc1)
        rw [hcl] at h4
        cases h4
        obtain ⟨ox, od, J, hod⟩ := exv_inst I1 (o1.ext _ _ ha) fun dx' z => by cases z; exact ⟨_, o1.ext _ _ hx⟩
        obtain ⟨od', rfl, hfs⟩ := hod dx _ rfl (o1.ext _ _ hx)
        obtain ⟨u', ru, hl⟩ := hfs f vv (by simp)
        exact HandSPX.exc_get I1.kIn J W.hga W.hgt W.hsub (PySem.W.findObj_own W.hdct (T.fld c (by simpa using hc1) C hcl f hf) rfl hl) (handed_of ru) ⟨vv, H1, I1.tok _, ru, KE.val q2 o1 rv⟩
    · rw [if_neg hc] at q2; exact q2.elim
  | _ => exact q1.elim
end
end NS
set_option maxHeartbeats 4000000
namespace NS
open PySem PySem.Spec PyProof.Rows L2 LamX
section
variable {K : PySem.W.Frag} {A : List GAdr} {S H : Hp} {g : G} {k : Nat} {P c' : Addr} {x : Str} {ps : Array Value} {pos : Pos}
end
section
variable {X : Cx} {pins : List (Addr × Obj)} {σ : L2.St} {A : List GAdr} {S H : Hp} {g : G} {s : Shared} {k : Nat} {x : Str}
end
section
variable {X : Cx} {pins : List (Addr × Obj)} {σ : L2.St} {H : Hp} {s : Shared}
end
def excD (x : Exn) : D := match x.fld with
  | none => .exc0 x.cls
  | some (f, d) => .exc1 x.cls f d
def b3 (raised : List D → M D) : DS → M Fl := sRet (eIf (eTst (eBin kIs (eVar 2) (eC .non))) (eVar 1) (eArgs (callN 1 raised) (lCons (eVar 2) lNil)))
section
variable {X : Cx} {E : XK} {x xo wn : Str} {k kk : Nat} {sto : Stmt} {Ng : List Str} {raised : List D → M D} {cs : List Str} {params : Arguments} {body : Expr} {scope : Scope} {fb : DS → M D} {p lpos pos : Pos}
end
section
variable {P : Program} {w : World} {K : PySem.W.Frag} {mg : Str → Option Value} {base : Heap}
end
end NS
set_option maxHeartbeats 4000000
namespace NS
open PySem PySem.Spec PyProof.Rows L2
section
variable {P : Program} {w : World} {K : PySem.W.Frag} {mg : Str → Option Value} {base : Heap}
theorem fnG' {CX : CXT} {x qual : Str} {st : Stmt} {f : Addr} {fd : FuncData} {N ps : List Str} {k : Nat} {sp : Sp} (F : Fun K x qual st f fd) (S : FnScope N ps (defScope st)) (len : ∀ vs H Q E, sp vs H Q E → vs.length = ps.length)
    (hb : ∀ (cdv : Value) (A : Around) (outer : List Env) (s : Shared) (H : Hp) (vs : List V) (Q : VK) (E : XK), fd.code = cdv → RoomG k (A.deeper (envOfC qual (defScope st) s.heap.objs.size f cdv)) → sp vs H Q E →
      ∃ t, PSs (cxOf CX P w K mg base N qual (defScope st) f cdv A outer s H E) (defBody st) t ∧ t { nx := fun _ H' => Q .non H', rt := Q } (start N vs) H) : FnOkG P w K mg base CX (k + 1) f fd ps sp := by
  obtain ⟨oc, od, kV, doc, pm, an, cdv, ct, osl, rfl, lk, hcd⟩ := F.ex
  refine ⟨len, fun A outer s H args us vs Q E hr e0 hB r hs => ?_⟩
  have hl := len _ _ _ _ hs
  obtain ⟨t, ht, hq⟩ := hb cdv A outer s H vs Q E rfl (hr.deeper _) hs
  have up := fun b o e => (e0.bs b o e).1
  have KX : K.In s.heap := e0.mod.kin.keeps up
  have kinds : ∀ y ∈ ps.zip us, (defScope st).names.lookup y.1 = some .local ∨ ((defScope st).names.lookup y.1 = some .cell ∧ ((cellsFrom (s.heap.objs.size + 1) (defScope st).names []).lookup y.1).isSome = true) := by
    intro y hy
    cases S.par y.1 (List.of_mem_zip hy).1 with
    | inl q => exact .inl q
    | inr q => exact .inr ⟨q, PySem.W.cellsFrom_some _ _ _ (.inl q)⟩
  refine codeAny_call_function hr.r.depth (KX _ _ lk) rfl S.co S.gen rfl (PySem.W.codeRec_of KX hcd) (hB _ _ _ _ (wpAny_newFunctionEnv_cells S.kind kinds fun env he s1 x => ?_))
  subst he
  refine ⟨e0.mod.nolimit.keeps fun b o e => x.toInCall.keep b o (up b o e), codeAny_func (wpAny_mono (ht.run [] s1 (start N vs) H _ (inv_start S hr.r.hd e0 hl r x) hq) (fun fl s' hs => ?_) fun e s' hs => hs)⟩
  cases fl with
  | ret u => obtain ⟨v, σ', H', J, rv, q⟩ := hs; exact ⟨v, H', J.os, J.bare, J.base, J.hok, rv, q⟩
  | next => obtain ⟨σ', H', J, q⟩ := hs; exact ⟨.non, H', J.os, J.bare, J.base, J.hok, rfl, q⟩
  | brk => obtain ⟨_, _, _, q⟩ := hs; exact q.elim
  | cont => obtain ⟨_, _, _, q⟩ := hs; exact q.elim
theorem Has.mkX {x : Str} {st : Stmt} {N ps : List Str} {k : Nat} {m : Bool} {b : DS → M Fl} (a : At K mg x st) (Sc : FnScope N ps (defScope st)) (hK : K.In base) (hN : base.Ns mainGlobals mg)
    (hbody : ∀ (f : Addr) (cdv : Value) (A : Around) (outer : List Env) (s : Shared) (H : Hp) (E : XK) (e0 : En), RoomG k (XOf P w K mg base N x (defScope st) f cdv A outer s H E).A →
      Passes (XC P w) (XOf P w K mg base N x (defScope st) f cdv A outer s H E) E → PassesOwn (model P w) (XOf P w K mg base N x (defScope st) f cdv A outer s H E).A (XOf P w K mg base N x (defScope st) f cdv A outer s H E).env (XOf P w K mg base N x (defScope st) f cdv A outer s H E).xe →
      Takes (XOf P w K mg base N x (defScope st) f cdv A outer s H E) (fun cls d _ H => E cls d H) → (∀ c p, PySem.W.tabIn K x = some (c, p) → cdv = .ref c) →
      DSs (XOf P w K mg base N x (defScope st) f cdv A outer s H E) E m e0 (defBody st) b) : Has P w K mg base x st (k + 1) ps m (runD N.length m b) := by
  obtain ⟨f, fd, F, hm⟩ := a.ex
  refine ⟨f, fd, F, hm, ?_⟩
  have hcode : ∀ c p, PySem.W.tabIn K x = some (c, p) → fd.code = .ref c := fun c p e => by
    obtain ⟨oc, od, kV, doc, pm, an, cdv, ct, osl, rfl, lk, hcd⟩ := F.ex
    exact PySem.W.law_code hK hN e hm (hK _ _ lk) rfl
  refine fnG' F Sc (fun vs H Q E h => h.1) (fun cdv A outer s H vs Q E hc hr h => ?_)
  obtain ⟨hl, A0, S, g, ds, o, r, q⟩ := h
  have tk : Takes (XOf P w K mg base N x (defScope st) f cdv A outer s H E) (fun cls d _ H => E cls d H) := takes_of rfl rfl rfl rfl
  exact ⟨_, hbody f cdv A outer s H E ⟨A0, S, H⟩ hr (passes_call tk fun _ _ _ _ h => h) PassesOwn.leaving tk (fun c p e => by rw [← hc]; exact hcode c p e), run_read o r q⟩
end
def exmChk (K : PySem.W.Frag) (cs : List Str) : Bool := match cs.mapM (exAt K) with
  | some ads => ads.all fun C => decide (PySem.W.exmAny K (.ref C) (ads.map Value.ref) = some true)
  | none => false
structure ExCs (K : PySem.W.Frag) (mg : Str → Option Value) (cs : List Str) (ads : List Addr) : Prop where
  rel : Paired (fun n C => mg n = some (.ref C)) cs ads
  all : ∀ n ∈ cs, ∃ C, PySem.W.nsIn K mainGlobals n = some (some (.ref C)) ∧ mg n = some (.ref C) ∧ PySem.W.exmAny K (.ref C) (ads.map Value.ref) = some true
theorem mapM_rel {α β : Type} {f : α → Option β} : ∀ (l : List α) (r : List β), l.mapM f = some r → Paired (fun a b => f a = some b) l r
  | [], r, h => by
    have : r = [] := by simpa using h.symm
    subst this; exact .nil
  | a :: l, r, h => by
    rw [List.mapM_cons] at h
    cases e : f a with
    | none => rw [e] at h; cases h
    | some b =>
      rw [e] at h
      cases e2 : l.mapM f with
      | none => rw [e2] at h; cases h
      | some r' =>
        rw [e2] at h
        cases h
        exact .cons e (mapM_rel l r' e2)
theorem forall2_mem {α β : Type} {R : α → β → Prop} {l : List α} {r : List β} (h : Paired R l r) : ∀ a ∈ l, ∃ b ∈ r, R a b := by
  induction h with
  | nil => intro a ha; cases ha
  | cons h1 _ ih =>
    intro a ha
    rcases List.mem_cons.mp ha with rfl | ha
    · exact ⟨_, List.mem_cons_self, h1⟩
    · obtain ⟨b, hb, hr⟩ := ih a ha
      exact ⟨b, List.mem_cons_of_mem _ hb, hr⟩
theorem forall2_imp {α β : Type} {R R' : α → β → Prop} (i : ∀ a b, R a b → R' a b) {l : List α} {r : List β} (h : Paired R l r) : Paired R' l r := by
  induction h with
  | nil => exact .nil
  | cons h1 _ ih => exact .cons (i _ _ h1) ih
theorem ExCs.of {K : PySem.W.Frag} {h : Heap} {mg : Str → Option Value} {cs : List Str} (X : K.In h) (G : h.Ns mainGlobals mg) (e : exmChk K cs = true) : ∃ ads, ExCs K mg cs ads := by
  unfold exmChk at e
  cases e1 : cs.mapM (exAt K) with
  | none => rw [e1] at e; cases e
  | some ads =>
    rw [e1] at e
    have r := mapM_rel cs ads e1
    refine ⟨ads, forall2_imp (fun n C h => PySem.W.mg_of X G (exAt_ns h)) r, fun n hn => ?_⟩
    obtain ⟨C, hC, hr⟩ := forall2_mem r n hn
    exact ⟨C, exAt_ns hr, PySem.W.mg_of X G (exAt_ns hr), of_decide_eq_true (List.all_eq_true.mp e C hC)⟩
inductive NamesE (X : Cx) : List Expr → List Str → Prop
  | nil : NamesE X [] []
  | cons {x : Str} {p : Pos} {es : List Expr} {ns : List Str} : Gl X x → (x == ("__debug__" : Str)) = false → starEach (.Name x p :: es) X.env = (false, eval (.Name x p) X.env) :: starEach es X.env → NamesE X es ns → NamesE X (.Name x p :: es) (x :: ns)
theorem NamesE.test {X : Cx} {es : List Expr} {ns : List Str} (h : NamesE X es ns) : ∀ {ads : List Addr}, Paired (fun n C => X.mg n = some (.ref C)) ns ads → ∀ (A : Around) (E : Value → Shared → Prop) (pos : Pos) (Y : Cx) (pins : List (Addr × Obj)) (σ : L2.St) (H : Hp) (s : Shared) (Q : List Value → Shared → Prop),
    Y.prog = X.prog → Y.w = X.w → Y.env = X.env → Y.mg = X.mg → Y.A = A → Inv Y pins σ H s → Q (ads.map Value.ref) s → wpAny (model X.prog X.w) A (spliced (backTo pos (starEach es X.env))) Q E s := by
  induction h with
  | nil =>
    intro ads r A E pos Y pins σ H s Q _ _ _ _ _ I q
    cases r
    exact wpAny_items_nil q
  | @cons x p es ns hg hd he hr ih =>
    intro ads r A E pos Y pins σ H s Q e1 e2 e3 e4 e5 I q
    cases r with
    | @cons _ C _ ads' hC hr' =>
      refine wpAny_items_cons ?_ he
      have := ld_glob (X := Y) (E := E) (Q := fun v s₁ => wpAny (model X.prog X.w) A (spliced (backTo pos (starEach es X.env))) (fun vs s₂ => Q (v :: vs) s₂) E s₁) (pos := p) (x := x) (u := .ref C) I (by unfold Gl; rw [e3]; exact hg) (by rw [e4]; exact hC) (ih hr' A E pos Y pins σ H s _ e1 e2 e3 e4 e5 I q) hd
      rw [e1, e2, e3, e5] at this
      exact this
theorem testC_tup {X : Cx} {es : List Expr} {ns : List Str} {ads : List Addr} {k : Nat} {p : Pos} (h : NamesE X es ns) (x : ExCs X.K X.mg ns ads) (hl : ns.length ≤ 1000 := by decide) : TestC X (.Tuple es k p) (ads.map Value.ref) true := by
  refine .tup (fun A E pos Y pins σ H s Q => h.test x.rel A E pos Y pins σ H s Q) ?_
  have : ns.length = ads.length := Paired.length x.rel
  simp only [List.length_map]
  omega
def iniOf : Stmt → Stmt
  | .ClassDef _ _ _ (b :: _) _ _ _ _ _ _ _ => b
  | s => s
theorem OexG.mk' {K : PySem.W.Frag} {C : Addr} {newId : String} {tl : List Value} {nm q : Str} {N : Addr} {bs bm sub : List Value} {sn : List Str} {ab : Bool} {col : Option Bool} {dd : Option Addr} {k0 k1 k2 k3 k5 : Option Value}
    (l : K.lookup C = some (excClassObj nm q C N bs bm true sn sub ab col dd k0 k1 k2 k3 k5 newId)) (r : refsT tl bm = true) (sa : PySem.W.findIn K (.ref C) "__setattr__" = some (some (.builtin "object.__setattr__"))) (ex : PySem.W.subIn K (.ref C) (.type "BaseException") = some true)
    (ty : PySem.W.typeIn K (.ref C) = some (.type "type")) (kp : PySem.W.keepIn K (.ref C) = true) : OexG K C newId tl := ⟨⟨nm, q, N, bs, bm, sn, sub, ab, col, dd, k0, k1, k2, k3, k5, l, r⟩, sa, ex, ty, kp⟩
section
variable {X : Cx} {pos : Pos}
end
end NS
set_option maxHeartbeats 4000000
namespace L2
open PySem PySem.Spec PyProof.Rows
section
variable {X : Cx}
end
section
variable {prog : Program} {w : World} {A : Around} {E : Value → Shared → Prop} {s : Shared}
end
section
variable {X : Cx}
end
end L2

namespace NS
open PySem PySem.Spec PyProof.Rows L2
section
variable {X : Cx} {E : XK} {m : Bool} {e0 : En} {pos : Pos} {e : Expr} {fe : DS → M D}
theorem RepL.tk {K : PySem.W.Frag} {A : List GAdr} {S : Hp} : ∀ {vs : List V} {ds : List D}, RepL K A S vs ds → ∀ n, RepL K A S (vs.take n) (ds.take n)
  | _, _, .nil, 0 => .nil
  | _, _, .nil, _ + 1 => .nil
  | _, _, .cons _ _, 0 => .nil
  | _, _, .cons h r, n + 1 => .cons h (RepL.tk r n)
theorem RepL.dr {K : PySem.W.Frag} {A : List GAdr} {S : Hp} : ∀ {vs : List V} {ds : List D}, RepL K A S vs ds → ∀ n, RepL K A S (vs.drop n) (ds.drop n)
  | _, _, .nil, 0 => .nil
  | _, _, .nil, _ + 1 => .nil
  | _, _, .cons h r, 0 => .cons h r
  | _, _, .cons _ r, n + 1 => RepL.dr r n
variable {ea ec : Expr} {fa fc : DS → M D}
variable {lo hi : Option Expr} {fl fh : FO} {p2 px : Pos}
end
end NS
set_option maxHeartbeats 4000000
namespace NS
open PySem PySem.Spec PyProof.Rows L2
mutual
def D.nod : D → Nat
  | .tup xs => 1 + D.nods xs
  | .lst xs => 1 + D.nods xs
  | .non => 1 | .bl _ => 1 | .int _ => 1 | .str _ => 1 | .hdl _ => 1 | .slst _ => 1 | .dT _ => 1 | .dK _ => 1 | .ftup _ => 1 | .fT _ => 1 | .exc0 _ => 1 | .exc1 _ _ _ => 1
def D.nods : List D → Nat
  | [] => 0
  | x :: xs => D.nod x + D.nods xs
end
section
variable {K : PySem.W.Frag} {A : List GAdr} {S S' H H' : Hp} {g : G} {σd : DS} {σ : L2.St}
end
section
variable {X : Cx} {E : XK} {e : Expr} {fe : DS → M D} {m : Bool}
end
end NS
set_option maxHeartbeats 4000000
namespace NS
open PySem PySem.Spec PyProof.Rows L2
def stoF (b : Bool) : Str := if b = true then "own_states" else "own_journal"
structure StoK (K : PySem.W.Frag) : Prop where
  cls : ∀ C, stoC K C → Cls K C
  no : ∀ C, stoC K C → ∀ b, NoAttr K C (stoF b)
section
variable {K : PySem.W.Frag} {A : List GAdr} {S H : Hp} {g : G}
end
section
variable {X : Cx} {E : XK} {m : Bool} {e0 : En} {pos apos : Pos} {eo ei : Expr} {fo fi : DS → M D}
variable {x : Str} {p : Pos}
end
section
variable {K : PySem.W.Frag} {A : List GAdr} {S H : Hp} {g : G} {e0 : En} {σd : DS} {σ : L2.St}
end
section
variable {X : Cx} {E : XK} {m : Bool} {e0 : En} {pos apos bpos cpos : Pos} {eo e : Expr} {fo fe : DS → M D}
end
end NS
set_option maxHeartbeats 4000000
namespace L2
open PySem PySem.Spec PyProof.Rows
section
variable {X : Cx} {CX : CXT} {k : Nat} {f C : Addr} {fd : FuncData} {ps ks : List Str} {sp : Sp} {E : XK} {x m : Str} {p pos apos : Pos} {e o : Expr} {es : List Expr} {kws : List Keyword} {ta : TE} {t tk : TA}
end
end L2
namespace NS
open PySem PySem.Spec PyProof.Rows L2
structure MHas (P : Program) (w : World) (K : PySem.W.Frag) (mg : Str → Option Value) (base : Heap) (m q : Str) (st : Stmt) (k : Nat) (ps : List Str) (own : Bool) (d : List D → M D) : Prop where
  ex : ∃ C f fd, stoC K C ∧ Cls K C ∧ Meth K C m f ∧ Fun K m q st f fd ∧ FnD P w K mg base (XC P w) k f fd ps own d
structure MAt (K : PySem.W.Frag) (mg : Str → Option Value) (m q : Str) (st : Stmt) : Prop where
  ex : ∃ C f fd, stoC K C ∧ Cls K C ∧ Meth K C m f ∧ Fun K m q st f fd
section
variable {X : Cx} {E : XK} {own : Bool} {pos apos : Pos} {m q : Str} {st : Stmt} {kk : Nat} {ps : List Str} {d : List D → M D} {e o : Expr} {es : List Expr} {fo : DS → M D} {fl : DS → M (List D)}
end
section
variable {P : Program} {w : World} {K : PySem.W.Frag} {mg : Str → Option Value} {base : Heap}
theorem MHas.mk' {m q : Str} {st : Stmt} {N ps : List Str} {k : Nat} {own : Bool} {b : DS → M Fl} (a : MAt K mg m q st) (Sc : FnScope N ps (defScope st))
    (hbody : ∀ (f : Addr) (cdv : Value) (A : Around) (outer : List Env) (s : Shared) (H : Hp) (E : XK) (e0 : En), RoomG k (XOf P w K mg base N q (defScope st) f cdv A outer s H E).A →
      Passes (XC P w) (XOf P w K mg base N q (defScope st) f cdv A outer s H E) E → PassesOwn (model P w) (XOf P w K mg base N q (defScope st) f cdv A outer s H E).A (XOf P w K mg base N q (defScope st) f cdv A outer s H E).env (XOf P w K mg base N q (defScope st) f cdv A outer s H E).xe →
      Takes (XOf P w K mg base N q (defScope st) f cdv A outer s H E) (fun cls d _ H => E cls d H) →
      DSs (XOf P w K mg base N q (defScope st) f cdv A outer s H E) E own e0 (defBody st) b) : MHas P w K mg base m q st (k + 1) ps own (runD N.length own b) := by
  obtain ⟨C, f, fd, h1, h2, h3, F⟩ := a.ex
  refine ⟨C, f, fd, h1, h2, h3, F, ok_def F Sc fun cdv A outer s H E e0 hr hx hp => hbody f cdv A outer s H E e0 hr hx hp (takes_of rfl rfl rfl rfl)⟩
theorem MAt.mk' {m q : Str} {st : Stmt} {C f : Addr} {oc : Value} {od an : Option Addr} {osl : Array (Option Value)} {kV doc pm cdv ct : Value} (a : PySem.W.nsIn K mainGlobals "Store" = some (some (.ref C))) (hc : Cls K C) (hf : PySem.W.findIn K (.ref C) m = some (some (.ref f))) (hi : PySem.W.isFn K (.ref f) = true)
    (l : K.lookup f = some ⟨oc, od, .func (PySem.W.fnOf m q (defArgs st) (defBody st) (defScope st) .none kV doc pm an cdv ct), osl⟩)
    (c : PySem.W.codeIn K cdv q = true) (k : PySem.W.keepIn K (.ref f) = true) : MAt K mg m q st := ⟨C, f, _, a, hc, ⟨hf, hi, k⟩, fun_mk l c k⟩
end
end NS
namespace NS
open PySem
end NS
set_option maxHeartbeats 4000000
namespace L2
open PySem PySem.Spec PyProof.Rows
section
variable {X : Cx}
end
end L2
namespace NS
open PySem PySem.Spec PyProof.Rows L2
section
variable {X : Cx} {E : XK}
end
end NS
set_option maxHeartbeats 4000000
namespace NS
open PySem PySem.Spec PyProof.Rows L2
theorem post_out {A A' : List GAdr} {S S' H H' : Hp} {p : Addr} {o : HO} (P : Post A S H A' S' H') (hs : S p = none) (hg : p ∉ gfp A) (hH : H p = some o) (nt : ∀ xs, o ≠ .tup xs) : S' p = none ∧ p ∉ gfp A' ∧ H' p = some o := by
  refine ⟨?_, fun z => ?_, P.keep p o hH hg⟩
  · cases e : S' p with
    | none => rfl
    | some u =>
      rcases P.snew p u e with z | z | ⟨_, xs, z⟩
      · rw [hs] at z; cases z
      · rw [hH] at z; cases z
      · rw [hH] at z; cases z; exact absurd rfl (nt xs)
  · rcases P.anew p z with z | z
    · exact hg z
    · rw [hH] at z; cases z
structure Raw (K : PySem.W.Frag) (A : List GAdr) (S H0 H : Hp) (x C dx ps pj : Addr) (l : List D) : Prop where
  c : stoC K C
  hx : H x = some (.ins C dx [("own_states", .ref ps), ("own_journal", .ref pj)])
  hd : H dx = some (.own x)
  hs : ∃ vs, H ps = some (.lst vs) ∧ RepL K A S vs l
  hj : H pj = some (.lst [])
  out : ∀ y ∈ [x, dx, ps, pj], S y = none ∧ y ∉ gfp A ∧ H0 y = none
  nd : [x, dx, ps, pj].Nodup
theorem Raw.reg {K : PySem.W.Frag} {A A0 : List GAdr} {S S0 H0 H : Hp} {x C dx ps pj : Addr} {l : List D} {g : G} (r : Raw K A S H0 H x C dx ps pj l) (o : Ok K A S H g) (P : Post A0 S0 H0 A S H) :
    Ok K (A ++ [.sto x C dx ps pj]) S H (g ++ [.sto l []]) ∧ Post A0 S0 H0 (A ++ [.sto x C dx ps pj]) S H := by
  have fp : gfp [GAdr.sto x C dx ps pj] = [x, dx, ps, pj] := by simp [gfp, GAdr.fp]
  refine ⟨⟨o.ext, by simp [o.len], fun k ga c e1 e2 => ?_, ?_, fun b hb => ?_⟩, ⟨P.a.trans (List.prefix_append _ _), P.s, P.snew, P.keep, P.dom, fun b hb => ?_⟩⟩
  · by_cases h : k < A.length
    · rw [List.getElem?_append_left h] at e1
      rw [List.getElem?_append_left (by rw [← o.len]; exact h)] at e2
      exact (o.cel k ga c e1 e2).mono (List.prefix_append _ _) (Same.refl _) fun _ _ => rfl
    · rw [List.getElem?_append_right (Nat.le_of_not_lt h)] at e1
      rw [List.getElem?_append_right (by rw [← o.len]; exact Nat.le_of_not_lt h)] at e2
      rw [← o.len] at e2
      cases q : k - A.length with
      | zero =>
        rw [q] at e1 e2
        cases e1; cases e2
        obtain ⟨vs, h1, h2⟩ := r.hs
        exact ⟨r.c, r.hx, r.hd, ⟨vs, h1, h2.mono (List.prefix_append _ _) (Same.refl _)⟩, [], r.hj, .nil⟩
      | succ n => rw [q] at e1; simp at e1
  · rw [gfp_append, fp]
    refine List.nodup_append.mpr ⟨o.nd, r.nd, fun a ha b hb e => ?_⟩
    subst e
    exact (r.out _ hb).2.1 ha
  · rw [gfp_append, fp] at hb
    rcases List.mem_append.mp hb with hb | hb
    · exact o.out b hb
    · exact (r.out b hb).1
  · rw [gfp_append, fp] at hb
    rcases List.mem_append.mp hb with hb | hb
    · exact P.anew b hb
    · exact .inr (r.out b hb).2.2
theorem srep2 {K : PySem.W.Frag} {A : List GAdr} {S H : Hp} {x : Addr} {n : Int} : SRep K A S H [some (.ref x), some (.int n)] [none, some (.sh (.int n))] := by
  refine ⟨rfl, fun i y e => ?_, fun i j d e p ne ei ej si sj => ?_⟩
  · match i, e with
    | 1, e => cases e; exact ⟨_, rfl, .int n⟩
    | 0, e => cases e
    | i + 2, e => simp at e
  · match i, ei with
    | 1, ei => cases ei
    | 0, ei => cases ei
    | i + 2, ei => simp at ei
section
variable {K : PySem.W.Frag} {mg : Str → Option Value} {A : List GAdr} {S H1 : Hp} {g g1 : G} {x C dx : Addr} {n : Int} {l : List D} {f1 : DS → M D}
theorem ini_ok (hk : StoK K) (hC : stoC K C) (hx : H1 x = none) (hd : H1 dx = none) (ne : dx ≠ x) (o : Ok K A S H1 g) (ef : f1 [none, some (.sh (.int n))] g = .ok (.lst l) g1) {Z : Ends}
    (hZ : ∀ A' S' H' ps pj σ, Post A S H1 A' S' H' → Ok K A' S' H' g1 → Raw K A' S' H1 H' x C dx ps pj l → Z.nx σ H') :
    tSeq (sFld K (tVar 0) (tE ⟨mg, K, E0⟩ true f1) "own_states") (sFld K (tVar 0) (tE ⟨mg, K, E0⟩ true (eArgs mkL lNil)) "own_journal") Z [some (.ref x), some (.int n)] (upd (upd H1 dx (.own x)) x (.ins C dx [])) := by
  have nA : ∀ {b}, H1 b = none → b ∉ gfp A := fun {b} h z => by obtain ⟨u, hu⟩ := o.there b z; rw [h] at hu; cases hu
  have nS : ∀ {b}, H1 b = none → S b = none := fun {b} h => Same.free o.ext h
  have h2x : upd H1 dx (.own x) x = none := by rw [upd_ne (Ne.symm ne)]; exact hx
  have o3 := (o.layO (o := .own x) hd).layO (o := .ins C dx []) h2x
  have P3 : Post A S H1 A S (upd (upd H1 dx (.own x)) x (.ins C dx [])) := (Post.layO hd).trans (Post.layO h2x)
  refine ⟨A, S, g, _, o3, srep2, ?_⟩
  rw [ef]
  intro A4 S4 H4 v P4 o4 rv
  obtain ⟨p1, rfl, hn1, hs1, hg1, vs1, hv1, rl1⟩ := rv
  have x3 : upd (upd H1 dx (.own x)) x (.ins C dx []) x = some (.ins C dx []) := upd_same
  have d3 : upd (upd H1 dx (.own x)) x (.ins C dx []) dx = some (.own x) := by rw [upd_ne ne, upd_same]
  obtain ⟨xs4, xg4, xh4⟩ := post_out P4 (nS hx) (nA hx) x3 (fun xs z => by cases z)
  obtain ⟨ds4, dg4, dh4⟩ := post_out P4 (nS hd) (nA hd) d3 (fun xs z => by cases z)
  have nx1 : p1 ≠ x := fun z => by rw [z, x3] at hn1; cases hn1
  have nd1 : p1 ≠ dx := fun z => by rw [z, d3] at hn1; cases hn1
  have h1p1 : H1 p1 = none := none_back P3.dom hn1
  refine ⟨.ref x, rfl, x, C, dx, [], rfl, xh4, hk.cls C hC, hk.no C hC true, by simp, ?_⟩
  have e5 : putF "own_states" (V.ref p1) [] = ([("own_states", V.ref p1)] : List (Str × V)) := rfl
  rw [e5]
  have o5 := o4.writeO (o := .ins C dx [("own_states", V.ref p1)]) xs4 xg4
  have P5 : Post A S H1 A4 S4 (upd H4 x (.ins C dx [("own_states", V.ref p1)])) := (P3.trans P4).writeNew hx
  refine ⟨A4, S4, g1, _, o5, srep2, ?_⟩
  show KE ⟨mg, K, E0⟩ true A4 S4 _ (.ok (.lst []) g1) _
  intro A6 S6 H6 v P6 o6 rv
  obtain ⟨p2, rfl, hn2, hs2, hg2, vs2, hv2, rl2⟩ := rv
  cases rl2
  have x5 : upd H4 x (.ins C dx [("own_states", V.ref p1)]) x = some (.ins C dx [("own_states", V.ref p1)]) := upd_same
  have d5 : upd H4 x (.ins C dx [("own_states", V.ref p1)]) dx = some (.own x) := by rw [upd_ne ne]; exact dh4
  have p5 : upd H4 x (.ins C dx [("own_states", V.ref p1)]) p1 = some (.lst vs1) := by rw [upd_ne nx1]; exact hv1
  obtain ⟨xs6, xg6, xh6⟩ := post_out P6 xs4 xg4 x5 (fun xs z => by cases z)
  obtain ⟨ds6, dg6, dh6⟩ := post_out P6 ds4 dg4 d5 (fun xs z => by cases z)
  obtain ⟨ps6, pg6, ph6⟩ := post_out P6 hs1 hg1 p5 (fun xs z => by cases z)
  have nx2 : p2 ≠ x := fun z => by rw [z, x5] at hn2; cases hn2
  have nd2 : p2 ≠ dx := fun z => by rw [z, d5] at hn2; cases hn2
  have np2 : p2 ≠ p1 := fun z => by rw [z, p5] at hn2; cases hn2
  have h1p2 : H1 p2 = none := none_back P5.dom hn2
  refine ⟨.ref x, rfl, x, C, dx, _, rfl, xh6, hk.cls C hC, hk.no C hC false, by simp, ?_⟩
  have e7 : putF "own_journal" (V.ref p2) ([("own_states", V.ref p1)] : List (Str × V)) = ([("own_states", V.ref p1), ("own_journal", V.ref p2)] : List (Str × V)) := by
    unfold putF; rw [if_neg (by decide)]; rfl
  rw [e7]
  refine hZ A6 S6 _ p1 p2 _ ((P5.trans P6).writeNew hx) (o6.writeO xs6 xg6) ⟨hC, upd_same, by rw [upd_ne ne]; exact dh6, ⟨vs1, by rw [upd_ne nx1]; exact ph6, rl1.mono P6.a P6.s⟩, by rw [upd_ne nx2]; exact hv2, ?_, ?_⟩
  · intro y hy
    simp only [List.mem_cons, List.not_mem_nil, or_false] at hy
    rcases hy with rfl | rfl | rfl | rfl
    · exact ⟨xs6, xg6, hx⟩
    · exact ⟨ds6, dg6, hd⟩
    · exact ⟨ps6, pg6, h1p1⟩
    · exact ⟨hs2, hg2, h1p2⟩
  · simp only [List.nodup_cons, List.mem_cons, List.not_mem_nil, or_false, not_or, not_false_eq_true, List.nodup_nil, and_true]
    exact ⟨⟨Ne.symm ne, Ne.symm nx1, Ne.symm nx2⟩, ⟨Ne.symm nd1, Ne.symm nd2⟩, Ne.symm np2⟩
end
def spIni (K : PySem.W.Frag) (f1 : DS → M D) : Sp := fun vs H Q E => vs.length = 2 ∧ ∃ x C dx n H1 A S g l g1, vs = [.ref x, .int n] ∧ H = upd (upd H1 dx (.own x)) x (.ins C dx []) ∧ stoC K C ∧ H1 x = none ∧ H1 dx = none ∧ dx ≠ x ∧ Ok K A S H1 g ∧
  f1 [none, some (.sh (.int n))] g = .ok (.lst l) g1 ∧ ∀ A' S' H' ps pj, Post A S H1 A' S' H' → Ok K A' S' H' g1 → Raw K A' S' H1 H' x C dx ps pj l → Q .non H'
structure StoMk (P : Program) (w : World) (K : PySem.W.Frag) (mg : Str → Option Value) (base : Heap) (f1 : DS → M D) : Prop where
  ex : ∃ C f fd, stoC K C ∧ StoK K ∧ mg "Store" = some (.ref C) ∧ Mk K C f ∧ Binds K fd ["self", "size"] [] ∧ (∀ ws, ∀ s : Shared, ws.length = 1 → K.In s.heap → ∀ v : Value, BindsTo s fd ⟨[v], (["size"] : List Str).zip ws⟩ ((["self", "size"] : List Str).zip (v :: ws))) ∧ FnOkG P w K mg base (XC P w) 1 f fd ["self", "size"] (spIni K f1)
section
variable {P : Program} {w : World} {K : PySem.W.Frag} {mg : Str → Option Value} {base : Heap}
theorem StoMk.mk' {f1 : DS → M D} {C f : Addr} {fd : FuncData} {st : Stmt} (hC : stoC K C) (hk : StoK K) (hm : mg "Store" = some (.ref C)) (M : Mk K C f) {qual : Str} (F : L2.Fun K "__init__" qual st f fd) (Sc : FnScope ["self", "size"] ["self", "size"] (defScope st))
    (hb : ∀ (kV doc pm : Value) (an : Option Addr) (cdv ct : Value) (us : List Value), us.length = 2 → bindArgs (PySem.W.fnOf "__init__" qual (defArgs st) (defBody st) (defScope st) .none kV doc pm an cdv ct) ⟨us, []⟩ = pure ((["self", "size"] : List Str).zip us))
    (hb2 : ∀ (kV doc pm : Value) (an : Option Addr) (cdv ct v u : Value), bindArgs (PySem.W.fnOf "__init__" qual (defArgs st) (defBody st) (defScope st) .none kV doc pm an cdv ct) ⟨[v], [("size", u)]⟩ = pure ([("self", v), ("size", u)] : List (Str × Value)))
    (hbody : ∀ (cdv : Value) (A : Around) (outer : List Env) (s : Shared) (H : Hp) (E : XK), PSs (cxOf (XC P w) P w K mg base ["self", "size"] qual (defScope st) f cdv A outer s H E) (defBody st)
      (tSeq (sFld K (tVar 0) (tE ⟨mg, K, E0⟩ true f1) "own_states") (sFld K (tVar 0) (tE ⟨mg, K, E0⟩ true (eArgs mkL lNil)) "own_journal"))) : StoMk P w K mg base f1 := by
  refine ⟨C, f, fd, hC, hk, hm, M, F.binds hb, ?_, fnG F Sc (fun vs H Q E h => h.1) fun cdv A outer s H vs Q E hr h => ⟨_, hbody cdv A outer s H E, ?_⟩⟩
  · obtain ⟨oc, od, kV, doc, pm, an, cdv, ct, osl, rfl, lk, hcd⟩ := F.ex
    intro ws s hl hK v
    match ws, hl with
    | [u], _ => exact .of_eq (hb2 _ _ _ _ _ _ v u)
  · obtain ⟨_, x, C', dx, n, H1, A1, S1, g, l, g1, rfl, rfl, hC', hx, hd, ne, o, ef, q⟩ := h
    exact ini_ok hk hC' hx hd ne o ef fun A' S' H' ps pj σ p o' r => q A' S' H' ps pj p o' r
end
section
variable {X : Cx} {E : XK} {f1 : DS → M D} {e : Expr} {fl : DS → M (List D)} {p pos : Pos}
end
end NS
set_option maxHeartbeats 4000000
namespace L2
open PySem PySem.Spec PyProof.Rows
structure PR (X : Cx) (ss : List Stmt) (t : (V → St → Hp → Prop) → St → Hp → Prop) : Prop where
  run : ∀ (pins : List (Addr × Obj)) (s : Shared) (σ : St) (H : Hp) (R : V → St → Hp → Prop), Inv X pins σ H s → t R σ H →
    wpAny (model X.prog X.w) X.A (execs ss X.env) (fun g s' => ∃ u v σ' H', g = .ret u ∧ Inv X pins σ' H' s' ∧ RelV v u ∧ R v σ' H') X.xe s
section
variable {X : Cx} {st : Stmt} {rest : List Stmt} {e : Expr} {te : TE} {pos : Pos}
variable {body : List Stmt} {f₀ : Stmt} {fs : List Stmt} {tb : WX → (V → St → Hp → Prop) → St → Hp → Prop} {tf tfs : TS} {Wout : WX}
end
section
variable {X : Cx} {CX : CXT} {k : Nat} {f : Addr} {fd : FuncData} {ps : List Str} {sp : Sp} {E : St → XK} {x : Str} {p pos : Pos} {e : Expr} {es : List Expr} {t : TA}
theorem pe_callGS (F : NS.FnOkG X.prog X.w X.K X.mg X.base CX k f fd ps sp) (hr : NS.RoomG k X.A) (hg : Gl X x) (hm : X.mg x = some (.ref f)) (hk : PySem.W.keepIn X.K (.ref f) = true) (hb : Binds X.K fd ps []) (hx : ∀ σ, PassesAt CX X σ (E σ))
    (ha : PA X (e :: es) t) (hdb : (x == ("__debug__" : Str)) = false := by decide) (he : starEach (e :: es) X.env = (false, eval e X.env) :: starEach es X.env := by rfl) (hpl : (backTo pos (starEach es X.env)).any (·.1) = false := by rfl) :
    PE X (.Call (.Name x p) (e :: es) [] pos) (tCallS sp E t) := by
  refine ⟨fun pins s σ H Q I h => ?_⟩
  refine wpAny_Call_Name_kw (ld_glob I hg hm ?_ hdb)
  refine PySem.W.callWith_K (h₀ := X.base) I.ok.mod.kin hk (thn (ha.run pos pins s σ H _ I h) fun us s1 ⟨vs, H1, I1, r, q⟩ => ⟨I1.kIn, ?_⟩) he hpl
  have hl : us.length = ps.length := by rw [← r.length]; exact F.len _ _ _ _ q
  have b := hb s1 us I1.kIn (by rw [List.append_nil]; exact hl)
  rw [List.append_nil] at b
  refine wpAny_call (codeAny_mono (F.run X.A X.stack s1 H1 ⟨us, []⟩ us vs Q (E σ) hr I1.env0 b r q) fun r s' hq => ?_)
  cases r with
  | error e => exact hx σ pins H1 s1 e s' I1 hq
  | ok fl =>
    cases fl with
    | ret u => exact I1.after hq
    | next => exact False.elim hq
    | brk => exact False.elim hq
    | cont => exact False.elim hq
end
end L2
namespace NS
open PySem PySem.Spec PyProof.Rows L2
def slot0 (k : Nat) (A : List GAdr) (σ : L2.St) : Prop := ∃ ga, A[k]? = some ga ∧ σ[0]? = some (some (.ref ga.a))
def KX (mg : Str → Option Value) (K : PySem.W.Frag) (W : WX) (k : Nat) (e0 : En) (A : List GAdr) (S : Hp) (r : Res Fl) (Z : Ends) : Prop := match r with
  | .err x g' => ∀ A' S' H' c dd σ', Post e0.A e0.S e0.H A' S' H' → Ok K A' S' H' g' → XRep mg K A' S' H' x c dd → slot0 k A' σ' → W c dd σ' H'
  | .ok fl g' => KS ⟨mg, K, E0⟩ false e0 A S (.ok fl g') Z
  | .bad => False
theorem slot0.mono {k : Nat} {A A' : List GAdr} {σ : L2.St} (h : slot0 k A σ) (p : A <+: A') : slot0 k A' σ := by
  obtain ⟨ga, h1, h2⟩ := h; exact ⟨ga, prefix_get p h1, h2⟩
section
variable {X : Cx} {W : WX} {k : Nat} {e0 : En} {st : Stmt} {rest : List Stmt} {f : DS → M Fl} {pos p : Pos} {e : Expr} {es : List Expr} {fe : DS → M D} {fl : DS → M (List D)}
end
section
variable {X : Cx} {W : WX} {k : Nat} {e0 : En} {st : Stmt} {rest : List Stmt} {f : DS → M Fl} {h : DS → M (D × DS)} {pos : Pos} {e : Expr} {fe : DS → M D}
theorem PR.impD {ss : List Stmt} {t t' : (V → L2.St → Hp → Prop) → L2.St → Hp → Prop} (h : L2.PR X ss t) (i : ∀ R σ H, t' R σ H → t R σ H) : L2.PR X ss t' := ⟨fun pins s σ H R I q => h.run pins s σ H R I (i R σ H q)⟩
theorem XRep.mono {mg : Str → Option Value} {K : PySem.W.Frag} {A A' : List GAdr} {S S' H H' : Hp} {x : Exn} {c : Value} {dd : Option Addr} (a : A <+: A') (b : Same S S') (h : XRep mg K A S H x c dd) : XRep mg K A' S' H' x c dd := by
  obtain ⟨h1, h2, h3⟩ := h
  refine ⟨h1, h2, fun f d e => ?_⟩
  obtain ⟨p, v, e1, e2, e3⟩ := h3 f d e
  exact ⟨p, v, e1, b _ _ e2, e3.mono a b⟩
end
end NS
set_option maxHeartbeats 4000000
namespace L2
open PySem PySem.Spec PyProof.Rows
open Builtin
section
variable {prog : Program} {w : World} {A : Around} {E : Value → Shared → Prop} {s : Shared} {K : PySem.W.Frag} {x C f : Addr} {o : Obj}
end
section
variable {X : Cx} {CX : CXT} {k : Nat} {f C : Addr} {fd : FuncData} {ps : List Str} {sp : Sp} {E : XK}
end
end L2
namespace NS
open PySem PySem.Spec PyProof.Rows L2
section
variable {X : Cx} {E : XK} {st : Stmt} {kk : Nat} {d : List D → M D} {m q : Str} {p pos : Pos} {o : Expr} {fl : DS → M (List D)}
variable {e1 e2 : Expr} {fx fy : DS → M D} {a b c : Str} {j1 j2 j3 : Nat} {p1 p2 p3 p4 p5 : Pos}
end
theorem RepL.dropLast {K : PySem.W.Frag} {A : List GAdr} {S : Hp} {vs : List V} {ds : List D} (r : RepL K A S vs ds) : RepL K A S vs.dropLast ds.dropLast := by
  rw [List.dropLast_eq_take, List.dropLast_eq_take, r.length]; exact r.take _
section
variable {X : Cx} {E : XK} {m : Bool} {e0 : En} {pos apos bpos cpos : Pos} {eo e : Expr} {fo fe fc : DS → M D}
end
end NS
set_option maxHeartbeats 4000000
namespace L2
open PySem PySem.Spec PyProof.Rows
section
variable {prog : Program} {w : World} {A : Around} {E : Value → Shared → Prop}
end
section
variable {X : Cx}
end
end L2
namespace NS
open PySem PySem.Spec PyProof.Rows L2
section
variable {K : PySem.W.Frag} {A : List GAdr} {S H : Hp}
end
section
variable {X : Cx} {E : XK} {m : Bool}
end
end NS
set_option maxHeartbeats 4000000
namespace L2
open PySem PySem.Spec PyProof.Rows
open Builtin
section
variable {prog : Program} {w : World} {A : Around} {E : Value → Shared → Prop} {s : Shared} {K : PySem.W.Frag} {x y C fA : Addr} {o oy : Obj}
end
section
variable {X : Cx} {CX : CXT} {k : Nat} {f C : Addr} {fd : FuncData} {ps : List Str} {sp : Sp} {E : XK}
end
end L2
namespace NS
open PySem PySem.Spec PyProof.Rows L2
section
variable {X : Cx} {E : XK} {st : Stmt} {kk : Nat} {d : List D → M D} {m q : Str} {p p1 pos : Pos} {e o : Expr} {fe : DS → M D}
end
end NS
set_option maxHeartbeats 4000000
namespace NS
open PySem PySem.Spec PyProof.Rows L2
section
variable {U : Sur} {e0 : En} {A : List GAdr} {S : Hp} {i : Nat} {f1 : DS → M D} {fl : DS → M (List D)} {fv : DS → M D} {σd : DS} {g : G} {Z : Ends}
theorem SRep.unset {K : PySem.W.Frag} {A : List GAdr} {S H : Hp} {σ : L2.St} {σd : DS} (r : SRep K A S H σ σd) (i : Nat) (v : Option V) : SRep K A S H (σ.set i v) (σd.set i none) := by
  have ne : ∀ (j : Nat) (x : DV), (σd.set i none)[j]? = some (some x) → i ≠ j ∧ σd[j]? = some (some x) := by
    intro j x e
    by_cases h : i = j
    · subst h
      rw [List.getElem?_set] at e
      simp at e
    · exact ⟨h, by rw [List.getElem?_set_ne h] at e; exact e⟩
  refine ⟨by simp [r.len], fun j x e => ?_, fun j k d e p hjk ej ek sj sk => ?_⟩
  · obtain ⟨h, e⟩ := ne j x e
    rw [List.getElem?_set_ne h]
    exact r.at_ j x e
  · obtain ⟨h1, ej⟩ := ne j _ ej
    obtain ⟨h2, ek⟩ := ne k _ ek
    rw [List.getElem?_set_ne h1] at sj
    rw [List.getElem?_set_ne h2] at sk
    exact r.sep j k d e p hjk ej ek sj sk
end
section
variable {X : Cx} {E : XK} {m : Bool} {pos apos p2 : Pos} {eo : Expr} {lo hi : Option Expr} {fo : DS → M D} {fl fh : FO}
end
section
variable {X : Cx} {E : XK} {e0 : En} {f1 : DS → M D} {e v : Expr} {fl : DS → M (List D)} {fv : DS → M D} {p p1 p3 p4 p6 pos pos2 pos5 pos7 : Pos} {x : Str} {i : Nat}
end
end NS
set_option maxHeartbeats 4000000
namespace L2
open PySem PySem.Spec PyProof.Rows
open Builtin
section
variable {prog : Program} {w : World} {A : Around} {E : Value → Shared → Prop} {s : Shared} {K : PySem.W.Frag} {x y C fA : Addr} {o oy : Obj} {v : Value}
end
end L2
namespace L2
open PySem PySem.Spec PyProof.Rows
section
variable {X : Cx} {CX : CXT} {k : Nat} {f C : Addr} {fd : FuncData} {ps : List Str} {sp : Sp} {E : XK}
inductive PlainV (H : Hp) : V → String → Prop where
  | non : PlainV H .non "NoneType"
  | int (i : Int) : PlainV H (.int i) "int"
  | str (x : Str) : PlainV H (.str x) "str"
  | lst {a : Addr} {xs : List V} (e : H a = some (.lst xs)) : PlainV H (.ref a) "list"
  | tup {a : Addr} {xs : List V} (e : H a = some (.tup xs)) : PlainV H (.ref a) "tuple"
  | ftup {a : Addr} {o : Obj} {xs : List V} (e : H a = some (.frz o (.tup xs))) : PlainV H (.ref a) "tuple"
theorem PlainV.sub {H : Hp} {v : V} {T : String} (h : PlainV H v T) (C : Addr) : isSubtype (.type T) (.ref C) = pure false := by
  cases h <;> (rw [isSubtype_type]; rfl)
theorem PlainV.mro {H : Hp} {v : V} {T : String} (h : PlainV H v T) (C : Addr) : (fastBuiltinMro T).map (·.contains (.ref C)) = some false := by
  cases h <;> rfl
theorem PlainV.ty {pins : List (Addr × Obj)} {σ : St} {H : Hp} {s : Shared} {v : V} {u : Value} {T : String} (I : Inv X pins σ H s) (h : PlainV H v T) (r : RelV v u) (a : Addr) :
    oneThing? .Eq (.ref a) u = none ∧ ∀ {M : Model} {A : Around} {E : Value → Shared → Prop} {Q : Value → Shared → Prop}, Q (.type T) s → wpAny M A (typeOf u) Q E s := by
  cases h with
  | non => cases (show u = Value.none from r); exact ⟨rfl, fun q => wpAny_pure q⟩
  | int i => obtain ⟨t, rfl⟩ := (show ∃ t, u = Value.int i t from r); exact ⟨rfl, fun q => wpAny_pure q⟩
  | str y => obtain ⟨t, rfl⟩ := (show ∃ t, u = Value.str y t from r); exact ⟨rfl, fun q => wpAny_pure q⟩
  | @lst b xs e =>
    cases (show u = Value.ref b from r)
    obtain ⟨_, _, n, _, h1⟩ := (show ObjOk X.prog X.w H s.heap b (.lst xs) from I.hok b _ e)
    exact ⟨rfl, fun q => wpAny_typeOf_ref h1 q⟩
  | @tup b xs e =>
    cases (show u = Value.ref b from r)
    obtain ⟨_, _, _, o, h1, h2, _⟩ := (show ObjOk X.prog X.w H s.heap b (.tup xs) from I.hok b _ e)
    exact ⟨rfl, fun q => wpAny_typeOf_ref h1 (by rw [h2]; exact q)⟩
  | @ftup b ob xs e =>
    cases (show u = Value.ref b from r)
    obtain ⟨_, _, _, _, o, h1, h2, _⟩ := (show ObjOk X.prog X.w H s.heap b (.frz ob (.tup xs)) from I.hok b _ e)
    exact ⟨rfl, fun q => wpAny_typeOf_ref h1 (by rw [h2]; exact q)⟩
end
end L2
namespace NS
open PySem PySem.Spec PyProof.Rows L2
section
variable {X : Cx} {E : XK} {st : Stmt} {kk : Nat} {d : List D → M D} {m q : Str} {p p1 pos : Pos} {e o : Expr} {fe : DS → M D}
end
end NS
set_option maxHeartbeats 4000000
namespace NS
open PySem PySem.Spec PyProof.Rows L2
theorem SRep.unset' {K : PySem.W.Frag} {A : List GAdr} {S H : Hp} {σ : L2.St} {σd : DS} (r : SRep K A S H σ σd) (i : Nat) (v : Option V) : SRep K A S H (σ.set i v) (σd.set i none) := by
  have ne : ∀ (j : Nat) (x : DV), (σd.set i none)[j]? = some (some x) → i ≠ j ∧ σd[j]? = some (some x) := by
    intro j x e
    by_cases h : i = j
    · subst h
      rw [List.getElem?_set] at e
      simp at e
    · exact ⟨h, by rw [List.getElem?_set_ne h] at e; exact e⟩
  refine ⟨by simp [r.len], fun j x e => ?_, fun j k d e p hjk ej ek sj sk => ?_⟩
  · obtain ⟨h, e⟩ := ne j x e
    rw [List.getElem?_set_ne h]
    exact r.at_ j x e
  · obtain ⟨h1, ej⟩ := ne j _ ej
    obtain ⟨h2, ek⟩ := ne k _ ek
    rw [List.getElem?_set_ne h1] at sj
    rw [List.getElem?_set_ne h2] at sk
    exact r.sep j k d e p hjk ej ek sj sk
section
variable {K : PySem.W.Frag} {A A2 : List GAdr} {S S2 H H2 : Hp} {g2 : G}
end
section
variable {X : Cx} {E : XK} {m : Bool} {e0 : En} {x : Str} {i : Nat} {call tst tst2 : Expr} {a2 rest : List Stmt} {fe : DS → M D} {ft ft2 : DS → M Bool} {f2 fr : DS → M Fl} {z3 z4 : Str} {j3 j4 j5 : Nat}
  {p1 pos1 pos2 p3 ap3 q3 cp3 pos3 p4 q5 sp4 ap4 q4 cp4 pos4 pos5 : Pos}
end
end NS
set_option maxHeartbeats 4000000
namespace NS
open PySem PySem.Spec PyProof.Rows L2
def ExO (K : PySem.W.Frag) (mg : Str → Option Value) (cls : Str) : Prop := ∃ C, PySem.W.nsIn K mainGlobals cls = some (some (.ref C)) ∧ mg cls = some (.ref C) ∧ PySem.W.exmOne K (.ref C) (.ref C) = some true
def exoChk (K : PySem.W.Frag) (cls : Str) : Bool := match exAt K cls with
  | some C => decide (PySem.W.exmOne K (.ref C) (.ref C) = some true)
  | none => false
theorem ExO.of {K : PySem.W.Frag} {h : Heap} {mg : Str → Option Value} {cls : Str} (X : K.In h) (G : h.Ns mainGlobals mg) (e : exoChk K cls = true) : ExO K mg cls := by
  unfold exoChk at e
  cases hC : exAt K cls with
  | none => rw [hC] at e; cases e
  | some C =>
    rw [hC] at e
    exact ⟨C, exAt_ns hC, PySem.W.mg_of X G (exAt_ns hC), of_decide_eq_true e⟩
theorem Stt.unset {K : PySem.W.Frag} {e0 : En} {A : List GAdr} {S H : Hp} {g : G} {σd : DS} {σ : L2.St} (s : Stt K e0 A S g σd σ H) (i : Nat) (v : Option V) : Stt K e0 A S g (σd.set i none) (σ.set i v) H :=
  ⟨s.ok, s.rep.unset' i v, s.post, fun j d p e1 e2 => by
    by_cases h : i = j
    · subst h
      rw [List.getElem?_set] at e1
      simp at e1
    · rw [List.getElem?_set_ne h] at e1 e2
      exact s.own j d p e1 e2⟩
section
variable {X : Cx} {E : XK} {e0 : En} {p pos' pos : Pos} {e : Expr} {es : List Expr} {fl : DS → M (List D)}
end
end NS
set_option maxHeartbeats 4000000
namespace L2
open PySem PySem.Spec PyProof.Rows
section
variable {X : Cx} {a b c : Expr} {ta : TA} {p p2 pos pos2 : Pos}
end
end L2
namespace NS
open PySem PySem.Spec PyProof.Rows L2
section
variable {X : Cx} {E : XK} {a b c : Expr} {fl : DS → M (List D)} {p p2 pos pos2 : Pos}
end
end NS
set_option maxHeartbeats 4000000
namespace L2
open PySem PySem.Spec PyProof.Rows
section
variable {X : Cx} {e : Expr}
end
end L2
namespace NS
open PySem PySem.Spec PyProof.Rows L2
section
variable {X : Cx} {E : XK} {cls f : Str} {e : Expr} {fe : DS → M D} {p pos : Pos}
end
end NS
set_option maxHeartbeats 4000000
namespace PySem.HandSPX
open PySem PyProof.Rows
section
variable {M : Model} {prog : Program} {w : World} {A : Around} {E : Value → Shared → Prop} {R : Result → Shared → Prop} {h : Heap} {g : Array GenState} {d : Drawn} {t : Nat} {os : OsState}
variable {nm q : Str} {C N : Addr} {bs bm bmB : List Value} {hdct : Bool} {sn : List Str} {sub : List Value} {ab : Bool} {col : Option Bool} {dd : Option Addr} {k0 k1 k2 k3 k5 : Option Value} {B newId initId : String} {kws : List (Str × Value)}
end
end PySem.HandSPX
namespace L2
open PySem PySem.Spec PyProof.Rows
section
variable {X : Cx} {B newId initId : String} {tl : List Value} {CX : CXT} {x f : Str} {C fI : Addr} {k : Nat} {fd : FuncData} {sp : Sp} {p pos : Pos} {kws : List Keyword} {tk : TA}
end
end L2
namespace NS
open PySem PySem.Spec PyProof.Rows L2
structure Ex1K (P : Program) (w : World) (K : PySem.W.Frag) (mg : Str → Option Value) (base : Heap) (cls f : Str) : Prop where
  e1 : Ex1 P w K mg base cls f
  ex : ∃ (B newId initId : String) (tl : List Value) (C fI : Addr) (fd : FuncData), XBse B newId initId tl ∧ OexG K C newId tl ∧ mg cls = some (.ref C) ∧ PySem.W.findIn K (.ref C) "__init__" = some (some (.ref fI)) ∧
    PySem.W.typeIn K (.ref fI) = some (.type "function") ∧ (∀ (s : Shared) (v x : Value), K.In s.heap → BindsTo s fd ⟨[v], [(f, x)]⟩ [("self", v), (f, x)]) ∧ FnOkG P w K mg base (XC P w) 1 fI fd ["self", f] (sp1 C f)
section
variable {P : Program} {w : World} {K : PySem.W.Frag} {mg : Str → Option Value} {base : Heap}
theorem Ex1K.mk' {B newId initId : String} {tl : List Value} {C fI : Addr} {cls f : Str} {st : Stmt} {fd : FuncData} (G : XBse B newId initId tl) (T : OexG K C newId tl) (hm : mg cls = some (.ref C)) (hi : PySem.W.findIn K (.ref C) "__init__" = some (some (.ref fI)))
    (ht : PySem.W.typeIn K (.ref fI) = some (.type "function")) (hno : PySem.W.findIn K (.ref C) f = some none) {qual : Str} (F : L2.Fun K "__init__" qual st fI fd) (Sc : FnScope ["self", f] ["self", f] (defScope st))
    (hb0 : ∀ (kV doc pm : Value) (an : Option Addr) (cdv ct : Value) (us : List Value), us.length = 2 → bindArgs (PySem.W.fnOf "__init__" qual (defArgs st) (defBody st) (defScope st) .none kV doc pm an cdv ct) ⟨us, []⟩ = pure ((["self", f] : List Str).zip us))
    (hb : ∀ (kV doc pm : Value) (an : Option Addr) (cdv ct v x : Value), bindArgs (PySem.W.fnOf "__init__" qual (defArgs st) (defBody st) (defScope st) .none kV doc pm an cdv ct) ⟨[v], [(f, x)]⟩ = pure [(("self" : Str), v), (f, x)])
    (hbody : ∀ (cdv : Value) (A : Around) (outer : List Env) (s : Shared) (H : Hp) (E : XK), ∃ m : Str, PSs (cxOf (XC P w) P w K mg base ["self", f] qual (defScope st) fI cdv A outer s H E) (defBody st)
      (tSeq (tDrop (tExI K newId tl (tCons (tVar 0) (tCons (tC (.str m)) tNil)))) (tExS K newId tl f (tVar 0) (tVar 1)))) : Ex1K P w K mg base cls f := by
  have hF := F
  obtain ⟨oc, od, kV, doc, pm, an, cdv, ct, osl, rfl, lk, hcd⟩ := F.ex
  refine ⟨Ex1.mk' G T hm hi ht hno hF Sc hb0 hbody, B, newId, initId, tl, C, fI, _, G, T, hm, hi, ht, fun s v x _ => .of_eq (hb kV doc pm an cdv ct v x), fnG hF Sc (fun vs H Q E h => h.1) fun cdv A outer s H vs Q E hr h => ?_⟩
  obtain ⟨m, h1⟩ := hbody cdv A outer s H E
  refine ⟨_, h1, ?_⟩
  obtain ⟨hl, a, y, rfl, ea, q⟩ := h
  exact ⟨.ref a, rfl, a, C, [.str m], rfl, by simp, T, ea, y, rfl, .ref a, rfl, a, C, rfl, T, hno, ea, fun dx h1 h2 => q dx h1 h2⟩
end
section
variable {X : Cx} {E : XK} {cls f : Str} {kws : List Keyword} {fl : DS → M (List D)} {p pos : Pos}
end
end NS
set_option maxHeartbeats 4000000
namespace NS
open PySem PySem.Spec PyProof.Rows L2
def exbChk (K : PySem.W.Frag) (cs : List Str) (tys : List String) : Bool := cs.all fun c => match exAt K c with
  | some C => decide (PySem.W.kitAny K (.ref C) (tys.map Value.type) = some false)
  | none => false
def ExB (K : PySem.W.Frag) (cs : List Str) (tys : List String) : Prop := ∀ c ∈ cs, ∃ C, PySem.W.nsIn K mainGlobals c = some (some (.ref C)) ∧ PySem.W.kitAny K (.ref C) (tys.map Value.type) = some false
theorem ExB.of {K : PySem.W.Frag} {cs : List Str} {tys : List String} (e : exbChk K cs tys = true) : ExB K cs tys := fun c hc => by
  have e1 := List.all_eq_true.mp e c hc
  cases hC : exAt K c with
  | none => rw [hC] at e1; cases e1
  | some C => rw [hC] at e1; exact ⟨C, exAt_ns hC, of_decide_eq_true e1⟩
section
variable {X : Cx} {E : XK} {pos p p1 p2 p3 p4 p5 : Pos} {e : Expr} {fe : DS → M D} {cs ds fs : List Str} {kt : Nat}
end
end NS
set_option maxHeartbeats 4000000
namespace NS
open PySem PySem.Spec PyProof.Rows L2
def strL : List D → Option (List Str)
  | [] => some []
  | .str x :: r => (strL r).map (x :: ·)
  | _ => none
theorem strL_eq : ∀ {ds : List D} {ys : List Str}, strL ds = some ys → ds = ys.map .str
  | [], ys, h => by cases h; rfl
  | d :: r, ys, h => by
    cases d with
    | str x =>
      cases e : strL r with
      | none =>
        have h : (strL r).map (x :: ·) = some ys := h
        rw [e] at h; cases h
      | some zs =>
        have h : (strL r).map (x :: ·) = some ys := h
        rw [e] at h; cases h
        rw [strL_eq e]; rfl
    | _ => cases h
theorem strL_map : ∀ ys : List Str, strL (ys.map .str) = some ys
  | [] => rfl
  | y :: ys => by
    show (strL (ys.map .str)).map (y :: ·) = _
    rw [strL_map ys]; rfl
theorem rep_strs {K : PySem.W.Frag} {A : List GAdr} {S : Hp} : ∀ {vs : List V} {ys : List Str}, RepL K A S vs (ys.map .str) → vs = ys.map V.str
  | [], [], _ => rfl
  | _ :: _, [], h => by cases h
  | [], _ :: _, h => by cases h
  | v :: vs, y :: ys, h => by
    cases h with
    | cons h r => cases h; rw [rep_strs r]; rfl
theorem strs_rep {K : PySem.W.Frag} {A : List GAdr} {S : Hp} : ∀ ys : List Str, RepL K A S (ys.map V.str) (ys.map D.str)
  | [] => .nil
  | y :: ys => .cons (.str y) (strs_rep ys)
def kSplit : D → D → M D
  | .str a, .str b => if b.length ≠ 0 ∧ fit (a.length + 2) = true then M.pure (.lst ((Txt.split a b).map .str)) else M.bad
  | _, _ => M.bad
def kJoin : D → D → M D
  | .str a, .lst ds => match strL ds with
    | some ys => if (ys.map (·.length)).sum + ys.length * a.length ≤ 1000000 then M.pure (.str (Txt.join a ys)) else M.bad
    | none => M.bad
  | _, _ => M.bad
def kStrip : D → D → M D
  | .str a, .str b => if fit a.length = true then M.pure (.str (Txt.stripChars a b)) else M.bad
  | _, _ => M.bad
def strMul (x : Str) (k : Int) : Str := ⟨(List.replicate k.toNat x.cps).foldl (· ++ ·) #[]⟩
theorem fold_app : ∀ (n : Nat) (x a : Array Nat), ((List.replicate n x).foldl (· ++ ·) a).toList = a.toList ++ (List.replicate n x.toList).flatten
  | 0, x, a => by simp
  | n + 1, x, a => by
    rw [List.replicate_succ, List.foldl_cons, fold_app n x, List.replicate_succ, List.flatten_cons]
    simp
theorem strMul_list (x : Str) (k : Int) : (strMul x k).cps.toList = (List.replicate k.toNat x.cps.toList).flatten := by
  unfold strMul
  rw [fold_app]; simp
theorem strMul_len (x : Str) (k : Int) : (strMul x k).length = k.toNat * x.length := by
  have := congrArg List.length (strMul_list x k)
  simp only [Array.length_toList, List.length_flatten, List.map_replicate, List.sum_replicate_nat] at this
  exact this
def kMulS : D → D → M D
  | .str x, .int k => if 2 ≤ k ∧ k ≤ 1000 ∧ 0 < x.length ∧ x.length ≤ 1000 then M.pure (.str (strMul x k)) else M.bad
  | _, _ => M.bad
def itT : D → M (List D)
  | .str x => M.pure (x.cps.toList.map fun c => .str ⟨#[c]⟩)
  | _ => M.bad
def iTxt (f : DS → M D) : DS → M (List D) := fun σ => M.bind (f σ) itT
def kStrT : List D → M D
  | [.str x] => M.pure (.str x)
  | [.int i] => if i.natAbs.log2 < 1920 then M.pure (.str (toString i)) else M.bad
  | _ => M.bad
def kIntT : List D → M D
  | [.str x] => if x.length ≤ 640 then M.opt ((intText? x).map .int) else M.bad
  | _ => M.bad
def isStr : D → Bool
  | .str _ => true
  | _ => false
def eStrM (k : D → D → M D) (fo fe : DS → M D) : DS → M D := fun σ => M.bind (fo σ) fun x => if isStr x = true then M.bind (fe σ) fun y => k x y else M.bad
section
variable {X : Cx} {E : XK} {m : Bool} {pos p apos cpos : Pos} {o e tg : Expr} {fo fe : DS → M D}
theorem strM_read {U : Sur} {k : D → D → M D} {σ : L2.St} {H : Hp} {Q : VK} {r : V → List V → Hp → VK → Prop} (h : tE U m (eStrM k fo fe) σ H Q)
    (i : ∀ (A : List GAdr) (S H : Hp) (g : G) (a : Str) (y : V) (d : D), Ok U.K A S H g → Rep U.K A S y d → KE U m A S H (k (.str a) d g) Q → r (.str a) [y] H Q) : tM1 r (tE U false fo) (tE U false fe) σ H Q := by
  obtain ⟨A, S, g, σd, o, r, q⟩ := h
  refine ⟨A, S, g, σd, o, r, (KE.bindE q).imp fun v H1 ⟨A1, S1, g1, d, p1, o1, r1, q1⟩ => ?_⟩
  cases d with
  | str a =>
    cases r1
    have q1 : KE U m A1 S1 H1 (M.bind (fe σd) (fun y => k (.str a) y) g1) Q := q1
    exact ⟨⟨a, rfl⟩, A1, S1, g1, σd, o1, r.post p1, (KE.bindE q1).imp fun u H2 ⟨A2, S2, g2, d2, p2, o2, r2, q2⟩ => i A2 S2 H2 g2 a u d2 o2 r2 q2⟩
  | _ => exact q1.elim
theorem de_split (ho : DE X E false o fo) (he : DE X E false e fe) (hs : starEach [e] X.env = [(false, eval e X.env)] := by rfl) (hb : attributeBase o (Str.ofString "split") X.env (eval o X.env) = eval o X.env := by rfl)
    (hl : (apos.endLine == pos.line) = true := by rfl) : DE X E m (.Call (.Attribute o "split" apos) [e] [] pos) (eStrM kSplit fo fe) :=
  PE.impD (pe_split ho he hs hb hl) fun σ H Q h => strM_read h fun A S H g a y d o r q => by
    cases d with
    | str b =>
      cases r
      have q2 : KE (Cx.sur X E) m A S H ((if b.length ≠ 0 ∧ fit (a.length + 2) = true then M.pure (.lst ((Txt.split a b).map .str)) else M.bad : M D) g) Q := q
      by_cases c : b.length ≠ 0 ∧ fit (a.length + 2) = true
      · rw [if_pos c] at q2
        exact ⟨a, b, rfl, rfl, by simpa using c.1, Nat.le_of_lt (fit_le c.2), fun p hp => KE.newL q2 o (strs_rep _) hp⟩
      · rw [if_neg c] at q2; exact q2.elim
    | _ => exact q.elim
theorem de_join (ho : DE X E false o fo) (he : DE X E false e fe) (hs : starEach [e] X.env = [(false, eval e X.env)] := by rfl) (hb : attributeBase o (Str.ofString "join") X.env (eval o X.env) = eval o X.env := by rfl)
    (hl : (apos.endLine == pos.line) = true := by rfl) : DE X E false (.Call (.Attribute o "join" apos) [e] [] pos) (eStrM kJoin fo fe) :=
  PE.impD (pe_join ho he hs hb hl) fun σ H Q h => strM_read h fun A S H g a y d o r q => by
    cases d with
    | lst ds =>
      cases r with
      | @lst p vs _ hp rr =>
        cases es : strL ds with
        | none =>
          have q2 : KE (Cx.sur X E) false A S H ((match strL ds with | some ys => if (ys.map (·.length)).sum + ys.length * a.length ≤ 1000000 then M.pure (.str (Txt.join a ys)) else M.bad | none => M.bad : M D) g) Q := q
          rw [es] at q2; exact q2.elim
        | some ys =>
          have q2 : KE (Cx.sur X E) false A S H ((match strL ds with | some ys => if (ys.map (·.length)).sum + ys.length * a.length ≤ 1000000 then M.pure (.str (Txt.join a ys)) else M.bad | none => M.bad : M D) g) Q := q
          rw [es] at q2
          have q2 : KE (Cx.sur X E) false A S H ((if (ys.map (·.length)).sum + ys.length * a.length ≤ 1000000 then M.pure (.str (Txt.join a ys)) else M.bad : M D) g) Q := q2
          have ed := strL_eq es
          subst ed
          have ev := rep_strs rr
          subst ev
          by_cases c : (ys.map (·.length)).sum + ys.length * a.length ≤ 1000000
          · rw [if_pos c] at q2
            exact ⟨a, p, ys, rfl, rfl, .inl (.inl (.inl (o.ext _ _ hp))), by omega, KE.val q2 o (.str _)⟩
          · rw [if_neg c] at q2; exact q2.elim
    | _ => exact q.elim
theorem de_strip (ho : DE X E false o fo) (he : DE X E false e fe) (hs : starEach [e] X.env = [(false, eval e X.env)] := by rfl) (hb : attributeBase o (Str.ofString "strip") X.env (eval o X.env) = eval o X.env := by rfl)
    (hl : (apos.endLine == pos.line) = true := by rfl) : DE X E false (.Call (.Attribute o "strip" apos) [e] [] pos) (eStrM kStrip fo fe) :=
  PE.impD (pe_m1 PySem.F.slot_str_strip PySem.F.type_str_strip mt_stripChars ho he hs hb hl) fun σ H Q h => strM_read h fun A S H g a y d o r q => by
    cases d with
    | str b =>
      cases r
      have q2 : KE (Cx.sur X E) false A S H ((if fit a.length = true then M.pure (.str (Txt.stripChars a b)) else M.bad : M D) g) Q := q
      by_cases c : fit a.length = true
      · rw [if_pos c] at q2
        exact ⟨a, b, rfl, rfl, Nat.le_of_lt (fit_le c), KE.val q2 o (.str _)⟩
      · rw [if_neg c] at q2; exact q2.elim
    | _ => exact q.elim
theorem dit_txt {K : PySem.W.Frag} {A : List GAdr} {S : Hp} (x : Str) : DIt K A S (Its x) (x.cps.toList.map fun c => .str ⟨#[c]⟩) := by
  have w := walk_str (z := x)
  have hl : (x.cps.toList.map fun c => D.str ⟨#[c]⟩).length = x.cps.size := by simp
  refine ⟨fun i H hi e => ?_, fun i H hi e => ?_, fun i H v H' hi e y => ?_⟩
  · exact w.goes i H (by rw [hl] at hi; exact hi) trivial
  · show x.cps.size ≤ i
    rw [hl] at hi; exact hi
  · obtain ⟨rfl, c, e1, rfl⟩ := y
    exact ⟨.str ⟨#[c]⟩, by simp [e1], .inl ⟨rfl, .str _⟩⟩
theorem di_txt (he : DE X E false e fe) : DI X E tg e (iTxt fe) :=
  PI.impD (pi_str he) fun σ H R ⟨A, S, g, σd, o, r, q⟩ => by
    have q' : KI (Cx.sur X E) A S H (M.bind (fe σd) itT g) R := q
    refine ⟨A, S, g, σd, o, r, ?_⟩
    cases e1 : fe σd g with
    | bad => rw [bind_bad e1] at q'; exact q'.elim
    | err x g' => rw [bind_err e1] at q'; exact q'
    | ok d g1 =>
      rw [bind_ok e1] at q'
      cases d with
      | str x =>
        intro A' S' H' v p o' rv
        cases rv
        exact ⟨x, rfl, KI.now (q'.shift p) o' (dit_txt x)⟩
      | _ => exact q'.elim
theorem cl_strT : CallD X E (.type "str") false kStrT := CallR.imp (CallR.or SkE.call_str_str call_str_int) fun xs H Q ⟨A, S, g, ds, o, r, q⟩ => by
  unfold kStrT at q
  split at q
  · obtain ⟨v, rfl, h⟩ := rep1 r
    cases h
    exact .inl ⟨_, rfl, KE.val q o (.str _)⟩
  · obtain ⟨v, rfl, h⟩ := rep1 r
    cases h with
    | int i =>
      split at q
      · next hi => exact .inr ⟨_, rfl, hi, KE.val q o (.str _)⟩
      · exact q.elim
  · exact q.elim
theorem cl_intT : CallD X E (.type "int") false kIntT := CallR.imp call_int_str fun xs H Q ⟨A, S, g, ds, o, r, q⟩ => by
  unfold kIntT at q
  split at q
  · rename_i x
    obtain ⟨v, rfl, h⟩ := rep1 r
    cases h
    by_cases c : x.length ≤ 640
    · rw [if_pos c] at q
      obtain ⟨d, e1, q2⟩ := opt_ok (o := (intText? x).map D.int) q
      cases e2 : intText? x with
      | none => rw [e2] at e1; cases e1
      | some n => rw [e2] at e1; cases e1; exact ⟨x, n, rfl, e2, c, KE.val q2 o (.int _)⟩
    · rw [if_neg c] at q; exact q.elim
  · exact q.elim
theorem mulS_kit : OpR X (binaryOp .Mult) (fun x y H Q => ∃ (a : Str) (k : Int), x = .str a ∧ y = .int k ∧ 2 ≤ k ∧ k ≤ 1000 ∧ 0 < a.length ∧ a.length ≤ 1000 ∧ Q (.str (strMul a k)) H) := by
  intro pins s σ H x y v u Q I rx ry h
  obtain ⟨a, k, rfl, rfl, h1, h2, h3, h4, q⟩ := h
  obtain ⟨t, rfl⟩ := rx
  obtain ⟨t', rfl⟩ := ry
  have hz : 1 ≤ a.length * k.toNat ∧ a.length * k.toNat ≤ 1000000 := by
    have h5 : k.toNat ≤ 1000 := by omega
    have h6 : 1 ≤ k.toNat := by omega
    exact ⟨Nat.mul_le_mul h3 h6, Nat.mul_le_mul h4 h5⟩
  have hs : sizeLine = 16777216 := rfl
  refine PySem.P.mul_str ?_ (fun _ _ => ?_) (fun _ _ => ?_) ?_
  · rw [decide_eq_false (by omega), decide_eq_false (by omega)]; rfl
  · intro z
    have : (1000 : Int) ≤ (2 ^ 63 - 1) / k := (Int.le_ediv_iff_mul_le (by omega)).mpr (by omega)
    omega
  · unfold Builtin.Str.tooLong
    rw [decide_eq_false (by omega)]
  · rw [if_neg (by omega)]
    have e : (k == 1 || a.length == 0) = false := by
      rw [show (k == 1) = false from by simpa using (by omega : k ≠ 1), show (a.length == 0) = false from by simpa using (by omega : a.length ≠ 0)]; rfl
    rw [e]
    simp only [Bool.false_eq_true, if_false]
    refine ⟨?_, ⟨.str (strMul a k), H, I.tok _, ⟨_, rfl⟩, q⟩⟩
    show (strMul a k).length ≤ sizeLine
    rw [strMul_len, Nat.mul_comm]; omega
theorem op_mulSD : OpD X E (binaryOp .Mult) false kMulS := OpR.imp mulS_kit fun x y H Q ⟨A, S, g, dx, dy, o, r1, r2, q⟩ => by
  unfold kMulS at q
  split at q
  · rename_i a k
    cases r1
    cases r2
    split at q
    · next c => exact ⟨a, k, rfl, rfl, c.1, c.2.1, c.2.2.1, c.2.2.2, KE.val q o (.str _)⟩
    · exact q.elim
  · exact q.elim
end
end NS
set_option maxHeartbeats 4000000
namespace NS
open PySem PySem.Spec PyProof.Rows L2
def sTryV (cs : List Str) (i j k n : Nat) (d : List D → M D) (fl : DS → M (List D)) : DS → M Fl := fun σ => M.bind (M.noerr (fl σ)) fun ds => fun g => match callN n d ds g with
  | .ok y g' => .ok (.nx (σ.set k (some (.sh y)))) g'
  | .err x g' => if cs.contains x.cls = true then .ok (.nx (((σ.set i none).set j (some (.sh (excD x)))).set i none)) g' else .bad
  | .bad => .bad
section
variable {X : Cx} {E : XK} {e0 : En} {p pos' pos : Pos} {e : Expr} {es : List Expr} {fl : DS → M (List D)}
theorem ds_tryV {x : Str} {st : Stmt} {kk nn : Nat} {ps cs : List Str} {d : List D → M D} {n y z : Str} {ces : List Expr} {kt : Nat} {pc np yp zp apos hpos tpos : Pos} (i j k : Nat) (hM : ∃ ads, ExCs X.K X.mg cs ads) (h : Has X.prog X.w X.K X.mg X.base x st kk ps false d) (hr : RoomG kk X.A)
    (ha : ∀ (pn : List (Addr × Obj)) (xe : Value → Shared → Prop), DL (X.tr pn xe) E0 (e :: es) fl) (hne : NamesE X ces cs)
    (hb : ∀ (kV doc pm : Value) (an : Option Addr) (cdv ct : Value) (us : List Value), us.length = ps.length → bindArgs (PySem.W.fnOf x x (defArgs st) (defBody st) (defScope st) .none kV doc pm an cdv ct) ⟨us, []⟩ = pure (ps.zip us)) (hN : X.N.Nodup)
    (hs : X.stack = X.env :: X.outer := by rfl) (hf : X.env.frame = some X.env.locals := by rfl) (hex : X.ex = [] := by rfl) (hi : X.N[i]? = some n := by rfl) (hj : X.N[j]? = some y := by rfl) (hk : X.N[k]? = some z := by rfl) (hln : X.env.kindOf n = some .local := by rfl) (hly : X.env.scope.names.lookup y = some .local := by rfl) (hlz : X.env.scope.names.lookup z = some .local := by rfl)
    (hnn : (n == ("__debug__" : Str)) = false := by decide) (hnc : (n == ("__classdict__" : Str)) = false := by decide) (hcl : cs.length ≤ 1000 := by decide)
    (hsw : swapsWith (.Name n np) (some (.Name y yp)) apos.line X.env = pure false := by rfl) (hse : swapsWith (.Call (.Name x pos') (e :: es) [] p) (some (.Name z zp)) pos.line X.env = pure false := by rfl)
    (hgl : Gl X x := by rfl) (hdb : (x == ("__debug__" : Str)) = false := by decide) (hst : starEach (e :: es) X.env = (false, eval e X.env) :: starEach es X.env := by rfl) (hpl : (backTo p (starEach es X.env)).any (·.1) = false := by rfl) (hn : ps.length = nn := by rfl) :
    DS1 X E false e0 (.Try [.Assign [.Name z zp] (.Call (.Name x pos') (e :: es) [] p) pos] [.ExceptHandler (some (.Tuple ces kt pc)) (some n) [.Assign [.Name y yp] (.Name n np) apos] hpos] [] [] tpos) (sTryV cs i j k nn d fl) := by
  obtain ⟨f, fd, F, hm, G⟩ := h.ex
  obtain ⟨ads, hC⟩ := hM
  subst hn
  refine PS.impD (ps_tryV (Wout := fun _ _ _ _ => False) hs hf hex hN hi hj hln hly (testC_tup hne hC hcl) LamX.takes0 hnn hnc
    (fun W pn xe tk _ => pss_one (ps_set (X := X.tr pn xe) hN hk (.inl hlz) (pe_callGS (X := X.tr pn xe) (E := WE W) G hr hgl hm F.kp (binds_of F hb) (fun σ => passAt tk σ) (t := tL (Cx.sur X E0) fl) (ha pn xe) hdb hst hpl) hse (.inr hlz))) hsw) fun Z σ H ⟨A, S, g, σd, s, q⟩ => ?_
  have q : KS (Cx.sur X E) false e0 A S (sTryV cs i j k ps.length d fl σd g) Z := q
  unfold sTryV at q
  refine ⟨A, S, g, σd, s.ok, s.rep, ?_⟩
  cases e1 : fl σd g with
  | err z g' => rw [bind_bad (noerr_err e1)] at q; exact q.elim
  | bad => rw [bind_bad (noerr_bad e1)] at q; exact q.elim
  | ok ds g1 =>
    rw [bind_ok (noerr_ok e1)] at q
    intro A1 S1 H1 vs' p1 o1 r1
    have s1 := s.post' p1 o1
    by_cases hl : ds.length = ps.length
    · have ec : callN ps.length d ds = d ds := by unfold callN; rw [if_pos hl]
      rw [ec] at q
      refine ⟨by rw [r1.length]; exact hl, A1, S1, g1, ds, o1, r1, ?_⟩
      show KE ⟨X.mg, X.K, WE _ σ⟩ false A1 S1 H1 (d ds g1) _
      cases e2 : d ds g1 with
      | bad => rw [e2] at q; exact q.elim
      | err z g2 =>
        rw [e2] at q
        have q : KS (Cx.sur X E) false e0 A S (if cs.contains z.cls = true then .ok (.nx (((σd.set i none).set j (some (.sh (excD z)))).set i none)) g2 else .bad) Z := q
        by_cases hz : cs.contains z.cls = true
        · rw [if_pos hz] at q
          intro A2 S2 H2 c dd p2 o2 xr
          obtain ⟨x1, x2, x3⟩ := xr
          obtain ⟨C, hC1, hC2, hC3⟩ := hC.all z.cls (by simpa using hz)
          have x1 : X.mg z.cls = some c := x1
          rw [hC2] at x1
          cases x1
          refine ⟨true, hC3, fun _ hlen a ha => ?_, fun z => nomatch z⟩
          have P3 : Post A2 S2 H2 A2 (upd S2 a (ExVO (.ref C) dd a)) (upd H2 a (ExVO (.ref C) dd a)) := Post.lay ha o2.ext
          have o3 := o2.lay (o := ExVO (.ref C) dd a) ha
          have rx : Rep X.K A2 (upd S2 a (ExVO (.ref C) dd a)) (.ref a) (excD z) := by
            unfold excD
            cases hx' : z.fld with
            | none =>
              have := x2 hx'
              subst this
              exact .exc0 hC1 upd_same
            | some fd =>
              obtain ⟨f', d'⟩ := fd
              obtain ⟨dx, v, e1, e2, e3⟩ := x3 f' d' hx'
              subst e1
              exact .exc1 hC1 upd_same (P3.s _ _ e2) (e3.mono P3.a P3.s)
          have s3 := ((((s1.post' p2 o2).post' P3 o3).unset i (some (.ref a))).setSh rx j).unset i none
          exact q A2 _ _ _ ((p1.a.trans p2.a).trans P3.a) ((p1.s.trans p2.s).trans P3.s) s3
        · rw [if_neg hz] at q; exact q.elim
      | ok dv g2 =>
        rw [e2] at q
        intro A2 S2 H2 v p2 o2 rv
        exact q A2 S2 H2 _ (p1.a.trans p2.a) (p1.s.trans p2.s) ((s1.post' p2 o2).setSh rv k)
    · unfold callN at q
      rw [if_neg hl] at q; exact q.elim
end
def eIsEs (cs ds : List Str) (fe : DS → M D) : DS → M D := fun σ => M.bind (fe σ) fun
  | .exc0 c => if cs.contains c = true then M.pure (.bl (ds.any fun d => exIs c d)) else M.bad
  | .exc1 c _ _ => if cs.contains c = true then M.pure (.bl (ds.any fun d => exIs c d)) else M.bad
  | _ => M.bad
def rIsTO (K : PySem.W.Frag) (vs : List V) (us : List Value) : List V → Hp → VK → Prop := fun xs H Q => ∃ (a C : Addr) (dd : Option Addr) (tp : Addr) (b : Bool), xs = [.ref a, .ref tp] ∧ H tp = some (.tup vs) ∧ H a = some (ExV C dd a) ∧ (∀ dx, dd = some dx → ∃ fs, H dx = some (.xd fs)) ∧
  PySem.W.ExcW K C ∧ PySem.W.kitAny K (.ref C) us = some b ∧ Q (.bl b) H
section
variable {X : Cx} {E : XK} {pos p p1 p2 p3 p5 : Pos} {e : Expr} {fe : DS → M D} {cs ds fs : List Str} {kt : Nat}
theorem call_isTO {vs : List V} {us : List Value} (hv : ∀ ws, Vals vs ws → ws = us) : CallR X (.builtin "isinstance") (rIsTO X.K vs us) := by
  intro pins s σ H xs us' Q I r h
  obtain ⟨a, C, dd, tp, b, rfl, ht, ha, hd, W, e, q⟩ := h
  cases r with
  | cons rx rr =>
    cases rr with
    | cons rt rr =>
      cases rr
      cases rx
      cases rt
      obtain ⟨ox, od, J, _⟩ := exv_inst I ha hd
      obtain ⟨its, rv, ⟨o, ho, hc, n, hdt⟩, _⟩ := I.tuple (.inl (.inl ht))
      have ei := hv _ rv
      obtain ⟨ocls, odict, odata, oslots⟩ := o
      simp only at hc hdt
      subst hc hdt
      rw [← ei] at e
      exact PySem.W.kia_tup (PySem.W.kitx_excO W) I.kIn ⟨ox, od, J⟩ ho e (fun z => nomatch z) fun tk => ⟨.bl b, H, I.kept (t' := tk) fun _ _ z => z, rfl, q⟩
theorem cls_pe {d : Str} (T : ExT X.K X.mg cs ds fs) (hd : d ∈ ds) (hgT : Gl X d) (n1 : d ≠ "__name__") (n2 : (d == ("__debug__" : Str)) = false) :
    ∃ (cv : V) (dv : Value), clsV X.K d = some dv ∧ PE X (.Name d p1) (tC cv) ∧ ∀ u, RelV cv u → u = dv := by
  obtain ⟨dv, hv, hty, hn⟩ := T.nm d hd
  rcases hty with ⟨C, rfl⟩ | ⟨n, rfl⟩
  · rcases hn with hn | ⟨hn, hb⟩
    · exact ⟨.ref C, _, hv, pe_glob hgT hn rfl n2, fun u h => h⟩
    · exact ⟨.ref C, _, hv, pe_bltn hgT hn hb rfl n1 n2, fun u h => h⟩
  · rcases hn with hn | ⟨hn, hb⟩
    · exact ⟨.ty n, _, hv, pe_glob hgT hn rfl n2, fun u h => h⟩
    · exact ⟨.ty n, _, hv, pe_bltn hgT hn hb rfl n1 n2, fun u h => h⟩
theorem kit_any {K : PySem.W.Frag} {t : Value} : ∀ {cvs : List Value} {bs : List Bool}, Paired (fun c b => PySem.W.kitOne K t c = some b) cvs bs → PySem.W.kitAny K t cvs = some (bs.any id)
  | _, _, .nil => rfl
  | _, _, .cons (b := b) h r => kitAny_cons h (fun e => by rw [kit_any r, e]; rfl) fun e => by rw [e]; rfl
theorem de_isEs2 {T1 T2 : Str} (T : ExT X.K X.mg cs ds fs) (hm : X.mg "isinstance" = none) (he : DE X E false e fe) (d1 : T1 ∈ ds := by decide) (g1 : Gl X T1 := by rfl) (a1 : T1 ≠ "__name__" := by decide) (b1 : (T1 == ("__debug__" : Str)) = false := by decide) (d2 : T2 ∈ ds := by decide) (g2 : Gl X T2 := by rfl) (a2 : T2 ≠ "__name__" := by decide) (b2 : (T2 == ("__debug__" : Str)) = false := by decide) (hg : Gl X "isinstance" := by rfl)
    (hs : starEach [e, .Tuple [.Name T1 p1, .Name T2 p2] kt p5] X.env = (false, eval e X.env) :: starEach [.Tuple [.Name T1 p1, .Name T2 p2] kt p5] X.env := by rfl)
    (hs2 : starEach [.Tuple [.Name T1 p1, .Name T2 p2] kt p5] X.env = (false, eval (.Tuple [.Name T1 p1, .Name T2 p2] kt p5) X.env) :: starEach [] X.env := by rfl)
    (s1 : starEach [.Name T1 p1, .Name T2 p2] X.env = (false, eval (.Name T1 p1) X.env) :: starEach [.Name T2 p2] X.env := by rfl)
    (s2 : starEach [.Name T2 p2] X.env = (false, eval (.Name T2 p2) X.env) :: starEach [] X.env := by rfl)
    (hpl : (backTo pos (starEach [.Tuple [.Name T1 p1, .Name T2 p2] kt p5] X.env)).any (·.1) = false := by rfl) :
    DE X E false (.Call (.Name "isinstance" p) [e, .Tuple [.Name T1 p1, .Name T2 p2] kt p5] [] pos) (eIsEs cs [T1, T2] fe) := by
  obtain ⟨cv1, dv1, hv1, pe1, rl1⟩ := cls_pe (p1 := p1) T d1 g1 a1 b1
  obtain ⟨cv2, dv2, hv2, pe2, rl2⟩ := cls_pe (p1 := p2) T d2 g2 a2 b2
  have hV : ∀ ws, Vals [cv1, cv2] ws → ws = [dv1, dv2] := by
    intro ws h
    cases h with
    | cons r1 h =>
      cases h with
      | cons r2 h =>
        cases h
        rw [rl1 _ r1, rl2 _ r2]
  refine PE.impD (pe_callB (call_isTO hV) hg hm (by decide +kernel) (pa_cons he (pa_cons (pe_tup (pa_cons pe1 (pa_cons pe2 pa_nil s2) s1)) pa_nil hs2) hs) (by decide) (by decide) hs hpl) fun σ H Q ⟨A, S, g, σd, o, r, q⟩ => ⟨A, S, g, σd, o, r, (KE.bindE q).imp fun v H1 ⟨A1, S1, g1, x, q0, o1, r1, q1⟩ => ?_⟩
  have go : ∀ c, (x = .exc0 c ∨ ∃ f y, x = .exc1 c f y) → KE (Cx.sur X E) false A1 S1 H1 ((if cs.contains c = true then M.pure (.bl (([T1, T2] : List Str).any fun d => exIs c d)) else M.bad : M D) g1) Q → ∀ tp, H1 tp = none → rIsTO X.K [cv1, cv2] [dv1, dv2] [v, .ref tp] (upd H1 tp (.tup [cv1, cv2])) Q := fun c hx q2 tp htp => by
    by_cases hc : cs.contains c = true
    · rw [if_pos hc] at q2
      have P := Post.lay (A := A1) (o := .tup [cv1, cv2]) htp o1.ext
      have o2 := o1.lay (o := .tup [cv1, cv2]) htp
      obtain ⟨a, C, dd, rfl, h1, h2, h3⟩ := rep_exc o2.ext (Rep.mono P.a P.s r1) hx
      obtain ⟨C', h4, W, hk⟩ := T.own c (by simpa using hc)
      rw [h1] at h4
      cases h4
      obtain ⟨w1, e1, k1⟩ := hk T1 d1
      rw [hv1] at e1; cases e1
      obtain ⟨w2, e2, k2⟩ := hk T2 d2
      rw [hv2] at e2; cases e2
      have ka := kit_any (.cons k1 (.cons k2 .nil))
      refine ⟨a, C, dd, tp, _, rfl, upd_same, h2, h3, W, ka, ?_⟩
      have := KE.val (KE.shift P q2) o2 (.bl _)
      simpa using this
    · rw [if_neg hc] at q2; exact q2.elim
  refine ⟨by show 2 ≤ sizeLine; decide, fun tp htp => ?_⟩
  cases x with
  | exc0 c => exact go c (.inl rfl) q1 tp htp
  | exc1 c f y => exact go c (.inr ⟨f, y, rfl⟩) q1 tp htp
  | _ => exact q1.elim
end
end NS
namespace NS
open PySem PySem.Spec PyProof.Rows L2
def b_Lsource : DS → M Fl :=
  (sSeq (sSet false 2 (eC (.int 0)))
    (sSeq (sIf (eTst (eBin kLt (eVar 1) (eArgs kLen (lCons (eVar 0) lNil))))
    (sSet false 2 (eBin kIx (eVar 0) (eVar 1)))
    sNil)
    (sRetH (eArgs mkL (lCons (eBin kMul (eArgs kAbs (lCons (eVar 2) lNil)) (eArgs kInt (lCons (eBin kGe (eArgs kAbs (lCons (eVar 2) lNil)) (eBin kPow (eC (.int 10)) (eC (.int 18)))) lNil))) (lCons (eBin kMod (eBin kMul (eBin kAdd (eBin kAdd (eBin kMod (eVar 2) (eC (.int 2147483563))) (eBin kMul (eC (.int 90007)) (eVar 1))) (eC (.int 67))) (eC (.int 39971))) (eC (.int 2147483543))) (lCons (eC (.int 0)) lNil)))))))
def d_Lsource : List D → M D := runD 3 false b_Lsource
def b_Ldraw (self : List D → M D) : DS → M Fl :=
  (sSeq (sIf (eTst (eBin kGt (eBin kIx (eVar 0) (eC (.int 0))) (eC (.int 0))))
    (sSeq (sSet false 2 (eBin kMod (eBin kIx (eVar 0) (eC (.int 0))) (eVar 1)))
    (sSeq (sSetIxH 0 (eBin kFdiv (eBin kIx (eVar 0) (eC (.int 0))) (eVar 1)) (eC (.int 0)))
    (sRet (eVar 2))))
    sNil)
    (sSeq (sIf (eTst (eBin kGt (eVar 1) (eBin kPow (eC (.int 10)) (eC (.int 7)))))
    (sRet (eBin kMod (eBin kAdd (eArgs (callN 2 self) (lCons (eVar 0) (lCons (eBin kPow (eC (.int 10)) (eC (.int 7))) lNil))) (eBin kMul (eBin kPow (eC (.int 10)) (eC (.int 7))) (eArgs (callN 2 self) (lCons (eVar 0) (lCons (eBin kAdd (eBin kFdiv (eVar 1) (eBin kPow (eC (.int 10)) (eC (.int 7)))) (eC (.int 1))) lNil))))) (eVar 1)))
    sNil)
    (sSeq (sSetIxH 0 (eBin kAdd (eBin kIx (eVar 0) (eC (.int 2))) (eC (.int 1))) (eC (.int 2)))
    (sSeq (sSet false 3 (eBin kMod (eBin kPow (eBin kAdd (eBin kIx (eVar 0) (eC (.int 1))) (eBin kMul (eC (.int 62003)) (eBin kIx (eVar 0) (eC (.int 2))))) (eC (.int 3))) (eC (.int 2147483579))))
    (sRet (eBin kMod (eBin kFdiv (eBin kMod (eBin kAdd (eBin kMul (eVar 3) (eBin kAdd (eBin kMod (eVar 3) (eC (.int 40009))) (eC (.int 13)))) (eBin kMul (eBin kIx (eVar 0) (eC (.int 2))) (eC (.int 7561)))) (eC (.int 2147483647))) (eC (.int 32))) (eVar 1)))))))
def d_Ldraw : Nat → List D → M D
  | 0 => fun _ => M.bad
  | n + 1 => runD 4 false (b_Ldraw (d_Ldraw n))
def b_Lchoice : DS → M Fl :=
  (sRet (eBin kIx (eVar 1) (eArgs (callN 2 (d_Ldraw 3)) (lCons (eVar 0) (lCons (eArgs kLen (lCons (eVar 1) lNil)) lNil)))))
def d_Lchoice : List D → M D := runD 2 false b_Lchoice
def b_Lequal (self : List D → M D) : DS → M Fl :=
  (sSeq (sIf (eTst (eIsi ["list", "tuple"] (eVar 1)))
    (sSeq (sIf (eOr (eTst (eBin kNe (eIsi ["list"] (eVar 0)) (eIsi ["list"] (eVar 1)))) (eTst (eBin kNe (eIsi ["tuple"] (eVar 0)) (eIsi ["tuple"] (eVar 1)))))
    (sRet (eC (.bl false)))
    sNil)
    (sRet (eAndV (eBin kEq (eArgs kLen (lCons (eVar 0) lNil)) (eArgs kLen (lCons (eVar 1) lNil))) (eArgs (kOfBls fun bs => M.pure (.bl (bs.all id))) (lCons (eComp (iArgs zipK2 (lCons (eVar 0) (lCons (eVar 1) lNil))) [2, 3] (gNs [2, 3]) tYesD (eArgs (callN 2 self) (lCons (eVar 2) (lCons (eVar 3) lNil)))) lNil)))))
    sNil)
    (sSeq (sIf (eOr (eTst (eBin kIs (eVar 1) (eC .non))) (eTst (eIsi ["str"] (eVar 1))))
    (sRet (eAndV (eBin kEq (eVar 0) (eVar 1)) (eBin kEq (eIsi ["str"] (eVar 0)) (eIsi ["str"] (eVar 1)))))
    sNil)
    (sRet (eAndV (eIsi ["int"] (eVar 0)) (eAndV (eBin kEq (eIsi ["bool"] (eVar 0)) (eIsi ["bool"] (eVar 1))) (eBin kEq (eVar 0) (eVar 1)))))))
def d_Lequal : Nat → List D → M D
  | 0 => fun _ => M.bad
  | n + 1 => runD 4 false (b_Lequal (d_Lequal n))
def b_Lfill : DS → M Fl :=
  (sSeq (sPar [2, 3] [true, true] (lCons (eBin kRep (eArgs mkL (lCons (eC .non) lNil)) (eVar 0)) (lCons (eArgs mkL lNil) lNil)))
    (sSeq (sFor (iSeq (eVar 1)) (gN 4)
    (sSeq (sSet false 5 (eBor 2 (eBin kIx (eArgs kMinP (lCons (eComp (iArgs rng1 (lCons (eVar 0) lNil)) [6] (gN 6) (eTst (eBin kIs (eBin kIx (eVar 2) (eVar 6)) (eC .non))) (eArgs mkT (lCons (eArgs kAbs (lCons (eBin kSub (eVar 6) (eVar 4)) lNil)) (lCons (eVar 6) lNil)))) lNil)) (eC (.int 1)))))
    (sSeq (sSetIx 2 (eVar 4) (eVar 5))
    (sOwn 3 kApp (eVar 5)))))
    (sFrz 3 (sFrz 2 (sRet (eArgs mkT (lCons (eArgs kTuple (lCons (eVar 2) lNil)) (lCons (eArgs kTuple (lCons (eVar 3) lNil)) lNil))))))))
def d_Lfill : List D → M D := runD 7 false b_Lfill
def b_Lhopes : DS → M Fl :=
  (sSeq (sPar [2, 3] [false, false] (lCons (eArgs (callN 2 (d_Ldraw 3)) (lCons (eVar 0) (lCons (eVar 1) lNil))) (lCons (eArgs (callN 2 (d_Ldraw 3)) (lCons (eVar 0) (lCons (eC (.int 3)) lNil))) lNil)))
    (sSeq (sSet true 4 (eArgs mkL lNil))
    (sSeq (sFor (iArgs rng1 (lCons (eArgs (callN 2 (d_Ldraw 3)) (lCons (eVar 0) (lCons (eBin kAdd (eVar 1) (eC (.int 1))) lNil))) lNil)) (gN 5)
    (sSeq (sSet false 6 (eIf (eTst (eBin kGt (eVar 3) (eC (.int 0)))) (eArgs (callN 2 (d_Ldraw 3)) (lCons (eVar 0) (lCons (eVar 1) lNil))) (eBin kSub (eBin kAdd (eVar 2) (eArgs (callN 2 (d_Ldraw 3)) (lCons (eVar 0) (lCons (eC (.int 3)) lNil)))) (eC (.int 1)))))
    (sOwn 4 kApp (eArgs kMax2 (lCons (eC (.int 0)) (lCons (eArgs kMin2 (lCons (eBin kSub (eVar 1) (eC (.int 1))) (lCons (eVar 6) lNil))) lNil))))))
    (sRetO 4))))
def d_Lhopes : List D → M D := runD 7 true b_Lhopes
def b_Lveiled : DS → M Fl :=
  (sSeq (sSet false 2 (eArgs (callN 2 d_Lchoice) (lCons (eVar 0) (lCons (eArgs mkL (lCons (eC (.int 0)) (lCons (eC (.int 2)) (lCons (eC (.int 5)) (lCons (eC (.int 8)) lNil))))) lNil))))
    (sRet (eArgs kTuple (lCons (eComp (iSeq (eVar 1)) [3] (gN 3) tYesD (eIf (eAnd (eTst (eBin kIsNot (eVar 3) (eC .non))) (eTst (eBin kLt (eArgs (callN 2 (d_Ldraw 3)) (lCons (eVar 0) (lCons (eC (.int 9)) lNil))) (eVar 2)))) (eC (.str "?")) (eVar 3))) lNil))))
def d_Lveiled : List D → M D := runD 4 false b_Lveiled
def b_Lcase : DS → M Fl :=
  (sSeq (sSet false 2 (eBin kAdd (eC (.int 1)) (eArgs (callN 2 (d_Ldraw 3)) (lCons (eVar 0) (lCons (eVar 1) lNil)))))
    (sSeq (sAsg (eArgs (callN 2 d_Lfill) (lCons (eVar 2) (lCons (eArgs (callN 2 d_Lhopes) (lCons (eVar 0) (lCons (eVar 2) lNil))) lNil))) (gNs [3, 4]))
    (sRet (eArgs mkT (lCons (eArgs (callN 2 d_Lveiled) (lCons (eVar 0) (lCons (eVar 3) lNil))) (lCons (eVar 4) lNil))))))
def d_Lcase : List D → M D := runD 5 false b_Lcase
def b_Lspoiled : DS → M Fl :=
  (sSeq (sSet true 2 (eArgs kList (lCons (eVar 1) lNil)))
    (sSeq (sFor (iArgs rng1 (lCons (eBin kAdd (eC (.int 1)) (eArgs (callN 2 (d_Ldraw 3)) (lCons (eVar 0) (lCons (eC (.int 3)) lNil)))) lNil)) (gN 3)
    (sSetIx 2 (eArgs (callN 2 d_Lchoice) (lCons (eVar 0) (lCons (eBin kAdd (eBin kMul (eLRg (r1D (eArgs kLen (lCons (eVar 1) lNil)))) (eC (.int 2))) (eArgs mkL (lCons (eC .non) (lCons (eC (.str "?")) lNil)))) lNil))) (eArgs (callN 2 (d_Ldraw 3)) (lCons (eVar 0) (lCons (eArgs kLen (lCons (eVar 1) lNil)) lNil)))))
    (sFrz 2 (sRet (eArgs kTuple (lCons (eVar 2) lNil))))))
def d_Lspoiled : List D → M D := runD 4 false b_Lspoiled
def b_Lany : DS → M Fl :=
  (sSeq (sAsg (eArgs (callN 2 d_Lcase) (lCons (eVar 0) (lCons (eVar 1) lNil))) (gNs [2, 3]))
    (sRet (eIf (eTst (eBin kEq (eArgs (callN 2 (d_Ldraw 3)) (lCons (eVar 0) (lCons (eC (.int 2)) lNil))) (eC (.int 0)))) (eArgs (callN 2 d_Lspoiled) (lCons (eVar 0) (lCons (eVar 2) lNil))) (eVar 2))))
def d_Lany : List D → M D := runD 4 false b_Lany
def b_is_decimal : DS → M Fl :=
  (sSeq (sIf (eOr (eTst (eBin kEq (eVar 0) (eC (.str "")))) (eNot (eTst (eArgs (kOfBls fun bs => M.pure (.bl (bs.all id))) (lCons (eComp (iTxt (eVar 0)) [1] (gN 1) tYesD (eBin kIn (eVar 1) (eC (.str "0123456789")))) lNil)))))
    (sRet (eC (.bl false)))
    sNil)
    (sRet (eOrV (eBin kEq (eVar 0) (eC (.str "0"))) (eBin kNe (eBin kIx (eVar 0) (eC (.int 0))) (eC (.str "0"))))))
def d_is_decimal : List D → M D := runD 2 false b_is_decimal
def b_table_text : DS → M Fl :=
  (sRet (eStrM kJoin (eC (.str " ")) (eComp (iSeq (eVar 0)) [1] (gN 1) tYesD (eIf (eTst (eBin kIs (eVar 1) (eC .non))) (eC (.str "-")) (eArgs kStrT (lCons (eVar 1) lNil))))))
def d_table_text : List D → M D := runD 2 false b_table_text
def b_entry_in : DS → M Fl :=
  (sSeq (sIf (eTst (eBin kIn (eVar 1) (eArgs mkT (lCons (eC (.str "-")) (lCons (eC (.str "?")) lNil)))))
    (sRet (eArgs mkT (lCons (eC (.bl true)) (lCons (eIf (eTst (eBin kEq (eVar 1) (eC (.str "-")))) (eC .non) (eC (.str "?"))) lNil))))
    sNil)
    (sSeq (sIf (eAnd (eTst (eArgs (callN 1 d_is_decimal) (lCons (eVar 1) lNil))) (eAnd (eTst (eBin kLe (eArgs kLen (lCons (eVar 1) lNil)) (eArgs kLen (lCons (eArgs kStrT (lCons (eVar 0) lNil)) lNil)))) (eTst (eBin kLt (eArgs kIntT (lCons (eVar 1) lNil)) (eVar 0)))))
    (sRet (eArgs mkT (lCons (eC (.bl true)) (lCons (eArgs kIntT (lCons (eVar 1) lNil)) lNil))))
    sNil)
    (sRet (eArgs mkT (lCons (eC (.bl false)) (lCons (eC .non) lNil))))))
def d_entry_in : List D → M D := runD 2 false b_entry_in
def b_table_in : DS → M Fl :=
  (sSeq (sSet false 1 (eStrM kSplit (eVar 0) (eC (.str " "))))
    (sSeq (sSet true 2 (eArgs mkL lNil))
    (sSeq (sFor (iArgs enumK (lCons (eVar 1) lNil)) (gNs [3, 4])
    (sSeq (sAsg (eArgs (callN 2 d_entry_in) (lCons (eArgs kLen (lCons (eVar 1) lNil)) (lCons (eVar 4) lNil))) (gNs [5, 6]))
    (sSeq (sIf (eNot (eTst (eVar 5)))
    (sRaise1 "BadText" "entry" (eVar 3))
    sNil)
    (sOwn 2 kApp (eVar 6)))))
    (sFrz 2 (sRet (eArgs kTuple (lCons (eVar 2) lNil)))))))
def d_table_in : List D → M D := runD 7 false b_table_in
def b_Ldecimal : DS → M Fl :=
  (sRet (eAndV (eBin kNe (eVar 0) (eC (.str ""))) (eAndV (eBin kEq (eStrM kStrip (eVar 0) (eC (.str "0123456789"))) (eC (.str ""))) (eBin kEq (eArgs kStrT (lCons (eArgs kIntT (lCons (eVar 0) lNil)) lNil)) (eVar 0)))))
def d_Ldecimal : List D → M D := runD 1 false b_Ldecimal
def b_Ltext_changed : DS → M Fl :=
  (sSeq (sPar [2, 3, 4] [false, false, false] (lCons (eArgs (callN 2 (d_Ldraw 3)) (lCons (eVar 0) (lCons (eBin kAdd (eArgs kLen (lCons (eVar 1) lNil)) (eC (.int 1))) lNil))) (lCons (eArgs (callN 2 (d_Ldraw 3)) (lCons (eVar 0) (lCons (eC (.int 8)) lNil))) (lCons (eArgs (callN 2 d_Lchoice) (lCons (eVar 0) (lCons (eC (.str "0123456789 -+_.a(")) lNil))) lNil))))
    (sSeq (sIf (eTst (eBin kEq (eVar 3) (eC (.int 0))))
    (sRet (eBin kAdd (eBin kAdd (eSl kSl (eVar 1) oNone (oSome (eVar 2))) (eVar 4)) (eSl kSl (eVar 1) (oSome (eVar 2)) oNone)))
    sNil)
    (sSeq (sIf (eTst (eBin kEq (eVar 3) (eC (.int 1))))
    (sRet (eBin kAdd (eSl kSl (eVar 1) oNone (oSome (eVar 2))) (eSl kSl (eVar 1) (oSome (eBin kAdd (eVar 2) (eC (.int 1)))) oNone)))
    sNil)
    (sSeq (sIf (eTst (eBin kEq (eVar 3) (eC (.int 2))))
    (sRet (eBin kAdd (eBin kAdd (eSl kSl (eVar 1) oNone (oSome (eVar 2))) (eVar 4)) (eSl kSl (eVar 1) (oSome (eBin kAdd (eVar 2) (eC (.int 1)))) oNone)))
    sNil)
    (sSeq (sSet false 5 (eIf (eTst (eBin kGt (eVar 3) (eC (.int 5)))) (eC (.str "\n")) (eC (.str " "))))
    (sSeq (sSet false 6 (eStrM kSplit (eVar 1) (eVar 5)))
    (sSeq (sSet false 7 (eArgs (callN 2 (d_Ldraw 3)) (lCons (eVar 0) (lCons (eArgs kLen (lCons (eVar 6) lNil)) lNil))))
    (sSeq (sIf (eTst (eBin kEq (eBin kMod (eVar 3) (eC (.int 3))) (eC (.int 0))))
    (sRet (eStrM kJoin (eVar 5) (eBin kAdd (eSl kSl (eVar 6) oNone (oSome (eVar 7))) (eSl kSl (eVar 6) (oSome (eBin kAdd (eVar 7) (eC (.int 1)))) oNone))))
    sNil)
    (sSeq (sIf (eTst (eBin kEq (eBin kMod (eVar 3) (eC (.int 3))) (eC (.int 1))))
    (sRet (eStrM kJoin (eVar 5) (eBin kAdd (eSl kSl (eVar 6) oNone (oSome (eBin kAdd (eVar 7) (eC (.int 1))))) (eSl kSl (eVar 6) (oSome (eVar 7)) oNone))))
    sNil)
    (sSeq (sSet false 8 (eRev (eSl kSl (eVar 6) (oSome (eVar 7)) (oSome (eBin kAdd (eVar 7) (eC (.int 2)))))))
    (sRet (eStrM kJoin (eVar 5) (eBin kAdd (eBin kAdd (eSl kSl (eVar 6) oNone (oSome (eVar 7))) (eVar 8)) (eSl kSl (eVar 6) (oSome (eBin kAdd (eVar 7) (eC (.int 2)))) oNone))))))))))))))
def d_Ltext_changed : List D → M D := runD 9 false b_Ltext_changed
def b_Lwritten : DS → M Fl :=
  (sRet (eStrM kJoin (eC (.str " ")) (eComp (iSeq (eVar 0)) [1] (gN 1) tYesD (eIf (eTst (eBin kIs (eVar 1) (eC .non))) (eC (.str "-")) (eArgs kStrT (lCons (eVar 1) lNil))))))
def d_Lwritten : List D → M D := runD 2 false b_Lwritten
def b_Lread : DS → M Fl :=
  (sSeq (sSet false 1 (eStrM kSplit (eVar 0) (eC (.str " "))))
    (sSeq (sSet true 2 (eArgs mkL lNil))
    (sSeq (sFor (iArgs enumK (lCons (eVar 1) lNil)) (gNs [3, 4])
    (sIf (eOr (eTst (eBin kEq (eVar 4) (eC (.str "-")))) (eTst (eBin kEq (eVar 4) (eC (.str "?")))))
    (sOwn 2 kApp (eIf (eTst (eBin kEq (eVar 4) (eC (.str "-")))) (eC .non) (eC (.str "?"))))
    (sIf (eAnd (eTst (eArgs (callN 1 d_Ldecimal) (lCons (eVar 4) lNil))) (eTst (eBin kLt (eArgs kIntT (lCons (eVar 4) lNil)) (eArgs kLen (lCons (eVar 1) lNil)))))
    (sOwn 2 kApp (eArgs kIntT (lCons (eVar 4) lNil)))
    (sRet (eVar 3)))))
    (sFrz 2 (sRet (eArgs kTuple (lCons (eVar 2) lNil)))))))
def d_Lread : List D → M D := runD 5 false b_Lread
def b_Ltold_v3 : DS → M Fl :=
  (sSeq (sPar [1, 2] [false, false] (lCons (eC .non) (lCons (eC .non) lNil)))
    (sSeq (sTryV ["BadLine", "BadText", "NoObject"] 3 2 1 1 d_table_in (lCons (eVar 0) lNil))
    (sSeq (sIf (eTst (eBin kIs (eVar 2) (eC .non)))
    (sRet (eVar 1))
    sNil)
    (sSeq (sSet false 4 (eAndV (eIsE ["BadLine", "BadText", "NoObject"] "BadText" (eVar 2)) (eIsE ["BadLine", "BadText", "NoObject"] "ValueError" (eVar 2))))
    (sRet (eIf (eAnd (eTst (eVar 4)) (eNot (eTst (eIsEs ["BadLine", "BadText", "NoObject"] ["BadLine", "NoObject"] (eVar 2))))) (eFld ["BadLine", "BadText", "NoObject"] "entry" (eVar 2)) (eC .non)))))))
def d_Ltold_v3 : List D → M D := runD 5 false b_Ltold_v3
end NS
namespace NS
open PySem PySem.Spec PyProof.Rows L2
theorem ints_repL {K : PySem.W.Frag} {A : List GAdr} {S : Hp} : ∀ ns : List Int, RepL K A S (ns.map V.int) (ns.map D.int)
  | [] => .nil
  | n :: ns => .cons (.int n) (ints_repL ns)
def topH (K : PySem.W.Frag) (a : Addr) (o : Obj) (xs : List V) : Hp := fun b => if b = a ∧ K.lookup a = none then some (.frz o (.lst xs)) else none
theorem topH_in {K : PySem.W.Frag} {a b : Addr} {o : Obj} {xs : List V} {u : HO} (h : topH K a o xs b = some u) : b = a ∧ K.lookup a = none ∧ u = .frz o (.lst xs) := by
  unfold topH at h
  split at h
  · rename_i c; cases h; exact ⟨c.1, c.2, rfl⟩
  · cases h
theorem law_callG {P : Program} {w : World} {K : PySem.W.Frag} {mg mb : Str → Option Value} {CX : CXT} {k : Nat} {fa a : Addr} {fd : FuncData} {x : Str} {sp : Sp} {s₁ : Shared} {vs : List Value} {ns : List Int}
    (KX : K.In s₁.heap) (hns : s₁.heap.Ns mainGlobals mg) (hb : s₁.heap.Ns builtinsNs mb) (hbb : ∀ x : Str, x ≠ "__name__" → mb x = bootBuiltins x) (hlim : s₁.heap.NoLimit) (hg : s₁.gens = #[])
    (ha : s₁.heap.get? a = some { cls := .type "list", data := .seq vs.toArray }) (hi : IntsAre vs ns) (hl : ns.length ≤ sizeLine) (hr : RoomG k callerA)
    (F : ∀ base : Heap, K.In base → base.Ns mainGlobals mg → FnOkG P w K mg base CX k fa fd [x] sp) (hbind : ∀ (s : Shared) (u : Value), BindsTo s fd ⟨[u], []⟩ [(x, u)])
    (hsp : ∀ H : Hp, SqL K H a (ns.map V.int) → sp [.ref a] H (fun v _ => v = .bl true) fun _ _ _ => False)
    (hCX : ∀ H e s', CX [] H s₁ (fun _ _ _ => False) e s' → False) :
    codeAny (model P w) callerA (.call (.ref fa) ⟨[.ref a], []⟩) (fun r s' => r = .ok (.ret (.bool true)) ∧ OldK s₁.heap s'.heap ∧ s'.os = s₁.os ∧ AllBare s'.gens) s₁ := by
  have rv := vals_ints hi
  have nl : (ns.map V.int).length ≤ sizeLine := by rw [List.length_map]; exact hl
  generalize hH : topH K a { cls := .type "list", data := .seq vs.toArray } (ns.map V.int) = H
  have tk : ∀ {b u}, H b = some u → b = a ∧ K.lookup a = none ∧ u = .frz { cls := .type "list", data := .seq vs.toArray } (.lst (ns.map V.int)) := fun {b u} h => topH_in (by rw [hH]; exact h)
  have un : ∀ {b}, (b = a → K.lookup a = none → False) → H b = none := fun {b} h => by
    cases e : H b with
    | none => rfl
    | some u => exact (h (tk e).1 (tk e).2.1).elim
  have keep : ∀ {b o}, s₁.heap.get? b = some o → (b = a → K.lookup a = none → False) → (hidT s₁.heap H).get? b = some o := fun e h => hidT_get e (un h)
  have ns_ : ∀ {b m}, s₁.heap.Ns b m → (hidT s₁.heap H).Ns b m := fun {b m} ⟨o, es, ep, e, d, r⟩ => ⟨o, es, ep, keep e (fun z _ => (by subst z; rw [ha] at e; cases e; cases d)), d, r⟩
  have kb : K.In (hidT s₁.heap H) := fun b o e => keep (KX b o e) fun z n => by subst z; rw [n] at e; cases e
  have md : Mod K mg (hidT s₁.heap H) := ⟨kb, ns_ hns, ⟨mb, ns_ hb, hbb⟩, by obtain ⟨mc, h1, h2⟩ := hlim; exact ⟨mc, ns_ h1, h2⟩⟩
  have hok : HOk P w H s₁.heap := fun b u e => by obtain ⟨rfl, _, rfl⟩ := tk e; exact ⟨ha, nl, vs, _, rv, ha⟩
  have sq : SqL K H a (ns.map V.int) := by
    cases hk : K.lookup a with
    | none => exact .inl (.inr ⟨_, by rw [← hH]; exact if_pos ⟨rfl, hk⟩⟩)
    | some o =>
      have e := KX a o hk
      rw [ha] at e; cases e
      exact .inr ⟨_, vs.toArray, _, hk, rfl, rfl, rfl, by rw [List.size_toArray, ← rv.length]; exact nl, rv⟩
  have e0 : Env0 P w K mg (hidT s₁.heap H) callerA [] s₁ H := ⟨rfl, md, fun b o e => of_hidT e, Nat.le_of_eq (hidT_size _ _), trivial, fun b z => absurd (show b ∈ ([] : List Addr) from z) (by simp), hok, .of_eq hg⟩
  refine codeAny_mono ((F _ kb (ns_ hns)).run callerA [] s₁ H ⟨[.ref a], []⟩ [.ref a] [.ref a] _ _ hr e0 (hbind s₁ (.ref a)) (.cons rfl .nil) (hsp H sq)) fun r s' h => ?_
  match r, h with
  | .error e, h => exact (hCX H e s' h).elim
  | .ok (.ret u), ⟨v, H', os, bare, u2, hok', r', q⟩ =>
    have q : v = .bl true := q
    subst q
    have r' : u = Value.bool true := r'
    subst r'
    refine ⟨rfl, OldK.of_keep fun b o e => ?_, os, bare⟩
    cases q : H b with
    | none => exact u2.keep b o e q (fun z => absurd (show b ∈ ([] : List Addr) from z) (by simp)) (by simp)
    | some u =>
      obtain ⟨rfl, _, rfl⟩ := tk q
      have e2 := (hok' _ _ (u2.frzs _ _ _ q)).1
      rw [ha] at e; cases e
      exact e2
theorem walk_E {l : PySem.W.OpenLaw} {n k : Nat} {q : Program} {loose : List Str} {XP : (Str → Option Value) → Heap → Prop} {YP : World → Heap → Prop} {d : DefRec} {K : Params → PySem.W.Frag} {x : Str} {m : Bool} {f : List D → M D}
    (hn : l.most = some n) (hn2 : n ≤ sizeLine) (hdf : d.params.defaults = []) (hr : RoomG k callerA)
    (hY : ∀ (w : World) (h : Heap), YP w h → (K w.params).In h)
    (F : ∀ (w : World) (mg : Str → Option Value) (fa : Addr) (h : Heap), (K w.params).In h → h.Ns mainGlobals mg → mg d.name = some (.ref fa) →
      ∃ fd : FuncData, (∀ (s : Shared) (u : Value), BindsTo s fd ⟨[u], []⟩ [(x, u)]) ∧
        ∀ base : Heap, (K w.params).In base → base.Ns mainGlobals mg → FnOkG l.prog w (K w.params) mg base (XC l.prog w) k fa fd [x] (spD mg (K w.params) 1 m f))
    (hd : ∀ ns : List Int, ns.length ≤ n → ∃ g', f [.slst (ns.map .int)] [] = .ok (.bl true) g') (hm : m = false := by rfl) :
    PySem.W.WalkO q loose XP YP l.row.toRowW d [] (fun f vs => PySem.call f vs) := by
  subst hm
  refine Att.attach_call hn hdf fun w s₀ s₁ mg mb fa o pm cd doc a vs ns G Y ho hd' hcd hmg hobj hints hlen hg => ?_
  have KX := hY w _ Y
  obtain ⟨fd, hb, hF⟩ := F w mg fa _ KX G.T.g hmg
  refine law_callG KX G.T.g G.T.b G.T.builtins G.T.nolimit hg hobj hints (Nat.le_trans hlen hn2) hr hF hb (fun H hS => ?_) fun H e s' h => ?_
  · refine ⟨rfl, [], H, [], [.slst (ns.map .int)], ⟨Same.refl _, rfl, fun k ga c e => ?_, List.nodup_nil, fun x hx => ?_⟩, .cons (.slst hS (ints_repL ns)) .nil, ?_⟩
    · simp at e
    · simp [gfp] at hx
    · obtain ⟨g', e⟩ := hd ns hlen
      rw [e]
      intro A' S' H' v P o r
      have r : Rep (K w.params) A' S' v (.bl true) := r
      cases r
      rfl
  · obtain ⟨_, _, _, _, _, _, _, _, _, _, _, _, h⟩ := h
    exact h
end NS
set_option maxHeartbeats 4000000
namespace NS
open PySem PySem.Spec PyProof.Rows L2
def topS (i : Nat) : Stmt := PySem.Challenge.pw_nearslot_k39_texts_of_tables.main.body.getD i (.Pass ⟨0, 0, 0, 0⟩)
abbrev s_BadText : Stmt := iniOf (topS 1)
theorem sc_BadText : FnScope ["self", "entry"] ["self", "entry"] (defScope s_BadText) := ⟨rfl, rfl, rfl, by decide +kernel, rfl, by decide +kernel, by decide +kernel⟩
theorem ex_BadText {P : Program} {w : World} {K : PySem.W.Frag} {mg : Str → Option Value} {base : Heap} {C fI : Addr} {fd : FuncData} (hm : mg "BadText" = some (.ref C)) (T : OexG K C "ValueError.__new__" [.type "ValueError", .type "Exception", .type "BaseException", .type "object"]) (hi : PySem.W.findIn K (.ref C) "__init__" = some (some (.ref fI))) (ht : PySem.W.typeIn K (.ref fI) = some (.type "function")) (hno : PySem.W.findIn K (.ref C) "entry" = some none) (F : L2.Fun K "__init__" "BadText.__init__" s_BadText fI fd)
    (n_ValueError : mg "ValueError" = none) (vV : PySem.W.findCls K (.type "ValueError") (.type "type") "__init__" = some (.val (.builtin "ValueError.__init__"))) : Ex1 P w K mg base "BadText" "entry" :=
  Ex1.mk' xb_VE T hm hi ht hno F sc_BadText (fun _ _ _ _ _ _ us hl => match us, hl with | [_, _], _ => rfl) fun cdv A outer s H E => ⟨"an entry is not part of the text of a table", pss_cons (ps_expr (pe_exI xb_VE rfl n_ValueError rfl vV (pa_cons (pe_var (i := 0) rfl (.inl rfl)) (pa_cons pe_str pa_nil)) rfl)) (pss_one (ps_exS xb_VE (pe_var (i := 0) rfl (.inl rfl)) (pe_var (i := 1) rfl (.inl rfl))))⟩
abbrev s_is_decimal : Stmt := topS 8
theorem sc_is_decimal : FnScope ["word", "sign"] ["word"] (defScope s_is_decimal) := ⟨rfl, rfl, rfl, by decide +kernel, rfl, by decide +kernel, by decide +kernel⟩
theorem ok_is_decimal {P : Program} {w : World} {K : PySem.W.Frag} {mg : Str → Option Value} {base : Heap} (a_is_decimal : At K mg "is_decimal" s_is_decimal) (n_all : mg "all" = none) : Has P w K mg base "is_decimal" s_is_decimal 1 ["word"] false d_is_decimal :=
  Has.mk' (k := 0) a_is_decimal sc_is_decimal fun f cdv A outer s H E e0 hr hx hp =>
    (ds_cons (ds_if (dt_w (dw_or (dt_cmp (op_eqDD (room64 hr)) (de_var 0) de_str) (dw_or1 (dt_not (dt_val (de_callB cl_all n_all (dl_cons (de_comp (m := false) (own := [("sign", 1)]) sc_is_decimal.nd (di_txt (de_var 0)) (blkOk_by (by kernel_rfl)) (gN_noerr 1) (fun _ _ _ _ _ => (dg_name (i := 1) sc_is_decimal.nd)) (fun _ _ _ _ _ => dts_nil) (fun _ _ _ _ _ => (de_cmp (op_inDD (room65 hr)) (de_var 1) de_str))) dl_nil)))))))
    (ds_one (ds_ret de_bl))
    ds_nil)
    (ds_one (ds_ret (de_or (de_cmp (op_eqDD (room64 hr)) (de_var 0) de_str) (de_or1 (de_cmp (op_neDD (room64 hr)) (de_ix (de_var 0) de_int) de_str))))))
abbrev s_table_text : Stmt := topS 9
theorem sc_table_text : FnScope ["table", "entry"] ["table"] (defScope s_table_text) := ⟨rfl, rfl, rfl, by decide +kernel, rfl, by decide +kernel, by decide +kernel⟩
theorem ok_table_text {P : Program} {w : World} {K : PySem.W.Frag} {mg : Str → Option Value} {base : Heap} (a_table_text : At K mg "table_text" s_table_text) (n_str : mg "str" = none) (c_EMPTY : GStr mg "EMPTY" "-") (c_SPACE : GStr mg "SPACE" " ") : Has P w K mg base "table_text" s_table_text 1 ["table"] false d_table_text :=
  Has.mk' (k := 0) a_table_text sc_table_text fun f cdv A outer s H E e0 hr hx hp =>
    (ds_one (ds_ret (de_join (de_gstr c_SPACE) (de_comp (m := false) (own := [("entry", 1)]) sc_table_text.nd (di_seq (de_var 0)) (blkOk_by (by kernel_rfl)) (gN_noerr 1) (fun _ _ _ _ _ => (dg_name (i := 1) sc_table_text.nd)) (fun _ _ _ _ _ => dts_nil) (fun _ _ _ _ _ => (de_if (dt_cmp op_isD (de_var 1) de_non) (de_gstr c_EMPTY) (de_callTy cl_strT n_str (dl_cons (de_var 1) dl_nil))))))))
abbrev s_entry_in : Stmt := topS 10
theorem sc_entry_in : FnScope ["size", "word"] ["size", "word"] (defScope s_entry_in) := ⟨rfl, rfl, rfl, by decide +kernel, rfl, by decide +kernel, by decide +kernel⟩
theorem ok_entry_in {P : Program} {w : World} {K : PySem.W.Frag} {mg : Str → Option Value} {base : Heap} (a_entry_in : At K mg "entry_in" s_entry_in) (n_int : mg "int" = none) (n_len : mg "len" = none) (n_str : mg "str" = none) (c_EMPTY : GStr mg "EMPTY" "-") (c_UNKNOWN : GStr mg "UNKNOWN" "?") (h_is_decimal : Has P w K mg base "is_decimal" s_is_decimal 1 ["word"] false d_is_decimal) : Has P w K mg base "entry_in" s_entry_in 2 ["size", "word"] false d_entry_in :=
  Has.mk' (k := 1) a_entry_in sc_entry_in fun f cdv A outer s H E e0 hr hx hp =>
    (ds_cons (ds_if (dt_cmp (op_inDD (room65 hr)) (de_var 1) (de_tup (dl_cons (de_gstr c_EMPTY) (dl_cons (de_gstr c_UNKNOWN) dl_nil))))
    (ds_one (ds_ret (de_tup (dl_cons de_bl (dl_cons (de_if (dt_cmp (op_eqDD (room64 hr)) (de_var 1) (de_gstr c_EMPTY)) de_non (de_gstr c_UNKNOWN)) dl_nil)))))
    ds_nil)
    (ds_cons (ds_if (dt_w (dw_and (dt_val (de_fn h_is_decimal (by exact hr.mono (by omega)) (by exact hx) (dl_cons (de_var 1) dl_nil) (by exact fun _ _ _ _ _ _ us hl => match us, hl with | [_], _ => rfl))) (dw_and (dt_cmp op_leD (de_callB cl_len n_len (dl_cons (de_var 1) dl_nil)) (de_callB cl_len n_len (dl_cons (de_callTy cl_strT n_str (dl_cons (de_var 0) dl_nil)) dl_nil))) (dw_and1 (dt_cmp (op_ltD (room0 hr)) (de_callTy cl_intT n_int (dl_cons (de_var 1) dl_nil)) (de_var 0))))))
    (ds_one (ds_ret (de_tup (dl_cons de_bl (dl_cons (de_callTy cl_intT n_int (dl_cons (de_var 1) dl_nil)) dl_nil)))))
    ds_nil)
    (ds_one (ds_ret (de_tup (dl_cons de_bl (dl_cons de_non dl_nil)))))))
abbrev s_table_in : Stmt := topS 11
theorem sc_table_in : FnScope ["text", "words", "found", "at", "word", "is_written", "entry"] ["text"] (defScope s_table_in) := ⟨rfl, rfl, rfl, by decide +kernel, rfl, by decide +kernel, by decide +kernel⟩
theorem ok_table_in {P : Program} {w : World} {K : PySem.W.Frag} {mg : Str → Option Value} {base : Heap} (a_table_in : At K mg "table_in" s_table_in) (n_enumerate : mg "enumerate" = none) (n_len : mg "len" = none) (n_tuple : mg "tuple" = none) (c_SPACE : GStr mg "SPACE" " ") (x_BadText : Ex1 P w K mg base "BadText" "entry") (hK : K.In base) (hN : base.Ns mainGlobals mg) (h_entry_in : Has P w K mg base "entry_in" s_entry_in 2 ["size", "word"] false d_entry_in) : Has P w K mg base "table_in" s_table_in 3 ["text"] false d_table_in :=
  Has.mkX (k := 2) a_table_in sc_table_in hK hN fun f cdv A outer s H E e0 hr hx hp htk hcd =>
    (ds_cons (ds_set (m1 := false) (i := 1) sc_table_in.nd (de_split (m := false) (de_var 0) (de_gstr c_SPACE)))
    (ds_cons (ds_set (m1 := true) (i := 2) sc_table_in.nd (de_lst (m := true) dl_nil))
    (ds_cons (ds_for (vs := [3, 4]) hp (di_enum n_enumerate (dl_cons (de_var 1) dl_nil)) (dg_tup (pgs_consN (i := 3) sc_table_in.nd (pgs_consN (i := 4) sc_table_in.nd pgs_nilN))) (tg_names [3, 4])
    (ds_cons (ds_asg (vs := [5, 6]) (de_fn h_entry_in (by exact hr.mono (by omega)) (by exact hx) (dl_cons (de_callB cl_len n_len (dl_cons (de_var 1) dl_nil)) (dl_cons (de_var 4) dl_nil)) (by exact fun _ _ _ _ _ _ us hl => match us, hl with | [_, _], _ => rfl)) (dg_tup (pgs_consN (i := 5) sc_table_in.nd (pgs_consN (i := 6) sc_table_in.nd pgs_nilN))) (tg_names [5, 6]))
    (ds_cons (ds_if (dt_not (dt_val (de_var 5)))
    (ds_one (ds_raise1 x_BadText (by exact hr.mono (by omega)) htk (de_var 3)))
    ds_nil)
    (ds_one (ds_append 2 (de_var 6))))))
    (ds_one (ds_frz 2 (ds_ret (de_callTy cl_tuple n_tuple (dl_cons (de_var 2) dl_nil))))))))
abbrev s_Lsource : Stmt := topS 13
theorem sc_Lsource : FnScope ["_law_script", "_law_index", "_law_core"] ["_law_script", "_law_index"] (defScope s_Lsource) := ⟨rfl, rfl, rfl, by decide +kernel, rfl, by decide +kernel, by decide +kernel⟩
theorem ok_Lsource {P : Program} {w : World} {K : PySem.W.Frag} {mg : Str → Option Value} {base : Heap} (a_Lsource : At K mg "_law_source" s_Lsource) (n_abs : mg "abs" = none) (n_int : mg "int" = none) (n_len : mg "len" = none) : Has P w K mg base "_law_source" s_Lsource 1 ["_law_script", "_law_index"] false d_Lsource :=
  Has.mk' (k := 0) a_Lsource sc_Lsource fun f cdv A outer s H E e0 hr hx hp =>
    (ds_cons (ds_set (m1 := false) (i := 2) sc_Lsource.nd de_int)
    (ds_cons (ds_if (dt_cmp (op_ltD (room0 hr)) (de_var 1) (de_callB cl_len n_len (dl_cons (de_var 0) dl_nil)))
    (ds_one (ds_set (m1 := false) (i := 2) sc_Lsource.nd (de_ix (de_var 0) (de_var 1))))
    ds_nil)
    (ds_one (ds_retH (de_lst (m := true) (dl_cons (de_bin op_mulD (de_callB cl_abs n_abs (dl_cons (de_var 2) dl_nil)) (de_callTy cl_int n_int (dl_cons (de_cmp op_geD (de_callB cl_abs n_abs (dl_cons (de_var 2) dl_nil)) (de_bin op_powD de_int de_int)) dl_nil))) (dl_cons (de_bin op_modD (de_bin op_mulD (de_bin op_addD (de_bin op_addD (de_bin op_modD (de_var 2) de_int) (de_bin op_mulD de_int (de_var 1))) de_int) de_int) de_int) (dl_cons de_int dl_nil))))))))
abbrev s_Ldraw : Stmt := topS 14
theorem sc_Ldraw : FnScope ["_law_source_here", "_law_bound", "_law_found", "_law_once"] ["_law_source_here", "_law_bound"] (defScope s_Ldraw) := ⟨rfl, rfl, rfl, by decide +kernel, rfl, by decide +kernel, by decide +kernel⟩
theorem ok_Ldraw {P : Program} {w : World} {K : PySem.W.Frag} {mg : Str → Option Value} {base : Heap} (a_Ldraw : At K mg "_law_draw" s_Ldraw) : ∀ n, Has P w K mg base "_law_draw" s_Ldraw (1 + n) ["_law_source_here", "_law_bound"] false (d_Ldraw n)
  | 0 => Has.bad a_Ldraw _ _ _
  | n + 1 => by
    have h_self := ok_Ldraw (P := P) (w := w) (base := base) a_Ldraw n
    exact Has.mk' (k := 1 + n) a_Ldraw sc_Ldraw fun f cdv A outer s H E e0 hr hx hp =>
    (ds_cons (ds_if (dt_cmp op_gtD (de_ix (de_var 0) de_int) de_int)
    (ds_cons (ds_set (m1 := false) (i := 2) sc_Ldraw.nd (de_bin op_modD (de_ix (de_var 0) de_int) (de_var 1)))
    (ds_cons (ds_setIxH 0 (de_bin op_fdivD (de_ix (de_var 0) de_int) (de_var 1)) de_int)
    (ds_one (ds_ret (de_var 2)))))
    ds_nil)
    (ds_cons (ds_if (dt_cmp op_gtD (de_var 1) (de_bin op_powD de_int de_int))
    (ds_one (ds_ret (de_bin op_modD (de_bin op_addD (de_fn h_self (by exact hr.mono (by omega)) (by exact hx) (dl_cons (de_var 0) (dl_cons (de_bin op_powD de_int de_int) dl_nil)) (by exact fun _ _ _ _ _ _ us hl => match us, hl with | [_, _], _ => rfl)) (de_bin op_mulD (de_bin op_powD de_int de_int) (de_fn h_self (by exact hr.mono (by omega)) (by exact hx) (dl_cons (de_var 0) (dl_cons (de_bin op_addD (de_bin op_fdivD (de_var 1) (de_bin op_powD de_int de_int)) de_int) dl_nil)) (by exact fun _ _ _ _ _ _ us hl => match us, hl with | [_, _], _ => rfl)))) (de_var 1))))
    ds_nil)
    (ds_cons (ds_setIxH 0 (de_bin op_addD (de_ix (de_var 0) de_int) de_int) de_int)
    (ds_cons (ds_set (m1 := false) (i := 3) sc_Ldraw.nd (de_bin op_modD (de_bin op_powD (de_bin op_addD (de_ix (de_var 0) de_int) (de_bin op_mulD de_int (de_ix (de_var 0) de_int))) de_int) de_int))
    (ds_one (ds_ret (de_bin op_modD (de_bin op_fdivD (de_bin op_modD (de_bin op_addD (de_bin op_mulD (de_var 3) (de_bin op_addD (de_bin op_modD (de_var 3) de_int) de_int)) (de_bin op_mulD (de_ix (de_var 0) de_int) de_int)) de_int) de_int) (de_var 1))))))))
abbrev s_Lchoice : Stmt := topS 15
theorem sc_Lchoice : FnScope ["_law_source_here", "_law_row_here"] ["_law_source_here", "_law_row_here"] (defScope s_Lchoice) := ⟨rfl, rfl, rfl, by decide +kernel, rfl, by decide +kernel, by decide +kernel⟩
theorem ok_Lchoice {P : Program} {w : World} {K : PySem.W.Frag} {mg : Str → Option Value} {base : Heap} (a_Lchoice : At K mg "_law_choice" s_Lchoice) (n_len : mg "len" = none) (h_Ldraw : Has P w K mg base "_law_draw" s_Ldraw 4 ["_law_source_here", "_law_bound"] false (d_Ldraw 3)) : Has P w K mg base "_law_choice" s_Lchoice 5 ["_law_source_here", "_law_row_here"] false d_Lchoice :=
  Has.mk' (k := 4) a_Lchoice sc_Lchoice fun f cdv A outer s H E e0 hr hx hp =>
    (ds_one (ds_ret (de_ix (de_var 1) (de_fn h_Ldraw (by exact hr.mono (by omega)) (by exact hx) (dl_cons (de_var 0) (dl_cons (de_callB cl_len n_len (dl_cons (de_var 1) dl_nil)) dl_nil)) (by exact fun _ _ _ _ _ _ us hl => match us, hl with | [_, _], _ => rfl)))))
abbrev s_Lequal : Stmt := topS 16
theorem sc_Lequal : FnScope ["_law_found", "_law_due", "_law_lone", "_law_mate"] ["_law_found", "_law_due"] (defScope s_Lequal) := ⟨rfl, rfl, rfl, by decide +kernel, rfl, by decide +kernel, by decide +kernel⟩
theorem ok_Lequal {P : Program} {w : World} {K : PySem.W.Frag} {mg : Str → Option Value} {base : Heap} (a_Lequal : At K mg "_law_equal" s_Lequal) (n_all : mg "all" = none) (n_bool : mg "bool" = none) (n_int : mg "int" = none) (n_isinstance : mg "isinstance" = none) (n_len : mg "len" = none) (n_list : mg "list" = none) (n_str : mg "str" = none) (n_tuple : mg "tuple" = none) (n_zip : mg "zip" = none) : ∀ n, Has P w K mg base "_law_equal" s_Lequal (1 + n) ["_law_found", "_law_due"] false (d_Lequal n)
  | 0 => Has.bad a_Lequal _ _ _
  | n + 1 => by
    have h_self := ok_Lequal (P := P) (w := w) (base := base) a_Lequal n_all n_bool n_int n_isinstance n_len n_list n_str n_tuple n_zip n
    exact Has.mk' (k := 1 + n) a_Lequal sc_Lequal fun f cdv A outer s H E e0 hr hx hp =>
    (ds_cons (ds_if (dt_val (de_isi2 (n1 := "list") (n2 := "tuple") n_isinstance n_list n_tuple (de_var 1)))
    (ds_cons (ds_if (dt_w (dw_or (dt_cmp (op_neDD (room64 hr)) (de_isi (n := "list") n_isinstance n_list (de_var 0)) (de_isi (n := "list") n_isinstance n_list (de_var 1))) (dw_or1 (dt_cmp (op_neDD (room64 hr)) (de_isi (n := "tuple") n_isinstance n_tuple (de_var 0)) (de_isi (n := "tuple") n_isinstance n_tuple (de_var 1))))))
    (ds_one (ds_ret de_bl))
    ds_nil)
    (ds_one (ds_ret (de_and (de_cmp (op_eqDD (room64 hr)) (de_callB cl_len n_len (dl_cons (de_var 0) dl_nil)) (de_callB cl_len n_len (dl_cons (de_var 1) dl_nil))) (de_and1 (de_callB cl_all n_all (dl_cons (de_comp (m := false) (own := [("_law_lone", 2), ("_law_mate", 3)]) sc_Lequal.nd (di_zip2 n_zip (dl_cons (de_var 0) (dl_cons (de_var 1) dl_nil))) (blkOk_by (by kernel_rfl)) (gNs_noerr [2, 3]) (fun _ _ _ _ _ => (dg_tup (pgs_consN (i := 2) sc_Lequal.nd (pgs_consN (i := 3) sc_Lequal.nd pgs_nilN)))) (fun _ _ _ _ _ => dts_nil) (fun _ _ _ _ _ => (de_fn h_self (by exact hr.mono (by omega)) (by exact passD) (dl_cons (de_var 2) (dl_cons (de_var 3) dl_nil)) (by exact fun _ _ _ _ _ _ us hl => match us, hl with | [_, _], _ => rfl)))) dl_nil)))))))
    ds_nil)
    (ds_cons (ds_if (dt_w (dw_or (dt_cmp op_isD (de_var 1) de_non) (dw_or1 (dt_val (de_isi (n := "str") n_isinstance n_str (de_var 1))))))
    (ds_one (ds_ret (de_and (de_cmp (op_eqDD (room64 hr)) (de_var 0) (de_var 1)) (de_and1 (de_cmp (op_eqDD (room64 hr)) (de_isi (n := "str") n_isinstance n_str (de_var 0)) (de_isi (n := "str") n_isinstance n_str (de_var 1)))))))
    ds_nil)
    (ds_one (ds_ret (de_and (de_isi (n := "int") n_isinstance n_int (de_var 0)) (de_and (de_cmp (op_eqDD (room64 hr)) (de_isi (n := "bool") n_isinstance n_bool (de_var 0)) (de_isi (n := "bool") n_isinstance n_bool (de_var 1))) (de_and1 (de_cmp (op_eqDD (room64 hr)) (de_var 0) (de_var 1)))))))))
abbrev s_Ldecimal : Stmt := topS 17
theorem sc_Ldecimal : FnScope ["_law_word"] ["_law_word"] (defScope s_Ldecimal) := ⟨rfl, rfl, rfl, by decide +kernel, rfl, by decide +kernel, by decide +kernel⟩
theorem ok_Ldecimal {P : Program} {w : World} {K : PySem.W.Frag} {mg : Str → Option Value} {base : Heap} (a_Ldecimal : At K mg "_law_decimal" s_Ldecimal) (n_int : mg "int" = none) (n_str : mg "str" = none) : Has P w K mg base "_law_decimal" s_Ldecimal 1 ["_law_word"] false d_Ldecimal :=
  Has.mk' (k := 0) a_Ldecimal sc_Ldecimal fun f cdv A outer s H E e0 hr hx hp =>
    (ds_one (ds_ret (de_and (de_cmp (op_neDD (room64 hr)) (de_var 0) de_str) (de_and (de_cmp (op_eqDD (room64 hr)) (de_strip (de_var 0) de_str) de_str) (de_and1 (de_cmp (op_eqDD (room64 hr)) (de_callTy cl_strT n_str (dl_cons (de_callTy cl_intT n_int (dl_cons (de_var 0) dl_nil)) dl_nil)) (de_var 0)))))))
abbrev s_Ltext_changed : Stmt := topS 18
theorem sc_Ltext_changed : FnScope ["_law_source_here", "_law_words", "_law_at", "_law_way", "_law_sign", "_law_mark", "_law_pieces", "_law_spot", "_law_pair"] ["_law_source_here", "_law_words"] (defScope s_Ltext_changed) := ⟨rfl, rfl, rfl, by decide +kernel, rfl, by decide +kernel, by decide +kernel⟩
theorem ok_Ltext_changed {P : Program} {w : World} {K : PySem.W.Frag} {mg : Str → Option Value} {base : Heap} (a_Ltext_changed : At K mg "_law_text_changed" s_Ltext_changed) (n_len : mg "len" = none) (h_Lchoice : Has P w K mg base "_law_choice" s_Lchoice 5 ["_law_source_here", "_law_row_here"] false d_Lchoice) (h_Ldraw : Has P w K mg base "_law_draw" s_Ldraw 4 ["_law_source_here", "_law_bound"] false (d_Ldraw 3)) : Has P w K mg base "_law_text_changed" s_Ltext_changed 6 ["_law_source_here", "_law_words"] false d_Ltext_changed :=
  Has.mk' (k := 5) a_Ltext_changed sc_Ltext_changed fun f cdv A outer s H E e0 hr hx hp =>
    (ds_cons (ds_par3 sc_Ltext_changed.nd (dms_cons (de_fn h_Ldraw (by exact hr.mono (by omega)) (by exact hx) (dl_cons (de_var 0) (dl_cons (de_bin op_addD (de_callB cl_len n_len (dl_cons (de_var 1) dl_nil)) de_int) dl_nil)) (by exact fun _ _ _ _ _ _ us hl => match us, hl with | [_, _], _ => rfl)) (dms_cons (de_fn h_Ldraw (by exact hr.mono (by omega)) (by exact hx) (dl_cons (de_var 0) (dl_cons de_int dl_nil)) (by exact fun _ _ _ _ _ _ us hl => match us, hl with | [_, _], _ => rfl)) (dms_cons (de_fn h_Lchoice (by exact hr.mono (by omega)) (by exact hx) (dl_cons (de_var 0) (dl_cons de_str dl_nil)) (by exact fun _ _ _ _ _ _ us hl => match us, hl with | [_, _], _ => rfl)) dms_nil))))
    (ds_cons (ds_if (dt_cmp (op_eqDD (room64 hr)) (de_var 3) de_int)
    (ds_one (ds_ret (de_bin op_addD (de_bin op_addD (de_sl (de_var 1) do_none (do_some (de_var 2))) (de_var 4)) (de_sl (de_var 1) (do_some (de_var 2)) do_none))))
    ds_nil)
    (ds_cons (ds_if (dt_cmp (op_eqDD (room64 hr)) (de_var 3) de_int)
    (ds_one (ds_ret (de_bin op_addD (de_sl (de_var 1) do_none (do_some (de_var 2))) (de_sl (de_var 1) (do_some (de_bin op_addD (de_var 2) de_int)) do_none))))
    ds_nil)
    (ds_cons (ds_if (dt_cmp (op_eqDD (room64 hr)) (de_var 3) de_int)
    (ds_one (ds_ret (de_bin op_addD (de_bin op_addD (de_sl (de_var 1) do_none (do_some (de_var 2))) (de_var 4)) (de_sl (de_var 1) (do_some (de_bin op_addD (de_var 2) de_int)) do_none))))
    ds_nil)
    (ds_cons (ds_set (m1 := false) (i := 5) sc_Ltext_changed.nd (de_if (dt_cmp op_gtD (de_var 3) de_int) de_str de_str))
    (ds_cons (ds_set (m1 := false) (i := 6) sc_Ltext_changed.nd (de_split (m := false) (de_var 1) (de_var 5)))
    (ds_cons (ds_set (m1 := false) (i := 7) sc_Ltext_changed.nd (de_fn h_Ldraw (by exact hr.mono (by omega)) (by exact hx) (dl_cons (de_var 0) (dl_cons (de_callB cl_len n_len (dl_cons (de_var 6) dl_nil)) dl_nil)) (by exact fun _ _ _ _ _ _ us hl => match us, hl with | [_, _], _ => rfl)))
    (ds_cons (ds_if (dt_cmp (op_eqDD (room64 hr)) (de_bin op_modD (de_var 3) de_int) de_int)
    (ds_one (ds_ret (de_join (de_var 5) (de_bin op_addD (de_sl (de_var 6) do_none (do_some (de_var 7))) (de_sl (de_var 6) (do_some (de_bin op_addD (de_var 7) de_int)) do_none)))))
    ds_nil)
    (ds_cons (ds_if (dt_cmp (op_eqDD (room64 hr)) (de_bin op_modD (de_var 3) de_int) de_int)
    (ds_one (ds_ret (de_join (de_var 5) (de_bin op_addD (de_sl (de_var 6) do_none (do_some (de_bin op_addD (de_var 7) de_int))) (de_sl (de_var 6) (do_some (de_var 7)) do_none)))))
    ds_nil)
    (ds_cons (ds_set (m1 := false) (i := 8) sc_Ltext_changed.nd (de_rev (m := false) (de_sl (de_var 6) (do_some (de_var 7)) (do_some (de_bin op_addD (de_var 7) de_int)))))
    (ds_one (ds_ret (de_join (de_var 5) (de_bin op_addD (de_bin op_addD (de_sl (de_var 6) do_none (do_some (de_var 7))) (de_var 8)) (de_sl (de_var 6) (do_some (de_bin op_addD (de_var 7) de_int)) do_none)))))))))))))))
abbrev s_Lfill : Stmt := topS 19
theorem sc_Lfill : FnScope ["_law_width", "_law_hopes_here", "_law_shelf", "_law_queue", "_law_hope", "_law_spot", "_law_at"] ["_law_width", "_law_hopes_here"] (defScope s_Lfill) := ⟨rfl, rfl, rfl, by decide +kernel, rfl, by decide +kernel, by decide +kernel⟩
theorem ok_Lfill {P : Program} {w : World} {K : PySem.W.Frag} {mg : Str → Option Value} {base : Heap} (a_Lfill : At K mg "_law_fill" s_Lfill) (n_abs : mg "abs" = none) (n_min : mg "min" = none) (n_range : mg "range" = none) (n_tuple : mg "tuple" = none) : Has P w K mg base "_law_fill" s_Lfill 1 ["_law_width", "_law_hopes_here"] false d_Lfill :=
  Has.mk' (k := 0) a_Lfill sc_Lfill fun f cdv A outer s H E e0 hr hx hp =>
    (ds_cons (ds_parT (is := [2, 3]) (bs := [true, true]) (dms_cons (de_bin op_repD (de_lst (m := false) (dl_cons de_non dl_nil)) (de_var 0)) (dms_cons (de_lst (m := true) dl_nil) dms_nil)) (pgs_consN (i := 2) sc_Lfill.nd (pgs_consN (i := 3) sc_Lfill.nd pgs_nilN)))
    (ds_cons (ds_for (vs := [4]) hp (di_seq (de_var 1)) (dg_name (i := 4) sc_Lfill.nd) (tg_name 4)
    (ds_cons (ds_set (m1 := false) (i := 5) sc_Lfill.nd (de_bor 2 (de_ix (de_callB (cl_minP (room65 hr)) n_min (dl_cons (de_comp (m := false) (own := [("_law_at", 6)]) sc_Lfill.nd (di_range1 n_range (dl_cons (de_var 0) dl_nil)) (blkOk_by (by kernel_rfl)) (gN_noerr 6) (fun _ _ _ _ _ => (dg_name (i := 6) sc_Lfill.nd)) (fun _ _ _ _ _ => (dts_one (dt_cmp op_isD (de_ix (de_var 2) (de_var 6)) de_non))) (fun _ _ _ _ _ => (de_tup (dl_cons (de_callB cl_abs n_abs (dl_cons (de_bin op_subD (de_var 6) (de_var 4)) dl_nil)) (dl_cons (de_var 6) dl_nil))))) dl_nil)) de_int)))
    (ds_cons (ds_setIx 2 (de_var 4) (de_var 5))
    (ds_one (ds_append 3 (de_var 5))))))
    (ds_one (ds_frz 3 (ds_frz 2 (ds_ret (de_tup (dl_cons (de_callTy cl_tuple n_tuple (dl_cons (de_var 2) dl_nil)) (dl_cons (de_callTy cl_tuple n_tuple (dl_cons (de_var 3) dl_nil)) dl_nil)))))))))
abbrev s_Lhopes : Stmt := topS 20
theorem sc_Lhopes : FnScope ["_law_source_here", "_law_width", "_law_near", "_law_way", "_law_found", "_law_turn", "_law_hope"] ["_law_source_here", "_law_width"] (defScope s_Lhopes) := ⟨rfl, rfl, rfl, by decide +kernel, rfl, by decide +kernel, by decide +kernel⟩
theorem ok_Lhopes {P : Program} {w : World} {K : PySem.W.Frag} {mg : Str → Option Value} {base : Heap} (a_Lhopes : At K mg "_law_hopes" s_Lhopes) (n_max : mg "max" = none) (n_min : mg "min" = none) (n_range : mg "range" = none) (h_Ldraw : Has P w K mg base "_law_draw" s_Ldraw 4 ["_law_source_here", "_law_bound"] false (d_Ldraw 3)) : Has P w K mg base "_law_hopes" s_Lhopes 5 ["_law_source_here", "_law_width"] true d_Lhopes :=
  Has.mk' (k := 4) a_Lhopes sc_Lhopes fun f cdv A outer s H E e0 hr hx hp =>
    (ds_cons (ds_par2 sc_Lhopes.nd (dms_cons (de_fn h_Ldraw (by exact hr.mono (by omega)) (by exact hx) (dl_cons (de_var 0) (dl_cons (de_var 1) dl_nil)) (by exact fun _ _ _ _ _ _ us hl => match us, hl with | [_, _], _ => rfl)) (dms_cons (de_fn h_Ldraw (by exact hr.mono (by omega)) (by exact hx) (dl_cons (de_var 0) (dl_cons de_int dl_nil)) (by exact fun _ _ _ _ _ _ us hl => match us, hl with | [_, _], _ => rfl)) dms_nil)))
    (ds_cons (ds_set (m1 := true) (i := 4) sc_Lhopes.nd (de_lst (m := true) dl_nil))
    (ds_cons (ds_for (vs := [5]) hp (di_range1 n_range (dl_cons (de_fn h_Ldraw (by exact hr.mono (by omega)) (by exact hx) (dl_cons (de_var 0) (dl_cons (de_bin op_addD (de_var 1) de_int) dl_nil)) (by exact fun _ _ _ _ _ _ us hl => match us, hl with | [_, _], _ => rfl)) dl_nil)) (dg_name (i := 5) sc_Lhopes.nd) (tg_name 5)
    (ds_cons (ds_set (m1 := false) (i := 6) sc_Lhopes.nd (de_if (dt_cmp op_gtD (de_var 3) de_int) (de_fn h_Ldraw (by exact hr.mono (by omega)) (by exact hx) (dl_cons (de_var 0) (dl_cons (de_var 1) dl_nil)) (by exact fun _ _ _ _ _ _ us hl => match us, hl with | [_, _], _ => rfl)) (de_bin op_subD (de_bin op_addD (de_var 2) (de_fn h_Ldraw (by exact hr.mono (by omega)) (by exact hx) (dl_cons (de_var 0) (dl_cons de_int dl_nil)) (by exact fun _ _ _ _ _ _ us hl => match us, hl with | [_, _], _ => rfl))) de_int)))
    (ds_one (ds_append 4 (de_callB cl_max2 n_max (dl_cons de_int (dl_cons (de_callB cl_min2 n_min (dl_cons (de_bin op_subD (de_var 1) de_int) (dl_cons (de_var 6) dl_nil))) dl_nil)))))))
    (ds_one (ds_retO 4)))))
abbrev s_Lveiled : Stmt := topS 21
theorem sc_Lveiled : FnScope ["_law_source_here", "_law_shelf", "_law_odds", "_law_part"] ["_law_source_here", "_law_shelf"] (defScope s_Lveiled) := ⟨rfl, rfl, rfl, by decide +kernel, rfl, by decide +kernel, by decide +kernel⟩
theorem ok_Lveiled {P : Program} {w : World} {K : PySem.W.Frag} {mg : Str → Option Value} {base : Heap} (a_Lveiled : At K mg "_law_veiled" s_Lveiled) (n_tuple : mg "tuple" = none) (h_Lchoice : Has P w K mg base "_law_choice" s_Lchoice 5 ["_law_source_here", "_law_row_here"] false d_Lchoice) (h_Ldraw : Has P w K mg base "_law_draw" s_Ldraw 4 ["_law_source_here", "_law_bound"] false (d_Ldraw 3)) : Has P w K mg base "_law_veiled" s_Lveiled 6 ["_law_source_here", "_law_shelf"] false d_Lveiled :=
  Has.mk' (k := 5) a_Lveiled sc_Lveiled fun f cdv A outer s H E e0 hr hx hp =>
    (ds_cons (ds_set (m1 := false) (i := 2) sc_Lveiled.nd (de_fn h_Lchoice (by exact hr.mono (by omega)) (by exact hx) (dl_cons (de_var 0) (dl_cons (de_lst (m := false) (dl_cons de_int (dl_cons de_int (dl_cons de_int (dl_cons de_int dl_nil))))) dl_nil)) (by exact fun _ _ _ _ _ _ us hl => match us, hl with | [_, _], _ => rfl)))
    (ds_one (ds_ret (de_callTy cl_tuple n_tuple (dl_cons (de_comp (m := false) (own := [("_law_part", 3)]) sc_Lveiled.nd (di_seq (de_var 1)) (blkOk_by (by kernel_rfl)) (gN_noerr 3) (fun _ _ _ _ _ => (dg_name (i := 3) sc_Lveiled.nd)) (fun _ _ _ _ _ => dts_nil) (fun _ _ _ _ _ => (de_if (dt_w (dw_and (dt_cmp op_isnotD (de_var 3) de_non) (dw_and1 (dt_cmp (op_ltD (room0 hr)) (de_fn h_Ldraw (by exact hr.mono (by omega)) (by exact passD) (dl_cons (de_var 0) (dl_cons de_int dl_nil)) (by exact fun _ _ _ _ _ _ us hl => match us, hl with | [_, _], _ => rfl)) (de_var 2))))) de_str (de_var 3)))) dl_nil)))))
abbrev s_Lcase : Stmt := topS 22
theorem sc_Lcase : FnScope ["_law_source_here", "_law_most", "_law_width", "_law_shelf", "_law_queue"] ["_law_source_here", "_law_most"] (defScope s_Lcase) := ⟨rfl, rfl, rfl, by decide +kernel, rfl, by decide +kernel, by decide +kernel⟩
theorem ok_Lcase {P : Program} {w : World} {K : PySem.W.Frag} {mg : Str → Option Value} {base : Heap} (a_Lcase : At K mg "_law_case" s_Lcase) (h_Ldraw : Has P w K mg base "_law_draw" s_Ldraw 4 ["_law_source_here", "_law_bound"] false (d_Ldraw 3)) (h_Lfill : Has P w K mg base "_law_fill" s_Lfill 1 ["_law_width", "_law_hopes_here"] false d_Lfill) (h_Lhopes : Has P w K mg base "_law_hopes" s_Lhopes 5 ["_law_source_here", "_law_width"] true d_Lhopes) (h_Lveiled : Has P w K mg base "_law_veiled" s_Lveiled 6 ["_law_source_here", "_law_shelf"] false d_Lveiled) : Has P w K mg base "_law_case" s_Lcase 7 ["_law_source_here", "_law_most"] false d_Lcase :=
  Has.mk' (k := 6) a_Lcase sc_Lcase fun f cdv A outer s H E e0 hr hx hp =>
    (ds_cons (ds_set (m1 := false) (i := 2) sc_Lcase.nd (de_bin op_addD de_int (de_fn h_Ldraw (by exact hr.mono (by omega)) (by exact hx) (dl_cons (de_var 0) (dl_cons (de_var 1) dl_nil)) (by exact fun _ _ _ _ _ _ us hl => match us, hl with | [_, _], _ => rfl))))
    (ds_cons (ds_asg (vs := [3, 4]) (de_fn h_Lfill (by exact hr.mono (by omega)) (by exact hx) (dl_cons (de_var 2) (dl_cons (DE.sh (de_fn h_Lhopes (by exact hr.mono (by omega)) (by exact hx) (dl_cons (de_var 0) (dl_cons (de_var 2) dl_nil)) (by exact fun _ _ _ _ _ _ us hl => match us, hl with | [_, _], _ => rfl))) dl_nil)) (by exact fun _ _ _ _ _ _ us hl => match us, hl with | [_, _], _ => rfl)) (dg_tup (pgs_consN (i := 3) sc_Lcase.nd (pgs_consN (i := 4) sc_Lcase.nd pgs_nilN))) (tg_names [3, 4]))
    (ds_one (ds_ret (de_tup (dl_cons (de_fn h_Lveiled (by exact hr.mono (by omega)) (by exact hx) (dl_cons (de_var 0) (dl_cons (de_var 3) dl_nil)) (by exact fun _ _ _ _ _ _ us hl => match us, hl with | [_, _], _ => rfl)) (dl_cons (de_var 4) dl_nil)))))))
abbrev s_Lspoiled : Stmt := topS 23
theorem sc_Lspoiled : FnScope ["_law_source_here", "_law_shelf", "_law_found", "_law_turn"] ["_law_source_here", "_law_shelf"] (defScope s_Lspoiled) := ⟨rfl, rfl, rfl, by decide +kernel, rfl, by decide +kernel, by decide +kernel⟩
theorem ok_Lspoiled {P : Program} {w : World} {K : PySem.W.Frag} {mg : Str → Option Value} {base : Heap} (a_Lspoiled : At K mg "_law_spoiled" s_Lspoiled) (n_len : mg "len" = none) (n_list : mg "list" = none) (n_range : mg "range" = none) (n_tuple : mg "tuple" = none) (h_Ldraw : Has P w K mg base "_law_draw" s_Ldraw 4 ["_law_source_here", "_law_bound"] false (d_Ldraw 3)) (h_Lchoice : Has P w K mg base "_law_choice" s_Lchoice 5 ["_law_source_here", "_law_row_here"] false d_Lchoice) : Has P w K mg base "_law_spoiled" s_Lspoiled 6 ["_law_source_here", "_law_shelf"] false d_Lspoiled :=
  Has.mk' (k := 5) a_Lspoiled sc_Lspoiled fun f cdv A outer s H E e0 hr hx hp =>
    (ds_cons (ds_set (m1 := true) (i := 2) sc_Lspoiled.nd (de_callTy (cl_list (m := true)) n_list (dl_cons (de_var 1) dl_nil)))
    (ds_cons (ds_for (vs := [3]) hp (di_range1 n_range (dl_cons (de_bin op_addD de_int (de_fn h_Ldraw (by exact hr.mono (by omega)) (by exact hx) (dl_cons (de_var 0) (dl_cons de_int dl_nil)) (by exact fun _ _ _ _ _ _ us hl => match us, hl with | [_, _], _ => rfl))) dl_nil)) (dg_name (i := 3) sc_Lspoiled.nd) (tg_name 3)
    (ds_one (ds_setIx 2 (de_fn h_Lchoice (by exact hr.mono (by omega)) (by exact hx) (dl_cons (de_var 0) (dl_cons (de_bin op_addD (de_bin op_mulD (de_listRg (m := false) n_list (dr_1 n_range (de_callB cl_len n_len (dl_cons (de_var 1) dl_nil)))) de_int) (de_lst (m := false) (dl_cons de_non (dl_cons de_str dl_nil)))) dl_nil)) (by exact fun _ _ _ _ _ _ us hl => match us, hl with | [_, _], _ => rfl)) (de_fn h_Ldraw (by exact hr.mono (by omega)) (by exact hx) (dl_cons (de_var 0) (dl_cons (de_callB cl_len n_len (dl_cons (de_var 1) dl_nil)) dl_nil)) (by exact fun _ _ _ _ _ _ us hl => match us, hl with | [_, _], _ => rfl)))))
    (ds_one (ds_frz 2 (ds_ret (de_callTy cl_tuple n_tuple (dl_cons (de_var 2) dl_nil)))))))
abbrev s_Lany : Stmt := topS 24
theorem sc_Lany : FnScope ["_law_source_here", "_law_most", "_law_shelf", "_law_queue"] ["_law_source_here", "_law_most"] (defScope s_Lany) := ⟨rfl, rfl, rfl, by decide +kernel, rfl, by decide +kernel, by decide +kernel⟩
theorem ok_Lany {P : Program} {w : World} {K : PySem.W.Frag} {mg : Str → Option Value} {base : Heap} (a_Lany : At K mg "_law_any" s_Lany) (h_Lcase : Has P w K mg base "_law_case" s_Lcase 7 ["_law_source_here", "_law_most"] false d_Lcase) (h_Ldraw : Has P w K mg base "_law_draw" s_Ldraw 4 ["_law_source_here", "_law_bound"] false (d_Ldraw 3)) (h_Lspoiled : Has P w K mg base "_law_spoiled" s_Lspoiled 6 ["_law_source_here", "_law_shelf"] false d_Lspoiled) : Has P w K mg base "_law_any" s_Lany 8 ["_law_source_here", "_law_most"] false d_Lany :=
  Has.mk' (k := 7) a_Lany sc_Lany fun f cdv A outer s H E e0 hr hx hp =>
    (ds_cons (ds_asg (vs := [2, 3]) (de_fn h_Lcase (by exact hr.mono (by omega)) (by exact hx) (dl_cons (de_var 0) (dl_cons (de_var 1) dl_nil)) (by exact fun _ _ _ _ _ _ us hl => match us, hl with | [_, _], _ => rfl)) (dg_tup (pgs_consN (i := 2) sc_Lany.nd (pgs_consN (i := 3) sc_Lany.nd pgs_nilN))) (tg_names [2, 3]))
    (ds_one (ds_ret (de_if (dt_cmp (op_eqDD (room64 hr)) (de_fn h_Ldraw (by exact hr.mono (by omega)) (by exact hx) (dl_cons (de_var 0) (dl_cons de_int dl_nil)) (by exact fun _ _ _ _ _ _ us hl => match us, hl with | [_, _], _ => rfl)) de_int) (de_fn h_Lspoiled (by exact hr.mono (by omega)) (by exact hx) (dl_cons (de_var 0) (dl_cons (de_var 2) dl_nil)) (by exact fun _ _ _ _ _ _ us hl => match us, hl with | [_, _], _ => rfl)) (de_var 2)))))
abbrev s_Lwritten : Stmt := topS 25
theorem sc_Lwritten : FnScope ["_law_shelf", "_law_part"] ["_law_shelf"] (defScope s_Lwritten) := ⟨rfl, rfl, rfl, by decide +kernel, rfl, by decide +kernel, by decide +kernel⟩
theorem ok_Lwritten {P : Program} {w : World} {K : PySem.W.Frag} {mg : Str → Option Value} {base : Heap} (a_Lwritten : At K mg "_law_written" s_Lwritten) (n_str : mg "str" = none) : Has P w K mg base "_law_written" s_Lwritten 1 ["_law_shelf"] false d_Lwritten :=
  Has.mk' (k := 0) a_Lwritten sc_Lwritten fun f cdv A outer s H E e0 hr hx hp =>
    (ds_one (ds_ret (de_join de_str (de_comp (m := false) (own := [("_law_part", 1)]) sc_Lwritten.nd (di_seq (de_var 0)) (blkOk_by (by kernel_rfl)) (gN_noerr 1) (fun _ _ _ _ _ => (dg_name (i := 1) sc_Lwritten.nd)) (fun _ _ _ _ _ => dts_nil) (fun _ _ _ _ _ => (de_if (dt_cmp op_isD (de_var 1) de_non) de_str (de_callTy cl_strT n_str (dl_cons (de_var 1) dl_nil))))))))
abbrev s_Lread : Stmt := topS 26
theorem sc_Lread : FnScope ["_law_words", "_law_entries", "_law_found", "_law_at", "_law_word"] ["_law_words"] (defScope s_Lread) := ⟨rfl, rfl, rfl, by decide +kernel, rfl, by decide +kernel, by decide +kernel⟩
theorem ok_Lread {P : Program} {w : World} {K : PySem.W.Frag} {mg : Str → Option Value} {base : Heap} (a_Lread : At K mg "_law_read" s_Lread) (n_enumerate : mg "enumerate" = none) (n_int : mg "int" = none) (n_len : mg "len" = none) (n_tuple : mg "tuple" = none) (h_Ldecimal : Has P w K mg base "_law_decimal" s_Ldecimal 1 ["_law_word"] false d_Ldecimal) : Has P w K mg base "_law_read" s_Lread 2 ["_law_words"] false d_Lread :=
  Has.mk' (k := 1) a_Lread sc_Lread fun f cdv A outer s H E e0 hr hx hp =>
    (ds_cons (ds_set (m1 := false) (i := 1) sc_Lread.nd (de_split (m := false) (de_var 0) de_str))
    (ds_cons (ds_set (m1 := true) (i := 2) sc_Lread.nd (de_lst (m := true) dl_nil))
    (ds_cons (ds_for (vs := [3, 4]) hp (di_enum n_enumerate (dl_cons (de_var 1) dl_nil)) (dg_tup (pgs_consN (i := 3) sc_Lread.nd (pgs_consN (i := 4) sc_Lread.nd pgs_nilN))) (tg_names [3, 4])
    (ds_one (ds_if (dt_w (dw_or (dt_cmp (op_eqDD (room64 hr)) (de_var 4) de_str) (dw_or1 (dt_cmp (op_eqDD (room64 hr)) (de_var 4) de_str))))
    (ds_one (ds_append 2 (de_if (dt_cmp (op_eqDD (room64 hr)) (de_var 4) de_str) de_non de_str)))
    (ds_one (ds_if (dt_w (dw_and (dt_val (de_fn h_Ldecimal (by exact hr.mono (by omega)) (by exact hx) (dl_cons (de_var 4) dl_nil) (by exact fun _ _ _ _ _ _ us hl => match us, hl with | [_], _ => rfl))) (dw_and1 (dt_cmp (op_ltD (room0 hr)) (de_callTy cl_intT n_int (dl_cons (de_var 4) dl_nil)) (de_callB cl_len n_len (dl_cons (de_var 1) dl_nil))))))
    (ds_one (ds_append 2 (de_callTy cl_intT n_int (dl_cons (de_var 4) dl_nil))))
    (ds_one (ds_ret (de_var 3))))))))
    (ds_one (ds_frz 2 (ds_ret (de_callTy cl_tuple n_tuple (dl_cons (de_var 2) dl_nil))))))))
abbrev s_Ltold : Stmt := topS 27
theorem sc_Ltold : FnScope ["_law_words", "_law_found", "_law_caught", "error", "_law_fine"] ["_law_words"] (defScope s_Ltold) := ⟨rfl, rfl, rfl, by decide +kernel, rfl, by decide +kernel, by decide +kernel⟩
theorem ok_Ltold {P : Program} {w : World} {K : PySem.W.Frag} {mg : Str → Option Value} {base : Heap} (a_Ltold : At K mg "_law_told" s_Ltold) (n_isinstance : mg "isinstance" = none) (x_T : ExT K mg ["BadLine", "BadText", "NoObject"] ["BadText", "ValueError", "BadLine", "NoObject"] ["entry"]) (x_M : ∃ ads, ExCs K mg ["BadLine", "BadText", "NoObject"] ads) (h_table_in : Has P w K mg base "table_in" s_table_in 3 ["text"] false d_table_in) : Has P w K mg base "_law_told" s_Ltold 4 ["_law_words"] false d_Ltold_v3 :=
  Has.mk' (k := 3) a_Ltold sc_Ltold fun f cdv A outer s H E e0 hr hx hp =>
    (ds_cons (ds_parT (is := [1, 2]) (bs := [false, false]) (dms_cons de_non (dms_cons de_non dms_nil)) (pgs_consN (i := 1) sc_Ltold.nd (pgs_consN (i := 2) sc_Ltold.nd pgs_nilN)))
    (ds_cons (ds_tryV 3 2 1 x_M h_table_in (by exact hr.mono (by omega)) (fun pn xe => (dl_cons (de_var 0) dl_nil)) (.cons (by rfl) (by decide) (by rfl) (.cons (by rfl) (by decide) (by rfl) (.cons (by rfl) (by decide) (by rfl) .nil))) (by exact fun _ _ _ _ _ _ us hl => match us, hl with | [_], _ => rfl) sc_Ltold.nd)
    (ds_cons (ds_if (dt_cmp op_isD (de_var 2) de_non)
    (ds_one (ds_ret (de_var 1)))
    ds_nil)
    (ds_cons (ds_set (m1 := false) (i := 4) sc_Ltold.nd (de_and (de_isE (d := "BadText") x_T n_isinstance (de_var 2)) (de_and1 (de_isE (d := "ValueError") x_T n_isinstance (de_var 2)))))
    (ds_one (ds_ret (de_if (dt_w (dw_and (dt_val (de_var 4)) (dw_and1 (dt_not (dt_val (de_isEs2 (T1 := "BadLine") (T2 := "NoObject") x_T n_isinstance (de_var 2))))))) (de_fld x_T (de_var 2)) de_non)))))))
abbrev s_Lholds : Stmt := topS 28
theorem sc_Lholds : FnScope ["_law_source_here", "_law_shelf", "_law_words", "_law_told_here", "_law_tests", "_law_turn", "_law_bent", "_law_test"] ["_law_source_here"] (defScope s_Lholds) := ⟨rfl, rfl, rfl, by decide +kernel, rfl, by decide +kernel, by decide +kernel⟩
def b_Lholds_k39 : DS → M Fl :=
  (sSeq (sSet false 1 (eArgs (callN 2 d_Lany) (lCons (eVar 0) (lCons (eC (.int 12)) lNil))))
    (sSeq (sSet false 2 (eArgs (callN 1 d_Lwritten) (lCons (eVar 1) lNil)))
    (sSeq (sSet false 3 (eArgs mkL (lCons (eArgs (callN 1 d_table_text) (lCons (eVar 1) lNil)) (lCons (eArgs (kwN 1 [0] 1 d_table_text) (lCons (eArgs kList (lCons (eVar 1) lNil)) lNil)) (lCons (eArgs (callN 1 d_table_in) (lCons (eVar 2) lNil)) (lCons (eArgs (kwN 1 [0] 1 d_table_in) (lCons (eVar 2) lNil)) lNil))))))
    (sSeq (sIf (eNot (eTst (eArgs (callN 2 (d_Lequal 8)) (lCons (eVar 3) (lCons (eArgs mkL (lCons (eVar 2) (lCons (eVar 2) (lCons (eVar 1) (lCons (eVar 1) lNil))))) lNil)))))
    (sRet (eC (.bl false)))
    sNil)
    (sSeq (sSet true 4 (eArgs mkL (lCons (eC (.str "")) (lCons (eC (.str " ")) (lCons (eC (.str "0")) (lCons (eC (.str "1")) (lCons (eC (.str "-")) (lCons (eC (.str "?")) (lCons (eC (.str "- ")) (lCons (eC (.str " -")) (lCons (eC (.str "-  -")) (lCons (eC (.str "0 1")) (lCons (eC (.str "0 2")) (lCons (eC (.str "1 0 3")) (lCons (eC (.str "00")) (lCons (eC (.str "0 01")) lNil))))))))))))))))
    (sSeq (sFrz 4 (sSet true 4 (eBin kCat (eVar 4) (eArgs mkL (lCons (eC (.str "? ? ?")) (lCons (eC (.str "-1 0")) (lCons (eC (.str "+0")) (lCons (eC (.str "0_0")) lNil))))))))
    (sSeq (sFrz 4 (sSet true 4 (eBin kCat (eVar 4) (eArgs mkL (lCons (eC (.str "a")) (lCons (eC (.str "? a -")) (lCons (eC (.str "--")) (lCons (eC (.str "??")) (lCons (eC (.str "0 0 0 0")) (lCons (eC (.str "0,1")) (lCons (eC (.str "0\n1")) (lCons (eC (.str "10 - - - - - - - - - -")) (lCons (eC (.str "- - 3")) lNil)))))))))))))
    (sSeq (sFrz 4 (sSet true 4 (eBin kCat (eVar 4) (eArgs mkL (lCons (eC (.str "99999999999999999999")) lNil)))))
    (sSeq (sOwn 4 kApp (eBin kAdd (eBin kMulS (eC (.str "9")) (eC (.int 150))) (eC (.str " -"))))
    (sSeq (sOwn 4 kApp (eStrM kJoin (eC (.str " ")) (eBin kMul (eArgs mkL (lCons (eC (.str "12")) lNil)) (eC (.int 13)))))
    (sSeq (sFor (iArgs rng1 (lCons (eC (.int 14)) lNil)) (gN 5)
    (sSeq (sSet false 6 (eArgs (callN 2 d_Ltext_changed) (lCons (eVar 0) (lCons (eVar 2) lNil))))
    (sOwn 4 kApp (eIf (eTst (eBin kEq (eArgs (callN 2 (d_Ldraw 3)) (lCons (eVar 0) (lCons (eC (.int 3)) lNil))) (eC (.int 0)))) (eArgs (callN 2 d_Ltext_changed) (lCons (eVar 0) (lCons (eVar 6) lNil))) (eVar 6)))))
    (sFrz 4 (sRet (eArgs (kOfBls fun bs => M.pure (.bl (bs.all id))) (lCons (eComp (iSeq (eVar 4)) [7] (gN 7) tYesD (eArgs (callN 2 (d_Lequal 8)) (lCons (eArgs (callN 1 d_Ltold_v3) (lCons (eVar 7) lNil)) (lCons (eArgs (callN 1 d_Lread) (lCons (eVar 7) lNil)) lNil)))) lNil)))))))))))))))
def d_Lholds_k39 : List D → M D := runD 8 false b_Lholds_k39
theorem ok_Lholds {P : Program} {w : World} {K : PySem.W.Frag} {mg : Str → Option Value} {base : Heap} (a_Lholds : At K mg "_law_holds" s_Lholds) (n_all : mg "all" = none) (n_list : mg "list" = none) (n_range : mg "range" = none) (h_Lany : Has P w K mg base "_law_any" s_Lany 8 ["_law_source_here", "_law_most"] false d_Lany) (h_Lwritten : Has P w K mg base "_law_written" s_Lwritten 1 ["_law_shelf"] false d_Lwritten) (h_table_in : Has P w K mg base "table_in" s_table_in 3 ["text"] false d_table_in) (h_table_text : Has P w K mg base "table_text" s_table_text 1 ["table"] false d_table_text) (h_Lequal : Has P w K mg base "_law_equal" s_Lequal 9 ["_law_found", "_law_due"] false (d_Lequal 8)) (h_Ltext_changed : Has P w K mg base "_law_text_changed" s_Ltext_changed 6 ["_law_source_here", "_law_words"] false d_Ltext_changed) (h_Ldraw : Has P w K mg base "_law_draw" s_Ldraw 4 ["_law_source_here", "_law_bound"] false (d_Ldraw 3)) (h_Lread : Has P w K mg base "_law_read" s_Lread 2 ["_law_words"] false d_Lread) (h_Ltold : Has P w K mg base "_law_told" s_Ltold 4 ["_law_words"] false d_Ltold_v3) : Has P w K mg base "_law_holds" s_Lholds 10 ["_law_source_here"] false d_Lholds_k39 :=
  Has.mk' (k := 9) a_Lholds sc_Lholds fun f cdv A outer s H E e0 hr hx hp =>
    (ds_cons (ds_set (m1 := false) (i := 1) sc_Lholds.nd (de_fn h_Lany (by exact hr.mono (by omega)) (by exact hx) (dl_cons (de_var 0) (dl_cons de_int dl_nil)) (by exact fun _ _ _ _ _ _ us hl => match us, hl with | [_, _], _ => rfl)))
    (ds_cons (ds_set (m1 := false) (i := 2) sc_Lholds.nd (de_fn h_Lwritten (by exact hr.mono (by omega)) (by exact hx) (dl_cons (de_var 1) dl_nil) (by exact fun _ _ _ _ _ _ us hl => match us, hl with | [_], _ => rfl)))
    (ds_cons (ds_set (m1 := false) (i := 3) sc_Lholds.nd (de_lst (m := false) (dl_cons (de_fn h_table_text (by exact hr.mono (by omega)) (by exact hx) (dl_cons (de_var 1) dl_nil) (by exact fun _ _ _ _ _ _ us hl => match us, hl with | [_], _ => rfl)) (dl_cons (de_fnK ["table"] [0] h_table_text (by exact hr.mono (by omega)) (by exact hx) (dk_cons (de_callTy (cl_list (m := false)) n_list (dl_cons (de_var 1) dl_nil)) dk_nil) (by exact fun _ _ _ _ _ _ us hl => match us, hl with | [_], _ => rfl)) (dl_cons (de_fn h_table_in (by exact hr.mono (by omega)) (by exact hx) (dl_cons (de_var 2) dl_nil) (by exact fun _ _ _ _ _ _ us hl => match us, hl with | [_], _ => rfl)) (dl_cons (de_fnK ["text"] [0] h_table_in (by exact hr.mono (by omega)) (by exact hx) (dk_cons (de_var 2) dk_nil) (by exact fun _ _ _ _ _ _ us hl => match us, hl with | [_], _ => rfl)) dl_nil))))))
    (ds_cons (ds_if (dt_not (dt_val (de_fn h_Lequal (by exact hr.mono (by omega)) (by exact hx) (dl_cons (de_var 3) (dl_cons (de_lst (m := false) (dl_cons (de_var 2) (dl_cons (de_var 2) (dl_cons (de_var 1) (dl_cons (de_var 1) dl_nil))))) dl_nil)) (by exact fun _ _ _ _ _ _ us hl => match us, hl with | [_, _], _ => rfl))))
    (ds_one (ds_ret de_bl))
    ds_nil)
    (ds_cons (ds_set (m1 := true) (i := 4) sc_Lholds.nd (de_lst (m := true) (dl_cons de_str (dl_cons de_str (dl_cons de_str (dl_cons de_str (dl_cons de_str (dl_cons de_str (dl_cons de_str (dl_cons de_str (dl_cons de_str (dl_cons de_str (dl_cons de_str (dl_cons de_str (dl_cons de_str (dl_cons de_str dl_nil))))))))))))))))
    (ds_cons (ds_frz 4 (ds_set (m1 := true) (i := 4) sc_Lholds.nd (de_bin op_catD (de_var 4) (de_lst (m := false) (dl_cons de_str (dl_cons de_str (dl_cons de_str (dl_cons de_str dl_nil))))))))
    (ds_cons (ds_frz 4 (ds_set (m1 := true) (i := 4) sc_Lholds.nd (de_bin op_catD (de_var 4) (de_lst (m := false) (dl_cons de_str (dl_cons de_str (dl_cons de_str (dl_cons de_str (dl_cons de_str (dl_cons de_str (dl_cons de_str (dl_cons de_str (dl_cons de_str dl_nil)))))))))))))
    (ds_cons (ds_frz 4 (ds_set (m1 := true) (i := 4) sc_Lholds.nd (de_bin op_catD (de_var 4) (de_lst (m := false) (dl_cons de_str dl_nil)))))
    (ds_cons (ds_append 4 (de_bin op_addD (de_bin op_mulSD de_str de_int) de_str))
    (ds_cons (ds_append 4 (de_join de_str (de_bin op_mulD (de_lst (m := false) (dl_cons de_str dl_nil)) de_int)))
    (ds_cons (ds_for (vs := [5]) hp (di_range1 n_range (dl_cons de_int dl_nil)) (dg_name (i := 5) sc_Lholds.nd) (tg_name 5)
    (ds_cons (ds_set (m1 := false) (i := 6) sc_Lholds.nd (de_fn h_Ltext_changed (by exact hr.mono (by omega)) (by exact hx) (dl_cons (de_var 0) (dl_cons (de_var 2) dl_nil)) (by exact fun _ _ _ _ _ _ us hl => match us, hl with | [_, _], _ => rfl)))
    (ds_one (ds_append 4 (de_if (dt_cmp (op_eqDD (room64 hr)) (de_fn h_Ldraw (by exact hr.mono (by omega)) (by exact hx) (dl_cons (de_var 0) (dl_cons de_int dl_nil)) (by exact fun _ _ _ _ _ _ us hl => match us, hl with | [_, _], _ => rfl)) de_int) (de_fn h_Ltext_changed (by exact hr.mono (by omega)) (by exact hx) (dl_cons (de_var 0) (dl_cons (de_var 6) dl_nil)) (by exact fun _ _ _ _ _ _ us hl => match us, hl with | [_, _], _ => rfl)) (de_var 6))))))
    (ds_one (ds_frz 4 (ds_ret (de_callB cl_all n_all (dl_cons (de_comp (m := false) (own := [("_law_test", 7)]) sc_Lholds.nd (di_seq (de_var 4)) (blkOk_by (by kernel_rfl)) (gN_noerr 7) (fun _ _ _ _ _ => (dg_name (i := 7) sc_Lholds.nd)) (fun _ _ _ _ _ => dts_nil) (fun _ _ _ _ _ => (de_fn h_Lequal (by exact hr.mono (by omega)) (by exact passD) (dl_cons (de_fn h_Ltold (by exact hr.mono (by omega)) (by exact passD) (dl_cons (de_var 7) dl_nil) (by exact fun _ _ _ _ _ _ us hl => match us, hl with | [_], _ => rfl)) (dl_cons (de_fn h_Lread (by exact hr.mono (by omega)) (by exact passD) (dl_cons (de_var 7) dl_nil) (by exact fun _ _ _ _ _ _ us hl => match us, hl with | [_], _ => rfl)) dl_nil)) (by exact fun _ _ _ _ _ _ us hl => match us, hl with | [_, _], _ => rfl)))) dl_nil))))))))))))))))
abbrev s_law : Stmt := topS 29
theorem sc_law : FnScope ["_law_script", "_law_index", "_law_source_here", "_law_turn"] ["_law_script"] (defScope s_law) := ⟨rfl, rfl, rfl, by decide +kernel, rfl, by decide +kernel, by decide +kernel⟩
def b_law_k39 : DS → M Fl :=
  (sSeq (sFor (iArgs rng1 (lCons (eArgs kMax2 (lCons (eC (.int 1)) (lCons (eArgs kMin2 (lCons (eC (.int 3)) (lCons (eArgs kLen (lCons (eVar 0) lNil)) lNil))) lNil))) lNil)) (gN 1)
    (sSeq (sSet false 2 (eArgs (callN 2 d_Lsource) (lCons (eVar 0) (lCons (eVar 1) lNil))))
    (sIf (eNot (eTst (eArgs (kOfBls fun bs => M.pure (.bl (bs.all id))) (lCons (eComp (iArgs rng1 (lCons (eC (.int 2)) lNil)) [3] (gN 3) tYesD (eArgs (callN 1 d_Lholds_k39) (lCons (eVar 2) lNil))) lNil))))
    (sRet (eC (.bl false)))
    sNil)))
    (sRet (eC (.bl true))))
def d_law_k39 : List D → M D := runD 4 false b_law_k39
theorem ok_law {P : Program} {w : World} {K : PySem.W.Frag} {mg : Str → Option Value} {base : Heap} (a_law : At K mg "law" s_law) (n_all : mg "all" = none) (n_len : mg "len" = none) (n_max : mg "max" = none) (n_min : mg "min" = none) (n_range : mg "range" = none) (h_Lsource : Has P w K mg base "_law_source" s_Lsource 1 ["_law_script", "_law_index"] false d_Lsource) (h_Lholds : Has P w K mg base "_law_holds" s_Lholds 10 ["_law_source_here"] false d_Lholds_k39) : Has P w K mg base "law" s_law 11 ["_law_script"] false d_law_k39 :=
  Has.mk' (k := 10) a_law sc_law fun f cdv A outer s H E e0 hr hx hp =>
    (ds_cons (ds_for (vs := [1]) hp (di_range1 n_range (dl_cons (de_callB cl_max2 n_max (dl_cons de_int (dl_cons (de_callB cl_min2 n_min (dl_cons de_int (dl_cons (de_callB cl_len n_len (dl_cons (de_var 0) dl_nil)) dl_nil))) dl_nil))) dl_nil)) (dg_name (i := 1) sc_law.nd) (tg_name 1)
    (ds_cons (ds_set (m1 := false) (i := 2) sc_law.nd (de_fn h_Lsource (by exact hr.mono (by omega)) (by exact hx) (dl_cons (de_var 0) (dl_cons (de_var 1) dl_nil)) (by exact fun _ _ _ _ _ _ us hl => match us, hl with | [_, _], _ => rfl)))
    (ds_one (ds_if (dt_not (dt_val (de_callB cl_all n_all (dl_cons (de_comp (m := false) (own := [("_law_turn", 3)]) sc_law.nd (di_range1 n_range (dl_cons de_int dl_nil)) (blkOk_by (by kernel_rfl)) (gN_noerr 3) (fun _ _ _ _ _ => (dg_name (i := 3) sc_law.nd)) (fun _ _ _ _ _ => dts_nil) (fun _ _ _ _ _ => (de_fn h_Lholds (by exact hr.mono (by omega)) (by exact passD) (dl_cons (de_var 2) dl_nil) (by exact fun _ _ _ _ _ _ us hl => match us, hl with | [_], _ => rfl)))) dl_nil))))
    (ds_one (ds_ret de_bl))
    ds_nil))))
    (ds_one (ds_ret de_bl)))
theorem all_mk {l : PySem.W.OpenLaw} {w : World} {K : PySem.W.Frag} {h : Heap} {mg : Str → Option Value} {fa : Addr} (X : K.In h) (G : h.Ns mainGlobals mg) (hfa : mg "law" = some (.ref fa))
    {f0 : Addr} {od0 an0 : Option Addr} {sl0 : Array (Option Value)} {oc0 kV0 dc0 pm0 cd0 ct0 : Value}
    {f1 : Addr} {od1 an1 : Option Addr} {sl1 : Array (Option Value)} {oc1 kV1 dc1 pm1 cd1 ct1 : Value}
    {f2 : Addr} {od2 an2 : Option Addr} {sl2 : Array (Option Value)} {oc2 kV2 dc2 pm2 cd2 ct2 : Value}
    {f3 : Addr} {od3 an3 : Option Addr} {sl3 : Array (Option Value)} {oc3 kV3 dc3 pm3 cd3 ct3 : Value}
    {f4 : Addr} {od4 an4 : Option Addr} {sl4 : Array (Option Value)} {oc4 kV4 dc4 pm4 cd4 ct4 : Value}
    {f5 : Addr} {od5 an5 : Option Addr} {sl5 : Array (Option Value)} {oc5 kV5 dc5 pm5 cd5 ct5 : Value}
    {f6 : Addr} {od6 an6 : Option Addr} {sl6 : Array (Option Value)} {oc6 kV6 dc6 pm6 cd6 ct6 : Value}
    {f7 : Addr} {od7 an7 : Option Addr} {sl7 : Array (Option Value)} {oc7 kV7 dc7 pm7 cd7 ct7 : Value}
    {f8 : Addr} {od8 an8 : Option Addr} {sl8 : Array (Option Value)} {oc8 kV8 dc8 pm8 cd8 ct8 : Value}
    {f9 : Addr} {od9 an9 : Option Addr} {sl9 : Array (Option Value)} {oc9 kV9 dc9 pm9 cd9 ct9 : Value}
    {f10 : Addr} {od10 an10 : Option Addr} {sl10 : Array (Option Value)} {oc10 kV10 dc10 pm10 cd10 ct10 : Value}
    {f11 : Addr} {od11 an11 : Option Addr} {sl11 : Array (Option Value)} {oc11 kV11 dc11 pm11 cd11 ct11 : Value}
    {f12 : Addr} {od12 an12 : Option Addr} {sl12 : Array (Option Value)} {oc12 kV12 dc12 pm12 cd12 ct12 : Value}
    {f13 : Addr} {od13 an13 : Option Addr} {sl13 : Array (Option Value)} {oc13 kV13 dc13 pm13 cd13 ct13 : Value}
    {f14 : Addr} {od14 an14 : Option Addr} {sl14 : Array (Option Value)} {oc14 kV14 dc14 pm14 cd14 ct14 : Value}
    {f15 : Addr} {od15 an15 : Option Addr} {sl15 : Array (Option Value)} {oc15 kV15 dc15 pm15 cd15 ct15 : Value}
    {f16 : Addr} {od16 an16 : Option Addr} {sl16 : Array (Option Value)} {oc16 kV16 dc16 pm16 cd16 ct16 : Value}
    {f17 : Addr} {od17 an17 : Option Addr} {sl17 : Array (Option Value)} {oc17 kV17 dc17 pm17 cd17 ct17 : Value}
    {f18 : Addr} {od18 an18 : Option Addr} {sl18 : Array (Option Value)} {oc18 kV18 dc18 pm18 cd18 ct18 : Value}
    {f19 : Addr} {od19 an19 : Option Addr} {sl19 : Array (Option Value)} {oc19 kV19 dc19 pm19 cd19 ct19 : Value}
    {f20 : Addr} {od20 an20 : Option Addr} {sl20 : Array (Option Value)} {oc20 kV20 dc20 pm20 cd20 ct20 : Value}
    {C_BadText f_BadText : Addr} {nm_BadText q_BadText : Str} {N_BadText : Addr} {bs_BadText bm_BadText su_BadText : List Value} {sn_BadText : List Str} {ab_BadText : Bool} {co_BadText : Option Bool} {dd_BadText : Option Addr} {k0_BadText k1_BadText k2_BadText k3_BadText k5_BadText : Option Value} {od_BadText an_BadText : Option Addr} {sl_BadText : Array (Option Value)} {oc_BadText kV_BadText dc_BadText pm_BadText cd_BadText ct_BadText : Value}
    {t_EMPTY : Tok}
    {t_SPACE : Tok}
    {t_UNKNOWN : Tok}
    (a0 : PySem.W.nsIn K mainGlobals "is_decimal" = some (some (.ref f0))) (l0 : K.lookup f0 = some ⟨oc0, od0, .func (PySem.W.fnOf "is_decimal" "is_decimal" (defArgs s_is_decimal) (defBody s_is_decimal) (defScope s_is_decimal) .none kV0 dc0 pm0 an0 cd0 ct0), sl0⟩) (c0 : PySem.W.codeIn K cd0 "is_decimal" = true) (k0 : PySem.W.keepIn K (.ref f0) = true)
    (a1 : PySem.W.nsIn K mainGlobals "table_text" = some (some (.ref f1))) (l1 : K.lookup f1 = some ⟨oc1, od1, .func (PySem.W.fnOf "table_text" "table_text" (defArgs s_table_text) (defBody s_table_text) (defScope s_table_text) .none kV1 dc1 pm1 an1 cd1 ct1), sl1⟩) (c1 : PySem.W.codeIn K cd1 "table_text" = true) (k1 : PySem.W.keepIn K (.ref f1) = true)
    (a2 : PySem.W.nsIn K mainGlobals "entry_in" = some (some (.ref f2))) (l2 : K.lookup f2 = some ⟨oc2, od2, .func (PySem.W.fnOf "entry_in" "entry_in" (defArgs s_entry_in) (defBody s_entry_in) (defScope s_entry_in) .none kV2 dc2 pm2 an2 cd2 ct2), sl2⟩) (c2 : PySem.W.codeIn K cd2 "entry_in" = true) (k2 : PySem.W.keepIn K (.ref f2) = true)
    (a3 : PySem.W.nsIn K mainGlobals "table_in" = some (some (.ref f3))) (l3 : K.lookup f3 = some ⟨oc3, od3, .func (PySem.W.fnOf "table_in" "table_in" (defArgs s_table_in) (defBody s_table_in) (defScope s_table_in) .none kV3 dc3 pm3 an3 cd3 ct3), sl3⟩) (c3 : PySem.W.codeIn K cd3 "table_in" = true) (k3 : PySem.W.keepIn K (.ref f3) = true)
    (a4 : PySem.W.nsIn K mainGlobals "_law_source" = some (some (.ref f4))) (l4 : K.lookup f4 = some ⟨oc4, od4, .func (PySem.W.fnOf "_law_source" "_law_source" (defArgs s_Lsource) (defBody s_Lsource) (defScope s_Lsource) .none kV4 dc4 pm4 an4 cd4 ct4), sl4⟩) (c4 : PySem.W.codeIn K cd4 "_law_source" = true) (k4 : PySem.W.keepIn K (.ref f4) = true)
    (a5 : PySem.W.nsIn K mainGlobals "_law_draw" = some (some (.ref f5))) (l5 : K.lookup f5 = some ⟨oc5, od5, .func (PySem.W.fnOf "_law_draw" "_law_draw" (defArgs s_Ldraw) (defBody s_Ldraw) (defScope s_Ldraw) .none kV5 dc5 pm5 an5 cd5 ct5), sl5⟩) (c5 : PySem.W.codeIn K cd5 "_law_draw" = true) (k5 : PySem.W.keepIn K (.ref f5) = true)
    (a6 : PySem.W.nsIn K mainGlobals "_law_choice" = some (some (.ref f6))) (l6 : K.lookup f6 = some ⟨oc6, od6, .func (PySem.W.fnOf "_law_choice" "_law_choice" (defArgs s_Lchoice) (defBody s_Lchoice) (defScope s_Lchoice) .none kV6 dc6 pm6 an6 cd6 ct6), sl6⟩) (c6 : PySem.W.codeIn K cd6 "_law_choice" = true) (k6 : PySem.W.keepIn K (.ref f6) = true)
    (a7 : PySem.W.nsIn K mainGlobals "_law_equal" = some (some (.ref f7))) (l7 : K.lookup f7 = some ⟨oc7, od7, .func (PySem.W.fnOf "_law_equal" "_law_equal" (defArgs s_Lequal) (defBody s_Lequal) (defScope s_Lequal) .none kV7 dc7 pm7 an7 cd7 ct7), sl7⟩) (c7 : PySem.W.codeIn K cd7 "_law_equal" = true) (k7 : PySem.W.keepIn K (.ref f7) = true)
    (a8 : PySem.W.nsIn K mainGlobals "_law_decimal" = some (some (.ref f8))) (l8 : K.lookup f8 = some ⟨oc8, od8, .func (PySem.W.fnOf "_law_decimal" "_law_decimal" (defArgs s_Ldecimal) (defBody s_Ldecimal) (defScope s_Ldecimal) .none kV8 dc8 pm8 an8 cd8 ct8), sl8⟩) (c8 : PySem.W.codeIn K cd8 "_law_decimal" = true) (k8 : PySem.W.keepIn K (.ref f8) = true)
    (a9 : PySem.W.nsIn K mainGlobals "_law_text_changed" = some (some (.ref f9))) (l9 : K.lookup f9 = some ⟨oc9, od9, .func (PySem.W.fnOf "_law_text_changed" "_law_text_changed" (defArgs s_Ltext_changed) (defBody s_Ltext_changed) (defScope s_Ltext_changed) .none kV9 dc9 pm9 an9 cd9 ct9), sl9⟩) (c9 : PySem.W.codeIn K cd9 "_law_text_changed" = true) (k9 : PySem.W.keepIn K (.ref f9) = true)
    (a10 : PySem.W.nsIn K mainGlobals "_law_fill" = some (some (.ref f10))) (l10 : K.lookup f10 = some ⟨oc10, od10, .func (PySem.W.fnOf "_law_fill" "_law_fill" (defArgs s_Lfill) (defBody s_Lfill) (defScope s_Lfill) .none kV10 dc10 pm10 an10 cd10 ct10), sl10⟩) (c10 : PySem.W.codeIn K cd10 "_law_fill" = true) (k10 : PySem.W.keepIn K (.ref f10) = true)
    (a11 : PySem.W.nsIn K mainGlobals "_law_hopes" = some (some (.ref f11))) (l11 : K.lookup f11 = some ⟨oc11, od11, .func (PySem.W.fnOf "_law_hopes" "_law_hopes" (defArgs s_Lhopes) (defBody s_Lhopes) (defScope s_Lhopes) .none kV11 dc11 pm11 an11 cd11 ct11), sl11⟩) (c11 : PySem.W.codeIn K cd11 "_law_hopes" = true) (k11 : PySem.W.keepIn K (.ref f11) = true)
    (a12 : PySem.W.nsIn K mainGlobals "_law_veiled" = some (some (.ref f12))) (l12 : K.lookup f12 = some ⟨oc12, od12, .func (PySem.W.fnOf "_law_veiled" "_law_veiled" (defArgs s_Lveiled) (defBody s_Lveiled) (defScope s_Lveiled) .none kV12 dc12 pm12 an12 cd12 ct12), sl12⟩) (c12 : PySem.W.codeIn K cd12 "_law_veiled" = true) (k12 : PySem.W.keepIn K (.ref f12) = true)
    (a13 : PySem.W.nsIn K mainGlobals "_law_case" = some (some (.ref f13))) (l13 : K.lookup f13 = some ⟨oc13, od13, .func (PySem.W.fnOf "_law_case" "_law_case" (defArgs s_Lcase) (defBody s_Lcase) (defScope s_Lcase) .none kV13 dc13 pm13 an13 cd13 ct13), sl13⟩) (c13 : PySem.W.codeIn K cd13 "_law_case" = true) (k13 : PySem.W.keepIn K (.ref f13) = true)
    (a14 : PySem.W.nsIn K mainGlobals "_law_spoiled" = some (some (.ref f14))) (l14 : K.lookup f14 = some ⟨oc14, od14, .func (PySem.W.fnOf "_law_spoiled" "_law_spoiled" (defArgs s_Lspoiled) (defBody s_Lspoiled) (defScope s_Lspoiled) .none kV14 dc14 pm14 an14 cd14 ct14), sl14⟩) (c14 : PySem.W.codeIn K cd14 "_law_spoiled" = true) (k14 : PySem.W.keepIn K (.ref f14) = true)
    (a15 : PySem.W.nsIn K mainGlobals "_law_any" = some (some (.ref f15))) (l15 : K.lookup f15 = some ⟨oc15, od15, .func (PySem.W.fnOf "_law_any" "_law_any" (defArgs s_Lany) (defBody s_Lany) (defScope s_Lany) .none kV15 dc15 pm15 an15 cd15 ct15), sl15⟩) (c15 : PySem.W.codeIn K cd15 "_law_any" = true) (k15 : PySem.W.keepIn K (.ref f15) = true)
    (a16 : PySem.W.nsIn K mainGlobals "_law_written" = some (some (.ref f16))) (l16 : K.lookup f16 = some ⟨oc16, od16, .func (PySem.W.fnOf "_law_written" "_law_written" (defArgs s_Lwritten) (defBody s_Lwritten) (defScope s_Lwritten) .none kV16 dc16 pm16 an16 cd16 ct16), sl16⟩) (c16 : PySem.W.codeIn K cd16 "_law_written" = true) (k16 : PySem.W.keepIn K (.ref f16) = true)
    (a17 : PySem.W.nsIn K mainGlobals "_law_read" = some (some (.ref f17))) (l17 : K.lookup f17 = some ⟨oc17, od17, .func (PySem.W.fnOf "_law_read" "_law_read" (defArgs s_Lread) (defBody s_Lread) (defScope s_Lread) .none kV17 dc17 pm17 an17 cd17 ct17), sl17⟩) (c17 : PySem.W.codeIn K cd17 "_law_read" = true) (k17 : PySem.W.keepIn K (.ref f17) = true)
    (a18 : PySem.W.nsIn K mainGlobals "_law_told" = some (some (.ref f18))) (l18 : K.lookup f18 = some ⟨oc18, od18, .func (PySem.W.fnOf "_law_told" "_law_told" (defArgs s_Ltold) (defBody s_Ltold) (defScope s_Ltold) .none kV18 dc18 pm18 an18 cd18 ct18), sl18⟩) (c18 : PySem.W.codeIn K cd18 "_law_told" = true) (k18 : PySem.W.keepIn K (.ref f18) = true)
    (a19 : PySem.W.nsIn K mainGlobals "_law_holds" = some (some (.ref f19))) (l19 : K.lookup f19 = some ⟨oc19, od19, .func (PySem.W.fnOf "_law_holds" "_law_holds" (defArgs s_Lholds) (defBody s_Lholds) (defScope s_Lholds) .none kV19 dc19 pm19 an19 cd19 ct19), sl19⟩) (c19 : PySem.W.codeIn K cd19 "_law_holds" = true) (k19 : PySem.W.keepIn K (.ref f19) = true)
    (a20 : PySem.W.nsIn K mainGlobals "law" = some (some (.ref f20))) (l20 : K.lookup f20 = some ⟨oc20, od20, .func (PySem.W.fnOf "law" "law" (defArgs s_law) (defBody s_law) (defScope s_law) .none kV20 dc20 pm20 an20 cd20 ct20), sl20⟩) (c20 : PySem.W.codeIn K cd20 "law" = true) (k20 : PySem.W.keepIn K (.ref f20) = true)
    (xa_BadText : PySem.W.nsIn K mainGlobals "BadText" = some (some (.ref C_BadText))) (xl_BadText : K.lookup C_BadText = some (excClassObj nm_BadText q_BadText C_BadText N_BadText bs_BadText bm_BadText true sn_BadText su_BadText ab_BadText co_BadText dd_BadText k0_BadText k1_BadText k2_BadText k3_BadText k5_BadText "ValueError.__new__")) (xr_BadText : refsT [.type "ValueError", .type "Exception", .type "BaseException", .type "object"] bm_BadText = true) (xs_BadText : PySem.W.findIn K (.ref C_BadText) "__setattr__" = some (some (.builtin "object.__setattr__")))
    (xe_BadText : PySem.W.subIn K (.ref C_BadText) (.type "BaseException") = some true) (xt_BadText : PySem.W.typeIn K (.ref C_BadText) = some (.type "type")) (xk_BadText : PySem.W.keepIn K (.ref C_BadText) = true) (xi_BadText : PySem.W.findIn K (.ref C_BadText) "__init__" = some (some (.ref f_BadText))) (xy_BadText : PySem.W.typeIn K (.ref f_BadText) = some (.type "function"))
    (xf_BadText : K.lookup f_BadText = some ⟨oc_BadText, od_BadText, .func (PySem.W.fnOf "__init__" "BadText.__init__" (defArgs s_BadText) (defBody s_BadText) (defScope s_BadText) .none kV_BadText dc_BadText pm_BadText an_BadText cd_BadText ct_BadText), sl_BadText⟩) (xc_BadText : PySem.W.codeIn K cd_BadText "BadText.__init__" = true) (xq_BadText : PySem.W.keepIn K (.ref f_BadText) = true) (xd_BadText : PySem.W.findIn K (.ref C_BadText) "entry" = some none)
    (xv_ValueError : PySem.W.findCls K (.type "ValueError") (.type "type") "__init__" = some (.val (.builtin "ValueError.__init__")))
    (xT_chk : excChk K ["BadLine", "BadText", "NoObject"] ["BadText", "ValueError", "BadLine", "NoObject"] ["entry"] = true)
    (xM_chk : exmChk K ["BadLine", "BadText", "NoObject"] = true)
    (z_ValueError : PySem.W.nsIn K mainGlobals "ValueError" = some none)
    (z_abs : PySem.W.nsIn K mainGlobals "abs" = some none)
    (z_all : PySem.W.nsIn K mainGlobals "all" = some none)
    (z_bool : PySem.W.nsIn K mainGlobals "bool" = some none)
    (z_enumerate : PySem.W.nsIn K mainGlobals "enumerate" = some none)
    (z_int : PySem.W.nsIn K mainGlobals "int" = some none)
    (z_isinstance : PySem.W.nsIn K mainGlobals "isinstance" = some none)
    (z_len : PySem.W.nsIn K mainGlobals "len" = some none)
    (z_list : PySem.W.nsIn K mainGlobals "list" = some none)
    (z_max : PySem.W.nsIn K mainGlobals "max" = some none)
    (z_min : PySem.W.nsIn K mainGlobals "min" = some none)
    (z_range : PySem.W.nsIn K mainGlobals "range" = some none)
    (z_str : PySem.W.nsIn K mainGlobals "str" = some none)
    (z_tuple : PySem.W.nsIn K mainGlobals "tuple" = some none)
    (z_zip : PySem.W.nsIn K mainGlobals "zip" = some none)
    (y_EMPTY : PySem.W.nsIn K mainGlobals "EMPTY" = some (some (.str "-" t_EMPTY)))
    (y_SPACE : PySem.W.nsIn K mainGlobals "SPACE" = some (some (.str " " t_SPACE)))
    (y_UNKNOWN : PySem.W.nsIn K mainGlobals "UNKNOWN" = some (some (.str "?" t_UNKNOWN)))
    : ∃ fd : FuncData, (∀ (s : Shared) (v : Value), BindsTo s fd ⟨[v], []⟩ [("_law_script", v)]) ∧ ∀ base : Heap, K.In base → base.Ns mainGlobals mg → FnOkG l.prog w K mg base (XC l.prog w) 11 fa fd ["_law_script"] (spD mg K 1 false d_law_k39) := by
  have A0 := At.mk' (st := s_is_decimal) X G a0 l0 c0 k0
  have A1 := At.mk' (st := s_table_text) X G a1 l1 c1 k1
  have A2 := At.mk' (st := s_entry_in) X G a2 l2 c2 k2
  have A3 := At.mk' (st := s_table_in) X G a3 l3 c3 k3
  have A4 := At.mk' (st := s_Lsource) X G a4 l4 c4 k4
  have A5 := At.mk' (st := s_Ldraw) X G a5 l5 c5 k5
  have A6 := At.mk' (st := s_Lchoice) X G a6 l6 c6 k6
  have A7 := At.mk' (st := s_Lequal) X G a7 l7 c7 k7
  have A8 := At.mk' (st := s_Ldecimal) X G a8 l8 c8 k8
  have A9 := At.mk' (st := s_Ltext_changed) X G a9 l9 c9 k9
  have A10 := At.mk' (st := s_Lfill) X G a10 l10 c10 k10
  have A11 := At.mk' (st := s_Lhopes) X G a11 l11 c11 k11
  have A12 := At.mk' (st := s_Lveiled) X G a12 l12 c12 k12
  have A13 := At.mk' (st := s_Lcase) X G a13 l13 c13 k13
  have A14 := At.mk' (st := s_Lspoiled) X G a14 l14 c14 k14
  have A15 := At.mk' (st := s_Lany) X G a15 l15 c15 k15
  have A16 := At.mk' (st := s_Lwritten) X G a16 l16 c16 k16
  have A17 := At.mk' (st := s_Lread) X G a17 l17 c17 k17
  have A18 := At.mk' (st := s_Ltold) X G a18 l18 c18 k18
  have A19 := At.mk' (st := s_Lholds) X G a19 l19 c19 k19
  have A20 := At.mk' (st := s_law) X G a20 l20 c20 k20
  have n_ValueError := PySem.W.mg_none_of X G z_ValueError
  have n_abs := PySem.W.mg_none_of X G z_abs
  have n_all := PySem.W.mg_none_of X G z_all
  have n_bool := PySem.W.mg_none_of X G z_bool
  have n_enumerate := PySem.W.mg_none_of X G z_enumerate
  have n_int := PySem.W.mg_none_of X G z_int
  have n_isinstance := PySem.W.mg_none_of X G z_isinstance
  have n_len := PySem.W.mg_none_of X G z_len
  have n_list := PySem.W.mg_none_of X G z_list
  have n_max := PySem.W.mg_none_of X G z_max
  have n_min := PySem.W.mg_none_of X G z_min
  have n_range := PySem.W.mg_none_of X G z_range
  have n_str := PySem.W.mg_none_of X G z_str
  have n_tuple := PySem.W.mg_none_of X G z_tuple
  have n_zip := PySem.W.mg_none_of X G z_zip
  have c_EMPTY : GStr mg "EMPTY" "-" := ⟨t_EMPTY, PySem.W.mg_of X G y_EMPTY⟩
  have c_SPACE : GStr mg "SPACE" " " := ⟨t_SPACE, PySem.W.mg_of X G y_SPACE⟩
  have c_UNKNOWN : GStr mg "UNKNOWN" "?" := ⟨t_UNKNOWN, PySem.W.mg_of X G y_UNKNOWN⟩
  have e := hfa.symm.trans (PySem.W.mg_of X G a20)
  cases e
  refine ⟨PySem.W.fnOf "law" "law" (defArgs s_law) (defBody s_law) (defScope s_law) .none kV20 dc20 pm20 an20 cd20 ct20, fun s v => .of_eq rfl, fun base hK hN => ?_⟩
  have x_BadText := ex_BadText (P := l.prog) (w := w) (base := base) (PySem.W.mg_of X G xa_BadText) (OexG.mk' xl_BadText xr_BadText xs_BadText xe_BadText xt_BadText xk_BadText) xi_BadText xy_BadText xd_BadText (fun_mk xf_BadText xc_BadText xq_BadText) n_ValueError xv_ValueError
  have x_T := ExT.of X G xT_chk
  have x_M := ExCs.of X G xM_chk
  have h_is_decimal := ok_is_decimal (P := l.prog) (w := w) (base := base) A0 n_all
  have h_table_text := ok_table_text (P := l.prog) (w := w) (base := base) A1 n_str c_EMPTY c_SPACE
  have h_entry_in := ok_entry_in (P := l.prog) (w := w) (base := base) A2 n_int n_len n_str c_EMPTY c_UNKNOWN h_is_decimal
  have h_table_in := ok_table_in (P := l.prog) (w := w) (base := base) A3 n_enumerate n_len n_tuple c_SPACE x_BadText hK hN h_entry_in
  have h_Lsource := ok_Lsource (P := l.prog) (w := w) (base := base) A4 n_abs n_int n_len
  have h_Ldraw := ok_Ldraw (P := l.prog) (w := w) (base := base) A5 3
  have h_Lchoice := ok_Lchoice (P := l.prog) (w := w) (base := base) A6 n_len h_Ldraw
  have h_Lequal := ok_Lequal (P := l.prog) (w := w) (base := base) A7 n_all n_bool n_int n_isinstance n_len n_list n_str n_tuple n_zip 8
  have h_Ldecimal := ok_Ldecimal (P := l.prog) (w := w) (base := base) A8 n_int n_str
  have h_Ltext_changed := ok_Ltext_changed (P := l.prog) (w := w) (base := base) A9 n_len h_Lchoice h_Ldraw
  have h_Lfill := ok_Lfill (P := l.prog) (w := w) (base := base) A10 n_abs n_min n_range n_tuple
  have h_Lhopes := ok_Lhopes (P := l.prog) (w := w) (base := base) A11 n_max n_min n_range h_Ldraw
  have h_Lveiled := ok_Lveiled (P := l.prog) (w := w) (base := base) A12 n_tuple h_Lchoice h_Ldraw
  have h_Lcase := ok_Lcase (P := l.prog) (w := w) (base := base) A13 h_Ldraw h_Lfill h_Lhopes h_Lveiled
  have h_Lspoiled := ok_Lspoiled (P := l.prog) (w := w) (base := base) A14 n_len n_list n_range n_tuple h_Ldraw h_Lchoice
  have h_Lany := ok_Lany (P := l.prog) (w := w) (base := base) A15 h_Lcase h_Ldraw h_Lspoiled
  have h_Lwritten := ok_Lwritten (P := l.prog) (w := w) (base := base) A16 n_str
  have h_Lread := ok_Lread (P := l.prog) (w := w) (base := base) A17 n_enumerate n_int n_len n_tuple h_Ldecimal
  have h_Ltold := ok_Ltold (P := l.prog) (w := w) (base := base) A18 n_isinstance x_T x_M h_table_in
  have h_Lholds := ok_Lholds (P := l.prog) (w := w) (base := base) A19 n_all n_list n_range h_Lany h_Lwritten h_table_in h_table_text h_Lequal h_Ltext_changed h_Ldraw h_Lread h_Ltold
  have h_law := ok_law (P := l.prog) (w := w) (base := base) A20 n_all n_len n_max n_min n_range h_Lsource h_Lholds
  obtain ⟨f, fd, F, hm, FF⟩ := h_law.ex
  have e2 : f = fa := by have := hm.symm.trans (PySem.W.mg_of X G a20); injection this with this; injection this
  subst e2
  obtain ⟨oc, od, kV, doc, pm, an, cdv, ct, osl, e3, lk, hcd⟩ := F.ex
  have e4 := lk.symm.trans l20
  have e5 : fd = PySem.W.fnOf "law" "law" (defArgs s_law) (defBody s_law) (defScope s_law) .none kV20 dc20 pm20 an20 cd20 ct20 := by
    injection e4 with e4; injection e4 with _ _ e6 _; injection e6
  rw [e5] at FF
  exact FF
end NS
namespace NS
open PySem
def txS (l : List Nat) : Str := ⟨l.toArray⟩
theorem txS_cps (x : Str) : txS x.cps.toList = x := by cases x; simp [txS]
@[simp] theorem cps_txS (l : List Nat) : (txS l).cps.toList = l := by simp [txS]
@[simp] theorem txS_length (l : List Nat) : (txS l).length = l.length := by simp [txS, Str.length]
theorem txS_inj {a b : List Nat} : txS a = txS b ↔ a = b := ⟨fun h => by have := congrArg (fun x => x.cps.toList) h; simpa using this, fun h => h ▸ rfl⟩
theorem txS_append (a b : List Nat) : txS a ++ txS b = txS (a ++ b) := by
  show (⟨a.toArray ++ b.toArray⟩ : Str) = _
  simp [txS]
def splL (c : Nat) : List Nat → List (List Nat)
  | [] => [[]]
  | a :: r => if a = c then [] :: splL c r else match splL c r with
    | [] => [[a]]
    | p :: ps => (a :: p) :: ps
theorem splL_ne (c : Nat) : ∀ l, splL c l ≠ []
  | [] => by simp [splL]
  | a :: r => by
    unfold splL
    split
    · simp
    · split <;> simp
def posL (c : Nat) : Nat → List Nat → List Nat
  | _, [] => []
  | o, a :: r => if a = c then o :: posL c (o + 1) r else posL c (o + 1) r
theorem sub_one {l : List Nat} {c i : Nat} (h : i < l.length) : Builtin.Str.subAt (txS l) (txS [c]) i = decide (l[i]? = some c) := by
  unfold Builtin.Str.subAt
  show ((txS l).cps.extract i (i + 1) == (txS [c]).cps) = _
  have e : (txS l).cps.extract i (i + 1) = #[l[i]] := by
    apply Array.ext'
    have e0 : List.take 1 (List.drop i l) = [l[i]] := by rw [List.drop_eq_getElem_cons h]; rfl
    simpa [txS] using e0
  rw [e]
  by_cases hc : l[i] = c
  · simp [txS, hc, h]
  · simp [txS, hc, h]
theorem occ_loop {l : List Nat} {c n : Nat} (hn : n = l.length) : ∀ (k o : Nat), o + k = n + 1 → ∀ (fd : Array Nat) (fr : Nat), fd.size ≤ o → fr ≤ o → ∃ x, (forIn (m := Id) (List.range' o k) (fd, fr) fun i __s =>
      if (decide (__s.fst.size < n + 1) && decide (__s.snd ≤ i) && decide (i + (txS [c]).length ≤ n) && Builtin.Str.subAt (txS l) (txS [c]) i) = true then pure (ForInStep.yield (__s.fst.push i, i + (txS [c]).length)) else pure (ForInStep.yield (__s.fst, __s.snd))) = (x : Array Nat × Nat) ∧
    x.1.toList = fd.toList ++ posL c o (l.drop o)
  | 0, o, e, fd, fr, _, _ => by
    refine ⟨(fd, fr), rfl, ?_⟩
    rw [List.drop_eq_nil_of_le (by omega)]
    simp [posL]
  | k + 1, o, e, fd, fr, h1, h2 => by
    rw [List.range'_succ, List.forIn_cons]
    simp only [txS_length, List.length_cons, List.length_nil, Nat.zero_add]
    have ih := occ_loop (c := c) hn k (o + 1) (by omega)
    simp only [txS_length, List.length_cons, List.length_nil, Nat.zero_add] at ih
    have d1 : decide (fd.size < n + 1) = true := decide_eq_true (by omega)
    have d2 : decide (fr ≤ o) = true := decide_eq_true h2
    rw [d1, d2]
    by_cases ho : o < l.length
    · have d3 : decide (o + 1 ≤ n) = true := decide_eq_true (by omega)
      rw [d3, sub_one ho]
      rw [List.drop_eq_getElem_cons ho]
      unfold posL
      by_cases hc : l[o] = c
      · have : l[o]? = some c := by rw [List.getElem?_eq_getElem ho, hc]
        rw [if_pos hc]
        simp only [this, decide_true, Bool.and_self, if_true]
        obtain ⟨x, e1, e2⟩ := ih (fd.push o) (o + 1) (by simp; omega) (Nat.le_refl _)
        exact ⟨x, e1, by rw [e2]; simp⟩
      · have : ¬ l[o]? = some c := by rw [List.getElem?_eq_getElem ho]; simpa using hc
        rw [if_neg hc]
        simp only [this, decide_false, Bool.and_false, Bool.false_eq_true, if_false]
        obtain ⟨x, e1, e2⟩ := ih fd fr (by omega) (by omega)
        exact ⟨x, e1, e2⟩
    · have d3 : decide (o + 1 ≤ n) = false := decide_eq_false (by omega)
      rw [d3]
      simp only [Bool.and_false, Bool.false_and, Bool.false_eq_true, if_false]
      obtain ⟨x, e1, e2⟩ := ih fd fr (by omega) (by omega)
      refine ⟨x, e1, ?_⟩
      rw [e2, List.drop_eq_nil_of_le (by omega), List.drop_eq_nil_of_le (by omega)]
      simp [posL]
theorem occ_one (l : List Nat) (c : Nat) : Builtin.Str.occurrences (txS l) (txS [c]) 0 (txS l).length ((txS l).length + 1) = posL c 0 l := by
  obtain ⟨x, e1, e2⟩ := occ_loop (l := l) (c := c) rfl (l.length + 1) 0 (by omega) #[] 0 (Nat.le_refl _) (Nat.le_refl _)
  unfold Builtin.Str.occurrences
  dsimp only
  simp only [Std.Legacy.Range.forIn_eq_forIn_range']
  simp only [txS_length] at e1 ⊢
  rw [show Std.Legacy.Range.size [0:l.length + 1] = l.length + 1 from by simp [Std.Legacy.Range.size]]
  show (Id.run ((forIn (m := Id) _ _ _) >>= fun (s : Array Nat × Nat) => pure s.1.toList) : List Nat) = _
  rw [e1]
  show x.1.toList = _
  rw [e2]; simp
theorem parts_eq (c : Nat) (L : List Nat) : ∀ (l : List Nat) (o st : Nat), L.drop o = l → o ≤ L.length → st ≤ o → ((st :: (posL c o l).map (· + 1)).zip (posL c o l ++ [L.length])).map (fun x => (L.drop x.1).take (x.2 - x.1)) =
    match splL c l with
    | [] => []
    | p :: ps => ((L.drop st).take (o - st) ++ p) :: ps
  | [], o, st, e, ho, hs => by
    have : L.length ≤ o := List.drop_eq_nil_iff.mp e
    have hL : o = L.length := by omega
    subst hL
    simp [posL, splL]
  | a :: r, o, st, e, ho, hs => by
    have hlt : o < L.length := by
      apply Nat.lt_of_not_le
      intro z
      rw [List.drop_eq_nil_of_le z] at e; cases e
    have hr : L.drop (o + 1) = r := by
      rw [← List.tail_drop, e]; rfl
    have ha : L[o] = a := by
      have := List.drop_eq_getElem_cons hlt
      rw [e] at this
      exact ((List.cons.inj this).1).symm
    unfold posL splL
    by_cases hc : a = c
    · rw [if_pos hc, if_pos hc]
      simp only [List.map_cons, List.cons_append, List.zip_cons_cons]
      have ih := parts_eq c L r (o + 1) (o + 1) hr (by omega) (Nat.le_refl _)
      rw [ih]
      cases h : splL c r with
      | nil => exact absurd h (splL_ne c r)
      | cons p ps => simp
    · rw [if_neg hc, if_neg hc]
      have ih := parts_eq c L r (o + 1) st hr (by omega) (by omega)
      rw [ih]
      cases h : splL c r with
      | nil => exact absurd h (splL_ne c r)
      | cons p ps =>
        have : (L.drop st).take (o + 1 - st) = (L.drop st).take (o - st) ++ [a] := by
          rw [show o + 1 - st = (o - st) + 1 by omega, List.take_succ]
          congr 1
          rw [List.getElem?_drop, show st + (o - st) = o by omega, List.getElem?_eq_getElem hlt, ha]; rfl
        simp [this]
theorem posL_nil {c : Nat} : ∀ {l : List Nat} {o : Nat}, posL c o l = [] → splL c l = [l]
  | [], _, _ => rfl
  | a :: r, o, h => by
    unfold posL at h
    by_cases hc : a = c
    · rw [if_pos hc] at h; cases h
    · rw [if_neg hc] at h
      unfold splL
      rw [if_neg hc, posL_nil h]
theorem split_one (l : List Nat) {c : Nat} (hc : c < 256) : Txt.split (txS l) (txS [c]) = (splL c l).map txS := by
  have k1 : Builtin.Str.strKind (txS [c]) = 1 := by unfold Builtin.Str.strKind; simp [txS, hc]
  have k2 : ¬ Builtin.Str.strKind (txS l) < 1 := by unfold Builtin.Str.strKind; split <;> (try split) <;> omega
  unfold Txt.split
  rw [k1, decide_eq_false k2, occ_one]
  simp only [txS_length, List.length_cons, List.length_nil, Nat.zero_add, Bool.or_false]
  by_cases h0 : l.length < 1
  · have : l = [] := List.eq_nil_of_length_eq_zero (by omega)
    subst this
    rfl
  · rw [decide_eq_false h0]
    simp only [Bool.false_eq_true, if_false]
    by_cases hp : posL c 0 l = []
    · rw [hp, posL_nil hp]; rfl
    · have : (posL c 0 l).isEmpty = false := by simpa using hp
      rw [this]
      simp only [Bool.false_eq_true, if_false]
      unfold Builtin.Str.partsBetween
      have pe := parts_eq c l l 0 0 rfl (Nat.zero_le _) (Nat.le_refl _)
      have e2 : ∀ x : Nat × Nat, Builtin.Str.strSub (txS l) x.1 x.2 = txS ((l.drop x.1).take (x.2 - x.1)) := fun x => by
        unfold Builtin.Str.strSub txS
        congr 1
        apply Array.ext'
        simp [Array.toList_extract, List.extract]
      show List.map (fun x : Nat × Nat => Builtin.Str.strSub (txS l) x.1 x.2) _ = _
      rw [List.map_congr_left fun x _ => e2 x, show (fun x : Nat × Nat => txS ((l.drop x.1).take (x.2 - x.1))) = txS ∘ (fun x : Nat × Nat => (l.drop x.1).take (x.2 - x.1)) from rfl, ← List.map_map, txS_length, pe]
      cases h : splL c l with
      | nil => exact absurd h (splL_ne c l)
      | cons p ps => simp
def joinL (g : List Nat) : List (List Nat) → List Nat
  | [] => []
  | [p] => p
  | p :: q :: r => p ++ g ++ joinL g (q :: r)
theorem glue_fold (g : List Nat) : ∀ (ps : List (List Nat)) (a : Array Nat), (List.foldl (fun acc (p : Str) => acc ++ (txS g).cps ++ p.cps) a (ps.map txS)).toList = a.toList ++ ps.flatMap (g ++ ·)
  | [], a => by simp
  | p :: ps, a => by
    rw [List.map_cons, List.foldl_cons, glue_fold g ps]
    simp [txS]
theorem joinL_cons (g p : List Nat) (ps : List (List Nat)) : joinL g (p :: ps) = p ++ ps.flatMap (g ++ ·) := by
  induction ps generalizing p with
  | nil => simp [joinL]
  | cons q r ih => show p ++ g ++ joinL g (q :: r) = _; rw [ih]; simp
theorem join_eq (g : List Nat) (ps : List (List Nat)) : Txt.join (txS g) (ps.map txS) = txS (joinL g ps) := by
  unfold Txt.join Builtin.Str.glued
  cases ps with
  | nil => rfl
  | cons p ps =>
    rw [joinL_cons]
    show (⟨List.foldl _ (txS p).cps (List.drop 1 (txS p :: ps.map txS))⟩ : Str) = _
    rw [List.drop_one, List.tail_cons]
    unfold txS
    congr 1
    apply Array.ext'
    have := glue_fold g ps (txS p).cps
    unfold txS at this
    rw [this]
theorem splL_no {c : Nat} : ∀ {l : List Nat}, c ∉ l → splL c l = [l]
  | [], _ => rfl
  | a :: r, h => by
    unfold splL
    rw [if_neg (fun e => h (by simp [e])), splL_no (fun z => h (List.mem_cons_of_mem _ z))]
theorem splL_app {c : Nat} : ∀ {p : List Nat}, c ∉ p → ∀ r, splL c (p ++ c :: r) = p :: splL c r
  | [], _, r => by simp [splL]
  | a :: p, h, r => by
    rw [List.cons_append, splL, if_neg (fun e => h (by simp [e])), splL_app (fun z => h (List.mem_cons_of_mem _ z)) r]
theorem splL_join {c : Nat} : ∀ {ps : List (List Nat)}, ps ≠ [] → (∀ p ∈ ps, c ∉ p) → splL c (joinL [c] ps) = ps
  | [p], _, h => splL_no (h p (by simp))
  | p :: q :: r, _, h => by
    show splL c (p ++ [c] ++ joinL [c] (q :: r)) = _
    rw [List.append_assoc, List.singleton_append, splL_app (h p (by simp)), splL_join (by simp) fun x hx => h x (List.mem_cons_of_mem _ hx)]
theorem splL_mem {c : Nat} : ∀ {l p : List Nat}, p ∈ splL c l → c ∉ p ∧ ∀ a ∈ p, a ∈ l
  | [], p, h => by simp [splL] at h; subst h; simp
  | a :: r, p, h => by
    unfold splL at h
    split at h
    · rcases List.mem_cons.mp h with rfl | h
      · simp
      · have := splL_mem h; exact ⟨this.1, fun x hx => List.mem_cons_of_mem _ (this.2 x hx)⟩
    · next hc =>
      cases e : splL c r with
      | nil => exact absurd e (splL_ne c r)
      | cons q ps =>
        rw [e] at h
        rcases List.mem_cons.mp h with rfl | h
        · have := splL_mem (c := c) (l := r) (p := q) (by rw [e]; simp)
          refine ⟨fun z => ?_, fun x hx => ?_⟩
          · rcases List.mem_cons.mp z with z | z
            · exact hc z.symm
            · exact this.1 z
          · rcases List.mem_cons.mp hx with rfl | hx
            · simp
            · exact List.mem_cons_of_mem _ (this.2 x hx)
        · have := splL_mem (c := c) (l := r) (p := p) (by rw [e]; exact List.mem_cons_of_mem _ h)
          exact ⟨this.1, fun x hx => List.mem_cons_of_mem _ (this.2 x hx)⟩
theorem splL_len (c : Nat) : ∀ l, (splL c l).length ≤ l.length + 1
  | [] => by simp [splL]
  | a :: r => by
    have ih := splL_len c r
    unfold splL
    split
    · simp; omega
    · cases h : splL c r with
      | nil => simp
      | cons p ps => rw [h] at ih; simp at ih ⊢; omega
theorem splL_sum (c : Nat) : ∀ l, ((splL c l).map List.length).sum + (splL c l).length = l.length + 1
  | [] => by simp [splL]
  | a :: r => by
    have ih := splL_sum c r
    unfold splL
    split
    · simp; omega
    · cases h : splL c r with
      | nil => exact absurd h (splL_ne c r)
      | cons p ps => rw [h] at ih; simp at ih ⊢; omega
def dg (n : Nat) : List Nat := (Nat.toDigits 10 n).map Char.toNat
def tN (n : Nat) : Str := txS (dg n)
theorem tN_eq (n : Nat) : Str.ofString (toString (n : Int)) = tN n := PyProof.Rows.text_ofNat n
theorem dg_lt {n : Nat} (h : n < 10) : dg n = [48 + n] := by
  unfold dg
  rw [Nat.toDigits_of_lt_base h]
  have : ∀ n : Nat, n < 10 → [n.digitChar].map Char.toNat = [48 + n] := by decide +kernel
  exact this n h
theorem dg_step {n d : Nat} (h : 0 < n) (hd : d < 10) : dg (10 * n + d) = dg n ++ [48 + d] := by
  have := Nat.toDigits_append_toDigits (b := 10) (n := n) (d := d) (by decide) h hd
  unfold dg
  rw [← this, List.map_append]
  congr 1
  exact dg_lt hd
theorem dg_all : ∀ n, NumText.AllDigits (dg n) := fun n => by
  induction n using Nat.strongRecOn with
  | ind n ih =>
    by_cases h : n < 10
    · rw [dg_lt h]; intro c hc; simp at hc; omega
    · have e : n = 10 * (n / 10) + n % 10 := by omega
      rw [e, dg_step (by omega) (by omega)]
      intro c hc
      rcases List.mem_append.mp hc with hc | hc
      · exact ih (n / 10) (by omega) c hc
      · simp at hc; omega
theorem dg_ne (n : Nat) : dg n ≠ [] := by
  by_cases h : n < 10
  · rw [dg_lt h]; simp
  · have e : n = 10 * (n / 10) + n % 10 := by omega
    rw [e, dg_step (by omega) (by omega)]; simp
theorem dv_snoc (l : List Nat) (c : Nat) : NumText.digitsVal (l ++ [c]) = NumText.digitsVal l * 10 + (c - 48) := by
  unfold NumText.digitsVal; rw [List.foldl_append]; rfl
theorem dv_dg (n : Nat) : NumText.digitsVal (dg n) = n := by
  induction n using Nat.strongRecOn with
  | ind n ih =>
    by_cases h : n < 10
    · rw [dg_lt h]; unfold NumText.digitsVal; simp
    · have e : n = 10 * (n / 10) + n % 10 := by omega
      conv => lhs; rw [e]
      rw [dg_step (by omega) (by omega), dv_snoc, ih (n / 10) (by omega)]
      omega
def isDec (l : List Nat) : Bool := l != [] && l.all (fun c => decide (48 ≤ c) && decide (c ≤ 57)) && (l == [48] || l.head? != some 48)
theorem isDec_iff {l : List Nat} : isDec l = true ↔ l ≠ [] ∧ NumText.AllDigits l ∧ (l = [48] ∨ l.head? ≠ some 48) := by
  unfold isDec NumText.AllDigits
  simp [and_assoc]
theorem dv_pos : ∀ {l : List Nat}, l ≠ [] → NumText.AllDigits l → l.head? ≠ some 48 → 0 < NumText.digitsVal l ∧ dg (NumText.digitsVal l) = l := by
  intro l
  induction h : l.length generalizing l with
  | zero => intro h0; exact absurd (List.eq_nil_of_length_eq_zero h) h0
  | succ k ih =>
    intro h0 ha hh
    obtain ⟨i, c, rfl⟩ : ∃ i c, l = i ++ [c] := ⟨l.dropLast, l.getLast h0, (List.dropLast_concat_getLast h0).symm⟩
    have hc := ha c (by simp)
    rw [dv_snoc]
    by_cases hi : i = []
    · subst hi
      have h48 : c ≠ 48 := fun z => hh (by simp [z])
      have e0 : NumText.digitsVal [] = 0 := rfl
      rw [e0, Nat.zero_mul, Nat.zero_add]
      refine ⟨by omega, ?_⟩
      rw [dg_lt (by omega)]
      simp; omega
    · have hl : i.length = k := by simp at h; omega
      obtain ⟨p, e⟩ := ih hl hi (fun x hx => ha x (by simp [hx])) (by
        intro z
        apply hh
        cases i with
        | nil => exact absurd rfl hi
        | cons a r => simpa using z)
      refine ⟨by omega, ?_⟩
      rw [Nat.mul_comm, dg_step p (by omega), e]
      congr 1
      simp; omega
theorem dec_dg {l : List Nat} (h : isDec l = true) : dg (NumText.digitsVal l) = l := by
  obtain ⟨h0, ha, hh⟩ := isDec_iff.mp h
  rcases hh with rfl | hh
  · decide +kernel
  · exact (dv_pos h0 ha hh).2
theorem dg_dec (n : Nat) : isDec (dg n) = true := by
  refine isDec_iff.mpr ⟨dg_ne n, dg_all n, ?_⟩
  induction n using Nat.strongRecOn with
  | ind n ih =>
    by_cases h : n < 10
    · rw [dg_lt h]; by_cases h0 : n = 0
      · left; subst h0; rfl
      · right; simp; omega
    · have e : n = 10 * (n / 10) + n % 10 := by omega
      right
      rw [e, dg_step (by omega) (by omega)]
      rcases ih (n / 10) (by omega) with z | z
      · have := dv_dg (n / 10)
        rw [z] at this
        have e48 : NumText.digitsVal [48] = 0 := rfl
        omega
      · cases hd : dg (n / 10) with
        | nil => exact absurd hd (dg_ne _)
        | cons a r => rw [hd] at z; simpa using z
theorem int_text {l : List Nat} (ha : NumText.AllDigits l) (h0 : l ≠ []) (hl : l.length ≤ 4300) : intText? (txS l) = some (NumText.digitsVal l : Nat) := by
  have := intText_digits (x := txS l) (by simpa using ha) (by simpa using h0) (by simpa using hl)
  simpa using this
theorem dv_lt : ∀ {l : List Nat}, NumText.AllDigits l → NumText.digitsVal l < 10 ^ l.length := by
  intro l
  induction h : l.length generalizing l with
  | zero => intro _; rw [List.eq_nil_of_length_eq_zero h]; decide
  | succ k ih =>
    intro ha
    have h0 : l ≠ [] := fun z => by rw [z] at h; cases h
    obtain ⟨i, c, rfl⟩ : ∃ i c, l = i ++ [c] := ⟨l.dropLast, l.getLast h0, (List.dropLast_concat_getLast h0).symm⟩
    have hc := ha c (by simp)
    rw [dv_snoc, Nat.pow_succ]
    have := ih (l := i) (by simp at h; omega) fun x hx => ha x (by simp [hx])
    omega
theorem dv_ge {l : List Nat} (h : isDec l = true) (h1 : 1 < l.length) : 10 ^ (l.length - 1) ≤ NumText.digitsVal l := by
  obtain ⟨h0, ha, hh0⟩ := isDec_iff.mp h
  have hh : l.head? ≠ some 48 := by
    rcases hh0 with rfl | hh
    · simp at h1
    · exact hh
  clear h hh0
  induction hk : l.length generalizing l with
  | zero => omega
  | succ k ih =>
    obtain ⟨i, c, rfl⟩ : ∃ i c, l = i ++ [c] := ⟨l.dropLast, l.getLast h0, (List.dropLast_concat_getLast h0).symm⟩
    rw [dv_snoc]
    have hl : i.length = k := by simp at hk; omega
    have hi : i ≠ [] := fun z => by subst z; simp at h1
    have hia : NumText.AllDigits i := fun x hx => ha x (by simp [hx])
    have hih : i.head? ≠ some 48 := by
      intro z
      apply hh
      cases i with
      | nil => exact absurd rfl hi
      | cons a r => simpa using z
    by_cases h2 : 1 < i.length
    · have := ih h2 hi hia hih hl
      have e : k + 1 - 1 = (k - 1) + 1 := by omega
      rw [e, Nat.pow_succ]
      omega
    · have hk1 : k = 1 := by
        have : i.length ≠ 0 := fun z => hi (List.eq_nil_of_length_eq_zero z)
        omega
      have := (dv_pos hi hia hih).1
      rw [hk1]; simp; omega
theorem dg_len_le {n k : Nat} (h : n < 10 ^ k) (hk : 0 < k) : (dg n).length ≤ k := by
  apply Nat.le_of_not_lt
  intro z
  have := dv_ge (dg_dec n) (by omega)
  rw [dv_dg] at this
  have : 10 ^ k ≤ 10 ^ ((dg n).length - 1) := Nat.pow_le_pow_right (by decide) (by omega)
  omega
end NS
namespace NS
open PySem PySem.Spec PyProof.Rows L2
def T {α : Type} (x : M α) (g : G) (Q : α → G → Prop) : Prop := ∃ a g', x g = .ok a g' ∧ Q a g'
theorem T.imp {α : Type} {x : M α} {g : G} {Q R : α → G → Prop} (h : T x g Q) (i : ∀ a g', Q a g' → R a g') : T x g R := by
  obtain ⟨a, g', e, q⟩ := h; exact ⟨a, g', e, i _ _ q⟩
@[simp] theorem T_pure {α : Type} (a : α) (g : G) (Q : α → G → Prop) : T (M.pure a) g Q ↔ Q a g :=
  ⟨fun ⟨_, _, e, q⟩ => by cases e; exact q, fun q => ⟨a, g, rfl, q⟩⟩
@[simp] theorem T_bind {α β : Type} (x : M α) (f : α → M β) (g : G) (Q : β → G → Prop) : T (M.bind x f) g Q ↔ T x g (fun a g' => T (f a) g' Q) := by
  constructor
  · rintro ⟨b, g', e, q⟩
    unfold M.bind at e
    cases h : x g with
    | ok a g1 => rw [h] at e; exact ⟨a, g1, h, b, g', e, q⟩
    | err z g1 => rw [h] at e; cases e
    | bad => rw [h] at e; cases e
  · rintro ⟨a, g1, h, b, g', e, q⟩
    exact ⟨b, g', by rw [bind_ok h]; exact e, q⟩
@[simp] theorem T_noerr {α : Type} (x : M α) (g : G) (Q : α → G → Prop) : T (M.noerr x) g Q ↔ T x g Q := by
  constructor
  · rintro ⟨b, g', e, q⟩
    cases h : x g with
    | ok a g1 => rw [noerr_ok h] at e; cases e; exact ⟨_, _, h, q⟩
    | err z g1 => rw [noerr_err h] at e; cases e
    | bad => rw [noerr_bad h] at e; cases e
  · rintro ⟨a, g1, h, q⟩
    exact ⟨a, g1, noerr_ok h, q⟩
@[simp] theorem T_if {α : Type} (c : Prop) [Decidable c] (x y : M α) (g : G) (Q : α → G → Prop) : T (if c then x else y) g Q ↔ (c → T x g Q) ∧ (¬ c → T y g Q) := by split <;> simp [*]
@[simp] theorem T_bad {α : Type} (g : G) (Q : α → G → Prop) : T M.bad g Q ↔ False := ⟨fun ⟨_, _, e, _⟩ => (nomatch e), False.elim⟩
@[simp high] theorem T_guard {α : Type} (c : Prop) [Decidable c] (x : M α) (g : G) (Q : α → G → Prop) : T (if c then x else M.bad) g Q ↔ c ∧ T x g Q := by
  by_cases h : c
  · simp [h]
  · rw [if_neg h]; simp [h]
@[simp] theorem T_some {α : Type} (a : α) (g : G) (Q : α → G → Prop) : T (M.opt (some a)) g Q ↔ Q a g := T_pure a g Q
@[simp] theorem and_as (a b c : Prop) : (a ∧ b) ∧ c ↔ a ∧ b ∧ c := and_assoc
@[simp] theorem T_opt {α : Type} (o : Option α) (g : G) (Q : α → G → Prop) : T (M.opt o) g Q ↔ ∃ a, o = some a ∧ Q a g := by cases o <;> simp [M.opt]
@[simp] theorem pure_bind' {α β : Type} (a : α) (f : α → M β) : M.bind (M.pure a) f = f a := rfl
@[simp] theorem bad_bind' {α β : Type} (f : α → M β) : M.bind M.bad f = M.bad := rfl
@[simp] theorem ite_bind' {α β : Type} (c : Prop) [Decidable c] (x y : M α) (f : α → M β) : M.bind (if c then x else y) f = if c then M.bind x f else M.bind y f := by split <;> rfl
@[simp] theorem bind_bind' {α β γ : Type} (x : M α) (f : α → M β) (h : β → M γ) : M.bind (M.bind x f) h = M.bind x (fun a => M.bind (f a) h) := by
  funext g
  unfold M.bind
  cases x g <;> rfl
@[simp] theorem noerr_pure' {α : Type} (a : α) : M.noerr (M.pure a) = M.pure a := rfl
@[simp] theorem noerr_bad' {α : Type} : M.noerr (M.bad : M α) = M.bad := rfl
@[simp] theorem noerr_ite {α : Type} (c : Prop) [Decidable c] (x y : M α) : M.noerr (if c then x else y) = if c then M.noerr x else M.noerr y := by split <;> rfl
@[simp] theorem opt_some' {α : Type} (a : α) : M.opt (some a) = M.pure a := rfl
@[simp] theorem opt_none' {α : Type} : (M.opt none : M α) = M.bad := rfl
@[simp] theorem eVar0 (x : DV) (σ : DS) : eVar 0 (some x :: σ) = (match x with | .sh d => M.pure d | _ => M.bad) := by cases x <;> rfl
@[simp] theorem eVarS (i : Nat) (x : Option DV) (σ : DS) : eVar (i + 1) (x :: σ) = eVar i σ := rfl
@[simp] theorem eC_ap (d : D) (σ : DS) : eC d σ = M.pure d := rfl
@[simp] theorem eBin_ap (k : D → D → M D) (fa fb : DS → M D) (σ : DS) : eBin k fa fb σ = M.bind (fa σ) fun x => M.bind (fb σ) fun y => k x y := rfl
@[simp] theorem eArgs_ap (k : List D → M D) (fl : DS → M (List D)) (σ : DS) : eArgs k fl σ = M.bind (fl σ) k := rfl
@[simp] theorem iArgs_ap (k : List D → M (List D)) (fl : DS → M (List D)) (σ : DS) : iArgs k fl σ = M.bind (fl σ) k := rfl
@[simp] theorem iSeq_ap (f : DS → M D) (σ : DS) : iSeq f σ = M.bind (f σ) itD := rfl
@[simp] theorem lNil_ap (σ : DS) : lNil σ = M.pure [] := rfl
@[simp] theorem lCons_ap (f : DS → M D) (fl : DS → M (List D)) (σ : DS) : lCons f fl σ = M.bind (f σ) fun x => M.bind (fl σ) fun xs => M.pure (x :: xs) := rfl
@[simp] theorem eTst_ap (f : DS → M D) (σ : DS) : eTst f σ = M.bind (f σ) asB := rfl
@[simp] theorem eChain_ap (k k' : D → D → M D) (fa fb fc : DS → M D) (σ : DS) : eChain k k' fa fb fc σ = M.bind (fa σ) fun x => M.bind (fb σ) fun y => M.bind (M.bind (k x y) asB) fun t =>
  if t = true then M.bind (fc σ) fun z => k' y z else M.pure (.bl false) := rfl
@[simp] theorem eAnd_ap (f h : DS → M Bool) (σ : DS) : eAnd f h σ = M.bind (f σ) fun t => if t = true then h σ else M.pure false := rfl
@[simp] theorem eOr_ap (f h : DS → M Bool) (σ : DS) : eOr f h σ = M.bind (f σ) fun t => if t = true then M.pure true else h σ := rfl
@[simp] theorem eNot_ap (f : DS → M Bool) (σ : DS) : eNot f σ = M.bind (f σ) fun t => M.pure !t := rfl
@[simp] theorem eIf_ap (t : DS → M Bool) (fa fb : DS → M D) (σ : DS) : eIf t fa fb σ = M.bind (t σ) fun b => if b = true then fa σ else fb σ := rfl
@[simp] theorem eAndV_ap (fa fb : DS → M D) (σ : DS) : eAndV fa fb σ = M.bind (M.bind (fa σ) asB) fun t => if t = true then fb σ else M.pure (.bl false) := rfl
@[simp] theorem eOrV_ap (fa fb : DS → M D) (σ : DS) : eOrV fa fb σ = M.bind (M.bind (fa σ) asB) fun t => if t = true then M.pure (.bl true) else fb σ := rfl
@[simp] theorem eNotV_ap (fa : DS → M D) (σ : DS) : eNotV fa σ = M.bind (M.bind (fa σ) asB) fun t => M.pure (.bl !t) := rfl
@[simp] theorem eNeg_ap (fa : DS → M D) (σ : DS) : eNeg fa σ = M.bind (fa σ) kNeg := rfl
@[simp] theorem kNeg_int (i : Int) : kNeg (.int i) = M.pure (.int (-i)) := rfl
@[simp] theorem eIsi_ap (ns : List String) (fa : DS → M D) (σ : DS) : eIsi ns fa σ = M.bind (fa σ) (kIsi ns) := rfl
@[simp] theorem r1D_ap (fa : DS → M D) (σ : DS) : r1D fa σ = M.bind (M.bind (fa σ) asI) fun j => M.pure (0, j) := rfl
@[simp] theorem r2D_ap (fa fb : DS → M D) (σ : DS) : r2D fa fb σ = M.bind (fa σ) fun x => M.bind (fb σ) fun y => M.bind (asI x) fun i => M.bind (asI y) fun j => M.pure (i, j) := rfl
@[simp] theorem eLRg_ap (f : DS → M (Int × Int)) (σ : DS) : eLRg f σ = M.bind (f σ) fun p => if rgOk p.1 p.2 = true then M.pure (.lst (rngD p.1 p.2)) else M.bad := rfl
@[simp] theorem eTRg_ap (f : DS → M (Int × Int)) (σ : DS) : eTRg f σ = M.bind (f σ) fun p => if rgOk p.1 p.2 = true then M.pure (.tup (rngD p.1 p.2)) else M.bad := rfl
@[simp] theorem eSl_ap (k : Option Int → Option Int → D → M D) (fe : DS → M D) (fl fh : FO) (σ : DS) : eSl k fe fl fh σ = M.bind (fe σ) fun x => M.bind (fl σ) fun l => M.bind (fh σ) fun h => k l h x := rfl
@[simp] theorem oNone_ap (σ : DS) : oNone σ = M.pure none := rfl
@[simp] theorem oSome_ap (f : DS → M D) (σ : DS) : oSome f σ = M.bind (f σ) fun d => match d with | .int i => M.pure (some i) | _ => M.bad := rfl
@[simp] theorem eRev_ap (fa : DS → M D) (σ : DS) : eRev fa σ = M.bind (fa σ) kRev := rfl
@[simp] theorem eComp_ap (fi : DS → M (List D)) (vs : List Nat) (fg : D → DS → M DS) (ft : DS → M Bool) (fe : DS → M D) (σ : DS) : eComp fi vs fg ft fe σ = M.bind (fi σ) fun ds => if fit ds.length = true then M.bind (compM fg ft fe (wipeD σ vs) ds) fun r => M.pure (.lst r) else M.bad := rfl
@[simp] theorem eComp2_ap (fi : DS → M (List D)) (vs : List Nat) (fg : D → DS → M DS) (ft : DS → M Bool) (fi1 : DS → M (List D)) (vs1 : List Nat) (fg1 : D → DS → M DS) (ft1 : DS → M Bool) (fe : DS → M D) (σ : DS) : eComp2 fi vs fg ft fi1 vs1 fg1 ft1 fe σ =
  M.bind (fi σ) fun ds => if fit ds.length = true then M.bind (M.noerr (compM2 fg ft fi1 vs1 fg1 ft1 fe (wipeD σ vs) ds)) fun r => if fit r.length = true then M.pure (.lst r) else M.bad else M.bad := rfl
@[simp] theorem tYes_ap (σ : DS) : tYesD σ = M.pure true := rfl
@[simp] theorem callN_1 (f : List D → M D) (a : D) : callN 1 f [a] = f [a] := rfl
@[simp] theorem callN_2 (f : List D → M D) (a b : D) : callN 2 f [a, b] = f [a, b] := rfl
@[simp] theorem callN_3 (f : List D → M D) (a b c : D) : callN 3 f [a, b, c] = f [a, b, c] := rfl
@[simp] theorem callN_4 (f : List D → M D) (a b c d : D) : callN 4 f [a, b, c, d] = f [a, b, c, d] := rfl
@[simp] theorem callN_5 (f : List D → M D) (a b c d e : D) : callN 5 f [a, b, c, d, e] = f [a, b, c, d, e] := rfl
@[simp] theorem callN_0 (f : List D → M D) : callN 0 f [] = f [] := rfl
@[simp] theorem kwN_2 (f : List D → M D) (i j : Nat) (a b : D) : kwN 2 [i, j] 2 f [a, b] = callN 2 f (permL [i, j] [a, b]) := rfl
@[simp] theorem kwN_3 (f : List D → M D) (i j k : Nat) (a b c : D) : kwN 3 [i, j, k] 3 f [a, b, c] = callN 3 f (permL [i, j, k] [a, b, c]) := rfl
@[simp] theorem kwN_4 (f : List D → M D) (i j k l : Nat) (a b c d : D) : kwN 4 [i, j, k, l] 4 f [a, b, c, d] = callN 4 f (permL [i, j, k, l] [a, b, c, d]) := rfl
@[simp] theorem kwN_1 (f : List D → M D) (i : Nat) (a : D) : kwN 1 [i] 1 f [a] = callN 1 f (permL [i] [a]) := rfl
@[simp] theorem permL_nil {α : Type} (l : List α) : permL [] l = [] := rfl
@[simp] theorem permL_cons {α : Type} (i : Nat) (is : List Nat) (l : List α) : permL (i :: is) l = (match l[i]? with | some x => [x] | none => []) ++ permL is l := by
  unfold permL
  rw [List.filterMap_cons]
  cases l[i]? <;> rfl
@[simp] theorem asB_bl (b : Bool) : asB (.bl b) = M.pure b := rfl
@[simp] theorem asI_int (i : Int) : asI (.int i) = M.pure i := rfl
@[simp] theorem kII_int (f : Int → Int → Option D) (i j : Int) : kII f (.int i) (.int j) = M.opt (f i j) := rfl
@[simp] theorem kAdd_int (i j : Int) : kAdd (.int i) (.int j) = M.pure (.int (i + j)) := rfl
@[simp] theorem kAdd_tup (a b : List D) : kAdd (.tup a) (.tup b) = if fit (a.length + b.length) = true then M.pure (.tup (a ++ b)) else M.bad := rfl
@[simp] theorem kAdd_lst (a b : List D) : kAdd (.lst a) (.lst b) = if fit (a.length + b.length) = true then M.pure (.lst (a ++ b)) else M.bad := rfl
@[simp] theorem kCat_lst (a b : List D) : kCat (.lst a) (.lst b) = if fit (a.length + b.length) = true then M.pure (.lst (a ++ b)) else M.bad := rfl
@[simp] theorem kAddI_int (i j : Int) : kAddI (.int i) (.int j) = M.pure (.int (i + j)) := rfl
@[simp] theorem kMul_int (i j : Int) : kMul (.int i) (.int j) = M.opt (mulI i j) := rfl
@[simp] theorem kMul_lst (a : List D) (k : Int) : kMul (.lst a) (.int k) = if 0 ≤ k ∧ k ≤ 1000 ∧ a.length ≤ 1000 then M.pure (.lst (List.replicate k.toNat a).flatten) else M.bad := rfl
@[simp] theorem kMul_tup (a : List D) (k : Int) : kMul (.tup a) (.int k) = if k = 1 then M.pure (.tup a) else if 2 ≤ k ∧ k ≤ 1000 ∧ a.length ≤ 1000 ∧ a ≠ [] then M.pure (.tup (List.replicate k.toNat a).flatten) else M.bad := rfl
@[simp] theorem kRep_lst (a : List D) (k : Int) : kRep (.lst a) (.int k) = if 0 ≤ k ∧ k ≤ 1000 ∧ a.length ≤ 1000 then M.pure (.lst (List.replicate k.toNat a).flatten) else M.bad := rfl
@[simp] theorem kLt_int (i j : Int) : kLt (.int i) (.int j) = M.pure (.bl (decide (i < j))) := rfl
@[simp] theorem kLt_pair (i j k l : Int) : kLt (.tup [.int i, .int j]) (.tup [.int k, .int l]) = M.pure (.bl (decide (i < k ∨ (i = k ∧ j < l)))) := by
  show M.pure (D.bl (HT.lexLt [i, j] [k, l])) = _
  congr 2
  simp only [HT.lexLt]
  by_cases h1 : i = k
  · by_cases h2 : j = l
    · subst h1 h2; simp
    · subst h1; simp [h2]
  · by_cases h3 : i < k <;> simp [h1, h3]
@[simp] theorem kMax2_int (i j : Int) : kMax2 [.int i, .int j] = M.pure (.int (max i j)) := by show M.pure (D.int (if j > i then j else i)) = _; congr 2; split <;> omega
@[simp] theorem kMin2_int (i j : Int) : kMin2 [.int i, .int j] = M.pure (.int (min i j)) := by show M.pure (D.int (if j < i then j else i)) = _; congr 2; split <;> omega
@[simp] theorem kAbs_int (i : Int) : kAbs [.int i] = M.pure (.int (i.natAbs : Int)) := by show M.pure (D.int (if i < 0 then -i else i)) = _; congr 2; split <;> omega
@[simp] theorem kInt_int (i : Int) : kInt [.int i] = M.pure (.int i) := rfl
@[simp] theorem kInt_bl (b : Bool) : kInt [.bl b] = M.pure (.int (if b then 1 else 0)) := rfl
@[simp] theorem kLen_lst (a : List D) : kLen [.lst a] = M.pure (.int (a.length : Int)) := rfl
@[simp] theorem kLen_tup (a : List D) : kLen [.tup a] = M.pure (.int (a.length : Int)) := rfl
@[simp] theorem kLen_slst (a : List D) : kLen [.slst a] = M.pure (.int (a.length : Int)) := rfl
@[simp] theorem kList_lst (a : List D) : kList [.lst a] = M.pure (.lst a) := rfl
@[simp] theorem kList_tup (a : List D) : kList [.tup a] = M.pure (.lst a) := rfl
@[simp] theorem kTuple_lst (a : List D) : kTuple [.lst a] = M.pure (.tup a) := rfl
@[simp] theorem kTuple_tup (a : List D) : kTuple [.tup a] = M.pure (.tup a) := rfl
@[simp] theorem kIx_lst (a : List D) (i : Int) : kIx (.lst a) (.int i) = M.opt (L2.atI a i) := rfl
@[simp] theorem kIx_tup (a : List D) (i : Int) : kIx (.tup a) (.int i) = M.opt (L2.atI a i) := rfl
@[simp] theorem kIx_slst (a : List D) (i : Int) : kIx (.slst a) (.int i) = M.opt (L2.atI a i) := rfl
@[simp] theorem kSl_lst (a : List D) (l h : Option Int) : kSl l h (.lst a) = M.pure (.lst (cutD a l h)) := rfl
@[simp] theorem kSl_tup (a : List D) (l h : Option Int) : kSl l h (.tup a) = M.pure (.tup (cutD a l h)) := rfl
@[simp] theorem kSlL_lst (a : List D) (l h : Option Int) : kSlL l h (.lst a) = M.pure (.lst (cutD a l h)) := rfl
@[simp] theorem itD_lst (a : List D) : itD (.lst a) = M.pure a := rfl
@[simp] theorem itD_tup (a : List D) : itD (.tup a) = M.pure a := rfl
@[simp] theorem rng1_int (j : Int) : rng1 [.int j] = if inR j = true then M.pure (rngD 0 j) else M.bad := rfl
@[simp] theorem rng2_int (i j : Int) : rng2 [.int i, .int j] = if inR i = true ∧ inR j = true then M.pure (rngD i j) else M.bad := rfl
@[simp] theorem mkT_ap (a : List D) : mkT a = if fit a.length = true then M.pure (.tup a) else M.bad := rfl
@[simp] theorem mkL_ap (a : List D) : mkL a = if fit a.length = true then M.pure (.lst a) else M.bad := rfl
@[simp] theorem enumK_lst (a : List D) : enumK [.lst a] = M.pure (enumD a) := rfl
@[simp] theorem enumK_tup (a : List D) : enumK [.tup a] = M.pure (enumD a) := rfl
@[simp] theorem gN_ap (i : Nat) (d : D) (σ : DS) : gN i d σ = M.pure (σ.set i (some (.sh d))) := rfl
@[simp] theorem gNs_2 (i j : Nat) (a b : D) (σ : DS) : gNs [i, j] (.tup [a, b]) σ = M.pure ((σ.set i (some (.sh a))).set j (some (.sh b))) := rfl
@[simp] theorem gNs_3 (i j k : Nat) (a b c : D) (σ : DS) : gNs [i, j, k] (.tup [a, b, c]) σ = M.pure (((σ.set i (some (.sh a))).set j (some (.sh b))).set k (some (.sh c))) := rfl
@[simp] theorem wipeD_nil (σ : DS) : wipeD σ [] = σ := rfl
@[simp] theorem wipeD_cons (σ : DS) (v : Nat) (vs : List Nat) : wipeD σ (v :: vs) = (wipeD σ vs).set v none := rfl
@[simp] theorem fit_iff (n : Nat) : fit n = true ↔ n < 1000000 := by simp [fit]
@[simp] theorem inR_iff' (i : Int) : inR i = true ↔ -(2 ^ 62) ≤ i ∧ i < 2 ^ 62 := inR_iff
@[simp] theorem rgOk_iff (i j : Int) : rgOk i j = true ↔ (-(2 ^ 62) ≤ i ∧ i < 2 ^ 62) ∧ (-(2 ^ 62) ≤ j ∧ j < 2 ^ 62) ∧ (j - i).toNat < 1000000 := by simp [rgOk, inR, and_assoc]
@[simp] theorem mulI_ap (i j : Int) : mulI i j = if (sm i || sm j) = true then some (.int (i * j)) else none := rfl
@[simp] theorem sm_iff' (i : Int) : sm i = true ↔ -(2 ^ 64) < i ∧ i < 2 ^ 64 := sm_iff
@[simp] theorem sSeq_ap (f h : DS → M Fl) (σ : DS) : sSeq f h σ = M.bind (f σ) fun x => match x with
  | .nx σ' => h σ'
  | y => M.pure y := rfl
@[simp] theorem sNil_ap (σ : DS) : sNil σ = M.pure (.nx σ) := rfl
@[simp] theorem sNever_ap (σ : DS) : sNever σ = M.bad := rfl
@[simp] theorem sRaise1_T (c f : Str) (fe : DS → M D) (σ : DS) (g : G) (Q : Fl → G → Prop) : T (sRaise1 c f fe σ) g Q ↔ False := by
  refine ⟨fun ⟨a, g', e, _⟩ => ?_, False.elim⟩
  unfold sRaise1 M.bind at e
  cases h : fe σ g <;> rw [h] at e <;> cases e
@[simp] theorem sRaise0_T (c : Str) (σ : DS) (g : G) (Q : Fl → G → Prop) : T (sRaise0 c σ) g Q ↔ False := ⟨fun ⟨a, g', e, _⟩ => (nomatch e), False.elim⟩
@[simp] theorem sBrk_ap (σ : DS) : sBrk σ = M.pure (.bk σ) := rfl
@[simp] theorem sCnt_ap (σ : DS) : sCnt σ = M.pure (.ct σ) := rfl
@[simp] theorem sRet_ap (fe : DS → M D) (σ : DS) : sRet fe σ = M.bind (fe σ) fun d => M.pure (.rt d) := rfl
@[simp] theorem sExpr_ap (fe : DS → M D) (σ : DS) : sExpr fe σ = M.bind (fe σ) fun _ => M.pure (.nx σ) := rfl
@[simp] theorem sIf_ap (t : DS → M Bool) (f h : DS → M Fl) (σ : DS) : sIf t f h σ = M.bind (t σ) fun b => if b = true then f σ else h σ := rfl
@[simp] theorem sSet_sh (i : Nat) (fe : DS → M D) (σ : DS) : sSet false i fe σ = M.bind (fe σ) fun d => M.pure (.nx (σ.set i (some (.sh d)))) := rfl
@[simp] theorem sSet_ow (i : Nat) (fe : DS → M D) (σ : DS) : sSet true i fe σ = M.bind (fe σ) fun d => M.pure (.nx (σ.set i (some (.ow d)))) := rfl
@[simp] theorem sAsg_ap (fe : DS → M D) (fg : D → DS → M DS) (σ : DS) : sAsg fe fg σ = M.bind (fe σ) fun d => M.bind (fg d σ) fun σ' => M.pure (.nx σ') := rfl
@[simp] theorem sFor_ap (fi : DS → M (List D)) (fg : D → DS → M DS) (b : DS → M Fl) (σ : DS) : sFor fi fg b σ = M.bind (fi σ) fun ds => forM fg b ds σ := rfl
@[simp] theorem sAug_ap (k : D → D → M D) (i : Nat) (fe : DS → M D) (σ : DS) : sAug k i fe σ = M.bind (eVar i σ) fun x => M.bind (fe σ) fun y => M.bind (k x y) fun z => M.pure (.nx (σ.set i (some (.sh z)))) := rfl
@[simp] theorem sFrz_ap (i : Nat) (f : DS → M Fl) (σ : DS) : sFrz i f σ = f (frz1 i σ) := rfl
def RQ (m : Bool) (Q : D → G → Prop) : Fl → G → Prop
  | .rt d, g => Q d g
  | .nx _, g => m = false ∧ Q .non g
  | _, _ => False
@[simp] theorem RQ_rt (m : Bool) (Q : D → G → Prop) (d : D) (g : G) : RQ m Q (.rt d) g ↔ Q d g := Iff.rfl
@[simp] theorem RQ_nx (m : Bool) (Q : D → G → Prop) (σ : DS) (g : G) : RQ m Q (.nx σ) g ↔ m = false ∧ Q .non g := Iff.rfl
theorem runD_T {n : Nat} {m : Bool} {b : DS → M Fl} {ds : List D} {g : G} {Q : D → G → Prop} (h : T (b (startD n ds)) g (RQ m Q)) : T (runD n m b ds) g Q := by
  unfold runD
  rw [T_bind]
  refine h.imp fun fl g' q => ?_
  cases fl with
  | rt d => simpa using q
  | nx σ => rw [RQ_nx] at q; simp [q.1, q.2]
  | bk σ => exact q.elim
  | ct σ => exact q.elim
theorem forM_T {fg : D → DS → M DS} {b : DS → M Fl} {Q : Fl → G → Prop} (I : Nat → DS → G → Prop) : ∀ {ds : List D} {n : Nat} {σ : DS} {g : G},
    (∀ i d σ g, ds[i]? = some d → I (n + i) σ g → T (fg d σ) g fun σ1 g1 => T (b σ1) g1 fun fl g2 => match fl with
      | .nx σ' => I (n + i + 1) σ' g2
      | .ct σ' => I (n + i + 1) σ' g2
      | .bk σ' => Q (.nx σ') g2
      | .rt d => Q (.rt d) g2) → I n σ g → (∀ σ g, I (n + ds.length) σ g → Q (.nx σ) g) → T (forM fg b ds σ) g Q
  | [], n, σ, g, _, h0, hq => by unfold forM; rw [T_pure]; exact hq _ _ h0
  | d :: ds, n, σ, g, h, h0, hq => by
    unfold forM
    rw [T_bind]
    refine (h 0 d σ g rfl h0).imp fun σ1 g1 h1 => ?_
    rw [T_bind]
    refine h1.imp fun fl g2 h2 => ?_
    have rest : ∀ σ' g', I (n + 1) σ' g' → T (forM fg b ds σ') g' Q := fun σ' g' h' => forM_T I (n := n + 1) (fun i d σ g e hI => by
      have := h (i + 1) d σ g (by simpa using e) (by rw [show n + (i + 1) = n + 1 + i by omega]; exact hI)
      rw [show n + 1 + i = n + (i + 1) by omega]; exact this) h' fun σ g hI => hq σ g (by rw [show n + (d :: ds).length = n + 1 + ds.length by simp; omega]; exact hI)
    cases fl with
    | nx σ' => exact rest _ _ h2
    | ct σ' => exact rest _ _ h2
    | bk σ' => simpa using h2
    | rt d => simpa using h2
theorem compM_T {fg : D → DS → M DS} {ft : DS → M Bool} {fe : DS → M D} {σ : DS} (I : Nat → List D → G → Prop) : ∀ {ds : List D} {n : Nat} {rs : List D} {g : G} {Q : List D → G → Prop},
    (∀ i d g rs, ds[i]? = some d → I (n + i) rs g → T (fg d σ) g fun σ1 g1 => T (ft σ1) g1 fun t g2 => if t = true then T (fe σ1) g2 fun y g3 => I (n + i + 1) (rs ++ [y]) g3 else I (n + i + 1) rs g2) →
      I n rs g → (∀ rs' g', I (n + ds.length) (rs ++ rs') g' → Q rs' g') → T (compM fg ft fe σ ds) g Q
  | [], n, rs, g, Q, _, h0, hq => by unfold compM; rw [T_pure]; exact hq [] _ (by simpa using h0)
  | d :: ds, n, rs, g, Q, h, h0, hq => by
    unfold compM
    rw [T_bind]
    refine (h 0 d g rs rfl h0).imp fun σ1 g1 h1 => ?_
    rw [T_bind, T_noerr]
    refine h1.imp fun t g2 h2 => ?_
    have step : ∀ i d' g' rs', ds[i]? = some d' → I (n + 1 + i) rs' g' → _ := fun i d' g' rs' e hI => by
      have := h (i + 1) d' g' rs' (by simpa using e) (by rw [show n + (i + 1) = n + 1 + i by omega]; exact hI)
      rw [show n + (i + 1) = n + 1 + i by omega] at this
      exact this
    cases t with
    | true =>
      simp only [if_true] at h2 ⊢
      rw [T_bind, T_noerr]
      refine h2.imp fun y g3 h3 => ?_
      rw [T_bind]
      refine compM_T I (n := n + 1) (rs := rs ++ [y]) step h3 fun rs' g' hI => ?_
      rw [T_pure]
      refine hq _ _ ?_
      rw [show n + (d :: ds).length = n + 1 + ds.length by simp; omega]
      simpa using hI
    | false =>
      simp only [Bool.false_eq_true, if_false] at h2 ⊢
      refine compM_T I (n := n + 1) (rs := rs) step h2 fun rs' g' hI => hq _ _ ?_
      rw [show n + (d :: ds).length = n + 1 + ds.length by simp; omega]
      exact hI
theorem compM_pure {fg : D → DS → M DS} {ft : DS → M Bool} {fe : DS → M D} {σ : DS} {α : Type} {en : α → D} {p : α → Bool} {f : α → D} : ∀ {xs : List α},
    (∀ x ∈ xs, ∃ σ1, fg (en x) σ = M.pure σ1 ∧ ft σ1 = M.pure (p x) ∧ (p x = true → fe σ1 = M.pure (f x))) → compM fg ft fe σ (xs.map en) = M.pure ((xs.filter p).map f)
  | [], _ => rfl
  | x :: xs, h => by
    obtain ⟨σ1, e1, e2, e3⟩ := h x List.mem_cons_self
    have ih := compM_pure (fg := fg) (ft := ft) (fe := fe) (σ := σ) (en := en) (p := p) (f := f) (xs := xs) fun y hy => h y (List.mem_cons_of_mem _ hy)
    show M.bind (fg (en x) σ) _ = _
    rw [e1, pure_bind', e2]
    simp only [noerr_pure', pure_bind']
    cases hp : p x with
    | true => rw [e3 hp, ih]; simp [hp]
    | false => rw [ih]; simp [hp]
@[simp] theorem frz1_0o (d : D) (σ : DS) : frz1 0 (some (.ow d) :: σ) = some (.sh d) :: σ := rfl
@[simp] theorem frz1_0s (d : D) (σ : DS) : frz1 0 (some (.sh d) :: σ) = some (.sh d) :: σ := rfl
@[simp] theorem frz1_0n (σ : DS) : frz1 0 (none :: σ) = none :: σ := rfl
@[simp] theorem frz1_S (i : Nat) (x : Option DV) (σ : DS) : frz1 (i + 1) (x :: σ) = x :: frz1 i σ := by
  unfold frz1
  simp only [List.getElem?_cons_succ]
  rcases σ[i]? with _ | (_ | (d | d)) <;> rfl
@[simp] theorem eBor_T (i : Nat) (f : DS → M D) (σ : DS) (g : G) (Q : D → G → Prop) : T (eBor i f σ) g Q ↔ T (f (frz1 i σ)) g fun d g' => (D.pur d = true ∧ Gpur g' = true) ∧ Q d g' := by
  unfold eBor T
  cases e : f (frz1 i σ) g with
  | ok d g' =>
    by_cases c : (D.pur d && Gpur g') = true
    · have c' := Bool.and_eq_true_iff.mp c
      simp only [e, c, if_true]
      constructor
      · rintro ⟨_, _, h, q⟩; cases h; exact ⟨_, _, rfl, c', q⟩
      · rintro ⟨_, _, h, _, q⟩; cases h; exact ⟨_, _, rfl, q⟩
    · simp only [e, c, if_false]
      constructor
      · rintro ⟨_, _, h, q⟩; cases h
      · rintro ⟨_, _, h, q, _⟩; cases h; exact absurd (Bool.and_eq_true_iff.mpr q) c
  | err x g' =>
    simp only [e]
    constructor
    · rintro ⟨_, _, h, q⟩; cases h
    · rintro ⟨_, _, h, q⟩; cases h
  | bad =>
    simp only [e]
    constructor
    · rintro ⟨_, _, h, q⟩; cases h
    · rintro ⟨_, _, h, q⟩; cases h
@[simp] theorem tBor_T (i : Nat) (f : DS → M Bool) (σ : DS) (g : G) (Q : Bool → G → Prop) : T (tBor i f σ) g Q ↔ T (f (frz1 i σ)) g fun d g' => Gpur g' = true ∧ Q d g' := by
  unfold tBor T
  cases e : f (frz1 i σ) g with
  | ok d g' =>
    by_cases c : Gpur g' = true
    · simp only [e, c, if_true]
      constructor
      · rintro ⟨_, _, h, q⟩; cases h; exact ⟨_, _, rfl, c, q⟩
      · rintro ⟨_, _, h, _, q⟩; cases h; exact ⟨_, _, rfl, q⟩
    · simp only [e, c, if_false]
      constructor
      · rintro ⟨_, _, h, q⟩; cases h
      · rintro ⟨_, _, h, q, _⟩; cases h; exact absurd q c
  | err x g' =>
    simp only [e]
    constructor
    · rintro ⟨_, _, h, q⟩; cases h
    · rintro ⟨_, _, h, q⟩; cases h
  | bad =>
    simp only [e]
    constructor
    · rintro ⟨_, _, h, q⟩; cases h
    · rintro ⟨_, _, h, q⟩; cases h
theorem eBorO_T' (i : Nat) (f : DS → M D) (σ : DS) (g : G) (Q : D → G → Prop) : T (eBorO i f σ) g Q ↔ T (f (frz1 i σ)) g fun d g' => (match d with | .lst ds => D.purs ds = true | _ => False) ∧ Gpur g' = true ∧ Q d g' := by
  unfold eBorO T
  cases e : f (frz1 i σ) g with
  | ok d g' =>
    cases d with
    | lst ds =>
      by_cases c : (D.purs ds && Gpur g') = true
      · have c' := Bool.and_eq_true_iff.mp c
        simp only [e, c, if_true]
        constructor
        · rintro ⟨_, _, h, q⟩; cases h; exact ⟨_, _, rfl, c'.1, c'.2, q⟩
        · rintro ⟨_, _, h, _, _, q⟩; cases h; exact ⟨_, _, rfl, q⟩
      · simp only [e, c, if_false]
        constructor
        · rintro ⟨_, _, h, q⟩; cases h
        · rintro ⟨_, _, h, q1, q2, _⟩; cases h; exact absurd (Bool.and_eq_true_iff.mpr ⟨q1, q2⟩) c
    | _ =>
      simp only [e]
      constructor
      · rintro ⟨_, _, h, q⟩; cases h
      · rintro ⟨_, _, h, q1, _⟩; cases h; exact q1.elim
  | err x g' =>
    simp only [e]
    constructor
    · rintro ⟨_, _, h, q⟩; cases h
    · rintro ⟨_, _, h, q⟩; cases h
  | bad =>
    simp only [e]
    constructor
    · rintro ⟨_, _, h, q⟩; cases h
    · rintro ⟨_, _, h, q⟩; cases h
def purL : D → Prop
  | .lst ds => D.purs ds = true
  | _ => False
@[simp] theorem purL_lst (ds : List D) : purL (.lst ds) ↔ D.purs ds = true := Iff.rfl
@[simp] theorem eBorO_T (i : Nat) (f : DS → M D) (σ : DS) (g : G) (Q : D → G → Prop) : T (eBorO i f σ) g Q ↔ T (f (frz1 i σ)) g fun d g' => purL d ∧ Gpur g' = true ∧ Q d g' := eBorO_T' i f σ g Q
@[simp] theorem pur_non : D.pur .non = true := rfl
@[simp] theorem pur_bl (b : Bool) : D.pur (.bl b) = true := rfl
@[simp] theorem pur_int (b : Int) : D.pur (.int b) = true := rfl
@[simp] theorem pur_str (b : Str) : D.pur (.str b) = true := rfl
@[simp] theorem pur_hdl (b : Nat) : D.pur (.hdl b) = true := rfl
@[simp] theorem pur_tup (b : List D) : D.pur (.tup b) = D.purs b := rfl
@[simp] theorem purs_nil : D.purs [] = true := rfl
@[simp] theorem purs_cons (d : D) (b : List D) : D.purs (d :: b) = (D.pur d && D.purs b) := rfl
theorem purs_all : ∀ ds : List D, D.purs ds = ds.all D.pur
  | [] => rfl
  | d :: ds => by rw [purs_cons, List.all_cons, purs_all ds]
theorem purs_map {α : Type} (f : α → D) (h : ∀ a, D.pur (f a) = true) (l : List α) : D.purs (l.map f) = true := by rw [purs_all]; simp [h]
@[simp] theorem purs_ints (l : List Int) : D.purs (l.map .int) = true := purs_map _ (fun _ => rfl) l
@[simp] theorem purs_app (a b : List D) : D.purs (a ++ b) = (D.purs a && D.purs b) := by rw [purs_all, purs_all, purs_all, List.all_append]
def Src (k m : Nat) (g : G) : Prop := ∃ a b c : Int, g[k]? = some (.src a b c) ∧ 0 ≤ a ∧ 0 ≤ b ∧ b < 2147483648 ∧ 0 ≤ c ∧ c + m ≤ 1000000000 ∧ Gpur g = true
theorem Src.mono {k m n : Nat} {g : G} (h : Src k m g) (hm : n ≤ m) : Src k n g := by
  obtain ⟨a, b, c, h1, h2, h3, h4, h5, h6, h7⟩ := h
  exact ⟨a, b, c, h1, h2, h3, h4, h5, by omega, h7⟩
theorem Src.pur {k m : Nat} {g : G} (h : Src k m g) : Gpur g = true := by
  obtain ⟨a, b, c, h1, h2, h3, h4, h5, h6, h7⟩ := h
  exact h7
theorem Gpur.set {g : G} (h : Gpur g = true) (k : Nat) (a b c : Int) : Gpur (g.set k (.src a b c)) = true := by
  unfold Gpur at *
  rw [List.all_eq_true] at *
  intro x hx
  rcases List.mem_or_eq_of_mem_set hx with h2 | rfl
  · exact h x h2
  · rfl
theorem Gpur.add {g : G} (h : Gpur g = true) (a b c : Int) : Gpur (g ++ [.src a b c]) = true := by
  unfold Gpur at *
  rw [List.all_append, h]; rfl
end NS
namespace NS
open PySem PySem.Spec PyProof.Rows L2
theorem T_ok {α : Type} {x : M α} {g g' : G} {a : α} {Q : α → G → Prop} (h : x g = .ok a g') : T x g Q ↔ Q a g' :=
  ⟨fun ⟨_, _, e, q⟩ => by rw [h] at e; cases e; exact q, fun q => ⟨_, _, h, q⟩⟩
theorem T_no {α : Type} {x : M α} {g : G} {Q : α → G → Prop} (h : x g = .bad) : T x g Q ↔ False := ⟨fun ⟨_, _, e, _⟩ => by (rw [h] at e; cases e), False.elim⟩
@[simp] theorem kIx_hdl_T (h : Nat) (i : Int) (g : G) (Q : D → G → Prop) : T (kIx (.hdl h) (.int i)) g Q ↔ ∃ c d, g[h]? = some c ∧ cellIx c i = some d ∧ Q d g := by
  have e0 : kIx (.hdl h) (.int i) g = M.opt (match g[h]? with | some c => cellIx c i | none => none) g := rfl
  cases e : g[h]? with
  | none => rw [T_no (by rw [e0, e]; rfl)]; simp
  | some c =>
    cases e2 : cellIx c i with
    | none => rw [T_no (by rw [e0, e]; simp [e2, M.opt, M.bad])]; simp [e2]
    | some d => rw [T_ok (a := d) (g' := g) (by rw [e0, e]; simp [e2, M.opt, M.pure])]; simp [e2]
@[simp] theorem cellIx0 (a b c : Int) : cellIx (.src a b c) 0 = some (.int a) := rfl
@[simp] theorem cellIx1 (a b c : Int) : cellIx (.src a b c) 1 = some (.int b) := rfl
@[simp] theorem cellIx2 (a b c : Int) : cellIx (.src a b c) 2 = some (.int c) := rfl
@[simp] theorem srcSet0_T (k : Nat) (v : Int) (σ : DS) (g : G) (Q : Fl → G → Prop) : T (srcSet (.hdl k) (.int 0) (.int v) σ) g Q ↔ ∃ a b c, g[k]? = some (.src a b c) ∧ Q (.nx σ) (g.set k (.src v b c)) := by
  cases e : g[k]? with
  | none => rw [T_no (by unfold srcSet; simp only [e])]; simp
  | some c =>
    cases c with
    | sto _ _ => rw [T_no (by unfold srcSet; simp only [e])]; simp
    | tab _ => rw [T_no (by unfold srcSet; simp only [e])]; simp
    | src a b c =>
      rw [T_ok (a := .nx σ) (g' := g.set k (.src v b c)) (by unfold srcSet; simp only [e]; rfl)]
      exact ⟨fun q => ⟨a, b, c, rfl, q⟩, fun ⟨a', b', c', z, q⟩ => by cases z; exact q⟩
@[simp] theorem srcSet2_T (k : Nat) (v : Int) (σ : DS) (g : G) (Q : Fl → G → Prop) : T (srcSet (.hdl k) (.int 2) (.int v) σ) g Q ↔ ∃ a b c, g[k]? = some (.src a b c) ∧ Q (.nx σ) (g.set k (.src a b v)) := by
  cases e : g[k]? with
  | none => rw [T_no (by unfold srcSet; simp only [e])]; simp
  | some c =>
    cases c with
    | sto _ _ => rw [T_no (by unfold srcSet; simp only [e])]; simp
    | tab _ => rw [T_no (by unfold srcSet; simp only [e])]; simp
    | src a b c =>
      rw [T_ok (a := .nx σ) (g' := g.set k (.src a b v)) (by unfold srcSet; simp only [e]; rfl)]
      exact ⟨fun q => ⟨a, b, c, rfl, q⟩, fun ⟨a', b', c', z, q⟩ => by cases z; exact q⟩
@[simp] theorem sSetIxH_ap (j : Nat) (fe fi : DS → M D) (σ : DS) : sSetIxH j fe fi σ = M.bind (fe σ) fun d => M.bind (eVar j σ) fun x => M.bind (fi σ) fun i => srcSet x i d σ := rfl
def Oth (k : Nat) (g g' : G) : Prop := g'.length = g.length ∧ ∀ j, j ≠ k → g'[j]? = g[j]?
theorem Oth.refl (k : Nat) (g : G) : Oth k g g := ⟨rfl, fun _ _ => rfl⟩
theorem Oth.trans {k : Nat} {g g1 g2 : G} (h : Oth k g g1) (h' : Oth k g1 g2) : Oth k g g2 := ⟨h'.1.trans h.1, fun j n => (h'.2 j n).trans (h.2 j n)⟩
theorem Oth.set (k : Nat) (g : G) (c : GCell) : Oth k g (g.set k c) := ⟨by simp, fun j n => List.getElem?_set_ne (Ne.symm n)⟩
def DrawP (k m : Nat) (b : Int) (g : G) (d : D) (g' : G) : Prop := ∃ r : Int, d = .int r ∧ 0 ≤ r ∧ r < b ∧ Src k m g' ∧ Oth k g g'
theorem drawB {k m n : Nat} {b : Int} {g : G} (h : Src k (m + 2) g) (hb : 0 < b) (hb2 : b < 2 ^ 30)
    (ih : 10 ^ 7 < b → ∀ (b : Int) (m : Nat) (g : G), Src k (m + 1) g → 0 < b → b ≤ 10 ^ 7 → T (d_Ldraw n [.hdl k, .int b]) g (DrawP k m b g)) : T (d_Ldraw (n + 1) [.hdl k, .int b]) g (DrawP k m b g) := by
  have h0 := h
  obtain ⟨x, y, z, e, h1, h2, h3, h4, h5, h6⟩ := h
  have hk : k < g.length := (List.getElem?_eq_some_iff.mp e).1
  have e' : g[k] = .src x y z := by simpa [hk] using e
  refine runD_T ?_
  unfold b_Ldraw
  simp [startD, e', hk]
  refine ⟨fun hx => ⟨hb, by omega, x % b, rfl, Int.emod_nonneg _ (by omega), Int.emod_lt_of_pos _ hb, ⟨x / b, y, z, by simp [hk], Int.ediv_nonneg h1 (by omega), h2, h3, h4, by omega, Gpur.set h6 k _ _ _⟩, Oth.set _ _ _⟩, fun hx => ⟨fun hb3 => ?_, fun hb3 => ?_⟩⟩
  · refine (ih hb3 _ (m + 1) _ h0 (by decide) (by decide)).imp fun d g1 ⟨r, e1, r1, r2, s1, o1⟩ => ?_
    subst e1
    refine (ih hb3 _ m _ s1 (by omega) (by omega)).imp fun d g2 ⟨q, e1, q1, q2, s2, o2⟩ => ?_
    subst e1
    simp
    exact ⟨hb, _, rfl, Int.emod_nonneg _ (by omega), Int.emod_lt_of_pos _ hb, s2, o1.trans o2⟩
  · have mx : ∀ a : Int, 0 ≤ a % 2147483579 ∧ a % 2147483579 < 2147483579 := fun a => ⟨Int.emod_nonneg _ (by decide), Int.emod_lt_of_pos _ (by decide)⟩
    obtain ⟨m1, m2⟩ := mx ((y + 62003 * (z + 1)) ^ 3)
    refine ⟨by omega, .inl ⟨by omega, by omega⟩, hb, _, rfl, Int.emod_nonneg _ (by omega), Int.emod_lt_of_pos _ hb, ⟨x, y, z + 1, by simp [hk], h1, h2, h3, by omega, by omega, Gpur.set h6 k _ _ _⟩, Oth.set _ _ _⟩
theorem draw1 {k m n : Nat} {b : Int} {g : G} (h : Src k (m + 1) g) (hb : 0 < b) (hb2 : b ≤ 10 ^ 7) : T (d_Ldraw (n + 1) [.hdl k, .int b]) g (DrawP k m b g) := by
  obtain ⟨x, y, z, e, h1, h2, h3, h4, h5, h6⟩ := h
  have hk : k < g.length := (List.getElem?_eq_some_iff.mp e).1
  have e' : g[k] = .src x y z := by simpa [hk] using e
  refine runD_T ?_
  unfold b_Ldraw
  simp [startD, e', hk]
  refine ⟨fun hx => ⟨hb, by omega, x % b, rfl, Int.emod_nonneg _ (by omega), Int.emod_lt_of_pos _ hb, ⟨x / b, y, z, by simp [hk], Int.ediv_nonneg h1 (by omega), h2, h3, h4, by omega, Gpur.set h6 k _ _ _⟩, Oth.set _ _ _⟩, fun hx => ⟨fun hb3 => by omega, fun hb3 => ?_⟩⟩
  have mx : ∀ a : Int, 0 ≤ a % 2147483579 ∧ a % 2147483579 < 2147483579 := fun a => ⟨Int.emod_nonneg _ (by decide), Int.emod_lt_of_pos _ (by decide)⟩
  obtain ⟨m1, m2⟩ := mx ((y + 62003 * (z + 1)) ^ 3)
  refine ⟨by omega, .inl ⟨by omega, by omega⟩, hb, _, rfl, Int.emod_nonneg _ (by omega), Int.emod_lt_of_pos _ hb, ⟨x, y, z + 1, by simp [hk], h1, h2, h3, by omega, by omega, Gpur.set h6 k _ _ _⟩, Oth.set _ _ _⟩
theorem draw_T {k m : Nat} {b : Int} {g : G} (h : Src k (m + 2) g) (hb : 0 < b) (hb2 : b < 2 ^ 30) : T (d_Ldraw 3 [.hdl k, .int b]) g (DrawP k m b g) :=
  drawB h hb hb2 fun _ b m g h h1 h2 => draw1 h h1 h2
def D.pl : Nat → D → Bool
  | _, .non => true
  | _, .bl _ => true
  | _, .int _ => true
  | _, .str x => PyData.strOk x
  | n + 1, .tup xs => decide (xs.length < 1000000) && xs.all (D.pl n)
  | n + 1, .lst xs => decide (xs.length < 1000000) && xs.all (D.pl n)
  | _, _ => false
theorem pls_py {n : Nat} (ih : ∀ d : D, D.pl n d = true → D.pyOk d = true ∧ (D.py d).canLay0 = true ∧ (D.py d).depth ≤ n) : ∀ {xs : List D}, xs.all (D.pl n) = true → D.pysOk xs = true ∧ PyData.canLayAll0 (D.pys xs) = true ∧ PyData.depthAll (D.pys xs) ≤ n
  | [], _ => ⟨rfl, rfl, by simp [D.pys, PyData.depthAll]⟩
  | x :: xs, h => by
    simp only [List.all_cons, Bool.and_eq_true] at h
    obtain ⟨h1, h2, h3⟩ := ih x h.1
    obtain ⟨g1, g2, g3⟩ := pls_py ih h.2
    exact ⟨by simp [D.pysOk, h1, g1], by simp [D.pys, PyData.canLayAll0, h2, g2], by simp only [D.pys, PyData.depthAll]; omega⟩
theorem pl_py : ∀ {n : Nat} {d : D}, D.pl n d = true → D.pyOk d = true ∧ (D.py d).canLay0 = true ∧ (D.py d).depth ≤ n
  | _, .non, _ => ⟨rfl, rfl, by simp [D.py, PyData.depth]⟩
  | _, .bl _, _ => ⟨rfl, rfl, by simp [D.py, PyData.depth]⟩
  | _, .int _, _ => ⟨rfl, rfl, by simp [D.py, PyData.depth]⟩
  | n, .str x, h => ⟨rfl, by cases n <;> exact h, by simp [D.py, PyData.depth]⟩
  | n + 1, .tup xs, h => by
    have h' := (Bool.and_eq_true_iff.mp h).2
    obtain ⟨g1, g2, g3⟩ := pls_py (fun d hd => pl_py hd) h'
    exact ⟨g1, g2, by simp only [D.py, PyData.depth]; omega⟩
  | n + 1, .lst xs, h => by
    have h' := (Bool.and_eq_true_iff.mp h).2
    obtain ⟨g1, g2, g3⟩ := pls_py (fun d hd => pl_py hd) h'
    exact ⟨g1, g2, by simp only [D.py, PyData.depth]; omega⟩
  | 0, .tup _, h => nomatch h
  | 0, .lst _, h => nomatch h
  | 0, .slst _, h => nomatch h
  | _ + 1, .slst _, h => nomatch h
  | 0, .dT _, h => nomatch h
  | _ + 1, .dT _, h => nomatch h
  | 0, .dK _, h => nomatch h
  | _ + 1, .dK _, h => nomatch h
  | 0, .hdl _, h => nomatch h
  | _ + 1, .hdl _, h => nomatch h
  | 0, .ftup _, h => nomatch h
  | _ + 1, .ftup _, h => nomatch h
  | 0, .fT _, h => nomatch h
  | _ + 1, .fT _, h => nomatch h
  | 0, .exc0 _, h => nomatch h
  | _ + 1, .exc0 _, h => nomatch h
  | 0, .exc1 _ _ _, h => nomatch h
  | _ + 1, .exc1 _ _ _, h => nomatch h
def eqD (x y : D) : Bool := PyData.eqv (D.py x) (D.py y)
theorem pl_sh {n : Nat} {d : D} (h : D.pl n d = true) (hn : n ≤ 64) : D.pyOk d = true ∧ SeqAt.shaped (D.py d) = true := by
  obtain ⟨h1, h2, h3⟩ := pl_py h
  exact ⟨h1, by simp [SeqAt.shaped, h2]; omega⟩
theorem kEq_pl {x y : D} (n m : Nat) (hx : D.pl n x = true) (hy : D.pl m y = true) (hn : n ≤ 64 := by decide) (hm : m ≤ 64 := by decide) : kEq x y = M.pure (.bl (eqD x y)) := by
  obtain ⟨a1, a2⟩ := pl_sh hx hn
  obtain ⟨b1, b2⟩ := pl_sh hy hm
  unfold kEq
  rw [if_pos ⟨a1, b1, a2, b2⟩]; rfl
theorem kNe_pl {x y : D} (n m : Nat) (hx : D.pl n x = true) (hy : D.pl m y = true) (hn : n ≤ 64 := by decide) (hm : m ≤ 64 := by decide) : kNe x y = M.pure (.bl (!eqD x y)) := by
  obtain ⟨a1, a2⟩ := pl_sh hx hn
  obtain ⟨b1, b2⟩ := pl_sh hy hm
  unfold kNe
  rw [if_pos ⟨a1, b1, a2, b2⟩]; rfl
@[simp] theorem eqD_int (i j : Int) : eqD (.int i) (.int j) = (i == j) := by simp [eqD, D.py, PyData.eqv]
@[simp] theorem eqD_bl (i j : Bool) : eqD (.bl i) (.bl j) = (i == j) := by simp [eqD, D.py, PyData.eqv]
@[simp] theorem eqD_str (i j : Str) : eqD (.str i) (.str j) = (i == j) := by simp [eqD, D.py, PyData.eqv]
@[simp] theorem eqD_non : eqD .non .non = true := rfl
@[simp] theorem eqD_non_str (x : Str) : eqD .non (.str x) = false := rfl
@[simp] theorem eqD_str_non (x : Str) : eqD (.str x) .non = false := rfl
@[simp] theorem eqD_non_int (x : Int) : eqD .non (.int x) = false := rfl
@[simp] theorem eqD_int_non (x : Int) : eqD (.int x) .non = false := rfl
@[simp] theorem eqD_str_int (x : Str) (y : Int) : eqD (.str x) (.int y) = false := rfl
@[simp] theorem eqD_int_str (x : Str) (y : Int) : eqD (.int y) (.str x) = false := rfl
@[simp] theorem eqD_lst_tup (xs ys : List D) : eqD (.lst xs) (.tup ys) = false := rfl
@[simp] theorem eqD_tup_lst (xs ys : List D) : eqD (.tup xs) (.lst ys) = false := rfl
@[simp] theorem pl_int (n : Nat) (i : Int) : D.pl n (.int i) = true := by cases n <;> rfl
@[simp] theorem pl_bl (n : Nat) (i : Bool) : D.pl n (.bl i) = true := by cases n <;> rfl
@[simp] theorem pl_non (n : Nat) : D.pl n .non = true := by cases n <;> rfl
@[simp] theorem pl_str (n : Nat) (x : Str) : D.pl n (.str x) = PyData.strOk x := by cases n <;> rfl
@[simp] theorem pl_tup (n : Nat) (xs : List D) : D.pl (n + 1) (.tup xs) = (decide (xs.length < 1000000) && xs.all (D.pl n)) := rfl
@[simp] theorem pl_lst (n : Nat) (xs : List D) : D.pl (n + 1) (.lst xs) = (decide (xs.length < 1000000) && xs.all (D.pl n)) := rfl
@[simp] theorem kEq_int (i j : Int) : kEq (.int i) (.int j) = M.pure (.bl (i == j)) := (kEq_pl 0 0 (by simp) (by simp)).trans (by simp)
@[simp] theorem kNe_int (i j : Int) : kNe (.int i) (.int j) = M.pure (.bl (!(i == j))) := (kNe_pl 0 0 (by simp) (by simp)).trans (by simp)
@[simp] theorem kEq_bl (i j : Bool) : kEq (.bl i) (.bl j) = M.pure (.bl (i == j)) := (kEq_pl 0 0 (by simp) (by simp)).trans (by simp)
@[simp] theorem kNe_bl (i j : Bool) : kNe (.bl i) (.bl j) = M.pure (.bl (!(i == j))) := (kNe_pl 0 0 (by simp) (by simp)).trans (by simp)
@[simp] theorem kEq_non : kEq .non .non = M.pure (.bl true) := (kEq_pl 0 0 (by simp) (by simp)).trans (by simp)
@[simp] theorem kNe_non : kNe .non .non = M.pure (.bl false) := (kNe_pl 0 0 (by simp) (by simp)).trans (by simp)
@[simp] theorem kEq_non_int (i : Int) : kEq .non (.int i) = M.pure (.bl false) := (kEq_pl 0 0 (by simp) (by simp)).trans (by simp)
@[simp] theorem kEq_int_non (i : Int) : kEq (.int i) .non = M.pure (.bl false) := (kEq_pl 0 0 (by simp) (by simp)).trans (by simp)
@[simp] theorem ints_map : ∀ ns : List Int, D.ints (ns.map .int) = some ns
  | [] => rfl
  | n :: ns => by simp [D.ints, ints_map ns]
@[simp] theorem bls_map : ∀ ns : List Bool, D.bls (ns.map .bl) = some ns
  | [] => rfl
  | n :: ns => by simp [D.bls, bls_map ns]
@[simp] theorem kOfBls_map (f : List Bool → M D) (bs : List Bool) : kOfBls f [.lst (bs.map .bl)] = f bs := by simp [kOfBls]
@[simp] theorem kOfInts_map (f : List Int → M D) (bs : List Int) : kOfInts f [.lst (bs.map .int)] = f bs := by simp [kOfInts]
theorem bls_rep' (n : Nat) (b : Bool) : D.bls (List.replicate n (.bl b)) = some (List.replicate n b) := by
  rw [show List.replicate n (D.bl b) = (List.replicate n b).map .bl by simp]; exact bls_map _
@[simp] theorem kIsi_non (ns : List String) : kIsi ns .non = M.pure (.bl (ns.any (isTy "NoneType"))) := rfl
@[simp] theorem kIsi_bl (ns : List String) (b : Bool) : kIsi ns (.bl b) = M.pure (.bl (ns.any (isTy "bool"))) := rfl
@[simp] theorem kIsi_int (ns : List String) (b : Int) : kIsi ns (.int b) = M.pure (.bl (ns.any (isTy "int"))) := rfl
@[simp] theorem kIsi_str (ns : List String) (b : Str) : kIsi ns (.str b) = M.pure (.bl (ns.any (isTy "str"))) := rfl
@[simp] theorem kIsi_tup (ns : List String) (b : List D) : kIsi ns (.tup b) = M.pure (.bl (ns.any (isTy "tuple"))) := rfl
@[simp] theorem kIsi_lst (ns : List String) (b : List D) : kIsi ns (.lst b) = M.pure (.bl (ns.any (isTy "list"))) := rfl
@[simp] theorem isTy_ap (t n : String) : isTy t n = (t == n || (t == "bool" && n == "int")) := rfl
@[simp] theorem kIs_non (x : D) : kIs x .non = M.pure (.bl (D.isN x)) := by cases x <;> rfl
@[simp] theorem kIsNot_non (x : D) : kIsNot x .non = M.pure (.bl (!D.isN x)) := by cases x <;> rfl
@[simp] theorem kIs_bl (a b : Bool) : kIs (.bl a) (.bl b) = M.pure (.bl (decide (a = b))) := rfl
@[simp] theorem isN_non : D.isN .non = true := rfl
@[simp] theorem isN_bl (b : Bool) : D.isN (.bl b) = false := rfl
@[simp] theorem isN_int (b : Int) : D.isN (.int b) = false := rfl
@[simp] theorem isN_str (b : Str) : D.isN (.str b) = false := rfl
@[simp] theorem isN_tup (b : List D) : D.isN (.tup b) = false := rfl
@[simp] theorem isN_lst (b : List D) : D.isN (.lst b) = false := rfl
theorem zipD_map (xs : List D) : zipD xs xs = xs.map fun x => .tup [x, x] := by
  unfold zipD
  induction xs with
  | nil => rfl
  | cons x xs ih => simp [ih]
theorem zipK_lst (a b : List D) : zipK2 [.lst a, .lst b] = M.pure (zipD a b) := rfl
theorem zipK_tup (a b : List D) : zipK2 [.tup a, .tup b] = M.pure (zipD a b) := rfl
theorem equal_self : ∀ (n : Nat) (x : D), D.pl n x = true → ∀ g, d_Lequal (n + 1) [x, x] g = .ok (.bl true) g := by
  intro n
  induction n with
  | zero =>
    intro x hx g
    show runD 4 false (b_Lequal (d_Lequal 0)) [x, x] g = _
    unfold runD b_Lequal
    cases x with
    | tup _ => cases hx
    | lst _ => cases hx
    | slst _ => cases hx
    | dT _ => cases hx
    | dK _ => cases hx
    | hdl _ => cases hx
    | ftup _ => cases hx
    | fT _ => cases hx
    | exc0 _ => cases hx
    | exc1 _ _ _ => cases hx
    | str s => simp [startD, kEq_pl 0 0 hx hx]; rfl
    | _ => simp [startD, M.pure]
  | succ n ih =>
    intro x hx g
    show runD 4 false (b_Lequal (d_Lequal (n + 1))) [x, x] g = _
    unfold runD b_Lequal
    have many : ∀ xs : List D, xs.all (D.pl n) = true → ∀ σ : DS, σ.length = 4 → ∀ g, compM (gNs [2, 3]) tYesD (eArgs (callN 2 (d_Lequal (n + 1))) (lCons (eVar 2) (lCons (eVar 3) lNil))) σ (xs.map fun x => .tup [x, x]) g = .ok (List.replicate xs.length (.bl true)) g := by
      intro xs hxs σ hσ
      induction xs with
      | nil => intro g; rfl
      | cons y ys ih2 =>
        intro g
        simp only [List.all_cons, Bool.and_eq_true] at hxs
        match σ, hσ with
        | [s0, s1, s2, s3], _ =>
          simp only [List.map_cons, compM, gNs_2, pure_bind', tYes_ap, noerr_pure', if_true]
          have e1 : M.noerr (eArgs (callN 2 (d_Lequal (n + 1))) (lCons (eVar 2) (lCons (eVar 3) lNil)) [s0, s1, some (.sh y), some (.sh y)]) g = .ok (.bl true) g := noerr_ok (by simpa using ih y hxs.1 g)
          have e2 := ih2 hxs.2 g
          show M.bind (M.noerr (eArgs (callN 2 (d_Lequal (n + 1))) (lCons (eVar 2) (lCons (eVar 3) lNil)) [s0, s1, some (.sh y), some (.sh y)])) _ g = _
          rw [bind_ok e1, bind_ok e2]
          simp [M.pure, List.replicate_succ]
    cases x with
    | slst _ => cases hx
    | dT _ => cases hx
    | dK _ => cases hx
    | hdl _ => cases hx
    | ftup _ => cases hx
    | fT _ => cases hx
    | exc0 _ => cases hx
    | exc1 _ _ _ => cases hx
    | str s =>
      have hs : D.pl 0 (.str s) = true := hx
      simp [startD, kEq_pl 0 0 hs hs]; rfl
    | tup xs =>
      have h2 := Bool.and_eq_true_iff.mp hx
      have hl : xs.length < 1000000 := of_decide_eq_true h2.1
      simp [startD, zipK_tup, zipD_map, hl]
      rw [bind_ok (many xs h2.2 [some (.sh (.tup xs)), some (.sh (.tup xs)), none, none] rfl g)]
      simp [kOfBls, bls_rep', M.pure]
    | lst xs =>
      have h2 := Bool.and_eq_true_iff.mp hx
      have hl : xs.length < 1000000 := of_decide_eq_true h2.1
      simp [startD, zipK_lst, zipD_map, hl]
      rw [bind_ok (many xs h2.2 [some (.sh (.lst xs)), some (.sh (.lst xs)), none, none] rfl g)]
      simp [kOfBls, bls_rep', M.pure]
    | _ => simp [startD, M.pure]
end NS
namespace NS
open PySem PySem.Spec PyProof.Rows L2
@[simp] theorem srcNew_T (a b c : Int) (g : G) (Q : Fl → G → Prop) : T (srcNew (.lst [.int a, .int b, .int c])) g Q ↔ Q (.rt (.hdl g.length)) (g ++ [.src a b c]) := T_ok rfl
@[simp] theorem sRetH_ap (fe : DS → M D) (σ : DS) : sRetH fe σ = M.bind (fe σ) srcNew := rfl
theorem atI_map_int (ns : List Int) (i : Int) (h0 : 0 ≤ i) (h : i < ns.length) : ∃ n : Int, L2.atI (ns.map D.int) i = some (.int n) := by
  obtain ⟨j, rfl⟩ := Int.eq_ofNat_of_zero_le h0
  have hj : j < ns.length := by omega
  exact ⟨ns[j], atI_nat (by simp [hj])⟩
theorem kAbs_if (i : Int) : kAbs [.int i] = M.pure (.int (if i < 0 then -i else i)) := rfl
theorem source_T (ns : List Int) (i : Int) (g : G) (h0 : 0 ≤ i) (h1 : i < 1000) (hl : ns.length ≤ 63) : T (d_Lsource [.slst (ns.map .int), .int i]) g fun d g' => ∃ a b, d = .hdl g.length ∧ g' = g ++ [.src a b 0] ∧ 0 ≤ a ∧ 0 ≤ b ∧ b < 2147483648 := by
  have m : ∀ a : Int, 0 ≤ a % 2147483543 ∧ a % 2147483543 < 2147483543 := fun a => ⟨Int.emod_nonneg _ (by decide), Int.emod_lt_of_pos _ (by decide)⟩
  have fin : ∀ n : Int, ∀ Q : D → G → Prop, (∀ a b : Int, 0 ≤ a → 0 ≤ b → b < 2147483648 → Q (.hdl g.length) (g ++ [.src a b 0])) → T (sRetH (eArgs mkL (lCons (eBin kMul (eArgs kAbs (lCons (eVar 2) lNil)) (eArgs kInt (lCons (eBin kGe (eArgs kAbs (lCons (eVar 2) lNil)) (eBin kPow (eC (.int 10)) (eC (.int 18)))) lNil))) (lCons (eBin kMod (eBin kMul (eBin kAdd (eBin kAdd (eBin kMod (eVar 2) (eC (.int 2147483563))) (eBin kMul (eC (.int 90007)) (eVar 1))) (eC (.int 67))) (eC (.int 39971))) (eC (.int 2147483543))) (lCons (eC (.int 0)) lNil)))) [some (.sh (.slst (ns.map .int))), some (.sh (.int i)), some (.sh (.int n))]) g
      (RQ false Q) := fun n Q hq => by
    by_cases h : 1000000000000000000 ≤ (if n < 0 then -n else n) <;> simp [-kAbs_int, kAbs_if, h]
    · exact hq _ _ (by omega) (m _).1 (Int.lt_trans (m _).2 (by decide))
    · exact hq _ _ (by omega) (m _).1 (Int.lt_trans (m _).2 (by decide))
  refine runD_T ?_
  unfold b_Lsource
  rw [sSeq_ap, T_bind, sSet_sh, eC_ap, pure_bind', T_pure]
  show T (sSeq _ _ [some (.sh (.slst (ns.map .int))), some (.sh (.int i)), some (.sh (.int 0))]) g _
  rw [sSeq_ap, T_bind]
  by_cases hi : i < ns.length
  · obtain ⟨n, e⟩ := atI_map_int ns i h0 hi
    simp only [sIf_ap, eTst_ap, eBin_ap, eVar0, eVarS, eArgs_ap, lCons_ap, lNil_ap, pure_bind', kLen_slst, List.length_map, kLt_int, asB_bl, hi, decide_true, if_true, sSet_sh, kIx_slst, e, opt_some', T_pure]
    exact fin n _ fun a b h1 h2 h3 => ⟨a, b, rfl, rfl, h1, h2, h3⟩
  · simp only [sIf_ap, eTst_ap, eBin_ap, eVar0, eVarS, eArgs_ap, lCons_ap, lNil_ap, pure_bind', kLen_slst, List.length_map, kLt_int, asB_bl, hi, decide_false, Bool.false_eq_true, if_false, sNil_ap, T_pure]
    exact fin 0 _ fun a b h1 h2 h3 => ⟨a, b, rfl, rfl, h1, h2, h3⟩
theorem rngD_get {lo hi : Int} {i : Nat} {d : D} (h : (rngD lo hi)[i]? = some d) : d = .int (lo + i) ∧ lo + i < hi := by
  unfold rngD at h
  rw [List.getElem?_map] at h
  by_cases hi' : i < (hi - lo).toNat
  · rw [List.getElem?_range hi'] at h
    simp at h
    exact ⟨h.symm, by omega⟩
  · rw [List.getElem?_eq_none (by simpa using hi')] at h
    cases h
@[simp] theorem rngD_len (lo hi : Int) : (rngD lo hi).length = (hi - lo).toNat := by simp [rngD]
theorem src_new (g : G) (hg : Gpur g = true) (a b : Int) (h1 : 0 ≤ a) (h2 : 0 ≤ b) (h3 : b < 2147483648) : Src g.length 1000000000 (g ++ [.src a b 0]) := ⟨a, b, 0, by simp, h1, h2, h3, by decide, by decide, Gpur.add hg a b 0⟩
end NS
namespace NS
def sg {α : Type} (l : List α) (f : α → Nat) : Nat := (l.map f).sum
@[simp] theorem sg_nil {α : Type} (f : α → Nat) : sg [] f = 0 := rfl
@[simp] theorem sg_cons {α : Type} (a : α) (l : List α) (f : α → Nat) : sg (a :: l) f = f a + sg l f := by simp [sg]
theorem sg_app {α : Type} (l m : List α) (f : α → Nat) : sg (l ++ m) f = sg l f + sg m f := by simp [sg]
theorem sg_map {α β : Type} (h : α → β) (l : List α) (f : β → Nat) : sg (l.map h) f = sg l fun a => f (h a) := by simp [sg, Function.comp_def]
theorem sg_congr {α : Type} {l : List α} {f g : α → Nat} (h : ∀ a ∈ l, f a = g a) : sg l f = sg l g := by
  unfold sg; rw [List.map_congr_left h]
theorem sg_add {α : Type} (l : List α) (f g : α → Nat) : sg l (fun a => f a + g a) = sg l f + sg l g := by
  induction l with
  | nil => rfl
  | cons a l ih => simp [ih]; omega
theorem sg_mul {α : Type} (l : List α) (k : Nat) (f : α → Nat) : sg l (fun a => k * f a) = k * sg l f := by
  induction l with
  | nil => rfl
  | cons a l ih => simp [ih, Nat.mul_add]
theorem sg_mul' {α : Type} (l : List α) (k : Nat) (f : α → Nat) : sg l (fun a => f a * k) = sg l f * k := by
  induction l with
  | nil => simp
  | cons a l ih => simp [ih, Nat.add_mul]
theorem sg_zero {α : Type} {l : List α} {f : α → Nat} (h : ∀ a ∈ l, f a = 0) : sg l f = 0 := by
  rw [sg_congr h]; induction l with
  | nil => rfl
  | cons a l ih => simp [ih fun a ha => h a (List.mem_cons_of_mem _ ha)]
theorem sg_zero_iff {α : Type} {l : List α} {f : α → Nat} : sg l f = 0 ↔ ∀ a ∈ l, f a = 0 := by
  induction l with
  | nil => simp
  | cons a l ih => simp [ih]
theorem sg_swap {α β : Type} (l : List α) (m : List β) (f : α → β → Nat) : sg l (fun a => sg m (f a)) = sg m (fun b => sg l fun a => f a b) := by
  induction l with
  | nil => simp; exact (sg_zero fun _ _ => rfl).symm
  | cons a l ih => simp [ih, sg_add]
theorem sg_filter {α : Type} (l : List α) (p : α → Bool) (f : α → Nat) : sg (l.filter p) f = sg l fun a => if p a = true then f a else 0 := by
  induction l with
  | nil => rfl
  | cons a l ih => by_cases h : p a = true <;> simp [List.filter_cons, h, ih]
def rm (c : Int) (R : List Int) : List Int := R.filter fun d => d != c
theorem mem_rm {c d : Int} {R : List Int} : d ∈ rm c R ↔ d ∈ R ∧ d ≠ c := by simp [rm]
theorem rm_comm (c d : Int) (R : List Int) : rm c (rm d R) = rm d (rm c R) := by
  simp only [rm, List.filter_filter]
  congr 1; funext x; exact Bool.and_comm _ _
theorem rm_not {c : Int} {R : List Int} (h : c ∉ R) : rm c R = R := List.filter_eq_self.mpr fun d hd => by simp; rintro rfl; exact h hd
theorem rm_nodup {c : Int} {R : List Int} (h : R.Nodup) : (rm c R).Nodup := h.filter _
theorem rm_sub (c : Int) (R : List Int) : ∀ d ∈ rm c R, d ∈ R := fun d h => (mem_rm.mp h).1
theorem rm_len {c : Int} : ∀ {R : List Int}, R.Nodup → c ∈ R → (rm c R).length + 1 = R.length
  | d :: R, h, hc => by
    have h2 := List.nodup_cons.mp h
    by_cases e : d = c
    · subst e
      have : rm d (d :: R) = R := by simp [rm, List.filter_cons]; exact fun a ha => by rintro rfl; exact h2.1 ha
      rw [this]; rfl
    · have hc' : c ∈ R := by rcases List.mem_cons.mp hc with rfl | h'; exact absurd rfl e; exact h'
      have : rm c (d :: R) = d :: rm c R := by simp [rm, List.filter_cons, e]
      rw [this]; simp [rm_len h2.2 hc']
theorem sg_rm (c : Int) (R : List Int) (f : Int → Nat) : sg (rm c R) f = sg R fun d => if (d != c) = true then f d else 0 := sg_filter _ _ _
def cnt (ok : List Int → Int → Bool) : Nat → List Int → Nat
  | _, [] => 1
  | 0, _ :: _ => 0
  | k + 1, c :: R => sg (c :: R) fun d => if ok (c :: R) d = true then cnt ok k (rm d (c :: R)) else 0
@[simp] theorem cnt_nil (ok : List Int → Int → Bool) (k : Nat) : cnt ok k [] = 1 := by cases k <;> rfl
theorem cnt_step (ok : List Int → Int → Bool) (k : Nat) {R : List Int} (h : R ≠ []) : cnt ok (k + 1) R = sg R fun d => if ok R d = true then cnt ok k (rm d R) else 0 := by
  cases R with
  | nil => exact absurd rfl h
  | cons c R => rfl
def ct (ok : List Int → Int → Bool) (R : List Int) : Nat := cnt ok R.length R
@[simp] theorem ct_nil (ok : List Int → Int → Bool) : ct ok [] = 1 := rfl
theorem ct_step (ok : List Int → Int → Bool) {R : List Int} (nd : R.Nodup) (h : R ≠ []) : ct ok R = sg R fun d => if ok R d = true then ct ok (rm d R) else 0 := by
  unfold ct
  obtain ⟨k, hk⟩ : ∃ k, R.length = k + 1 := by cases R; exact absurd rfl h; exact ⟨_, rfl⟩
  rw [hk, cnt_step _ _ h]
  refine sg_congr fun d hd => ?_
  have := rm_len nd hd
  rw [show (rm d R).length = k by omega]
theorem nodup_ind {P : List Int → Prop} (h : ∀ R : List Int, R.Nodup → (∀ c ∈ R, P (rm c R)) → P R) : ∀ {R : List Int}, R.Nodup → P R := by
  have : ∀ n, ∀ R : List Int, R.length = n → R.Nodup → P R := by
    intro n
    induction n with
    | zero => intro R hR nd; exact h R nd fun c hc => by cases R with | nil => cases hc | cons => cases hR
    | succ n ih =>
      intro R hR nd
      exact h R nd fun c hc => ih _ (by have := rm_len nd hc; omega) (rm_nodup nd)
  exact fun {R} nd => this _ R rfl nd
section
variable (nd : Int → Int → Bool)
def okF (R : List Int) (c : Int) : Bool := R.all fun d => !nd c d
def okL (R : List Int) (c : Int) : Bool := R.all fun d => !nd d c
def okW (U R : List Int) (c : Int) : Bool := U.all fun d => !nd c d || R.contains d
def LE (R : List Int) : Nat := ct (okF nd) R
variable {nd}
theorem okF_iff {R : List Int} {c : Int} : okF nd R c = true ↔ ∀ d ∈ R, nd c d = false := by simp [okF]
theorem okL_iff {R : List Int} {c : Int} : okL nd R c = true ↔ ∀ d ∈ R, nd d c = false := by simp [okL]
theorem okW_iff {U R : List Int} {c : Int} : okW nd U R c = true ↔ ∀ d ∈ U, nd c d = true → d ∈ R := by
  simp only [okW, List.all_eq_true, Bool.or_eq_true, Bool.not_eq_true', List.contains_iff_mem]
  constructor
  · intro h d hd e; rcases h d hd with h | h; rw [e] at h; cases h; exact h
  · intro h d hd; cases e : nd c d; exact .inl rfl; exact .inr (h d hd e)
theorem bool_iff {a b : Bool} (h : a = true ↔ b = true) : a = b := by cases a <;> cases b <;> simp_all
theorem first_last (irr : ∀ c, nd c c = false) {R : List Int} (h : R.Nodup) : ct (okF nd) R = ct (okL nd) R := by
  have : ∀ n, ∀ R : List Int, R.length ≤ n → R.Nodup → ct (okF nd) R = ct (okL nd) R := by
    intro n
    induction n with
    | zero =>
      intro R hR _
      cases R with
      | nil => rfl
      | cons => cases hR
    | succ n ih =>
      intro R hR hn
      match R, hR, hn with
      | [], _, _ => rfl
      | [c], _, _ => simp [ct, cnt, okF, okL, irr, rm]
      | c :: d :: R, hR, hn =>
        have ne : (c :: d :: R) ≠ [] := by simp
        have two : 2 ≤ (c :: d :: R).length := by simp
        generalize c :: d :: R = R at *
        have rne : ∀ x ∈ R, rm x R ≠ [] := fun x hx e => by have := rm_len hn hx; rw [e] at this; simp at this; omega
        rw [ct_step _ hn ne, ct_step _ hn ne]
        have eA : (sg R fun x => if okF nd R x = true then ct (okF nd) (rm x R) else 0) = sg R fun x => sg R fun y => if okF nd R x = true ∧ y ≠ x ∧ okL nd (rm x R) y = true then ct (okL nd) (rm y (rm x R)) else 0 := by
          refine sg_congr fun x hx => ?_
          by_cases hF : okF nd R x = true
          · simp only [hF, if_true, true_and]
            rw [ih _ (by have := rm_len hn hx; omega) (rm_nodup hn), ct_step _ (rm_nodup hn) (rne x hx), sg_rm]
            refine sg_congr fun y hy => ?_
            by_cases e : y = x <;> simp [e]
          · simp only [hF, false_and, if_false]
            exact (sg_zero fun _ _ => by simp).symm
        have eB : (sg R fun x => if okL nd R x = true then ct (okL nd) (rm x R) else 0) = sg R fun x => sg R fun y => if okL nd R x = true ∧ y ≠ x ∧ okF nd (rm x R) y = true then ct (okF nd) (rm y (rm x R)) else 0 := by
          refine sg_congr fun x hx => ?_
          by_cases hF : okL nd R x = true
          · simp only [hF, if_true, true_and]
            rw [← ih _ (by have := rm_len hn hx; omega) (rm_nodup hn), ct_step _ (rm_nodup hn) (rne x hx), sg_rm]
            refine sg_congr fun y hy => ?_
            by_cases e : y = x <;> simp [e]
          · simp only [hF, false_and, if_false]
            exact (sg_zero fun _ _ => by simp).symm
        rw [eA, eB, sg_swap]
        refine sg_congr fun y hy => sg_congr fun x hx => ?_
        have key : (okF nd R x = true ∧ y ≠ x ∧ okL nd (rm x R) y = true) ↔ (okL nd R y = true ∧ x ≠ y ∧ okF nd (rm y R) x = true) := by
          simp only [okF_iff, okL_iff, mem_rm]
          constructor
          · rintro ⟨h1, h2, h3⟩
            refine ⟨fun d hd => ?_, Ne.symm h2, fun d hd => h1 d hd.1⟩
            by_cases e : d = x
            · subst e; exact h1 y hy
            · exact h3 d ⟨hd, e⟩
          · rintro ⟨h1, h2, h3⟩
            refine ⟨fun d hd => ?_, Ne.symm h2, fun d hd => h1 d hd.1⟩
            by_cases e : d = y
            · subst e; exact h1 x hx
            · exact h3 d ⟨hd, e⟩
        by_cases c : (okF nd R x = true ∧ y ≠ x ∧ okL nd (rm x R) y = true)
        · rw [if_pos c, if_pos (key.mp c), rm_comm]
          refine (ih _ ?_ (rm_nodup (rm_nodup hn))).symm
          have h1 := rm_len hn hy
          have h2 := rm_len (rm_nodup (c := y) hn) (mem_rm.mpr ⟨hx, fun e => c.2.1 e.symm⟩)
          omega
        · rw [if_neg c, if_neg fun h => c (key.mpr h)]
  exact this _ R (Nat.le_refl _) h
def ch : Nat → Nat → Nat
  | _, 0 => 1
  | 0, _ + 1 => 0
  | n + 1, k + 1 => ch n k + ch n (k + 1)
@[simp] theorem ch_zero (n : Nat) : ch n 0 = 1 := by cases n <;> rfl
theorem ch_big : ∀ {n k : Nat}, n < k → ch n k = 0
  | 0, k + 1, _ => rfl
  | n + 1, k + 1, h => by rw [ch, ch_big (by omega), ch_big (by omega)]
@[simp] theorem ch_self : ∀ n : Nat, ch n n = 1
  | 0 => rfl
  | n + 1 => by rw [ch, ch_self n, ch_big (by omega)]
theorem ch_symm : ∀ a b : Nat, ch (a + b) a = ch (a + b) b
  | 0, b => by simp
  | a + 1, 0 => by simp
  | a + 1, b + 1 => by
    rw [show a + 1 + (b + 1) = a + (b + 1) + 1 by omega, ch, ch, ch_symm a (b + 1)]
    have := ch_symm (a + 1) b
    rw [show a + 1 + b = a + (b + 1) by omega] at this
    rw [this]; omega
theorem okW_open {U : List Int} {S : List Int} (hn : S.Nodup) (hU : ∀ x ∈ S, x ∈ U) (h : ∃ d ∈ S, okW nd U S d = false) : ct (okW nd U) S = 0 := by
  refine nodup_ind (P := fun S => (∀ x ∈ S, x ∈ U) → (∃ d ∈ S, okW nd U S d = false) → ct (okW nd U) S = 0) ?_ hn hU h
  intro S hn ih hU ⟨d, hd, e⟩
  rw [ct_step _ hn (by rintro rfl; cases hd)]
  refine sg_zero fun c hc => ?_
  by_cases ok : okW nd U S c = true
  · rw [if_pos ok]
    have ne : d ≠ c := by rintro rfl; rw [ok] at e; cases e
    refine ih c hc (fun x hx => hU x (rm_sub _ _ _ hx)) ⟨d, mem_rm.mpr ⟨hd, ne⟩, ?_⟩
    cases e2 : okW nd U (rm c S) d with
    | false => rfl
    | true =>
      rw [okW_iff] at e2
      have : okW nd U S d = true := okW_iff.mpr fun x hx n => (mem_rm.mp (e2 x hx n)).1
      rw [this] at e; cases e
  · rw [if_neg ok]
theorem okW_last {U : List Int} {S : List Int} (hn : S.Nodup) (hU : ∀ x ∈ S, x ∈ U) (irr : ∀ c, nd c c = false) (h : ∀ d ∈ S, okW nd U S d = true) : ct (okW nd U) S = ct (okL nd) S := by
  refine nodup_ind (P := fun S => (∀ x ∈ S, x ∈ U) → (∀ d ∈ S, okW nd U S d = true) → ct (okW nd U) S = ct (okL nd) S) ?_ hn hU h
  intro S hn ih hU h
  by_cases eS : S = []
  · subst eS; rfl
  rw [ct_step _ hn eS, ct_step _ hn eS]
  refine sg_congr fun c hc => ?_
  rw [if_pos (h c hc)]
  by_cases ok : okL nd S c = true
  · rw [if_pos ok]
    refine ih c hc (fun x hx => hU x (rm_sub _ _ _ hx)) fun d hd => okW_iff.mpr fun x hx n => mem_rm.mpr ⟨okW_iff.mp (h d (rm_sub _ _ _ hd)) x hx n, ?_⟩
    rintro rfl
    have := okL_iff.mp ok d (rm_sub _ _ _ hd)
    rw [this] at n; cases n
  · rw [if_neg ok]
    have : ¬ ∀ d ∈ S, nd d c = false := fun h => ok (okL_iff.mpr h)
    obtain ⟨d, hd, e⟩ : ∃ d ∈ S, nd d c = true := by
      apply Classical.byContradiction
      intro hh
      refine this fun d hd => ?_
      cases e : nd d c
      · rfl
      · exact absurd ⟨d, hd, e⟩ hh
    refine okW_open (rm_nodup hn) (fun x hx => hU x (rm_sub _ _ _ hx)) ⟨d, mem_rm.mpr ⟨hd, ?_⟩, ?_⟩
    · rintro rfl; rw [irr] at e; cases e
    · cases e2 : okW nd U (rm c S) d with
      | false => rfl
      | true => exact absurd rfl (mem_rm.mp (okW_iff.mp e2 c (hU c hc) e)).2
theorem LE_W (irr : ∀ c, nd c c = false) {R : List Int} (hn : R.Nodup) : ct (okW nd R) R = LE nd R := by
  rw [okW_last hn (fun _ h => h) irr fun d hd => okW_iff.mpr fun x hx _ => hx, LE, first_last irr hn]
theorem LE_first {R : List Int} (hn : R.Nodup) (h : R ≠ []) : LE nd R = sg R fun d => if okF nd R d = true then LE nd (rm d R) else 0 := ct_step _ hn h
end
end NS
namespace NS
def rI (lo hi : Int) : List Int := (List.range (hi - lo).toNat).map fun k => lo + (k : Nat)
@[simp] theorem rI_len (lo hi : Int) : (rI lo hi).length = (hi - lo).toNat := by simp [rI]
theorem mem_rI {lo hi x : Int} : x ∈ rI lo hi ↔ lo ≤ x ∧ x < hi := by
  unfold rI
  rw [List.mem_map]
  constructor
  · rintro ⟨k, hk, rfl⟩
    have := List.mem_range.mp hk
    omega
  · rintro ⟨h1, h2⟩
    exact ⟨(x - lo).toNat, List.mem_range.mpr (by omega), by omega⟩
def nLo (c w : Int) : Int := if w ≤ c then max 0 (2 * w - c) else c + 1
def nHi (s c w : Int) : Int := if w ≤ c then c else min s (2 * w - c)
def needL (s c w : Int) : List Int := rI (nLo c w) (nHi s c w)
def nearer (a c w : Int) : Prop := (a - w).natAbs < (c - w).natAbs ∨ ((a - w).natAbs = (c - w).natAbs ∧ a < c)
instance (a c w : Int) : Decidable (nearer a c w) := by unfold nearer; infer_instance
theorem nearer_iff {s a c w : Int} (h0 : 0 ≤ a) (h1 : a < s) : nearer a c w ↔ nLo c w ≤ a ∧ a < nHi s c w := by
  unfold nearer nLo nHi
  split <;> omega
end NS
namespace NS
open PySem PySem.Spec PyProof.Rows L2
theorem rngD_rI (lo hi : Int) : rngD lo hi = (rI lo hi).map .int := by simp [rngD, rI, Function.comp_def]
end NS
namespace NS
open PySem PySem.Spec PyProof.Rows L2
@[simp] theorem opt_if {α : Type} (c : Prop) [Decidable c] (a : α) : (M.opt (if c then some a else none) : M α) = if c then M.pure a else M.bad := by split <;> rfl
@[simp] theorem bind_pure' {α : Type} (x : M α) : M.bind x (fun a => M.pure a) = x := by
  funext g; unfold M.bind; cases x g <;> rfl
@[simp] theorem ownL_ow (ds : List D) : ownL (some (some (.ow (.lst ds)))) = some ds := rfl
@[simp] theorem ownD_ow (d : D) : ownD (some (some (.ow d))) = some d := rfl
@[simp] theorem sOwn_ap (i : Nat) (k : List D → D → Option (List D)) (fe : DS → M D) (σ : DS) : sOwn i k fe σ = M.bind (M.opt (ownL σ[i]?)) fun ds => M.bind (fe σ) fun d => M.bind (M.opt (k ds d)) fun ds' => M.pure (.nx (σ.set i (some (.ow (.lst ds'))))) := by
  unfold sOwn
  cases ownL σ[i]? with
  | none => rfl
  | some ds =>
    simp only [opt_some', pure_bind']
    congr 1; funext d
    cases k ds d <;> rfl
@[simp] theorem sOwnL_ap (i : Nat) (k : List D → List D → Option (List D)) (fl : DS → M (List D)) (σ : DS) : sOwnL i k fl σ = M.bind (M.opt (ownL σ[i]?)) fun ds => M.bind (fl σ) fun d => M.bind (M.opt (k ds d)) fun ds' => M.pure (.nx (σ.set i (some (.ow (.lst ds'))))) := by
  unfold sOwnL
  cases ownL σ[i]? with
  | none => rfl
  | some ds =>
    simp only [opt_some', pure_bind']
    congr 1; funext d
    cases k ds d <;> rfl
@[simp] theorem kApp_ap (ds : List D) (d : D) : kApp ds d = if fit ds.length = true then some (ds ++ [d]) else none := rfl
@[simp] theorem sRetO_ap (i : Nat) (σ : DS) : sRetO i σ = M.bind (M.opt (ownD σ[i]?)) fun d => M.pure (.rt d) := by
  unfold sRetO ownD
  rcases σ[i]? with _ | (_ | (d | d)) <;> rfl
@[simp] theorem sDPut_ap (j : Nat) (fe fi : DS → M D) (σ : DS) : sDPut' j fe fi σ = M.bind (fe σ) fun d => M.bind (M.opt (ownD σ[j]?)) fun x => M.bind (fi σ) fun i => M.bind (M.opt (dPut x i d)) fun x' => M.pure (.nx (σ.set j (some (.ow x')))) := by
  unfold sDPut'
  congr 1; funext d
  cases ownD σ[j]? with
  | none => rfl
  | some x =>
    simp only [opt_some', pure_bind']
    congr 1; funext i
    cases dPut x i d <;> rfl
@[simp] theorem dPut_pair (kvs : List (List Key × D)) (a b : Int) (v : D) : dPut (.dT kvs) (.tup [.int a, .int b]) v = if fit kvs.length = true then some (.dT (putD kvs [.inl a, .inl b] v)) else none := rfl
@[simp] theorem kIxD_pair (kvs : List (List Key × D)) (a b : Int) : kIxD (.dT kvs) (.tup [.int a, .int b]) = M.opt (valD kvs [.inl a, .inl b]) := rfl
@[simp] theorem kIxD_lst (xs : List D) (y : D) : kIxD (.lst xs) y = kIx (.lst xs) y := rfl
@[simp] theorem kIxD_tup (xs : List D) (y : D) : kIxD (.tup xs) y = kIx (.tup xs) y := rfl
@[simp] theorem kOfInts_cons (f : List Int → M D) (i : Int) (bs : List Int) : kOfInts f [.lst (.int i :: bs.map .int)] = f (i :: bs) := by rw [← List.map_cons, kOfInts_map]
@[simp] theorem minI_cons (i : Int) (l : List Int) : minI (i :: l) = some (l.foldl min i) := rfl
@[simp] theorem maxI_cons (i : Int) (l : List Int) : maxI (i :: l) = some (l.foldl max i) := rfl
end NS
namespace NS
theorem rI_nodup (a b : Int) : (rI a b).Nodup := by
  unfold rI
  rw [List.nodup_iff_pairwise_ne, List.pairwise_map]
  exact (List.nodup_iff_pairwise_ne.mp List.nodup_range).imp fun h e => h (by omega)
theorem rI_sorted (a b : Int) : (rI a b).Pairwise (· < ·) := by
  unfold rI
  rw [List.pairwise_map]
  exact List.pairwise_lt_range.imp fun h => by omega
theorem ct_map {f : Int → Int} {ok ok' : List Int → Int → Bool} {I : List Int} (hn : I.Nodup) (inj : ∀ x ∈ I, ∀ y ∈ I, f x = f y → x = y)
    (h : ∀ I' : List Int, (∀ x ∈ I', x ∈ I) → ∀ c ∈ I', ok (I'.map f) (f c) = ok' I' c) : ct ok (I.map f) = ct ok' I := by
  refine nodup_ind (P := fun J => (∀ x ∈ J, x ∈ I) → ct ok (J.map f) = ct ok' J) ?_ hn fun _ h => h
  intro J hJ ih hs
  by_cases e : J = []
  · subst e; rfl
  have hm : (J.map f).Nodup := by
    rw [List.nodup_iff_pairwise_ne, List.pairwise_map]
    refine (List.Pairwise.imp_of_mem ?_ (List.nodup_iff_pairwise_ne.mp hJ))
    intro a b ha hb ne e2
    exact ne (inj a (hs a ha) b (hs b hb) e2)
  rw [ct_step ok hm (by simpa using e), ct_step ok' hJ e, sg_map]
  refine sg_congr fun c hc => ?_
  rw [h J hs c hc]
  have er : rm (f c) (J.map f) = (rm c J).map f := by
    unfold rm
    rw [List.filter_map]
    congr 1
    refine List.filter_congr fun x hx => ?_
    by_cases e2 : x = c
    · subst e2; simp
    · have e4 : f x ≠ f c := fun e3 => e2 (inj x (hs x hx) c (hs c hc) e3)
      show (f x != f c) = (x != c)
      rw [bne_iff_ne.mpr e4, bne_iff_ne.mpr e2]
  rw [er, ih c hc fun x hx => hs x (rm_sub _ _ _ hx)]
section
variable {nd : Int → Int → Bool}
def Iv (nd : Int → Int → Bool) : Prop := ∀ c d e, nd c d = true → (c < e ∧ e < d ∨ d < e ∧ e < c) → nd c e = true
def pt (nd : Int → Int → Bool) (n a b : Int) : Nat := ct (okW nd (rI 0 n)) (rI a b)
theorem max_of {R : List Int} {P : Int → Prop} (h : ∃ c ∈ R, P c) : ∃ c ∈ R, P c ∧ ∀ e ∈ R, P e → e ≤ c := by
  induction R with
  | nil => obtain ⟨c, hc, _⟩ := h; cases hc
  | cons x R ih =>
    by_cases hR : ∃ c ∈ R, P c
    · obtain ⟨c, hc, p, m⟩ := ih hR
      by_cases hx : P x ∧ c < x
      · refine ⟨x, List.mem_cons_self, hx.1, fun e he pe => ?_⟩
        rcases List.mem_cons.mp he with rfl | he
        · exact Int.le_refl _
        · have := m e he pe; omega
      · refine ⟨c, List.mem_cons_of_mem _ hc, p, fun e he pe => ?_⟩
        rcases List.mem_cons.mp he with rfl | he
        · apply Classical.byContradiction; intro hh; exact hx ⟨pe, by omega⟩
        · exact m e he pe
    · obtain ⟨c, hc, p⟩ := h
      rcases List.mem_cons.mp hc with rfl | hc
      · refine ⟨c, List.mem_cons_self, p, fun e he pe => ?_⟩
        rcases List.mem_cons.mp he with rfl | he
        · exact Int.le_refl _
        · exact absurd ⟨e, he, pe⟩ hR
      · exact absurd ⟨c, hc, p⟩ hR
theorem min_of {R : List Int} {P : Int → Prop} (h : ∃ c ∈ R, P c) : ∃ c ∈ R, P c ∧ ∀ e ∈ R, P e → c ≤ e := by
  obtain ⟨c, hc, p⟩ := h
  obtain ⟨d, hd, q, m⟩ := max_of (R := R.map fun x => -x) (P := fun x => P (-x)) ⟨-c, List.mem_map.mpr ⟨c, hc, rfl⟩, by simpa using p⟩
  obtain ⟨x, hx, rfl⟩ := List.mem_map.mp hd
  refine ⟨x, hx, by simpa using q, fun e he pe => ?_⟩
  have := m (-e) (List.mem_map.mpr ⟨e, he, rfl⟩) (by simpa using pe)
  omega
def Os (nd : Int → Int → Bool) : Prop := ∀ c d e, nd c d = true → nd c e = true → (d < c ↔ e < c)
def Nm (nd : Int → Int → Bool) (R : List Int) : Prop := ∀ c ∈ R, ∀ d ∈ R, ¬ (nd c d = true ∧ nd d c = true)
theorem Nm.sub {R S : List Int} (h : Nm nd R) (hs : ∀ x ∈ S, x ∈ R) : Nm nd S := fun c hc d hd => h c (hs c hc) d (hs d hd)
theorem some_ready (irr : ∀ c, nd c c = false) (iv : Iv nd) (os : Os nd) {R : List Int} (hR : R ≠ []) (nm : Nm nd R) : ∃ c ∈ R, okF nd R c = true := by
  apply Classical.byContradiction
  intro hh
  have all : ∀ c ∈ R, ∃ d ∈ R, nd c d = true := by
    intro c hc
    apply Classical.byContradiction
    intro h2
    refine hh ⟨c, hc, okF_iff.mpr fun d hd => ?_⟩
    cases e : nd c d
    · rfl
    · exact absurd ⟨d, hd, e⟩ h2
  obtain ⟨m, hm, _, mm⟩ := min_of (R := R) (P := fun _ => True) (by cases R; exact absurd rfl hR; exact ⟨_, List.mem_cons_self, trivial⟩)
  obtain ⟨d0, hd0, n0⟩ := all m hm
  have ne0 : d0 ≠ m := by rintro rfl; rw [irr] at n0; cases n0
  obtain ⟨c, hc, ⟨d, hd, lt, nc⟩, mx⟩ := max_of (R := R) (P := fun c => ∃ d ∈ R, c < d ∧ nd c d = true) ⟨m, hm, d0, hd0, by have := mm d0 hd0 trivial; omega, n0⟩
  obtain ⟨d', hd', lt', mn⟩ := min_of (R := R) (P := fun d => c < d) ⟨d, hd, lt⟩
  have nc' : nd c d' = true := by
    have := mn d hd lt
    by_cases e : d' = d
    · rw [e]; exact nc
    · exact iv c d d' nc (.inl ⟨lt', by omega⟩)
  obtain ⟨e, he, ne⟩ := all d' hd'
  have ned : e ≠ d' := by rintro rfl; rw [irr] at ne; cases ne
  have le : e ≤ c := by
    by_cases h1 : d' < e
    · have := mx d' hd' ⟨e, he, h1, ne⟩; omega
    · apply Classical.byContradiction
      intro h2
      have := mn e he (by omega); omega
  have ne' : nd d' c = true := by
    by_cases h1 : e = c
    · rw [← h1]; exact ne
    · exact iv d' e c ne (.inr ⟨by omega, lt'⟩)
  exact nm c hc d' hd' ⟨nc', ne'⟩
theorem LE_pos (irr : ∀ c, nd c c = false) (iv : Iv nd) (os : Os nd) {R : List Int} (hn : R.Nodup) (nm : Nm nd R) : 0 < LE nd R := by
  refine nodup_ind (P := fun R => Nm nd R → 0 < LE nd R) ?_ hn nm
  intro R hn ih nm
  by_cases e : R = []
  · subst e; simp [LE]
  obtain ⟨c, hc, ok⟩ := some_ready irr iv os e nm
  rw [LE_first hn e]
  have p := ih c hc (nm.sub (rm_sub c R))
  apply Nat.pos_of_ne_zero
  intro h
  have := sg_zero_iff.mp h c hc
  rw [if_pos ok] at this; omega
theorem LE_zero {R : List Int} (hn : R.Nodup) (m : ¬ Nm nd R) : LE nd R = 0 := by
  refine nodup_ind (P := fun R => ¬ Nm nd R → LE nd R = 0) ?_ hn m
  intro R hn ih m
  obtain ⟨c, hc, d, hd, h1, h2⟩ : ∃ c ∈ R, ∃ d ∈ R, nd c d = true ∧ nd d c = true := by
    apply Classical.byContradiction
    intro hh
    exact m fun c hc d hd h => hh ⟨c, hc, d, hd, h⟩
  rw [LE_first hn (by rintro rfl; cases hc)]
  refine sg_zero fun x hx => ?_
  by_cases ok : okF nd R x = true
  · rw [if_pos ok]
    refine ih x hx fun nm => ?_
    have nc : c ≠ x := by rintro rfl; have := okF_iff.mp ok d hd; rw [h1] at this; cases this
    have nd' : d ≠ x := by rintro rfl; have := okF_iff.mp ok c hc; rw [h2] at this; cases this
    exact nm c (mem_rm.mpr ⟨hc, nc⟩) d (mem_rm.mpr ⟨hd, nd'⟩) ⟨h1, h2⟩
  · rw [if_neg ok]
theorem LE_pos_iff (irr : ∀ c, nd c c = false) (iv : Iv nd) (os : Os nd) {R : List Int} (hn : R.Nodup) : 0 < LE nd R ↔ Nm nd R :=
  ⟨fun h => Classical.byContradiction fun m => by rw [LE_zero hn m] at h; omega, LE_pos irr iv os hn⟩
end
end NS
namespace NS
open PySem PySem.Spec PyProof.Rows L2
def Is {α : Type} (x : M α) (v : α) : Prop := ∀ g, Gpur g = true → x g = .ok v g
theorem Is.T {α : Type} {x : M α} {v : α} (h : Is x v) {g : G} (hg : Gpur g = true) {Q : α → G → Prop} : NS.T x g Q ↔ Q v g := T_ok (h g hg)
theorem Is.of_T {α : Type} {x : M α} {v : α} (h : ∀ g, Gpur g = true → NS.T x g (fun a g' => a = v ∧ g' = g)) : Is x v := fun g hg => by
  obtain ⟨a, g', e, rfl, rfl⟩ := h g hg; exact e
theorem filt_true {α : Type} (l : List α) : l.filter (fun _ => true) = l := List.filter_eq_self.mpr (by simp)
theorem compM_all {fg : D → DS → M DS} {ft : DS → M Bool} {fe : DS → M D} {σ : DS} {α : Type} {en : α → D} {f : α → D} {xs : List α}
    (h : ∀ x ∈ xs, ∃ σ1, fg (en x) σ = M.pure σ1 ∧ ft σ1 = M.pure true ∧ fe σ1 = M.pure (f x)) : compM fg ft fe σ (xs.map en) = M.pure (xs.map f) := by
  have := compM_pure (fg := fg) (ft := ft) (fe := fe) (σ := σ) (en := en) (p := fun _ => true) (f := f) (xs := xs) fun x hx => by
    obtain ⟨σ1, h1, h2, h3⟩ := h x hx; exact ⟨σ1, h1, h2, fun _ => h3⟩
  rw [filt_true] at this; exact this
theorem eqF_int (i j : Int) : eqF (.int i) (.int j) = (i == j) := rfl
theorem inF_ints (x : Int) (xs : List Int) : inF (.int x) (xs.map .int) = xs.contains x := by
  unfold inF
  rw [List.any_map]
  induction xs with
  | nil => rfl
  | cons y ys ih => simp only [List.any_cons, ih, List.contains_cons, Function.comp_apply, eqF_int]; rw [Bool.beq_comm]
theorem flat_ints (xs : List Int) : (xs.map D.int).all D.flat = true := by simp [D.flat]
theorem kInF_ints (x : Int) (xs : List Int) : kInF (.int x) (xs.map .int) = some (xs.contains x) := by
  unfold kInF; rw [if_pos ⟨rfl, flat_ints xs⟩, inF_ints]
theorem inD_lst_ints (x : Int) (xs : List Int) : inD (.int x) (.lst (xs.map .int)) = some (xs.contains x) := by
  show (match kInF (.int x) (xs.map .int) with | some b => some b | none => kInP (.int x) (xs.map .int)) = _
  rw [kInF_ints]
@[simp] theorem kIn_lst_ints (x : Int) (xs : List Int) : kIn (.int x) (.lst (xs.map .int)) = M.pure (.bl (xs.contains x)) := by
  unfold kIn; rw [inD_lst_ints]; rfl
@[simp] theorem kNotIn_lst_ints (x : Int) (xs : List Int) : kNotIn (.int x) (.lst (xs.map .int)) = M.pure (.bl (!xs.contains x)) := by
  unfold kNotIn; rw [inD_lst_ints]; rfl
theorem inD_tup_ints (x : Int) (xs : List Int) : inD (.int x) (.tup (xs.map .int)) = some (xs.contains x) := kInF_ints x xs
@[simp] theorem kIn_tup_ints (x : Int) (xs : List Int) : kIn (.int x) (.tup (xs.map .int)) = M.pure (.bl (xs.contains x)) := by
  unfold kIn; rw [inD_tup_ints]; rfl
@[simp] theorem kNotIn_tup_ints (x : Int) (xs : List Int) : kNotIn (.int x) (.tup (xs.map .int)) = M.pure (.bl (!xs.contains x)) := by
  unfold kNotIn; rw [inD_tup_ints]; rfl
inductive Ent where
  | e | u | w (i : Int)
deriving DecidableEq
def Ent.d : Ent → D
  | .e => .non | .u => .str "?" | .w i => .int i
abbrev Tab := List Ent
def Tb (x : D) (t : Tab) : Prop := x = .tup (t.map Ent.d) ∨ x = .lst (t.map Ent.d) ∨ x = .ftup (t.map Ent.d)
@[simp] theorem kLen_ft (xs : List D) : kLen [.ftup xs] = M.pure (.int (xs.length : Int)) := rfl
@[simp] theorem kIx_ft (xs : List D) (i : Int) : kIx (.ftup xs) (.int i) = M.opt (L2.atI xs i) := rfl
@[simp] theorem enumK_ft (xs : List D) : enumK [.ftup xs] = M.pure (enumD xs) := rfl
def ent (t : Tab) (c : Int) : Ent := if c < 0 then .e else (t[c.toNat]?).getD .e
def tn (t : Tab) : Int := t.length
theorem ent_lt {t : Tab} {c : Int} (h : ent t c ≠ .e) : 0 ≤ c ∧ c < tn t := by
  unfold ent at h
  split at h
  · exact absurd rfl h
  · refine ⟨by omega, ?_⟩
    apply Classical.byContradiction
    intro hh
    unfold tn at hh
    rw [List.getElem?_eq_none (by omega)] at h
    exact h rfl
theorem ent_get {t : Tab} {c : Int} (h0 : 0 ≤ c) (h1 : c < tn t) : t[c.toNat]? = some (ent t c) := by
  unfold tn at h1
  unfold ent
  rw [if_neg (by omega)]
  rw [List.getElem?_eq_getElem (by omega)]; rfl
theorem atI_tab {t : Tab} {c : Int} (h0 : 0 ≤ c) (h1 : c < tn t) : L2.atI (t.map Ent.d) c = some (ent t c).d := by
  obtain ⟨k, rfl⟩ := Int.eq_ofNat_of_zero_le h0
  refine atI_nat ?_
  have := ent_get h0 h1
  simp at this ⊢
  rw [this]; exact ⟨_, rfl, rfl⟩
structure Tok (t : Tab) : Prop where
  len : t.length ≤ 12
  wish : ∀ c v, ent t c = .w v → 0 ≤ v ∧ v < tn t
def takenI (t : Tab) : List Int := (rI 0 (tn t)).filter fun c => ent t c != .e
theorem mem_taken {t : Tab} {c : Int} : c ∈ takenI t ↔ ent t c ≠ .e := by
  unfold takenI
  simp only [List.mem_filter, mem_rI, bne_iff_ne]
  exact ⟨fun h => h.2, fun h => ⟨ent_lt h, h⟩⟩
theorem taken_nodup (t : Tab) : (takenI t).Nodup := (rI_nodup _ _).filter _
theorem taken_sorted (t : Tab) : (takenI t).Pairwise (· < ·) := (rI_sorted _ _).filter _
theorem taken_len (t : Tab) : (takenI t).length ≤ t.length := by
  refine Nat.le_trans (List.length_filter_le _ _) ?_
  simp [tn]
def nd (t : Tab) (c d : Int) : Bool := match ent t c with
  | .w v => decide (nLo c v ≤ d ∧ d < nHi (tn t) c v)
  | _ => false
def needI (t : Tab) (c : Int) : List Int := match ent t c with
  | .w v => needL (tn t) c v
  | _ => []
theorem mem_need {t : Tab} {c d : Int} : d ∈ needI t c ↔ nd t c d = true := by
  unfold needI nd
  cases ent t c with
  | w v => simp [needL, mem_rI]
  | _ => simp
theorem nd_lt {t : Tab} (ok : Tok t) {c d : Int} (h : nd t c d = true) : 0 ≤ d ∧ d < tn t := by
  unfold nd at h
  cases e : ent t c with
  | w v =>
    rw [e] at h
    have h := of_decide_eq_true h
    have hw := ok.wish c v e
    have hc := ent_lt (t := t) (c := c) (by rw [e]; simp)
    unfold nLo nHi at h
    split at h <;> omega
  | _ => rw [e] at h; cases h
theorem nd_irr (t : Tab) (c : Int) : nd t c c = false := by
  unfold nd
  cases ent t c with
  | w v => simp; unfold nLo nHi; split <;> omega
  | _ => rfl
theorem nd_iv (t : Tab) : Iv (nd t) := by
  intro c d e h b
  unfold nd at h ⊢
  cases e1 : ent t c with
  | w v =>
    rw [e1] at h
    have h := of_decide_eq_true h
    refine decide_eq_true ?_
    unfold nLo nHi at h ⊢
    split at h <;> simp only [*, if_true, if_false] <;> omega
  | _ => rw [e1] at h; cases h
theorem nd_os (t : Tab) : Os (nd t) := by
  intro c d e h h2
  unfold nd at h h2
  cases e1 : ent t c with
  | w v =>
    rw [e1] at h h2
    have h := of_decide_eq_true h
    have h2 := of_decide_eq_true h2
    unfold nLo nHi at h h2
    split at h <;> simp only [*, if_true, if_false] at h2 <;> omega
  | _ => rw [e1] at h; cases h
theorem nd_taken {t : Tab} {c d : Int} (h : nd t c d = true) : ent t c ≠ .e := by
  unfold nd at h
  intro e; rw [e] at h; cases h
@[simp] theorem isN_ent (x : Ent) : D.isN x.d = (x == .e) := by cases x <;> rfl
end NS
namespace NS
open PySem PySem.Spec PyProof.Rows L2
def pr (p : Int × Int) : D := .tup [.int p.1, .int p.2]
def gapOf (t : Tab) (c : Int) : List Int := (needI t c).filter fun d => ent t d == .e
def gapI (t : Tab) : List (Int × Int) := (takenI t).flatMap fun c => (gapOf t c).map fun d => (c, d)
theorem tl_le {t : Tab} (ok : Tok t) : (takenI t).length ≤ 12 := Nat.le_trans (taken_len t) ok.len
end NS
namespace NS
open PySem PySem.Spec PyProof.Rows L2
@[simp] theorem kLe_int (i j : Int) : kLe (.int i) (.int j) = M.pure (.bl (decide (i ≤ j))) := rfl
@[simp] theorem ix_pr0 (p : Int × Int) : kIx (pr p) (.int 0) = M.pure (.int p.1) := rfl
@[simp] theorem ix_pr1 (p : Int × Int) : kIx (pr p) (.int 1) = M.pure (.int p.2) := rfl
def PT (ndr : Int → Int → Bool) (m : Int) (kvs : List (List Key × D)) (P : Int → Int → Prop) : Prop := ∀ a b, 0 ≤ a → a ≤ b → b ≤ m → P a b → valD kvs [.inl a, .inl b] = some (.int (pt ndr m a b : Nat))
end NS
namespace NS
open PySem PySem.Spec PyProof.Rows L2
theorem leD_int (a b : Int) : leD (.int a) (.int b) = decide (a ≤ b) := by
  show (!(PyProof.Rows.lexLt PyProof.Rows.itemOrd [.inl b] [.inl a])) = _
  unfold PyProof.Rows.lexLt
  by_cases h1 : b < a
  · have : PyProof.Rows.itemLt (.inl b) (.inl a) = true := decide_eq_true h1
    rw [show decide (a ≤ b) = false from decide_eq_false (by omega)]
    simp [this]
  · have : PyProof.Rows.itemLt (.inl b) (.inl a) = false := decide_eq_false h1
    rw [show decide (a ≤ b) = true from decide_eq_true (by omega)]
    simp [this, PyProof.Rows.lexLt]
def insI (x : Int) : List Int → List Int
  | [] => [x]
  | y :: ys => if x ≤ y then x :: y :: ys else y :: insI x ys
def sortI : List Int → List Int
  | [] => []
  | x :: xs => insI x (sortI xs)
theorem insD_int (x : Int) : ∀ l : List Int, insD leD (.int x) (l.map .int) = (insI x l).map .int
  | [] => rfl
  | y :: ys => by
    simp only [List.map_cons, insD, insI, leD_int, decide_eq_true_eq]
    split
    · rfl
    · rw [insD_int x ys]; rfl
theorem isrt_int : ∀ l : List Int, isrt leD (l.map .int) = (sortI l).map .int
  | [] => rfl
  | x :: xs => by rw [List.map_cons, isrt, isrt_int xs, insD_int]; rfl
theorem insI_perm (x : Int) : ∀ l : List Int, (insI x l).Perm (x :: l)
  | [] => .refl _
  | y :: ys => by
    unfold insI
    split
    · exact .refl _
    · exact (List.Perm.cons y (insI_perm x ys)).trans (List.Perm.swap x y ys)
theorem sortI_perm : ∀ l : List Int, (sortI l).Perm l
  | [] => .refl _
  | x :: xs => (insI_perm x _).trans (List.Perm.cons x (sortI_perm xs))
theorem insI_sorted (x : Int) : ∀ {l : List Int}, l.Pairwise (· ≤ ·) → (insI x l).Pairwise (· ≤ ·)
  | [], _ => by simp [insI]
  | y :: ys, h => by
    have h2 := List.pairwise_cons.mp h
    unfold insI
    split
    · rename_i hxy
      refine List.pairwise_cons.mpr ⟨fun a ha => ?_, h⟩
      rcases List.mem_cons.mp ha with rfl | ha
      · exact hxy
      · have := h2.1 a ha; omega
    · refine List.pairwise_cons.mpr ⟨fun a ha => ?_, insI_sorted x h2.2⟩
      rcases List.mem_cons.mp ((insI_perm x ys).mem_iff.mp ha) with rfl | ha
      · omega
      · exact h2.1 a ha
theorem sortI_sorted : ∀ l : List Int, (sortI l).Pairwise (· ≤ ·)
  | [] => .nil
  | x :: xs => insI_sorted x (sortI_sorted xs)
theorem srtOk_ints (l : List Int) (h : l.length < 1000000) : srtOk (l.map .int) = true := by
  have ok : ∀ l : List Int, D.pysOk (l.map .int) = true := fun l => by induction l with | nil => rfl | cons x xs ih => simp [D.pysOk, ih, D.pyOk]
  have e : ∀ l : List Int, D.pys (l.map .int) = l.map .int := fun l => by induction l with | nil => rfl | cons x xs ih => simp [D.pys, ih, D.py]
  have dp : ∀ l : List Int, PyData.depthAll (l.map .int) ≤ 60 := fun l => by induction l with | nil => simp [PyData.depthAll] | cons x xs ih => simp [PyData.depthAll, PyData.depth]; exact ih
  unfold srtOk
  rw [ok, e]
  simp [dp, PySem.W.alike, notTN, h]
@[simp] theorem kSorted_tup_ints (l : List Int) (h : l.length < 1000000) : kSorted [.tup (l.map .int)] = M.pure (.lst ((sortI l).map .int)) := by
  unfold kSorted; simp only [srtOk_ints l h, if_true, isrt_int]
@[simp] theorem kSorted_lst_ints (l : List Int) (h : l.length < 1000000) : kSorted [.lst (l.map .int)] = M.pure (.lst ((sortI l).map .int)) := by
  unfold kSorted; simp only [srtOk_ints l h, if_true, isrt_int]
@[simp] theorem pl_pr (n : Nat) (p : Int × Int) : D.pl (n + 1) (pr p) = true := by simp [pr]
end NS
namespace NS
open PySem PySem.Spec PyProof.Rows L2
def restI (t : Tab) (P : List Int) : List Int := (takenI t).filter fun c => !P.contains c
def readyI (t : Tab) (P : List Int) : List Int := (restI t P).filter fun c => (needI t c).all fun d => P.contains d
theorem mem_rest {t : Tab} {P : List Int} {c : Int} : c ∈ restI t P ↔ c ∈ takenI t ∧ c ∉ P := by
  unfold restI; simp only [List.mem_filter, Bool.not_eq_true', ← Bool.not_eq_true, List.contains_iff_mem]
theorem mem_ready {t : Tab} {P : List Int} {c : Int} : c ∈ readyI t P ↔ c ∈ takenI t ∧ c ∉ P ∧ ∀ d, nd t c d = true → d ∈ P := by
  unfold readyI
  simp only [List.mem_filter, mem_rest, List.all_eq_true, List.contains_iff_mem, mem_need]
  exact ⟨fun ⟨⟨a, b⟩, c⟩ => ⟨a, b, c⟩, fun ⟨a, b, c⟩ => ⟨⟨a, b⟩, c⟩⟩
theorem rest_nodup (t : Tab) (P : List Int) : (restI t P).Nodup := (taken_nodup t).filter _
def Ngap (t : Tab) : Prop := ∀ c d, nd t c d = true → ent t d ≠ .e
structure Good (t : Tab) (P : List Int) : Prop where
  nodup : P.Nodup
  sub : ∀ c ∈ P, c ∈ takenI t
  ag : ∀ k c, P[k]? = some c → ∀ d, nd t c d = true → d ∈ P.take k
theorem Good.nil (t : Tab) : Good t [] := ⟨List.nodup_nil, fun _ h => (nomatch h), fun _ _ h => (nomatch h)⟩
theorem Good.snoc {t : Tab} {P : List Int} (h : Good t P) {c : Int} (hc : c ∈ readyI t P) : Good t (P ++ [c]) := by
  obtain ⟨h1, h2, h3⟩ := mem_ready.mp hc
  refine ⟨?_, fun x hx => ?_, fun k x e d n => ?_⟩
  · refine List.nodup_append.mpr ⟨h.nodup, by simp, fun a ha b hb => ?_⟩
    rw [List.mem_singleton.mp hb]; rintro rfl; exact h2 ha
  · rcases List.mem_append.mp hx with hx | hx
    · exact h.sub x hx
    · rw [List.mem_singleton.mp hx]; exact h1
  · by_cases hk : k < P.length
    · rw [List.getElem?_append_left hk] at e
      rw [List.take_append_of_le_length (by omega)]
      exact h.ag k x e d n
    · have hk2 : k = P.length := by
        have := (List.getElem?_eq_some_iff.mp e).1
        simp at this; omega
      subst hk2
      rw [List.getElem?_append_right (by omega)] at e
      simp at e
      subst e
      simp
      exact h3 d n
theorem Good.pre {t : Tab} {P : List Int} {c : Int} (h : Good t (P ++ [c])) : Good t P ∧ c ∈ readyI t P := by
  have nd := List.nodup_append.mp h.nodup
  refine ⟨⟨nd.1, fun x hx => h.sub x (List.mem_append_left _ hx), fun k x e d n => ?_⟩, mem_ready.mpr ⟨h.sub c (by simp), fun hc => nd.2.2 c hc c (by simp) rfl, fun d n => ?_⟩⟩
  · have hk := (List.getElem?_eq_some_iff.mp e).1
    have := h.ag k x (by rw [List.getElem?_append_left hk]; exact e) d n
    rw [List.take_append_of_le_length (by omega)] at this
    exact this
  · have := h.ag P.length c (by simp) d n
    simpa using this
theorem perm_of {l m : List Int} (hl : l.Nodup) (hm : m.Nodup) (h : ∀ x ∈ l, x ∈ m) (e : m.length ≤ l.length) : l.Perm m := by
  induction l generalizing m with
  | nil => cases m with | nil => exact .refl _ | cons => simp at e
  | cons a l ih =>
    have h2 := List.nodup_cons.mp hl
    have ha := h a List.mem_cons_self
    have p := List.perm_cons_erase ha
    refine (List.Perm.cons a (ih h2.2 (hm.erase a) (fun x hx => ?_) ?_)).trans p.symm
    · exact (List.mem_erase_of_ne (fun e => by subst e; exact h2.1 hx)).mpr (h x (List.mem_cons_of_mem _ hx))
    · rw [List.length_erase_of_mem ha]; simp at e; omega
theorem sub_len {l m : List Int} (hl : l.Nodup) (h : ∀ x ∈ l, x ∈ m) : l.length ≤ m.length := by
  induction l generalizing m with
  | nil => simp
  | cons a l ih =>
    have h2 := List.nodup_cons.mp hl
    have ha := h a List.mem_cons_self
    have := ih (m := m.erase a) h2.2 fun x hx => (List.mem_erase_of_ne (fun e => by subst e; exact h2.1 hx)).mpr (h x (List.mem_cons_of_mem _ hx))
    rw [List.length_erase_of_mem ha] at this
    have : 0 < m.length := List.length_pos_of_mem ha
    simp; omega
theorem Good.len {t : Tab} {P : List Int} (h : Good t P) : P.length ≤ (takenI t).length := sub_len h.nodup h.sub
theorem mem_gap {t : Tab} {p : Int × Int} : p ∈ gapI t ↔ nd t p.1 p.2 = true ∧ ent t p.2 = .e := by
  obtain ⟨c, d⟩ := p
  unfold gapI gapOf
  simp only [List.mem_flatMap, List.mem_map, List.mem_filter, beq_iff_eq, mem_need, Prod.mk.injEq]
  constructor
  · rintro ⟨a, ha, b, ⟨h1, h2⟩, rfl, rfl⟩; exact ⟨h1, h2⟩
  · rintro ⟨h1, h2⟩; exact ⟨c, mem_taken.mpr (nd_taken h1), d, ⟨h1, h2⟩, rfl, rfl⟩
theorem ngap_iff {t : Tab} : gapI t = [] ↔ Ngap t := by
  constructor
  · intro h c d n e
    have : (c, d) ∈ gapI t := mem_gap.mpr ⟨n, e⟩
    rw [h] at this; cases this
  · intro h
    apply List.eq_nil_iff_forall_not_mem.mpr
    intro p hp
    obtain ⟨h1, h2⟩ := mem_gap.mp hp
    exact h _ _ h1 h2
def Pos (t : Tab) : Prop := Ngap t ∧ Nm (nd t) (takenI t)
theorem pos_iff {t : Tab} : Pos t ↔ gapI t = [] ∧ 0 < LE (nd t) (takenI t) := by
  unfold Pos
  rw [ngap_iff, LE_pos_iff (nd_irr t) (nd_iv t) (nd_os t) (taken_nodup t)]
def cI (t : Tab) (P : List Int) : Nat := LE (nd t) (restI t P)
end NS
namespace NS
open PySem PySem.Spec PyProof.Rows L2
end NS
namespace NS
open PySem PySem.Spec PyProof.Rows L2
theorem cutD_take (xs : List D) (k : Int) (h : 0 ≤ k) : cutD xs none (some k) = xs.take k.toNat := by
  unfold cutD HT.sIx
  simp [show ¬ k < 0 by omega]
theorem cutD_drop (xs : List D) (k : Int) (h : 0 ≤ k) : cutD xs (some k) none = xs.drop k.toNat := by
  unfold cutD HT.sIx
  simp [show ¬ k < 0 by omega]
  rw [List.take_of_length_le (by simp)]
  by_cases hk : k.toNat ≤ xs.length
  · rw [Nat.min_eq_left hk]
  · rw [Nat.min_eq_right (by omega), List.drop_length, List.drop_eq_nil_of_le (by omega)]
def plt (p q : Int × Int) : Prop := p.1 < q.1 ∨ (p.1 = q.1 ∧ p.2 < q.2)
end NS
namespace NS
open PySem PySem.Spec PyProof.Rows L2
end NS
namespace NS
open PySem PySem.Spec PyProof.Rows L2
@[simp] theorem sPar_ap (is : List Nat) (bs : List Bool) (fl : DS → M (List D)) (σ : DS) : sPar is bs fl σ = M.bind (fl σ) fun ds => if ds.length = is.length then M.pure (.nx (setMs is bs ds σ)) else M.bad := rfl
@[simp] theorem setMs_cons (i : Nat) (is : List Nat) (b : Bool) (bs : List Bool) (d : D) (ds : List D) (σ : DS) : setMs (i :: is) (b :: bs) (d :: ds) σ = setMs is bs ds (σ.set i (some (mkV b d))) := rfl
@[simp] theorem setMs_nil (bs : List Bool) (ds : List D) (σ : DS) : setMs [] bs ds σ = σ := by cases bs <;> cases ds <;> rfl
@[simp] theorem mkV_t (d : D) : mkV true d = .ow d := rfl
@[simp] theorem mkV_f (d : D) : mkV false d = .sh d := rfl
theorem ixN_nat {n k : Nat} (h : k < n) : ixN n (k : Int) = some k := by unfold ixN; simp; omega
theorem sSetIx_T {j : Nat} {fe fi : DS → M D} {σ : DS} {g : G} {Q : Fl → G → Prop} (h : T (fe σ) g fun d g1 => ∃ ds, ownL σ[j]? = some ds ∧ T (fi σ) g1 fun i g2 => ∃ k : Nat, i = .int (k : Int) ∧ k < ds.length ∧ Q (.nx (σ.set j (some (.ow (.lst (ds.set k d)))))) g2) : T (sSetIx j fe fi σ) g Q := by
  unfold sSetIx
  rw [T_bind]
  refine h.imp fun d g1 ⟨ds, e, h1⟩ => ?_
  rw [e]
  show T (M.bind (fi σ) _) g1 Q
  rw [T_bind]
  refine h1.imp fun i g2 ⟨k, e, hk, q⟩ => ?_
  subst e
  simp only [ixN_nat hk]
  rw [T_pure]; exact q
def Go (k m : Nat) (g g' : G) : Prop := Src k m g' ∧ Oth k g g'
theorem Go.trans {k m n : Nat} {g g1 g2 : G} (h : Go k m g g1) (h' : Go k n g1 g2) : Go k n g g2 := ⟨h'.1, h.2.trans h'.2⟩
theorem Go.refl {k m : Nat} {g : G} (h : Src k m g) : Go k m g g := ⟨h, Oth.refl k g⟩
theorem Go.mono {k m n : Nat} {g g' : G} (h : Go k m g g') (hm : n ≤ m) : Go k n g g' := ⟨h.1.mono hm, h.2⟩
theorem draw_G {k m : Nat} {b : Int} {g : G} (h : Src k (m + 2) g) (hb : 0 < b) (hb2 : b < 2 ^ 30) {Q : D → G → Prop} (q : ∀ (r : Int) g', 0 ≤ r → r < b → Go k m g g' → Q (.int r) g') : T (d_Ldraw 3 [.hdl k, .int b]) g Q :=
  (draw_T h hb hb2).imp fun d g' ⟨r, e, h1, h2, h3, h4⟩ => by subst e; exact q r g' h1 h2 ⟨h3, h4⟩
theorem choice_T {k m : Nat} {g : G} {xs : List D} (h : Src k (m + 2) g) (hx : xs ≠ []) (hl : xs.length < 1000000) {Q : D → G → Prop} (q : ∀ d ∈ xs, ∀ g', Go k m g g' → Q d g') : T (d_Lchoice [.hdl k, .lst xs]) g Q := by
  have hp : 0 < xs.length := by cases xs; exact absurd rfl hx; simp
  refine runD_T ?_
  unfold b_Lchoice
  simp -implicitDefEqProofs [startD]
  refine draw_G h (by omega) (by omega) fun r g' h1 h2 go => ?_
  simp
  obtain ⟨j, rfl⟩ := Int.eq_ofNat_of_zero_le h1
  have hj : j < xs.length := by omega
  exact ⟨xs[j], atI_nat (by simp [hj]), q _ (List.getElem_mem hj) _ go⟩
theorem hopes_T {k m : Nat} {g : G} {w : Int} (h : Src k (m + 40) g) (h1 : 1 ≤ w) (h2 : w ≤ 12) {Q : D → G → Prop} (q : ∀ (hs : List Int) g', hs.length ≤ w → (∀ v ∈ hs, 0 ≤ v ∧ v < w) → Go k m g g' → Q (.lst (hs.map .int)) g') : T (d_Lhopes [.hdl k, .int w]) g Q := by
  refine runD_T ?_
  unfold b_Lhopes
  simp -implicitDefEqProofs [startD]
  refine draw_G (m := m + 38) h (by omega) (by omega) fun r1 g1 a1 b1 o1 => ?_
  refine draw_G (m := m + 36) o1.1 (by omega) (by omega) fun r2 g2 a2 b2 o2 => ?_
  refine draw_G (m := m + 34) o2.1 (by omega) (by omega) fun r3 g3 a3 b3 o3 => ?_
  simp -implicitDefEqProofs
  refine ⟨by omega, by omega, ?_⟩
  refine forM_T (fun i σ g' => (∃ x5 x6, ∃ hs : List Int, σ = [some (.sh (.hdl k)), some (.sh (.int w)), some (.sh (.int r1)), some (.sh (.int r2)), some (.ow (.lst (hs.map .int))), x5, x6] ∧ hs.length = i ∧ ∀ v ∈ hs, 0 ≤ v ∧ v < w) ∧ Go k (m + 34 - 2 * i) g g') (n := 0) ?_ ⟨⟨_, _, [], rfl, rfl, by simp⟩, (o1.trans o2).trans o3⟩ ?_
  · rintro i d σ g' e ⟨⟨x5, x6, hs, rfl, hl, hv⟩, go⟩
    obtain ⟨rfl, hi⟩ := rngD_get e
    have nx : ∀ v : Int, ∀ u ∈ hs ++ [max 0 (min (w - 1) v)], 0 ≤ u ∧ u < w := by
      intro v u hu
      rcases List.mem_append.mp hu with hu | hu
      · exact hv u hu
      · simp at hu; omega
    simp -implicitDefEqProofs
    refine ⟨fun hr => ?_, fun hr => ?_⟩
    · refine draw_G (m := m + 34 - 2 * (i + 1)) (go.1.mono (by omega)) (by omega) (by omega) fun r4 g4 a4 b4 o4 => ?_
      simp -implicitDefEqProofs
      exact ⟨by omega, ⟨_, _, hs ++ [max 0 (min (w - 1) r4)], by simp, rfl, rfl, by simp; omega, nx r4⟩, go.trans o4⟩
    · refine draw_G (m := m + 34 - 2 * (i + 1)) (go.1.mono (by omega)) (by omega) (by omega) fun r4 g4 a4 b4 o4 => ?_
      simp -implicitDefEqProofs
      exact ⟨by omega, ⟨_, _, hs ++ [max 0 (min (w - 1) (r1 + r4 - 1))], by simp, rfl, rfl, by simp; omega, nx _⟩, go.trans o4⟩
  · rintro σ g' ⟨⟨x5, x6, hs, rfl, hl, hv⟩, go⟩
    simp at hl
    simp
    exact q hs g' (by omega) hv (go.mono (by simp; omega))
theorem minPr_spec : ∀ (l : List (Int × Int)) (p : Int × Int), (minPr p l = p ∨ minPr p l ∈ l) ∧ ∀ q, q = p ∨ q ∈ l → ¬ plt q (minPr p l)
  | [], p => ⟨.inl rfl, fun q h => by
      rcases h with rfl | h
      · unfold minPr plt; omega
      · cases h⟩
  | x :: l, p => by
    unfold minPr
    by_cases c : x.1 < p.1 ∨ (x.1 = p.1 ∧ x.2 < p.2)
    · rw [if_pos c]
      obtain ⟨h1, h2⟩ := minPr_spec l x
      refine ⟨?_, fun q hq => ?_⟩
      · rcases h1 with h | h
        · exact .inr (by rw [h]; exact List.mem_cons_self)
        · exact .inr (List.mem_cons_of_mem _ h)
      · rcases hq with rfl | hq
        · have := h2 x (.inl rfl)
          generalize minPr x l = y at *
          unfold plt at *; omega
        · rcases List.mem_cons.mp hq with rfl | hq
          · exact h2 _ (.inl rfl)
          · exact h2 q (.inr hq)
    · rw [if_neg c]
      obtain ⟨h1, h2⟩ := minPr_spec l p
      refine ⟨?_, fun q hq => ?_⟩
      · rcases h1 with h | h
        · exact .inl h
        · exact .inr (List.mem_cons_of_mem _ h)
      · rcases hq with rfl | hq
        · exact h2 _ (.inl rfl)
        · rcases List.mem_cons.mp hq with rfl | hq
          · have := h2 p (.inl rfl)
            generalize minPr p l = y at *
            unfold plt at *; omega
          · exact h2 q (.inr hq)
def nearI (w : Int) : List Int → Int
  | [] => 0
  | c :: r => (minPr (((c - w).natAbs : Int), c) (r.map fun c => (((c - w).natAbs : Int), c))).2
theorem nearI_spec {w : Int} {l : List Int} (h : l ≠ []) : nearI w l ∈ l ∧ ∀ a ∈ l, ¬ nearer a (nearI w l) w := by
  cases l with
  | nil => exact absurd rfl h
  | cons c r =>
    obtain ⟨h1, h2⟩ := minPr_spec (r.map fun c => (((c - w).natAbs : Int), c)) (((c - w).natAbs : Int), c)
    have e : ∃ x ∈ c :: r, minPr (((c - w).natAbs : Int), c) (r.map fun c => (((c - w).natAbs : Int), c)) = (((x - w).natAbs : Int), x) := by
      rcases h1 with h | h
      · exact ⟨c, List.mem_cons_self, h⟩
      · obtain ⟨x, hx, e⟩ := List.mem_map.mp h
        exact ⟨x, List.mem_cons_of_mem _ hx, e.symm⟩
    obtain ⟨x, hx, e⟩ := e
    have en : nearI w (c :: r) = x := by
      show (minPr (((c - w).natAbs : Int), c) (r.map fun c => (((c - w).natAbs : Int), c))).2 = x
      rw [e]
    rw [en]
    refine ⟨hx, fun a ha hn => ?_⟩
    have := h2 (((a - w).natAbs : Int), a) (by
      rcases List.mem_cons.mp ha with rfl | ha
      · exact .inl rfl
      · exact .inr (List.mem_map.mpr ⟨a, ha, rfl⟩))
    rw [e] at this
    unfold plt nearer at *
    simp only at this
    omega
theorem kMinP_lst (ds : List D) (ps : List (Int × Int)) (p : Int × Int) (r : List (Int × Int)) (h : D.prs ds = some ps) (hp : ps = p :: r) (hl : ds.length < 1000000) : kMinP [.lst ds] = M.pure (.tup [.int (minPr p r).1, .int (minPr p r).2]) := by
  subst hp
  unfold kMinP
  simp only [h]
  rw [if_pos (by simpa using hl)]
theorem kMinP_near (w : Int) {l : List Int} (h : l ≠ []) (hl : l.length < 1000000) : ∃ a : Int, kMinP [.lst (l.map fun c => .tup [.int ((c - w).natAbs : Int), .int c])] = M.pure (.tup [.int a, .int (nearI w l)]) := by
  cases l with
  | nil => exact absurd rfl h
  | cons c r =>
    have e : ∀ l : List Int, D.prs (l.map fun c => .tup [.int ((c - w).natAbs : Int), .int c]) = some (l.map fun c => (((c - w).natAbs : Int), c)) := by
      intro l
      induction l with
      | nil => rfl
      | cons c r ih => simp only [List.map_cons, D.prs, ih]; rfl
    exact ⟨_, kMinP_lst _ _ _ _ (e (c :: r)) rfl (by rw [List.length_map]; exact hl)⟩
def freeI (t : Tab) : List Int := (rI 0 (tn t)).filter fun c => ent t c == .e
theorem mem_free {t : Tab} {c : Int} : c ∈ freeI t ↔ 0 ≤ c ∧ c < tn t ∧ ent t c = .e := by
  unfold freeI; rw [List.mem_filter, mem_rI, beq_iff_eq, and_assoc]
def putT (t : Tab) (c : Int) (x : Ent) : Tab := t.set c.toNat x
@[simp] theorem putT_len (t : Tab) (c : Int) (x : Ent) : (putT t c x).length = t.length := by simp [putT]
theorem ent_put {t : Tab} {c : Int} {x : Ent} (h0 : 0 ≤ c) (h1 : c < tn t) (d : Int) : ent (putT t c x) d = if d = c then x else ent t d := by
  unfold tn at h1
  unfold ent putT
  by_cases hd : d < 0
  · rw [if_pos hd, if_pos hd, if_neg (by omega)]
  · rw [if_neg hd, if_neg hd]
    by_cases e : d = c
    · subst e; rw [if_pos rfl, List.getElem?_set_self (by omega)]; rfl
    · rw [if_neg e, List.getElem?_set_ne (by omega)]
theorem tn_put (t : Tab) (c : Int) (x : Ent) : tn (putT t c x) = tn t := by unfold tn; simp
structure Fil (t : Tab) (σ : List Int) : Prop where
  ok : Tok t
  good : Good t σ
  all : σ.length = (takenI t).length
theorem Fil.mem {t : Tab} {σ : List Int} (f : Fil t σ) {c : Int} : c ∈ σ ↔ ent t c ≠ .e := by
  have p := perm_of f.good.nodup (taken_nodup t) f.good.sub (by have := f.all; omega)
  rw [p.mem_iff, mem_taken]
theorem taken_put {t : Tab} {c : Int} {x : Ent} (h0 : 0 ≤ c) (h1 : c < tn t) (hx : x ≠ .e) (he : ent t c = .e) : (takenI (putT t c x)).Perm (c :: takenI t) := by
  refine perm_of (taken_nodup _) ?_ (fun d hd => ?_) ?_
  · refine List.nodup_cons.mpr ⟨fun h => ?_, taken_nodup t⟩
    exact mem_taken.mp h he
  · have := mem_taken.mp hd
    rw [ent_put h0 h1] at this
    by_cases e : d = c
    · subst e; exact List.mem_cons_self
    · rw [if_neg e] at this; exact List.mem_cons_of_mem _ (mem_taken.mpr this)
  · refine sub_len (List.nodup_cons.mpr ⟨fun h => mem_taken.mp h he, taken_nodup t⟩) fun d hd => ?_
    rw [mem_taken, ent_put h0 h1]
    rcases List.mem_cons.mp hd with rfl | hd
    · rw [if_pos rfl]; exact hx
    · by_cases e : d = c
      · rw [if_pos e]; exact hx
      · rw [if_neg e]; exact mem_taken.mp hd
theorem nd_put {t : Tab} {c : Int} {x : Ent} (h0 : 0 ≤ c) (h1 : c < tn t) {a d : Int} (ne : a ≠ c) : nd (putT t c x) a d = nd t a d := by
  unfold nd
  rw [ent_put h0 h1, if_neg ne, tn_put]
theorem Fil.put {t : Tab} {σ : List Int} (f : Fil t σ) {w : Int} (h0 : 0 ≤ w) (h1 : w < tn t) (hf : freeI t ≠ []) : Fil (putT t (nearI w (freeI t)) (.w w)) (σ ++ [nearI w (freeI t)]) := by
  obtain ⟨hm, hn⟩ := nearI_spec (w := w) hf
  generalize nearI w (freeI t) = s at *
  obtain ⟨s0, s1, se⟩ := mem_free.mp hm
  have tp := taken_put (x := .w w) s0 s1 (by simp) se
  have ok' : Tok (putT t s (.w w)) := ⟨by simpa using f.ok.len, fun c v e => by
    rw [ent_put s0 s1] at e
    rw [tn_put]
    by_cases h : c = s
    · rw [if_pos h] at e; cases e; exact ⟨h0, h1⟩
    · rw [if_neg h] at e; exact f.ok.wish c v e⟩
  have ns : s ∉ σ := fun h => f.mem.mp h se
  have g1 : Good (putT t s (.w w)) σ := ⟨f.good.nodup, fun c hc => tp.mem_iff.mpr (List.mem_cons_of_mem _ (f.good.sub c hc)), fun k c e d n => by
    have hc : c ≠ s := by rintro rfl; exact ns (List.mem_of_getElem? e)
    rw [nd_put s0 s1 hc] at n
    exact f.good.ag k c e d n⟩
  refine ⟨ok', g1.snoc (mem_ready.mpr ⟨tp.mem_iff.mpr List.mem_cons_self, ns, fun d n => ?_⟩), ?_⟩
  · have hd := nd_lt ok' n
    rw [tn_put] at hd
    apply Classical.byContradiction
    intro hh
    have ed : ent t d = .e := Classical.byContradiction fun h => hh (f.mem.mpr h)
    refine hn d (mem_free.mpr ⟨hd.1, hd.2, ed⟩) ?_
    unfold nd at n
    rw [ent_put s0 s1, if_pos rfl, tn_put] at n
    exact (nearer_iff hd.1 hd.2).mpr (of_decide_eq_true n)
  · rw [tp.length_eq]; simp [f.all]
theorem free_ne {t : Tab} (h : (takenI t).length < t.length) : freeI t ≠ [] := by
  intro e
  have : takenI t = rI 0 (tn t) := List.filter_eq_self.mpr fun c hc => by
    have hc := mem_rI.mp hc
    cases h2 : (ent t c != Ent.e) with
    | true => rfl
    | false =>
      have : c ∈ freeI t := mem_free.mpr ⟨hc.1, hc.2, by simpa using h2⟩
      rw [e] at this; cases this
  rw [this, rI_len] at h
  unfold tn at h; omega
theorem Fil.pos {t : Tab} {σ : List Int} (f : Fil t σ) : Pos t := by
  have idx : ∀ c, ent t c ≠ .e → ∃ k, σ[k]? = some c := fun c hc => List.getElem?_of_mem (f.mem.mpr hc)
  refine ⟨fun c d n => ?_, fun c hc d hd ⟨n1, n2⟩ => ?_⟩
  · obtain ⟨k, hk⟩ := idx c (nd_taken n)
    exact f.mem.mp (List.mem_of_mem_take (f.good.ag k c hk d n))
  · obtain ⟨i, hi⟩ := idx c (nd_taken n1)
    obtain ⟨j, hj⟩ := idx d (nd_taken n2)
    have a1 := f.good.ag i c hi d n1
    have a2 := f.good.ag j d hj c n2
    obtain ⟨x, hx, ex⟩ := List.mem_take_iff_getElem.mp a1
    obtain ⟨y, hy, ey⟩ := List.mem_take_iff_getElem.mp a2
    obtain ⟨li, ei⟩ := List.getElem?_eq_some_iff.mp hi
    obtain ⟨lj, ej⟩ := List.getElem?_eq_some_iff.mp hj
    have h1 : x = j := (List.getElem_inj f.good.nodup).mp (ex.trans ej.symm)
    have h2 : y = i := (List.getElem_inj f.good.nodup).mp (ey.trans ei.symm)
    omega
end NS
namespace NS
open PySem PySem.Spec PyProof.Rows L2
theorem Fil.empty {w : Int} (h0 : 0 ≤ w) (h1 : w ≤ 12) : Fil (List.replicate w.toNat .e) [] := by
  have e : ∀ c, ent (List.replicate w.toNat Ent.e) c = .e := by
    intro c; unfold ent; split
    · rfl
    · rw [List.getElem?_replicate]; split <;> rfl
  refine ⟨⟨by simp; omega, fun c v h => by rw [e] at h; cases h⟩, Good.nil _, ?_⟩
  have : takenI (List.replicate w.toNat Ent.e) = [] := List.filter_eq_nil_iff.mpr fun c _ => by rw [e]; simp
  rw [this]
def filI : Tab × List Int → List Int → Tab × List Int
  | p, [] => p
  | (t, σ), h :: hs => filI (putT t (nearI h (freeI t)) (.w h), σ ++ [nearI h (freeI t)]) hs
theorem filI_snoc : ∀ (hs : List Int) (p : Tab × List Int) (h : Int), filI p (hs ++ [h]) = (putT (filI p hs).1 (nearI h (freeI (filI p hs).1)) (.w h), (filI p hs).2 ++ [nearI h (freeI (filI p hs).1)])
  | [], (t, σ), h => rfl
  | x :: hs, (t, σ), h => filI_snoc hs _ h
def emp (w : Int) : Tab × List Int := (List.replicate w.toNat .e, [])
theorem filI_fil {w : Int} (h0 : 0 ≤ w) (h1 : w ≤ 12) : ∀ {hs : List Int}, (hs.length : Int) ≤ w → (∀ v ∈ hs, 0 ≤ v ∧ v < w) → Fil (filI (emp w) hs).1 (filI (emp w) hs).2 ∧ tn (filI (emp w) hs).1 = w ∧ (filI (emp w) hs).2.length = hs.length := by
  intro hs
  generalize hn : hs.length = n
  induction n generalizing hs with
  | zero =>
    intro _ _
    have : hs = [] := List.length_eq_zero_iff.mp hn
    subst this
    exact ⟨Fil.empty h0 h1, by unfold filI emp tn; simp [Int.max_eq_left h0], rfl⟩
  | succ n ih =>
    intro hl hv
    obtain ⟨r, h, rfl⟩ : ∃ r h, hs = r ++ [h] := ⟨hs.dropLast, hs.getLast (by intro e; subst e; simp at hn), (List.dropLast_concat_getLast _).symm⟩
    have hr : r.length = n := by simpa using hn
    obtain ⟨f, e1, e2⟩ := ih hr (by omega) fun v hv' => hv v (List.mem_append_left _ hv')
    have hh := hv h (by simp)
    rw [filI_snoc]
    have fr := free_ne (t := (filI (emp w) r).1) (by have := f.all; unfold tn at e1; omega)
    exact ⟨f.put hh.1 (by rw [e1]; exact hh.2) fr, by rw [tn_put]; exact e1, by simp [e2]⟩
theorem free_comp {t : Tab} {w h : Int} (hw : w = tn t) (x0 x1 x3 x4 x5 x6 : Option DV) (h4 : x4 = some (.sh (.int h))) : compM (gN 6) (eTst (eBin kIs (eBin kIx (eVar 2) (eVar 6)) (eC .non))) (eArgs mkT (lCons (eArgs kAbs (lCons (eBin kSub (eVar 6) (eVar 4)) lNil)) (lCons (eVar 6) lNil))) [x0, x1, some (.sh (.lst (t.map Ent.d))), x3, x4, x5, x6] (rngD 0 w) = M.pure ((freeI t).map fun c => .tup [.int ((c - h).natAbs : Int), .int c]) := by
  subst h4 hw
  rw [rngD_rI]
  refine compM_pure (p := fun c => ent t c == .e) fun c hc => ⟨_, rfl, ?_, fun _ => ?_⟩
  · have hc := mem_rI.mp hc
    simp [atI_tab hc.1 hc.2]
  · simp
theorem map_put {t : Tab} {c : Int} {x : Ent} : (t.map Ent.d).set c.toNat x.d = (putT t c x).map Ent.d := by unfold putT; rw [List.map_set]
theorem Lfill_T {w : Int} {hs : List Int} (h0 : 1 ≤ w) (h1 : w ≤ 12) (hl : (hs.length : Int) ≤ w) (hv : ∀ v ∈ hs, 0 ≤ v ∧ v < w) : Is (d_Lfill [.int w, .lst (hs.map .int)]) (.tup [.tup ((filI (emp w) hs).1.map Ent.d), .tup ((filI (emp w) hs).2.map .int)]) := by
  refine Is.of_T fun g hg => runD_T ?_
  unfold b_Lfill
  have e0 : (List.replicate w.toNat [D.non]).flatten = (emp w).1.map Ent.d := by
    unfold emp; simp only [List.map_replicate]
    induction w.toNat with
    | zero => rfl
    | succ n ih => rw [List.replicate_succ, List.flatten_cons, ih]; rfl
  simp -implicitDefEqProofs [startD, e0]
  refine ⟨by omega, by omega, ?_⟩
  refine forM_T (fun i σ g' => (∃ x4 x5 x6, σ = [some (.sh (.int w)), some (.sh (.lst (hs.map .int))), some (.ow (.lst ((filI (emp w) (hs.take i)).1.map Ent.d))), some (.ow (.lst ((filI (emp w) (hs.take i)).2.map .int))), x4, x5, x6]) ∧ g' = g) (n := 0) ?_ ⟨⟨_, _, _, rfl⟩, rfl⟩ ?_
  · rintro i d σ g' e ⟨⟨x4, x5, x6, rfl⟩, rfl⟩
    rw [List.getElem?_map] at e
    obtain ⟨h, eh, rfl⟩ := Option.map_eq_some_iff.mp e
    have hi : i < hs.length := (List.getElem?_eq_some_iff.mp eh).1
    have ht : hs.take (0 + i + 1) = hs.take i ++ [h] := by rw [Nat.zero_add, List.take_add_one, eh]; rfl
    obtain ⟨f, e1, e2⟩ := filI_fil (w := w) (by omega) h1 (hs := hs.take i) (by simp; omega) fun v hv' => hv v (List.mem_of_mem_take hv')
    rw [ht, filI_snoc, Nat.zero_add]
    generalize filI (emp w) (hs.take i) = p at *
    obtain ⟨t, s⟩ := p
    simp only at f e1 e2 ⊢
    have fr := free_ne (t := t) (by have := f.all; have : (hs.take i).length ≤ i := List.length_take_le _ _; unfold tn at e1; omega)
    have fc := free_comp (t := t) (w := w) (h := h) e1.symm
    have fl : (freeI t).length < 1000000 := by
      have : (freeI t).length ≤ t.length := by unfold freeI; refine Nat.le_trans (List.length_filter_le _ _) ?_; simp [tn]
      have := f.ok.len; omega
    obtain ⟨a, ka⟩ := kMinP_near h fr fl
    obtain ⟨hm, _⟩ := nearI_spec (w := h) fr
    obtain ⟨m0, m1, _⟩ := mem_free.mp hm
    simp -implicitDefEqProofs [fc, ka]
    refine ⟨by omega, by omega, by omega, _, atI_nat (j := 1) rfl, rfl, hg, ?_⟩
    refine sSetIx_T ?_
    simp -implicitDefEqProofs
    refine ⟨(nearI h (freeI t)).toNat, by omega, by unfold tn at m1; omega, ?_⟩
    rw [show D.int h = (Ent.w h).d from rfl, map_put]
    refine ⟨by have := f.ok.len; have := f.all; have := taken_len t; omega, ?_⟩
    simp
  · rintro σ g' ⟨⟨x4, x5, x6, rfl⟩, rfl⟩
    rw [List.length_map, Nat.zero_add, List.take_of_length_le (Nat.le_refl _)]
    simp -implicitDefEqProofs
def Veil (t t' : Tab) : Prop := tn t' = tn t ∧ ∀ c, ent t' c = ent t c ∨ (ent t c ≠ .e ∧ ent t' c = .u)
theorem Veil.e {t t' : Tab} (h : Veil t t') (c : Int) : ent t' c = .e ↔ ent t c = .e := by
  rcases h.2 c with e | ⟨e1, e2⟩
  · rw [e]
  · rw [e2]; simp [e1]
theorem Veil.taken {t t' : Tab} (h : Veil t t') : takenI t' = takenI t := by
  unfold takenI; rw [h.1]
  refine List.filter_congr fun c _ => bool_iff ?_
  rw [bne_iff_ne, bne_iff_ne]; exact not_congr (h.e c)
theorem Veil.nd {t t' : Tab} (h : Veil t t') {c d : Int} (n : nd t' c d = true) : NS.nd t c d = true := by
  unfold NS.nd at *
  rcases h.2 c with e | ⟨e1, e2⟩
  · rw [e, h.1] at n; exact n
  · rw [e2] at n; cases n
theorem Veil.tok {t t' : Tab} (h : Veil t t') (ok : Tok t) : Tok t' := by
  refine ⟨by have := h.1; unfold tn at this; have := ok.len; omega, fun c v e => ?_⟩
  rw [h.1]
  rcases h.2 c with e1 | ⟨e1, e2⟩
  · rw [e1] at e; exact ok.wish c v e
  · rw [e2] at e; cases e
theorem Veil.fil {t t' : Tab} {σ : List Int} (h : Veil t t') (f : Fil t σ) : Fil t' σ :=
  ⟨h.tok f.ok, ⟨f.good.nodup, fun c hc => by rw [h.taken]; exact f.good.sub c hc, fun k c e d n => f.good.ag k c e d (h.nd n)⟩, by rw [h.taken]; exact f.all⟩
theorem Lveiled_T {k m : Nat} {g : G} {t : Tab} (hs : Src k (m + 40) g) (ok : Tok t) {Q : D → G → Prop} (q : ∀ t' g', Veil t t' → Go k m g g' → Q (.tup (t'.map Ent.d)) g') : T (d_Lveiled [.hdl k, .tup (t.map Ent.d)]) g Q := by
  have hl := ok.len
  refine runD_T ?_
  unfold b_Lveiled
  simp -implicitDefEqProofs [startD]
  refine choice_T (m := m + 38) hs (by simp) (by simp) fun d hd g1 o1 => ?_
  obtain ⟨odds, rfl⟩ : ∃ i : Int, d = .int i := by
    simp at hd; rcases hd with rfl | rfl | rfl | rfl <;> exact ⟨_, rfl⟩
  refine ⟨by omega, ?_⟩
  refine compM_T (fun i rs g' => (∃ s : Tab, rs = s.map Ent.d ∧ s.length = i ∧ ∀ (j : Nat) (x y : Ent), t[j]? = some x → s[j]? = some y → y = x ∨ (x ≠ Ent.e ∧ y = Ent.u)) ∧ Go k (m + 38 - 2 * i) g g') (n := 0) (rs := []) ?_ ⟨⟨[], rfl, rfl, by simp⟩, o1⟩ ?_
  · rintro i d g' rs e ⟨⟨s, rfl, hsl, hv⟩, go⟩
    rw [List.getElem?_map] at e
    obtain ⟨x, ex, rfl⟩ := Option.map_eq_some_iff.mp e
    have hi := (List.getElem?_eq_some_iff.mp ex).1
    have step : ∀ (y : Ent) (g2 : G), (y = x ∨ (x ≠ Ent.e ∧ y = Ent.u)) → Go k (m + 38 - 2 * (0 + i + 1)) g g2 → (∃ s' : Tab, s.map Ent.d ++ [y.d] = s'.map Ent.d ∧ s'.length = 0 + i + 1 ∧ ∀ (j : Nat) (x y : Ent), t[j]? = some x → s'[j]? = some y → y = x ∨ (x ≠ Ent.e ∧ y = Ent.u)) ∧ Go k (m + 38 - 2 * (0 + i + 1)) g g2 := by
      intro y g2 hy go2
      refine ⟨⟨s ++ [y], by simp, by simp [hsl], fun j a b ha hb => ?_⟩, go2⟩
      by_cases hj : j < s.length
      · rw [List.getElem?_append_left hj] at hb; exact hv j a b ha hb
      · have : j = s.length := by have := (List.getElem?_eq_some_iff.mp hb).1; simp at this; omega
        subst this
        rw [List.getElem?_append_right (by omega)] at hb
        simp at hb
        subst hb
        rw [show s.length = i by omega, ex] at ha
        cases ha; exact hy
    simp -implicitDefEqProofs
    refine ⟨fun hx => ?_, fun hx => ?_⟩
    · refine draw_G (m := m + 38 - 2 * (0 + i + 1)) (go.1.mono (by omega)) (by omega) (by omega) fun r g2 a2 b2 o2 => ?_
      simp -implicitDefEqProofs
      have go2 := go.trans o2
      refine ⟨fun _ => ?_, fun _ => ?_⟩
      · have := step .u g2 (.inr ⟨hx, rfl⟩) go2
        rw [Nat.zero_add] at this; exact this
      · have := step x g2 (.inl rfl) go2
        rw [Nat.zero_add] at this; exact this
    · have := step x g' (.inl rfl) (go.mono (by omega))
      rw [Nat.zero_add] at this; exact this
  · rintro rs g' ⟨⟨s, e, hsl, hv⟩, go⟩
    simp at e hsl go
    subst e
    refine q s g' ⟨by unfold tn; rw [hsl], fun c => ?_⟩ (go.mono (by omega))
    by_cases hc : 0 ≤ c ∧ c < tn t
    · have h1 := ent_get hc.1 hc.2
      have h2 := ent_get (t := s) hc.1 (by unfold tn at *; omega)
      exact hv _ _ _ h1 h2
    · left
      unfold ent
      split
      · rfl
      · unfold tn at hc
        rw [List.getElem?_eq_none (by omega), List.getElem?_eq_none (by omega)]
theorem Lcase_T {k m : Nat} {g : G} {n : Int} (hs : Src k (m + 100) g) (h1 : 1 ≤ n) (h2 : n ≤ 12) {Q : D → G → Prop} (q : ∀ t σ g', Fil t σ → 1 ≤ tn t → tn t ≤ n → Go k m g g' → Q (.tup [.tup (t.map Ent.d), .tup (σ.map .int)]) g') : T (d_Lcase [.hdl k, .int n]) g Q := by
  refine runD_T ?_
  unfold b_Lcase
  simp -implicitDefEqProofs [startD]
  refine draw_G (m := m + 98) hs (by omega) (by omega) fun r g1 a1 b1 o1 => ?_
  simp -implicitDefEqProofs
  refine hopes_T (m := m + 58) (w := 1 + r) o1.1 (by omega) (by omega) fun hs g2 hl hv o2 => ?_
  have ft := Lfill_T (w := 1 + r) (hs := hs) (by omega) (by omega) hl hv
  obtain ⟨f, e1, e2⟩ := filI_fil (w := 1 + r) (by omega) (by omega) hl hv
  rw [ft.T o2.1.pur]
  simp -implicitDefEqProofs
  refine Lveiled_T (m := m) (o2.1.mono (by omega)) f.ok fun t' g3 hv o3 => ?_
  have := q t' _ g3 (hv.fil f) (by rw [hv.1, e1]; omega) (by rw [hv.1, e1]; omega) ((o1.trans o2).trans o3)
  exact this
theorem Lspoiled_T {k m : Nat} {g : G} {t : Tab} (hs : Src k (m + 40) g) (ok : Tok t) (h1 : 1 ≤ tn t) {Q : D → G → Prop} (q : ∀ t' g', Tok t' → tn t' = tn t → Go k m g g' → Q (.tup (t'.map Ent.d)) g') : T (d_Lspoiled [.hdl k, .tup (t.map Ent.d)]) g Q := by
  have hl := ok.len
  have h1' : 1 ≤ t.length := by unfold tn at h1; omega
  refine runD_T ?_
  unfold b_Lspoiled
  simp -implicitDefEqProofs [startD]
  refine draw_G (m := m + 38) hs (by omega) (by omega) fun r g1 a1 b1 o1 => ?_
  simp -implicitDefEqProofs
  refine ⟨by omega, by omega, ?_⟩
  refine forM_T (fun i σ g' => (∃ x3, ∃ s : Tab, σ = [some (.sh (.hdl k)), some (.sh (.tup (t.map Ent.d))), some (.ow (.lst (s.map Ent.d))), x3] ∧ Tok s ∧ tn s = tn t) ∧ Go k (m + 38 - 4 * i) g g') (n := 0) ?_ ⟨⟨_, t, rfl, ok, rfl⟩, o1⟩ ?_
  · rintro i d σ g' e ⟨⟨x3, s, rfl, oks, hsl⟩, go⟩
    obtain ⟨rfl, hi⟩ := rngD_get e
    have hsl' : s.length = t.length := by unfold tn at hsl; omega
    simp -implicitDefEqProofs
    refine sSetIx_T ?_
    simp -implicitDefEqProofs
    refine ⟨by omega, by omega, by omega, by omega, ?_⟩
    refine choice_T (m := m + 38 - 4 * i - 2) (go.1.mono (by omega)) (by simp) (by simp; omega) fun d hd g2 o2 => ?_
    have ed : ∃ x : Ent, d = x.d ∧ ∀ v, x = .w v → 0 ≤ v ∧ v < tn t := by
      have r : d ∈ rngD 0 (t.length : Int) → ∃ x : Ent, d = x.d ∧ ∀ v, x = .w v → 0 ≤ v ∧ v < tn t := fun hd => by
        obtain ⟨j, hj⟩ := List.getElem?_of_mem hd
        obtain ⟨rfl, h2⟩ := rngD_get hj
        exact ⟨.w (0 + j), rfl, fun v e => by cases e; unfold tn; omega⟩
      rcases List.mem_append.mp hd with hd | hd
      · exact r hd
      rcases List.mem_append.mp hd with hd | hd
      · exact r hd
      · simp at hd
        rcases hd with rfl | rfl
        · exact ⟨.e, rfl, fun v e => by cases e⟩
        · exact ⟨.u, rfl, fun v e => by cases e⟩
    obtain ⟨x, rfl, hx⟩ := ed
    refine draw_G (m := m + 38 - 4 * (i + 1)) (o2.1.mono (by omega)) (by omega) (by omega) fun r4 g4 a4 b4 o4 => ?_
    refine ⟨r4.toNat, by rw [Int.toNat_of_nonneg a4], by omega, ⟨_, putT s r4 x, by rw [map_put], rfl, ⟨by simpa using oks.len, fun c v e => ?_⟩, by rw [tn_put]; exact hsl⟩, by simpa using (go.trans o2).trans o4⟩
    rw [tn_put, hsl]
    rw [ent_put a4 (by unfold tn; omega)] at e
    by_cases h : c = r4
    · rw [if_pos h] at e; exact hx v e
    · rw [if_neg h] at e; rw [← hsl]; exact oks.wish c v e
  · rintro σ g' ⟨⟨x3, s, rfl, oks, hsl⟩, go⟩
    simp -implicitDefEqProofs
    exact q s g' oks hsl (go.mono (by simp; omega))
theorem Lany_T {k m : Nat} {g : G} {n : Int} (hs : Src k (m + 150) g) (h1 : 1 ≤ n) (h2 : n ≤ 12) {Q : D → G → Prop} (q : ∀ t g', Tok t → 1 ≤ tn t → tn t ≤ n → Go k m g g' → Q (.tup (t.map Ent.d)) g') : T (d_Lany [.hdl k, .int n]) g Q := by
  refine runD_T ?_
  unfold b_Lany
  simp -implicitDefEqProofs [startD]
  refine Lcase_T (m := m + 50) hs h1 h2 fun t σ g1 f e1 e2 o1 => ?_
  simp -implicitDefEqProofs
  refine draw_G (m := m + 48) o1.1 (by omega) (by omega) fun r g2 a1 b1 o2 => ?_
  simp -implicitDefEqProofs
  refine ⟨fun _ => ?_, fun _ => q t g2 f.ok e1 e2 ((o1.trans o2).mono (by omega))⟩
  exact Lspoiled_T (m := m) (o2.1.mono (by omega)) f.ok e1 fun t' g3 ok' e3 o3 => q t' g3 ok' (by omega) (by omega) ((o1.trans o2).trans o3)
end NS
namespace NS
open PySem PySem.Spec PyProof.Rows L2
def bLawB (N n : Int) (H : List D → M D) : DS → M Fl :=
  (sSeq (sFor (iArgs rng1 (lCons (eArgs kMax2 (lCons (eC (.int 1)) (lCons (eArgs kMin2 (lCons (eC (.int N)) (lCons (eArgs kLen (lCons (eVar 0) lNil)) lNil))) lNil))) lNil)) (gN 1)
    (sSeq (sSet false 2 (eArgs (callN 2 d_Lsource) (lCons (eVar 0) (lCons (eVar 1) lNil))))
    (sIf (eNot (eTst (eArgs (kOfBls fun bs => M.pure (.bl (bs.all id))) (lCons (eComp (iArgs rng1 (lCons (eC (.int n)) lNil)) [3] (gN 3) tYesD (eArgs (callN 1 H) (lCons (eVar 2) lNil))) lNil))))
    (sRet (eC (.bl false)))
    sNil)))
    (sRet (eC (.bl true))))
theorem law_B {N n : Int} {H : List D → M D} (hH : ∀ k m g, Src k (m + 100000000) g → T (H [.hdl k]) g fun d g' => d = .bl true ∧ Src k m g') (ns : List Int) (hl : ns.length ≤ 63) (hN : 1 ≤ N ∧ N ≤ 3 := by decide) (hn : 1 ≤ n ∧ n ≤ 9 := by decide) : ∃ g', runD 4 false (bLawB N n H) [.slst (ns.map .int)] [] = .ok (.bl true) g' := by
  have t : T (runD 4 false (bLawB N n H) [.slst (ns.map .int)]) [] fun d _ => d = .bl true := by
    refine runD_T ?_
    unfold bLawB
    generalize hm : max 1 (min N (ns.length : Int)) = m
    have hm1 : 1 ≤ m ∧ m ≤ 3 := by omega
    simp -implicitDefEqProofs [startD]
    rw [hm]
    refine ⟨by omega, by omega, ?_⟩
    refine forM_T (fun i σ g => (∃ x1 x2 x3, σ = [some (.sh (.slst (ns.map .int))), x1, x2, x3]) ∧ Gpur g = true) (n := 0) ?_ ⟨⟨_, _, _, rfl⟩, rfl⟩ ?_
    · rintro i d σ g e ⟨⟨x1, x2, x3, rfl⟩, hg⟩
      obtain ⟨rfl, h1⟩ := rngD_get e
      simp -implicitDefEqProofs
      refine (source_T ns (i : Int) g (by omega) (by omega) hl).imp fun d g' ⟨a, b, e1, e2, h1, h2, h3⟩ => ?_
      subst e1 e2
      refine ⟨by omega, by omega, by omega, ?_⟩
      refine compM_T (fun j rs g1 => rs = List.replicate j (.bl true) ∧ Src g.length (1000000000 - 100000000 * j) g1) (n := 0) (rs := []) ?_ ⟨rfl, src_new g hg a b h1 h2 h3⟩ ?_
      · rintro j d g1 rs e ⟨rfl, hs⟩
        obtain ⟨rfl, h4⟩ := rngD_get e
        simp -implicitDefEqProofs
        refine (hH _ (1000000000 - 100000000 * (j + 1)) _ (hs.mono (by omega))).imp fun d g2 ⟨e, hs2⟩ => ?_
        subst e
        exact ⟨by rw [List.replicate_succ'], hs2⟩
      · rintro rs g2 ⟨e, hs⟩
        simp at e
        subst e
        simp [kOfBls, bls_rep', hs.pur]
    · rintro σ g ⟨⟨x1, x2, x3, rfl⟩, hg⟩
      simp
  obtain ⟨d, g', e, h⟩ := t
  subst h
  exact ⟨g', e⟩
end NS
namespace NS
open PySem PySem.Spec PyProof.Rows L2
def Er {α : Type} (x : M α) (g : G) (P : Exn → G → Prop) : Prop := ∃ e g', x g = .err e g' ∧ P e g'
theorem Er.imp {α : Type} {x : M α} {g : G} {P R : Exn → G → Prop} (h : Er x g P) (i : ∀ a g', P a g' → R a g') : Er x g R := by
  obtain ⟨a, g', e, q⟩ := h; exact ⟨a, g', e, i _ _ q⟩
@[simp] theorem Er_pure {α : Type} (a : α) (g : G) (P : Exn → G → Prop) : Er (M.pure a) g P ↔ False := ⟨fun ⟨_, _, e, _⟩ => (nomatch e), False.elim⟩
@[simp] theorem Er_bad {α : Type} (g : G) (P : Exn → G → Prop) : Er (M.bad : M α) g P ↔ False := ⟨fun ⟨_, _, e, _⟩ => (nomatch e), False.elim⟩
@[simp] theorem Er_opt {α : Type} (o : Option α) (g : G) (P : Exn → G → Prop) : Er (M.opt o) g P ↔ False := by cases o <;> simp
@[simp] theorem Er_bind {α β : Type} (x : M α) (f : α → M β) (g : G) (P : Exn → G → Prop) : Er (M.bind x f) g P ↔ Er x g P ∨ T x g (fun a g' => Er (f a) g' P) := by
  constructor
  · rintro ⟨b, g', e, q⟩
    unfold M.bind at e
    cases h : x g with
    | ok a g1 => rw [h] at e; exact .inr ⟨a, g1, h, b, g', e, q⟩
    | err z g1 => rw [h] at e; cases e; exact .inl ⟨_, _, h, q⟩
    | bad => rw [h] at e; cases e
  · rintro (⟨e, g', h, q⟩ | ⟨a, g1, h, b, g', e, q⟩)
    · exact ⟨e, g', bind_err h, q⟩
    · exact ⟨b, g', by rw [bind_ok h]; exact e, q⟩
@[simp] theorem Er_if {α : Type} (c : Prop) [Decidable c] (x y : M α) (g : G) (P : Exn → G → Prop) : Er (if c then x else y) g P ↔ (c → Er x g P) ∧ (¬ c → Er y g P) := by split <;> simp [*]
@[simp high] theorem Er_guard {α : Type} (c : Prop) [Decidable c] (x : M α) (g : G) (P : Exn → G → Prop) : Er (if c then x else M.bad) g P ↔ c ∧ Er x g P := by
  by_cases h : c
  · simp [h]
  · rw [if_neg h]; simp [h]
@[simp] theorem sRaise1_Er (c f : Str) (fe : DS → M D) (σ : DS) (g : G) (P : Exn → G → Prop) : Er (sRaise1 c f fe σ) g P ↔ Er (fe σ) g P ∨ T (fe σ) g (fun d g' => P ⟨c, some (f, d)⟩ g') := by
  have : sRaise1 c f fe σ = M.bind (fe σ) (fun d => fun g => .err ⟨c, some (f, d)⟩ g : D → M Fl) := rfl
  rw [this, Er_bind]
  constructor
  · rintro (h | ⟨a, g', h, e, g2, h2, q⟩)
    · exact .inl h
    · cases h2; exact .inr ⟨a, g', h, q⟩
  · rintro (h | ⟨a, g', h, q⟩)
    · exact .inl h
    · exact .inr ⟨a, g', h, _, _, rfl, q⟩
@[simp] theorem sRaise0_Er (c : Str) (σ : DS) (g : G) (P : Exn → G → Prop) : Er (sRaise0 c σ) g P ↔ P ⟨c, none⟩ g := ⟨fun ⟨e, g', h, q⟩ => by cases h; exact q, fun q => ⟨_, _, rfl, q⟩⟩
theorem forM_Er {fg : D → DS → M DS} {b : DS → M Fl} {P : Exn → G → Prop} (I : Nat → DS → G → Prop) (m : Nat) : ∀ {ds : List D} {n : Nat} {σ : DS} {g : G},
    (∀ i d σ g, ds[i]? = some d → n + i < m → I (n + i) σ g → T (fg d σ) g fun σ1 g1 => T (b σ1) g1 fun fl g2 => match fl with
      | .nx σ' => I (n + i + 1) σ' g2
      | .ct σ' => I (n + i + 1) σ' g2
      | _ => False) → (∀ d σ g, ds[m - n]? = some d → I m σ g → T (fg d σ) g fun σ1 g1 => Er (b σ1) g1 P) → I n σ g → n ≤ m → m < n + ds.length → Er (forM fg b ds σ) g P
  | [], n, σ, g, _, _, _, h1, h2 => by simp at h2; omega
  | d :: ds, n, σ, g, h, he, h0, h1, h2 => by
    unfold forM
    rw [Er_bind]
    by_cases hm : n = m
    · subst hm
      refine .inr ((he d σ g (by simp) h0).imp fun σ1 g1 h => ?_)
      rw [Er_bind]
      exact .inl h
    · refine .inr ((h 0 d σ g rfl (by omega) h0).imp fun σ1 g1 h3 => ?_)
      rw [Er_bind]
      refine .inr (h3.imp fun fl g2 h4 => ?_)
      have rest : ∀ σ' g', I (n + 1) σ' g' → Er (forM fg b ds σ') g' P := fun σ' g' h' => forM_Er I m (n := n + 1) (fun i d σ g e hl hI => by
        have := h (i + 1) d σ g (by simpa using e) (by omega) (by rw [show n + (i + 1) = n + 1 + i by omega]; exact hI)
        rw [show n + 1 + i = n + (i + 1) by omega]; exact this) (fun d σ g e hI => he d σ g (by rw [show m - n = (m - (n + 1)) + 1 by omega]; simpa using e) hI) h' (by omega) (by simp at h2; omega)
      cases fl with
      | nx σ' => exact rest _ _ h4
      | ct σ' => exact rest _ _ h4
      | bk σ' => exact h4.elim
      | rt d => exact h4.elim
end NS
namespace NS
open PySem PySem.Spec PyProof.Rows L2
@[simp] theorem atI_0 {α : Type} (x : α) (l : List α) : L2.atI (x :: l) 0 = some x := atI_nat (j := 0) rfl
@[simp] theorem atI_1 {α : Type} (x y : α) (l : List α) : L2.atI (x :: y :: l) 1 = some y := atI_nat (j := 1) rfl
@[simp] theorem atI_2 {α : Type} (x y z : α) (l : List α) : L2.atI (x :: y :: z :: l) 2 = some z := atI_nat (j := 2) rfl
@[simp] theorem kExt_ap (ds es : List D) : kExt ds (.lst es) = if fit (ds.length + es.length) = true then some (ds ++ es) else none := rfl
end NS
namespace NS
open PySem PySem.Spec PyProof.Rows L2
def pick (f : Int → Nat) : List Int → Nat → Int × Nat
  | [], _ => (-1, 0)
  | c :: cs, r => if r < f c then (c, r) else pick f cs (r - f c)
def atN (t : Tab) : Nat → List Int → Nat → List Int
  | 0, P, _ => P
  | n + 1, P, r => atN t n (P ++ [(pick (fun c => cI t (P ++ [c])) (readyI t P) r).1]) (pick (fun c => cI t (P ++ [c])) (readyI t P) r).2
def atI (t : Tab) (r : Nat) : List Int := atN t (takenI t).length [] r
end NS
namespace NS
open PySem PySem.Spec PyProof.Rows L2
def clB (t : Tab) (S : List Int) : Bool := S.all fun c => (needI t c).all fun d => S.contains d
theorem clB_iff {t : Tab} {S : List Int} : clB t S = true ↔ ∀ c ∈ S, ∀ d, nd t c d = true → d ∈ S := by
  unfold clB; simp only [List.all_eq_true, List.contains_iff_mem, mem_need]
def Set1 (t : Tab) (S : List Int) : Prop := S.Pairwise (· < ·) ∧ ∀ c ∈ S, c ∈ takenI t
theorem Set1.nodup {t : Tab} {S : List Int} (h : Set1 t S) : S.Nodup := List.nodup_iff_pairwise_ne.mpr (h.1.imp fun h e => by omega)
theorem Set1.len {t : Tab} (ok : Tok t) {S : List Int} (h : Set1 t S) : S.length ≤ 12 := Nat.le_trans (sub_len h.nodup h.2) (tl_le ok)
theorem Set1.taken (t : Tab) : Set1 t (takenI t) := ⟨taken_sorted t, fun _ h => h⟩
def allS (t : Tab) (seen : List (List Int)) : List (List Int × Bool) := seen.map (fun S => (S, false)) ++ [(takenI t, true)]
end NS
namespace NS
open PySem PySem.Spec PyProof.Rows L2
structure Chn (t : Tab) (seen : List (List Int)) : Prop where
  set : ∀ S ∈ seen, Set1 t S
  cl : ∀ S ∈ seen, clB t S = true
  sub : seen.Pairwise fun A B => ∀ c ∈ A, c ∈ B
theorem Chn.take {t : Tab} {seen : List (List Int)} (h : Chn t seen) (n : Nat) : Chn t (seen.take n) :=
  ⟨fun S hS => h.set S (List.mem_of_mem_take hS), fun S hS => h.cl S (List.mem_of_mem_take hS), h.sub.sublist (List.take_sublist _ _)⟩
theorem cl_taken {t : Tab} (ng : Ngap t) : clB t (takenI t) = true := clB_iff.mpr fun c hc d n => mem_taken.mpr (ng c d n)
theorem Chn.all {t : Tab} {seen : List (List Int)} (h : Chn t seen) (ng : Ngap t) : Chn t ((allS t seen).map Prod.fst) := by
  have e : (allS t seen).map Prod.fst = seen ++ [takenI t] := by
    unfold allS; rw [List.map_append, List.map_map]; simp [Function.comp_def]
  rw [e]
  refine ⟨fun S hS => ?_, fun S hS => ?_, List.pairwise_append.mpr ⟨h.sub, by simp, fun A hA B hB c hc => ?_⟩⟩
  · rcases List.mem_append.mp hS with hS | hS
    · exact h.set S hS
    · rw [List.mem_singleton.mp hS]; exact Set1.taken t
  · rcases List.mem_append.mp hS with hS | hS
    · exact h.cl S hS
    · rw [List.mem_singleton.mp hS]; exact cl_taken ng
  · rw [List.mem_singleton.mp hB]; exact (h.set A hA).2 c hc
theorem Good.take {t : Tab} {P : List Int} (h : Good t P) (n : Nat) : Good t (P.take n) :=
  ⟨h.nodup.sublist (List.take_sublist _ _), fun c hc => h.sub c (List.mem_of_mem_take hc), fun k c e d n' => by
    have hk := (List.getElem?_eq_some_iff.mp e).1
    simp at hk
    rw [List.getElem?_take_of_lt (by omega)] at e
    have := h.ag k c e d n'
    rw [List.take_take, Nat.min_eq_left (by omega)]; exact this⟩
theorem Good.next {t : Tab} {P : List Int} (h : Good t P) {i : Nat} {c : Int} (e : P[i]? = some c) : c ∈ readyI t (P.take i) := by
  have h2 := h.take (i + 1)
  rw [List.take_add_one, e] at h2
  exact h2.pre.2
end NS
namespace NS
open PySem PySem.Spec PyProof.Rows L2
theorem sortI_strict {l : List Int} (h : l.Nodup) : (sortI l).Pairwise (· < ·) := by
  have p := sortI_perm l
  have hn : (sortI l).Nodup := p.nodup_iff.mpr h
  have hs := sortI_sorted l
  exact (hs.and (List.nodup_iff_pairwise_ne.mp hn)).imp fun ⟨a, b⟩ => by omega
end NS
namespace NS
theorem sg_split {α : Type} (l : List α) (p : α → Bool) (f : α → Nat) : sg l f = sg (l.filter p) f + sg (l.filter fun a => !p a) f := by
  induction l with
  | nil => rfl
  | cons a l ih =>
    cases h : p a <;> simp [List.filter_cons, h, ih] <;> omega
theorem rm_filter_in {p : Int → Bool} {c : Int} (S : List Int) : (rm c S).filter p = rm c (S.filter p) := by
  unfold rm; rw [List.filter_filter, List.filter_filter]; congr 1; funext d; exact Bool.and_comm _ _
theorem rm_filter_out {p : Int → Bool} {c : Int} (S : List Int) (h : p c = false) : (rm c S).filter p = S.filter p := by
  rw [rm_filter_in]
  refine rm_not fun hc => ?_
  have := (List.mem_filter.mp hc).2
  rw [h] at this; cases this
def Apart (ok : List Int → Int → Bool) (p : Int → Bool) (S : List Int) : Prop := ∀ S' : List Int, (∀ x ∈ S', x ∈ S) → ∀ c ∈ S', ok S' c = if p c = true then ok (S'.filter p) c else ok (S'.filter fun d => !p d) c
theorem Apart.rm {ok : List Int → Int → Bool} {p : Int → Bool} {S : List Int} (h : Apart ok p S) (c : Int) : Apart ok p (rm c S) := fun S' hs => h S' fun x hx => rm_sub _ _ _ (hs x hx)
theorem len_split (p : Int → Bool) (S : List Int) : (S.filter p).length + (S.filter fun d => !p d).length = S.length := by
  induction S with
  | nil => rfl
  | cons a l ih => cases h : p a <;> simp [List.filter_cons, h] <;> omega
theorem ct_parts {ok : List Int → Int → Bool} {p : Int → Bool} {S : List Int} (hn : S.Nodup) (h : Apart ok p S) : ct ok S = ch S.length (S.filter p).length * (ct ok (S.filter p) * ct ok (S.filter fun d => !p d)) := by
  refine nodup_ind (P := fun S => Apart ok p S → ct ok S = ch S.length (S.filter p).length * (ct ok (S.filter p) * ct ok (S.filter fun d => !p d))) ?_ hn h
  intro S hn ih h
  by_cases eS : S = []
  · subst eS; simp
  have ls := len_split p S
  have h1 : ∀ c ∈ S.filter p, (if ok S c = true then ct ok (rm c S) else 0) = ch (S.length - 1) ((S.filter p).length - 1) * ((if ok (S.filter p) c = true then ct ok (rm c (S.filter p)) else 0) * ct ok (S.filter fun d => !p d)) := by
    intro c hc
    obtain ⟨c1, c2⟩ := List.mem_filter.mp hc
    rw [h S (fun _ h => h) c c1, if_pos c2]
    by_cases e : ok (S.filter p) c = true
    · rw [if_pos e, if_pos e, ih c c1 (h.rm c), rm_filter_in, rm_filter_out _ (show (!p c) = false by simp [c2])]
      have l1 := rm_len hn c1
      have l2 := rm_len (hn.filter p) hc
      rw [show (rm c S).length = S.length - 1 by omega, show (rm c (S.filter p)).length = (S.filter p).length - 1 by omega]
    · rw [if_neg e, if_neg e]; simp
  have h2 : ∀ c ∈ S.filter (fun d => !p d), (if ok S c = true then ct ok (rm c S) else 0) = ch (S.length - 1) (S.filter p).length * (ct ok (S.filter p) * (if ok (S.filter fun d => !p d) c = true then ct ok (rm c (S.filter fun d => !p d)) else 0)) := by
    intro c hc
    obtain ⟨c1, c2⟩ := List.mem_filter.mp hc
    have c3 : p c = false := by simpa using c2
    have hok : ok S c = ok (S.filter fun d => !p d) c := by rw [h S (fun _ h => h) c c1, c3]; rfl
    rw [hok]
    by_cases e : ok (S.filter fun d => !p d) c = true
    · rw [if_pos e, if_pos e, ih c c1 (h.rm c), rm_filter_out _ c3, rm_filter_in (p := fun d => !p d)]
      have l1 := rm_len hn c1
      rw [show (rm c S).length = S.length - 1 by omega]
    · rw [if_neg e, if_neg e]; simp
  rw [ct_step ok hn eS, sg_split S p, sg_congr h1, sg_congr h2, sg_mul, sg_mul', sg_mul, sg_mul]
  by_cases eA : S.filter p = []
  · rw [eA]
    simp only [sg_nil, ct_nil, List.length_nil, ch_zero, Nat.zero_mul, Nat.mul_zero, Nat.one_mul, Nat.zero_add]
    have : S.filter (fun d => !p d) ≠ [] := by intro e; rw [eA, e] at ls; cases S; exact eS rfl; simp at ls
    rw [ct_step ok (hn.filter _) this]
  by_cases eB : S.filter (fun d => !p d) = []
  · rw [eB]
    have l : (S.filter p).length = S.length := by rw [eB] at ls; simpa using ls
    simp only [sg_nil, ct_nil, Nat.mul_zero, Nat.mul_one, Nat.add_zero]
    rw [l, ch_self, ch_self, ← ct_step ok (hn.filter p) eA]
  rw [← ct_step ok (hn.filter p) eA, ← ct_step ok (hn.filter _) eB, ← Nat.add_mul]
  congr 1
  have a0 : 0 < (S.filter p).length := List.length_pos_iff.mpr eA
  have b0 : 0 < (S.filter fun d => !p d).length := List.length_pos_iff.mpr eB
  obtain ⟨a, ha⟩ : ∃ a, (S.filter p).length = a + 1 := ⟨_, (Nat.succ_pred_eq_of_pos a0).symm⟩
  obtain ⟨n, hs⟩ : ∃ n, S.length = n + 1 := ⟨S.length - 1, by omega⟩
  rw [ha, hs]; rfl
def tcn (ok : List Int → Int → Bool) : Nat → List Int → Int → Nat → Nat
  | 0, _, _, _ => 0
  | n + 1, S, x, k => if k + 1 = S.length then (if ok S x = true then ct ok (rm x S) else 0) else sg (rm x S) fun c => if ok S c = true then tcn ok n (rm c S) x k else 0
def tc (ok : List Int → Int → Bool) (S : List Int) (x : Int) (k : Nat) : Nat := tcn ok S.length S x k
theorem tc_step {ok : List Int → Int → Bool} {S : List Int} (hn : S.Nodup) {x : Int} (hx : x ∈ S) (k : Nat) : tc ok S x k = if k + 1 = S.length then (if ok S x = true then ct ok (rm x S) else 0) else sg (rm x S) fun c => if ok S c = true then tc ok (rm c S) x k else 0 := by
  unfold tc
  obtain ⟨n, hk⟩ : ∃ n, S.length = n + 1 := by cases S; cases hx; exact ⟨_, rfl⟩
  rw [hk]
  show (if k + 1 = S.length then _ else _) = _
  rw [hk]
  by_cases e : k + 1 = n + 1
  · rw [if_pos e, if_pos e]
  · rw [if_neg e, if_neg e]
    refine sg_congr fun c hc => ?_
    have := rm_len hn (rm_sub _ _ _ hc)
    rw [show (rm c S).length = n by omega]
theorem tc_big {ok : List Int → Int → Bool} {S : List Int} (hn : S.Nodup) {x : Int} (hx : x ∈ S) {k : Nat} (h : S.length ≤ k) : tc ok S x k = 0 := by
  refine nodup_ind (P := fun S => x ∈ S → S.length ≤ k → tc ok S x k = 0) ?_ hn hx h
  intro S hn ih hx h
  rw [tc_step hn hx, if_neg (by omega)]
  refine sg_zero fun c hc => ?_
  have hc' := mem_rm.mp hc
  have := rm_len hn hc'.1
  rw [ih c hc'.1 (mem_rm.mpr ⟨hx, Ne.symm hc'.2⟩) (by omega)]
  split <;> rfl
def bm (a t b j : Nat) : Nat := ch (t + j) j * ch (a - 1 - t + (b - j)) (b - j)
theorem bm_step {a t b j : Nat} (ht : t < a) (hj : j ≤ b) (h : t + j + 1 < a + b) : (if t + 1 < a then bm (a - 1) t b j else 0) + (if j < b then bm a t (b - 1) j else 0) = bm a t b j := by
  unfold bm
  by_cases h1 : t + 1 < a
  · by_cases h2 : j < b
    · rw [if_pos h1, if_pos h2, ← Nat.mul_add]
      congr 1
      rw [show a - 1 - 1 - t + (b - j) = (a - 1 - t - 1) + (b - j) by omega, show a - 1 - t + (b - 1 - j) = (a - 1 - t - 1) + (b - j) by omega]
      obtain ⟨v, hv⟩ : ∃ v, b - j = v + 1 := ⟨b - j - 1, by omega⟩
      obtain ⟨u, hu⟩ : ∃ u, a - 1 - t = u + 1 := ⟨a - 1 - t - 1, by omega⟩
      rw [hv, hu, show b - 1 - j = v by omega, show u + 1 - 1 + (v + 1) = u + (v + 1) by omega, show u + 1 + (v + 1) = (u + (v + 1)) + 1 by omega, ch]
      omega
    · rw [if_pos h1, if_neg h2, show b - j = 0 by omega]; simp
  · by_cases h2 : j < b
    · rw [if_neg h1, if_pos h2, Nat.zero_add]
      congr 1
      rw [show a - 1 - t = 0 by omega, Nat.zero_add, Nat.zero_add, ch_self, ch_self]
    · omega
theorem sg_range_one {n i : Nat} {f : Nat → Nat} (hi : i < n) (h : ∀ j, j < n → j ≠ i → f j = 0) : sg (List.range n) f = f i := by
  induction n with
  | zero => omega
  | succ n ih =>
    rw [List.range_succ, sg_app, sg_cons, sg_nil, Nat.add_zero]
    by_cases e : i = n
    · subst e
      rw [sg_zero fun a ha => h a (by have := List.mem_range.mp ha; omega) (by have := List.mem_range.mp ha; omega)]; omega
    · rw [ih (by omega) fun j hj => h j (by omega), h n (by omega) (fun e2 => e e2.symm)]; omega
theorem sg_range_succ (n : Nat) (f : Nat → Nat) : sg (List.range (n + 1)) f = sg (List.range n) f + f n := by
  rw [List.range_succ, sg_app, sg_cons, sg_nil, Nat.add_zero]
theorem tc_parts {ok : List Int → Int → Bool} {p : Int → Bool} {S : List Int} (hn : S.Nodup) (h : Apart ok p S) {x : Int} (hx : x ∈ S) (px : p x = true) (k : Nat) :
    tc ok S x k = ct ok (S.filter fun d => !p d) * sg (List.range ((S.filter fun d => !p d).length + 1)) fun j => if j ≤ k then tc ok (S.filter p) x (k - j) * bm (S.filter p).length (k - j) (S.filter fun d => !p d).length j else 0 := by
  refine nodup_ind (P := fun S => Apart ok p S → x ∈ S → tc ok S x k = ct ok (S.filter fun d => !p d) * sg (List.range ((S.filter fun d => !p d).length + 1)) fun j => if j ≤ k then tc ok (S.filter p) x (k - j) * bm (S.filter p).length (k - j) (S.filter fun d => !p d).length j else 0) ?_ hn h hx
  intro S hn ih h hx
  have xA : x ∈ S.filter p := List.mem_filter.mpr ⟨hx, px⟩
  have ls := len_split p S
  have a0 : 0 < (S.filter p).length := List.length_pos_of_mem xA
  have nA := hn.filter p
  have nB := hn.filter fun d => !p d
  by_cases hk : S.length ≤ k
  · rw [tc_big hn hx hk]
    symm
    rw [sg_zero, Nat.mul_zero]
    intro j hj
    have := List.mem_range.mp hj
    split
    · rw [tc_big nA xA (by omega), Nat.zero_mul]
    · rfl
  rw [tc_step hn hx]
  by_cases e : k + 1 = S.length
  · rw [if_pos e, h S (fun _ h => h) x hx, if_pos px]
    rw [sg_range_one (i := (S.filter fun d => !p d).length) (by omega) (fun j hj hne => by
      split
      · rw [tc_big nA xA (by omega), Nat.zero_mul]
      · rfl), if_pos (show (S.filter fun d => !p d).length ≤ k by omega), tc_step nA xA, if_pos (show k - (S.filter fun d => !p d).length + 1 = (S.filter p).length by omega)]
    have eb : bm (S.filter p).length (k - (S.filter fun d => !p d).length) (S.filter fun d => !p d).length (S.filter fun d => !p d).length = ch k (S.filter fun d => !p d).length := by
      unfold bm
      rw [Nat.sub_self, ch_zero, Nat.mul_one, show k - (S.filter fun d => !p d).length + (S.filter fun d => !p d).length = k by omega]
    rw [eb]
    by_cases o : ok (S.filter p) x = true
    · rw [if_pos o, if_pos o, ct_parts (rm_nodup hn) (h.rm x), rm_filter_in, rm_filter_out _ (show (!p x) = false by simp [px])]
      have l1 := rm_len hn hx
      have l2 := rm_len nA xA
      have c1 : ch (rm x S).length (rm x (S.filter p)).length = ch k (S.filter fun d => !p d).length := by
        have := ch_symm (rm x (S.filter p)).length (S.filter fun d => !p d).length
        rw [show (rm x S).length = (rm x (S.filter p)).length + (S.filter fun d => !p d).length by omega, this]
        congr 1; omega
      rw [c1, Nat.mul_comm (ct ok (rm x (S.filter p)))]
      simp only [Nat.mul_assoc, Nat.mul_left_comm, Nat.mul_comm]
    · rw [if_neg o, if_neg o]; simp
  · rw [if_neg e]
    -- the last one is in the one part or in the other
    have split1 : sg (rm x S) (fun c => if ok S c = true then tc ok (rm c S) x k else 0) = sg (rm x (S.filter p)) (fun c => if ok (S.filter p) c = true then tc ok (rm c S) x k else 0) + sg (S.filter fun d => !p d) (fun c => if ok (S.filter fun d => !p d) c = true then tc ok (rm c S) x k else 0) := by
      rw [sg_split _ p, rm_filter_in, rm_filter_out _ (show (!p x) = false by simp [px])]
      congr 1
      · refine sg_congr fun c hc => ?_
        obtain ⟨c1, c2⟩ := List.mem_filter.mp (rm_sub _ _ _ hc)
        rw [h S (fun _ h => h) c c1, if_pos c2]
      · refine sg_congr fun c hc => ?_
        obtain ⟨c1, c2⟩ := List.mem_filter.mp hc
        have c3 : p c = false := by simpa using c2
        have hok : ok S c = ok (S.filter fun d => !p d) c := by rw [h S (fun _ h => h) c c1, c3]; rfl
        rw [hok]
    have sA : sg (rm x (S.filter p)) (fun c => if ok (S.filter p) c = true then tc ok (rm c S) x k else 0) = ct ok (S.filter fun d => !p d) * sg (List.range ((S.filter fun d => !p d).length + 1)) fun j => if j ≤ k then tc ok (S.filter p) x (k - j) * (if k - j + 1 < (S.filter p).length then bm ((S.filter p).length - 1) (k - j) (S.filter fun d => !p d).length j else 0) else 0 := by
      have e1 : sg (rm x (S.filter p)) (fun c => if ok (S.filter p) c = true then tc ok (rm c S) x k else 0) = sg (rm x (S.filter p)) fun c => ct ok (S.filter fun d => !p d) * sg (List.range ((S.filter fun d => !p d).length + 1)) fun j => if ok (S.filter p) c = true then (if j ≤ k then tc ok (rm c (S.filter p)) x (k - j) * bm ((S.filter p).length - 1) (k - j) (S.filter fun d => !p d).length j else 0) else 0 := by
        refine sg_congr fun c hc => ?_
        obtain ⟨c0, cx⟩ := mem_rm.mp hc
        obtain ⟨c1, c2⟩ := List.mem_filter.mp c0
        by_cases o : ok (S.filter p) c = true
        · simp only [if_pos o]
          rw [ih c c1 (h.rm c) (mem_rm.mpr ⟨hx, Ne.symm cx⟩), rm_filter_in (p := p), rm_filter_out _ (show (!p c) = false by simp [c2])]
          have := rm_len nA c0
          rw [show (rm c (S.filter p)).length = (S.filter p).length - 1 by omega]
        · simp only [if_neg o]
          rw [sg_zero fun _ _ => rfl, Nat.mul_zero]
      rw [e1, sg_mul, sg_swap]
      congr 1
      refine sg_congr fun j hj => ?_
      by_cases hj2 : j ≤ k
      · simp only [if_pos hj2]
        have pull : (sg (rm x (S.filter p)) fun c => if ok (S.filter p) c = true then tc ok (rm c (S.filter p)) x (k - j) * bm ((S.filter p).length - 1) (k - j) (S.filter fun d => !p d).length j else 0) = (sg (rm x (S.filter p)) fun c => if ok (S.filter p) c = true then tc ok (rm c (S.filter p)) x (k - j) else 0) * bm ((S.filter p).length - 1) (k - j) (S.filter fun d => !p d).length j := by
          rw [← sg_mul']
          refine sg_congr fun c _ => ?_
          split <;> simp
        rw [pull]
        by_cases ht : k - j + 1 < (S.filter p).length
        · rw [if_pos ht, tc_step nA xA (k - j), if_neg (by omega)]
        · rw [if_neg ht, Nat.mul_zero]
          rw [sg_zero, Nat.zero_mul]
          intro c hc
          obtain ⟨c0, cx⟩ := mem_rm.mp hc
          have := rm_len nA c0
          rw [tc_big (rm_nodup nA) (mem_rm.mpr ⟨xA, Ne.symm cx⟩) (by omega)]
          split <;> rfl
      · simp only [if_neg hj2]
        exact sg_zero fun c _ => by split <;> rfl
    have sB : sg (S.filter fun d => !p d) (fun c => if ok (S.filter fun d => !p d) c = true then tc ok (rm c S) x k else 0) = ct ok (S.filter fun d => !p d) * sg (List.range ((S.filter fun d => !p d).length + 1)) fun j => if j ≤ k then tc ok (S.filter p) x (k - j) * (if j < (S.filter fun d => !p d).length then bm (S.filter p).length (k - j) ((S.filter fun d => !p d).length - 1) j else 0) else 0 := by
      by_cases eB : S.filter (fun d => !p d) = []
      · rw [eB]
        simp only [sg_nil, List.length_nil]
        rw [sg_zero, Nat.mul_zero]
        intro j _
        split
        · rw [if_neg (by omega), Nat.mul_zero]
        · rfl
      have e1 : sg (S.filter fun d => !p d) (fun c => if ok (S.filter fun d => !p d) c = true then tc ok (rm c S) x k else 0) = sg (S.filter fun d => !p d) fun c => (if ok (S.filter fun d => !p d) c = true then ct ok (rm c (S.filter fun d => !p d)) else 0) * sg (List.range (S.filter fun d => !p d).length) fun j => if j ≤ k then tc ok (S.filter p) x (k - j) * bm (S.filter p).length (k - j) ((S.filter fun d => !p d).length - 1) j else 0 := by
        refine sg_congr fun c hc => ?_
        obtain ⟨c1, c2⟩ := List.mem_filter.mp hc
        have c3 : p c = false := by simpa using c2
        have cx : x ≠ c := by rintro rfl; rw [px] at c3; cases c3
        by_cases o : ok (S.filter fun d => !p d) c = true
        · rw [if_pos o, if_pos o, ih c c1 (h.rm c) (mem_rm.mpr ⟨hx, cx⟩), rm_filter_out _ c3, rm_filter_in (p := fun d => !p d)]
          have := rm_len nB hc
          rw [show (rm c (S.filter fun d => !p d)).length + 1 = (S.filter fun d => !p d).length by omega, show (rm c (S.filter fun d => !p d)).length = (S.filter fun d => !p d).length - 1 by omega]
        · rw [if_neg o, if_neg o]; simp
      rw [e1, sg_mul', ← ct_step ok nB eB]
      congr 1
      rw [sg_range_succ]
      rw [show (if (S.filter fun d => !p d).length ≤ k then tc ok (S.filter p) x (k - (S.filter fun d => !p d).length) * (if (S.filter fun d => !p d).length < (S.filter fun d => !p d).length then bm (S.filter p).length (k - (S.filter fun d => !p d).length) ((S.filter fun d => !p d).length - 1) (S.filter fun d => !p d).length else 0) else 0) = 0 by split; rw [if_neg (by omega), Nat.mul_zero]; rfl, Nat.add_zero]
      refine sg_congr fun j hj => ?_
      have := List.mem_range.mp hj
      rw [if_pos (show j < (S.filter fun d => !p d).length from this)]
    rw [split1, sA, sB, ← Nat.mul_add, ← sg_add]
    congr 1
    refine sg_congr fun j hj => ?_
    have hj := List.mem_range.mp hj
    by_cases hj2 : j ≤ k
    · simp only [if_pos hj2]
      rw [← Nat.mul_add]
      by_cases ht : k - j < (S.filter p).length
      · rw [bm_step ht (by omega) (by omega)]
      · rw [tc_big nA xA (by omega)]; simp
    · simp only [if_neg hj2]
end NS
namespace NS
open PySem PySem.Spec PyProof.Rows L2
@[simp] theorem borOs_nil (f : DS → M D) : borOs [] f = f := rfl
@[simp] theorem borOs_cons (i : Nat) (is : List Nat) (f : DS → M D) : borOs (i :: is) f = eBorO i (borOs is f) := rfl
def nums (n : Nat) (f : Nat → Nat) : List D := (List.range n).map fun k => .int (f k : Nat)
@[simp] theorem nums_len (n : Nat) (f : Nat → Nat) : (nums n f).length = n := by simp [nums]
end NS
namespace NS
open PySem PySem.Spec PyProof.Rows L2
end NS
namespace NS
open PySem PySem.Spec PyProof.Rows L2
section
variable {ndr : Int → Int → Bool} {m : Int}
def tp (ndr : Int → Int → Bool) (m a b x : Int) (k : Nat) : Nat := tc (okW ndr (rI 0 m)) (rI a b) x k
end
end NS
namespace NS
open PySem PySem.Spec PyProof.Rows L2
end NS
namespace NS
open PySem PySem.Spec PyProof.Rows L2
def tcT (t : Tab) (c : Int) (k : Nat) : Nat := tc (okW (nd t) (takenI t)) (takenI t) c k
end NS
namespace NS
open PySem PySem.Spec PyProof.Rows L2
theorem Good.lot {t : Tab} {P σ : List Int} (g : Good t P) (h : σ.Perm (readyI t P)) : Good t (P ++ σ) := by
  have nr : (readyI t P).Nodup := (rest_nodup t P).filter _
  have sub : ∀ c ∈ σ, c ∈ readyI t P := fun c hc => h.mem_iff.mp hc
  have nσ : σ.Nodup := h.nodup_iff.mpr nr
  refine ⟨List.nodup_append.mpr ⟨g.nodup, nσ, fun a ha b hb e => ?_⟩, fun c hc => ?_, fun k c e d n => ?_⟩
  · subst e; exact (mem_ready.mp (sub a hb)).2.1 ha
  · rcases List.mem_append.mp hc with hc | hc
    · exact g.sub c hc
    · exact (mem_ready.mp (sub c hc)).1
  · by_cases hk : k < P.length
    · rw [List.getElem?_append_left hk] at e
      rw [List.take_append_of_le_length (by omega)]
      exact g.ag k c e d n
    · rw [List.getElem?_append_right (by omega)] at e
      have := (mem_ready.mp (sub c (List.mem_of_getElem? e))).2.2 d n
      rw [List.take_append]
      exact List.mem_append_left _ (by rw [List.take_of_length_le (by omega)]; exact this)
end NS
namespace NS
open PySem PySem.Spec PyProof.Rows L2
def Tabs (ts : List Str) (g : G) : Prop := ∀ (j : Nat) (x : Str), ts[j]? = some x → g[j]? = some (.tab x)
theorem Tabs.start (ts : List Str) : Tabs ts (ts.map GCell.tab) := fun j x e => by rw [List.getElem?_map, e]; rfl
theorem Tabs.app {ts : List Str} {g : G} (h : Tabs ts g) (l : G) : Tabs ts (g ++ l) := fun j x e => by
  have := h j x e
  rw [List.getElem?_append_left (List.getElem?_eq_some_iff.mp this).1]; exact this
theorem Tabs.go {ts : List Str} {k m n : Nat} {g g' : G} (h : Tabs ts g) (hs : Src k n g) (o : Go k m g g') : Tabs ts g' := fun j x e => by
  have h1 := h j x e
  have ne : j ≠ k := by
    rintro rfl
    obtain ⟨a, b, c, h2, _⟩ := hs
    rw [h1] at h2; cases h2
  rw [o.2.2 j ne]; exact h1
theorem runD_Er {n : Nat} {m : Bool} {b : DS → M Fl} {ds : List D} {g : G} {P : Exn → G → Prop} (h : Er (b (startD n ds)) g P) : Er (runD n m b ds) g P := by
  unfold runD
  rw [Er_bind]
  exact .inl h
end NS
namespace NS
open PySem PySem.Spec PyProof.Rows L2
structure Shw (d : D) (b k : Nat) : Prop where
  ok : D.pyOk d = true
  sh : (D.py d).showable = true
  st : PyData.strOk (D.py d).shown = true
  ln : (D.py d).shown.length ≤ b
  dp : (D.py d).depth ≤ k
theorem Shw.mono {d : D} {b k b' k' : Nat} (h : Shw d b k) (hb : b ≤ b') (hk : k ≤ k') : Shw d b' k' := ⟨h.ok, h.sh, h.st, Nat.le_trans h.ln hb, Nat.le_trans h.dp hk⟩
end NS
namespace NS
open PySem PySem.Spec PyProof.Rows L2
theorem pl_ent (n : Nat) (e : Ent) : D.pl n e.d = true := by cases e <;> simp [Ent.d] <;> decide +kernel
end NS
namespace NS
open PySem PySem.Spec PyProof.Rows L2
end NS
namespace NS
open PySem PySem.Spec PyProof.Rows L2
theorem Good.pos {t : Tab} {σ : List Int} (g : Good t σ) (l : σ.length = (takenI t).length) : Pos t := by
  have all : ∀ c, ent t c ≠ .e → ∃ k, σ[k]? = some c := fun c hc => List.getElem?_of_mem ((perm_of g.nodup (taken_nodup t) g.sub (by omega)).mem_iff.mpr (mem_taken.mpr hc))
  refine ⟨fun c d n => ?_, fun c hc d hd ⟨n1, n2⟩ => ?_⟩
  · obtain ⟨k, hk⟩ := all c (nd_taken n)
    exact mem_taken.mp (g.sub d (List.mem_of_mem_take (g.ag k c hk d n)))
  · obtain ⟨i, hi⟩ := all c (nd_taken n1)
    obtain ⟨j, hj⟩ := all d (nd_taken n2)
    obtain ⟨i2, l2, e2⟩ := List.mem_take_iff_getElem.mp (g.ag i c hi d n1)
    obtain ⟨j2, l3, e3⟩ := List.mem_take_iff_getElem.mp (g.ag j d hj c n2)
    have a1 : j = i2 := (List.getElem?_inj (List.getElem?_eq_some_iff.mp hj).1 g.nodup).mp (hj.trans (by rw [List.getElem?_eq_getElem (by omega), e2]))
    have a2 : i = j2 := (List.getElem?_inj (List.getElem?_eq_some_iff.mp hi).1 g.nodup).mp (hi.trans (by rw [List.getElem?_eq_getElem (by omega), e3]))
    omega
end NS
set_option maxHeartbeats 1000000
namespace NS
open PySem PySem.Spec PyProof.Rows L2
def asc (l : List Nat) : Prop := ∀ c ∈ l, c < 128
theorem asc_ok {l : List Nat} (h : asc l) : PyData.strOk (txS l) = true := by
  unfold PyData.strOk txS
  rw [← Array.all_toList]
  exact List.all_eq_true.mpr fun c hc => by have := h c (by simpa using hc); simp; omega
theorem asc_app {a b : List Nat} (h : asc a) (h' : asc b) : asc (a ++ b) := fun c hc => (List.mem_append.mp hc).elim (h c) (h' c)
theorem asc_take {a : List Nat} (h : asc a) (n : Nat) : asc (a.take n) := fun c hc => h c (List.mem_of_mem_take hc)
theorem asc_drop {a : List Nat} (h : asc a) (n : Nat) : asc (a.drop n) := fun c hc => h c (List.mem_of_mem_drop hc)
theorem s_empty : Str.ofString "" = txS [] := by decide +kernel
theorem s_blank : Str.ofString " " = txS [32] := by decide +kernel
theorem s_nl : Str.ofString "\n" = txS [10] := by decide +kernel
theorem s_dash : Str.ofString "-" = txS [45] := by decide +kernel
theorem s_q : Str.ofString "?" = txS [63] := by decide +kernel
theorem s_zero : Str.ofString "0" = txS [48] := by decide +kernel
theorem s_digits : Str.ofString "0123456789" = txS [48, 49, 50, 51, 52, 53, 54, 55, 56, 57] := by decide +kernel
theorem beq_tS {a b : List Nat} : (txS a == txS b) = decide (a = b) := by
  by_cases h : a = b
  · subst h; simp
  · rw [decide_eq_false h]
    exact beq_false_of_ne fun z => h (txS_inj.mp z)
theorem kEq_txt {a b : List Nat} (ha : asc a) (hb : asc b) : kEq (.str (txS a)) (.str (txS b)) = M.pure (.bl (decide (a = b))) := by
  rw [kEq_pl 0 0 (by rw [pl_str]; exact asc_ok ha) (by rw [pl_str]; exact asc_ok hb), eqD_str, beq_tS]
theorem kNe_txt {a b : List Nat} (ha : asc a) (hb : asc b) : kNe (.str (txS a)) (.str (txS b)) = M.pure (.bl (!decide (a = b))) := by
  rw [kNe_pl 0 0 (by rw [pl_str]; exact asc_ok ha) (by rw [pl_str]; exact asc_ok hb), eqD_str, beq_tS]
theorem kLen_txt (a : List Nat) (h : a.length < 1000000) : kLen [.str (txS a)] = M.pure (.int (a.length : Nat)) := by
  have hf : fit (txS a).length = true := by simpa using h
  have hd : D.len (.str (txS a)) = some a.length := by
    show (if fit (txS a).length = true then some (txS a).length else none : Option Nat) = _
    rw [if_pos hf, txS_length]
  unfold kLen
  simp [hd]
@[simp] theorem eStrM_ap (k : D → D → M D) (fo fe : DS → M D) (σ : DS) : eStrM k fo fe σ = M.bind (fo σ) fun x => if isStr x = true then M.bind (fe σ) fun y => k x y else M.bad := rfl
@[simp] theorem isStr_str (x : Str) : isStr (.str x) = true := rfl
@[simp] theorem iTxt_ap (f : DS → M D) (σ : DS) : iTxt f σ = M.bind (f σ) itT := rfl
theorem itT_tS (l : List Nat) : itT (.str (txS l)) = M.pure (l.map fun c => .str (txS [c])) := by
  show M.pure ((txS l).cps.toList.map fun c => D.str ⟨#[c]⟩) = _
  rw [cps_txS]; rfl
theorem kSplit_tS {l : List Nat} {c : Nat} (h : l.length < 100000) (hc : c < 256) : kSplit (.str (txS l)) (.str (txS [c])) = M.pure (.lst ((splL c l).map fun p => .str (txS p))) := by
  show (if (txS [c]).length ≠ 0 ∧ fit ((txS l).length + 2) = true then M.pure (.lst ((Txt.split (txS l) (txS [c])).map .str)) else M.bad : M D) = _
  rw [if_pos ⟨by simp, by simp; omega⟩, split_one l hc, List.map_map]; rfl
theorem strL_tS (ps : List (List Nat)) : strL (ps.map fun p => D.str (txS p)) = some (ps.map txS) := by
  have := strL_map (ps.map txS)
  rw [List.map_map] at this; exact this
theorem kJoin_tS {g : List Nat} {ps : List (List Nat)} (h : (ps.map List.length).sum + ps.length * g.length ≤ 1000000) : kJoin (.str (txS g)) (.lst (ps.map fun p => .str (txS p))) = M.pure (.str (txS (joinL g ps))) := by
  show (match strL (ps.map fun p => D.str (txS p)) with
    | some ys => if (ys.map (·.length)).sum + ys.length * (txS g).length ≤ 1000000 then M.pure (.str (Txt.join (txS g) ys)) else M.bad
    | none => M.bad : M D) = _
  rw [strL_tS]
  show (if ((ps.map txS).map (·.length)).sum + (ps.map txS).length * (txS g).length ≤ 1000000 then M.pure (.str (Txt.join (txS g) (ps.map txS))) else M.bad : M D) = _
  have e : ((ps.map txS).map (·.length)) = ps.map List.length := by
    rw [List.map_map]; exact List.map_congr_left fun p _ => txS_length p
  rw [e, List.length_map, txS_length, if_pos h, join_eq]
theorem joinL_len (g : List Nat) : ∀ ps : List (List Nat), (joinL g ps).length ≤ (ps.map List.length).sum + ps.length * g.length
  | [] => by simp [joinL]
  | p :: ps => by
    rw [joinL_cons]
    have : ∀ ps : List (List Nat), (ps.flatMap (g ++ ·)).length = (ps.map List.length).sum + ps.length * g.length := fun ps => by
      induction ps with
      | nil => simp
      | cons q r ih => rw [List.flatMap_cons, List.length_append, ih]; simp [Nat.add_mul]; omega
    rw [List.length_append, this]
    simp [Nat.add_mul]; omega
theorem joinL_asc {g : List Nat} (hg : asc g) : ∀ {ps : List (List Nat)}, (∀ p ∈ ps, asc p) → asc (joinL g ps)
  | [], _ => by intro c hc; simp [joinL] at hc
  | p :: ps, h => by
    rw [joinL_cons]
    refine asc_app (h p (by simp)) fun c hc => ?_
    obtain ⟨q, hq, hc⟩ := List.mem_flatMap.mp hc
    exact asc_app hg (h q (List.mem_cons_of_mem _ hq)) c hc
theorem splL_asc {c : Nat} {l : List Nat} (h : asc l) : ∀ p ∈ splL c l, asc p := fun p hp a ha => h a ((splL_mem hp).2 a ha)
theorem kIntT_tS {l : List Nat} (ha : NumText.AllDigits l) (h0 : l ≠ []) (hl : l.length ≤ 640) : kIntT [.str (txS l)] = M.pure (.int (NumText.digitsVal l : Nat)) := by
  show (if (txS l).length ≤ 640 then M.opt ((intText? (txS l)).map .int) else M.bad : M D) = _
  rw [if_pos (by simpa using hl), int_text ha h0 (by omega)]; rfl
theorem kStrT_str (x : Str) : kStrT [.str x] = M.pure (.str x) := rfl
theorem kStrT_nat {n : Nat} (h : n < 2 ^ 1900) : kStrT [.int (n : Int)] = M.pure (.str (tN n)) := by
  show (if ((n : Int)).natAbs.log2 < 1920 then M.pure (D.str (toString (n : Int) : String)) else M.bad : M D) = _
  have e : ((n : Int)).natAbs = n := rfl
  have hl : n.log2 < 1920 := by
    by_cases h0 : n = 0
    · subst h0; decide
    · exact (Nat.log2_lt h0).mpr (Nat.lt_trans h (Nat.pow_lt_pow_right (by decide) (by decide)))
  rw [e, if_pos hl, tN_eq]
theorem dv_small {l : List Nat} (ha : NumText.AllDigits l) (hl : l.length ≤ 500) : NumText.digitsVal l < 2 ^ 1900 := by
  have h1 := dv_lt ha
  have h2 : (10 : Nat) ^ l.length ≤ 10 ^ 500 := Nat.pow_le_pow_right (by decide) hl
  have h3 : (10 : Nat) ^ 500 < 2 ^ 1900 := by decide +kernel
  omega
theorem kAdd_txt {a b : List Nat} (h : a.length + b.length < 1000000) : kAdd (.str (txS a)) (.str (txS b)) = M.pure (.str (txS (a ++ b))) := by
  show (if fit ((txS a).length + (txS b).length) = true then M.pure (.str (txS a ++ txS b)) else M.bad : M D) = _
  rw [if_pos (by simpa using h), txS_append]
theorem cutS_take (l : List Nat) {k : Nat} : cutS (txS l) none (some (k : Int)) = txS (l.take k) := by
  unfold cutS
  rw [HT.sIx_none, HT.sIx_nat]
  simp only [cps_txS, txS_length, List.drop_zero, Nat.sub_zero]
  unfold txS
  congr 2
  rw [Nat.min_def]; split
  · rfl
  · rw [List.take_of_length_le (Nat.le_refl _), List.take_of_length_le (by omega)]
theorem cutS_drop (l : List Nat) {k : Nat} : cutS (txS l) (some (k : Int)) none = txS (l.drop k) := by
  unfold cutS
  rw [HT.sIx_none, HT.sIx_nat]
  simp only [cps_txS, txS_length]
  unfold txS
  congr 2
  rw [Nat.min_def]; split
  · rw [List.take_of_length_le (by simp)]
  · rw [List.drop_eq_nil_of_le (Nat.le_refl _), List.drop_eq_nil_of_le (by omega)]; simp
theorem kSl_take {l : List Nat} (h : l.length < 1000000) (k : Nat) : kSl none (some (k : Int)) (.str (txS l)) = M.pure (.str (txS (l.take k))) := by
  show (if fit (txS l).length = true then M.pure (.str (cutS (txS l) none (some (k : Int)))) else M.bad : M D) = _
  rw [if_pos (by simpa using h), cutS_take]
theorem kSl_drop {l : List Nat} (h : l.length < 1000000) (k : Nat) : kSl (some (k : Int)) none (.str (txS l)) = M.pure (.str (txS (l.drop k))) := by
  show (if fit (txS l).length = true then M.pure (.str (cutS (txS l) (some (k : Int)) none)) else M.bad : M D) = _
  rw [if_pos (by simpa using h), cutS_drop]
theorem kIn_char (c : Nat) (l : List Nat) : kIn (.str (txS [c])) (.str (txS l)) = M.pure (.bl (decide (c ∈ l))) := by
  show M.opt (((sign1 (txS [c])).map fun c => decide (c ∈ (txS l).cps.toList)).map D.bl) = _
  have : sign1 (txS [c]) = some c := rfl
  rw [this, cps_txS]; rfl
theorem kIx_txt {l : List Nat} (h : l.length < 1000000) {i c : Nat} (hc : l[i]? = some c) : kIx (.str (txS l)) (.int (i : Int)) = M.pure (.str (txS [c])) := by
  show (if fit (txS l).length = true then M.opt ((L2.atI (txS l).cps.toList (i : Int)).map fun c => .str ⟨#[c]⟩) else M.bad : M D) = _
  rw [if_pos (by simpa using h), cps_txS, atI_nat hc]; rfl
theorem strSub_tS (l : List Nat) (i j : Nat) : Builtin.Str.strSub (txS l) i j = txS ((l.drop i).take (j - i)) := by
  unfold Builtin.Str.strSub txS
  congr 1
  apply Array.ext'
  simp [Array.toList_extract, List.extract]
theorem takeWhile_all {p : Nat → Bool} : ∀ {l : List Nat}, (l.takeWhile p).length = l.length → ∀ c ∈ l, p c = true
  | [], _, c, hc => by simp at hc
  | a :: r, h, c, hc => by
    by_cases ha : p a = true
    · rw [List.takeWhile_cons_of_pos ha] at h
      rcases List.mem_cons.mp hc with rfl | hc
      · exact ha
      · exact takeWhile_all (by simpa using h) c hc
    · rw [List.takeWhile_cons_of_neg ha] at h; simp at h
theorem dw_drop (p : Nat → Bool) : ∀ l : List Nat, l.drop (l.takeWhile p).length = l.dropWhile p
  | [] => rfl
  | a :: r => by
    by_cases ha : p a = true
    · rw [List.takeWhile_cons_of_pos ha, List.dropWhile_cons_of_pos ha]; exact dw_drop p r
    · rw [List.takeWhile_cons_of_neg ha, List.dropWhile_cons_of_neg ha]; rfl
theorem dw_head {p : Nat → Bool} {a : Nat} {t : List Nat} : ∀ {l : List Nat}, l.dropWhile p = a :: t → ¬ p a = true
  | [], h => by simp at h
  | b :: r, h => by
    by_cases hb : p b = true
    · rw [List.dropWhile_cons_of_pos hb] at h; exact dw_head h
    · rw [List.dropWhile_cons_of_neg hb] at h
      cases h; exact hb
theorem dw_nil {p : Nat → Bool} : ∀ {l : List Nat}, (∀ c ∈ l, p c = true) → l.dropWhile p = []
  | [], _ => rfl
  | b :: r, h => by
    rw [List.dropWhile_cons_of_pos (h b (by simp))]
    exact dw_nil fun c hc => h c (List.mem_cons_of_mem _ hc)
theorem strip_nil {p : Nat → Bool} {l : List Nat} : Txt.stripBy p true true (txS l) = txS [] ↔ ∀ c ∈ l, p c = true := by
  rw [PyProof.Rows.stripBy_eq, strSub_tS, txS_inj]
  unfold stripLo stripHi
  simp only [if_true, cps_txS, txS_length]
  have hd := dw_drop p l
  have hl : (l.takeWhile p).length + (l.dropWhile p).length = l.length := by
    rw [← List.length_append, List.takeWhile_append_dropWhile]
  rw [hd]
  generalize hr : l.dropWhile p = r at *
  have tw : (r.reverse.takeWhile p).length ≤ r.length := by
    have := (List.takeWhile_sublist p (l := r.reverse)).length_le
    simpa using this
  constructor
  · intro h
    have h0 : l.length - (r.reverse.takeWhile p).length - (l.takeWhile p).length = 0 ∨ r = [] := by
      rcases List.take_eq_nil_iff.mp h with h | h
      · exact .inl h
      · exact .inr h
    have rn : r = [] := by
      rcases h0 with h0 | h0
      · cases hrr : r with
        | nil => rfl
        | cons a t =>
          exfalso
          have e : (r.reverse.takeWhile p).length = r.reverse.length := by rw [List.length_reverse]; omega
          have ha := takeWhile_all e a (by rw [hrr]; simp)
          rw [hrr] at hr
          exact dw_head hr ha
      · exact h0
    intro c hc
    rw [rn] at hl
    exact takeWhile_all (by simpa using hl) c hc
  · intro h
    have rn : r = [] := by
      rw [← hr]
      exact dw_nil h
    rw [rn]; simp
end NS
set_option maxHeartbeats 1000000
namespace NS
open PySem PySem.Spec PyProof.Rows L2
theorem digits_mem {c : Nat} : c ∈ [48, 49, 50, 51, 52, 53, 54, 55, 56, 57] ↔ 48 ≤ c ∧ c ≤ 57 := by
  simp only [List.mem_cons, List.not_mem_nil, or_false]; omega
theorem allB (bs : List Bool) : kOfBls (fun bs => M.pure (.bl (bs.all id))) [.lst (bs.map .bl)] = M.pure (.bl (bs.all id)) := by
  simp [kOfBls, bls_rep']
theorem asc_nil : asc [] := by intro c h; simp at h
theorem asc_one {c : Nat} (h : c < 128) : asc [c] := by intro d hd; simp at hd; omega
def isDg (c : Nat) : Bool := decide (48 ≤ c) && decide (c ≤ 57)
theorem isDec_ne {l : List Nat} (h : l ≠ []) : isDec l = (l.all isDg && (decide (l = [48]) || decide (l.head? ≠ some 48))) := by
  unfold isDec isDg
  rw [Bool.eq_iff_iff]
  simp [h]
theorem kIn_dig (c : Nat) : kIn (.str (txS [c])) (.str (txS [48, 49, 50, 51, 52, 53, 54, 55, 56, 57])) = M.pure (.bl (isDg c)) := by
  rw [kIn_char]
  unfold isDg
  rw [← Bool.decide_and]
  congr 2
  exact decide_eq_decide.mpr digits_mem
theorem is_decimal_T {l : List Nat} (ha : asc l) (hl : l.length < 100000) : d_is_decimal [.str (txS l)] = M.pure (.bl (isDec l)) := by
  have key : ∀ x0, compM (gN 1) tYesD (eBin kIn (eVar 1) (eC (.str (txS [48, 49, 50, 51, 52, 53, 54, 55, 56, 57])))) [x0, none] (l.map fun c => .str (txS [c])) = M.pure (l.map fun c => .bl (isDg c)) := by
    intro x0
    refine compM_all (en := fun c => D.str (txS [c])) fun c hc => ⟨_, rfl, rfl, ?_⟩
    simp -implicitDefEqProofs [kIn_dig]
  have a48 : asc [48] := asc_one (by decide)
  have e0 := kEq_txt ha asc_nil
  have e1 := kEq_txt ha a48
  have kb : kOfBls (fun bs => M.pure (.bl (bs.all id))) [.lst (l.map fun c => .bl (isDg c))] = M.pure (.bl (l.all isDg)) := by
    have := allB (l.map isDg)
    rw [List.map_map, List.all_map] at this; exact this
  have it := itT_tS l
  have hl2 : l.length < 1000000 := by omega
  unfold d_is_decimal runD b_is_decimal
  rw [s_empty, s_digits, s_zero]
  by_cases h0 : l = []
  · rw [decide_eq_true h0] at e0
    have hd : isDec l = false := by subst h0; rfl
    simp -implicitDefEqProofs [startD, e0, hd]
  · rw [decide_eq_false h0] at e0
    obtain ⟨a, r, el⟩ := List.exists_cons_of_ne_nil h0
    have kx : kIx (.str (txS l)) (.int 0) = M.pure (.str (txS [a])) := kIx_txt (l := l) (by omega) (i := 0) (c := a) (by rw [el]; rfl)
    have kn := kNe_txt (a := [a]) (b := [48]) (asc_one (ha a (by rw [el]; simp))) a48
    have hh : l.head? = some a := by rw [el]; rfl
    rw [isDec_ne h0, hh]
    cases hA : l.all isDg with
    | false =>
      rw [hA] at kb
      simp -implicitDefEqProofs [startD, e0, it, hl2, key, kb]
    | true =>
      rw [hA] at kb
      by_cases h1 : l = [48]
      · rw [decide_eq_true h1] at e1
        rw [decide_eq_true h1]
        simp -implicitDefEqProofs [startD, e0, it, hl2, key, kb, e1]
      · rw [decide_eq_false h1] at e1
        rw [decide_eq_false h1]
        simp -implicitDefEqProofs [startD, e0, it, hl2, key, kb, e1, kx, kn]
theorem isDec_write {l : List Nat} (h0 : l ≠ []) (ha : NumText.AllDigits l) : isDec l = decide (dg (NumText.digitsVal l) = l) := by
  by_cases h : dg (NumText.digitsVal l) = l
  · rw [decide_eq_true h, ← h]; exact dg_dec _
  · rw [decide_eq_false h]
    cases e : isDec l with
    | false => rfl
    | true => exact absurd (dec_dg e) h
theorem dg_asc (n : Nat) : asc (dg n) := fun c hc => by have := dg_all n c hc; omega
theorem strip_sub {l : List Nat} (ha : asc l) (p : Nat → Bool) : ∃ s, Txt.stripBy p true true (txS l) = txS s ∧ asc s :=
  ⟨(l.drop (stripLo p true (txS l))).take (stripHi p true (txS l) (stripLo p true (txS l)) - stripLo p true (txS l)), by rw [PyProof.Rows.stripBy_eq, strSub_tS], asc_take (asc_drop ha _) _⟩
theorem Ldecimal_T {l : List Nat} (ha : asc l) (hl : l.length ≤ 500) : d_Ldecimal [.str (txS l)] = M.pure (.bl (isDec l)) := by
  have e0 := kNe_txt ha asc_nil
  have ks : kStrip (.str (txS l)) (.str (txS [48, 49, 50, 51, 52, 53, 54, 55, 56, 57])) = M.pure (.str (Txt.stripChars (txS l) (txS [48, 49, 50, 51, 52, 53, 54, 55, 56, 57]))) := by
    show (if fit (txS l).length = true then M.pure (.str (Txt.stripChars (txS l) (txS [48, 49, 50, 51, 52, 53, 54, 55, 56, 57]))) else M.bad : M D) = _
    rw [if_pos (by simp; omega)]
  have sn := strip_nil (p := (txS [48, 49, 50, 51, 52, 53, 54, 55, 56, 57]).cps.contains) (l := l)
  have hp : (∀ c ∈ l, (txS [48, 49, 50, 51, 52, 53, 54, 55, 56, 57]).cps.contains c = true) ↔ NumText.AllDigits l := by
    have : ∀ c, (txS [48, 49, 50, 51, 52, 53, 54, 55, 56, 57]).cps.contains c = true ↔ 48 ≤ c ∧ c ≤ 57 := fun c => by
      unfold txS
      rw [Array.contains_iff_mem]
      simp only [List.mem_toArray]
      exact digits_mem
    exact ⟨fun h c hc => (this c).mp (h c hc), fun h c hc => (this c).mpr (h c hc)⟩
  rw [hp] at sn
  have sn : Txt.stripChars (txS l) (txS [48, 49, 50, 51, 52, 53, 54, 55, 56, 57]) = txS [] ↔ NumText.AllDigits l := sn
  unfold d_Ldecimal runD b_Ldecimal
  rw [s_empty, s_digits]
  by_cases h0 : l = []
  · rw [decide_eq_true h0] at e0
    have hd : isDec l = false := by subst h0; rfl
    simp -implicitDefEqProofs [startD, e0, hd]
  · rw [decide_eq_false h0] at e0
    by_cases hA : NumText.AllDigits l
    · have e1 := sn.mpr hA
      rw [e1] at ks
      have e2 := kEq_txt asc_nil asc_nil
      have ki := kIntT_tS hA h0 (by omega)
      have kt := kStrT_nat (dv_small hA hl)
      have ke := kEq_txt (dg_asc (NumText.digitsVal l)) ha
      rw [isDec_write h0 hA]
      unfold tN at kt
      simp -implicitDefEqProofs [startD, e0, ks, e2, ki, kt, ke]
    · have hd : isDec l = false := by
        cases e : isDec l with
        | false => rfl
        | true => exact absurd (isDec_iff.mp e).2.1 hA
      have ne : Txt.stripChars (txS l) (txS [48, 49, 50, 51, 52, 53, 54, 55, 56, 57]) ≠ txS [] := fun z => hA (sn.mp z)
      have sub := strip_sub ha (txS [48, 49, 50, 51, 52, 53, 54, 55, 56, 57]).cps.contains
      have sub : ∃ s, Txt.stripChars (txS l) (txS [48, 49, 50, 51, 52, 53, 54, 55, 56, 57]) = txS s ∧ asc s := sub
      obtain ⟨s, es, as⟩ := sub
      rw [es] at ks ne
      have e2 := kEq_txt as asc_nil
      rw [decide_eq_false (fun z => ne (by rw [z]))] at e2
      simp -implicitDefEqProofs [startD, e0, ks, e2, hd]
theorem kIn_strs (a : Str) (ys : List Str) : kIn (.str a) (.tup (ys.map .str)) = M.pure (.bl (ys.contains a)) := by
  have hf : (ys.map D.str).all D.flat = true := by simp [D.flat]
  have h1 : kInF (.str a) (ys.map .str) = some (ys.contains a) := by
    unfold kInF
    rw [if_pos ⟨rfl, hf⟩]
    congr 1
    unfold inF
    rw [List.any_map]
    induction ys with
    | nil => rfl
    | cons y ys ih =>
      rw [List.any_cons, ih (by simp [D.flat]), List.contains_cons]
      congr 1
      show eqF (.str y) (.str a) = _
      show (y == a) = _
      rw [Bool.beq_comm]
  unfold kIn
  show M.opt ((kInF (.str a) (ys.map .str)).map D.bl) = _
  rw [h1]; rfl
def entryI (n : Nat) (l : List Nat) : Option Ent := if l = [45] then some .e else if l = [63] then some .u else if isDec l = true ∧ NumText.digitsVal l < n then some (.w (NumText.digitsVal l : Nat)) else none
theorem len_mono {a b : Nat} (h : a ≤ b) : (dg a).length ≤ (dg b).length := by
  have := dv_lt (dg_all b)
  rw [dv_dg] at this
  exact dg_len_le (by omega) (List.length_pos_iff.mpr (dg_ne b))
theorem kLe_nat (a b : Nat) : kLe (.int (a : Int)) (.int (b : Int)) = M.pure (.bl (decide (a ≤ b))) := by
  rw [kLe_int]; congr 2; exact decide_eq_decide.mpr (by omega)
theorem kLt_nat (a b : Nat) : kLt (.int (a : Int)) (.int (b : Int)) = M.pure (.bl (decide (a < b))) := by
  rw [kLt_int]; congr 2; exact decide_eq_decide.mpr (by omega)
theorem entry_in_T {n : Nat} {l : List Nat} (hn : n < 100000) (ha : asc l) (hl : l.length ≤ 500) : d_entry_in [.int (n : Int), .str (txS l)] = M.pure (match entryI n l with | some e => .tup [.bl true, e.d] | none => .tup [.bl false, .non]) := by
  have k1 : kIn (.str (txS l)) (.tup [.str (txS [45]), .str (txS [63])]) = M.pure (.bl ([txS [45], txS [63]].contains (txS l))) := kIn_strs (txS l) [txS [45], txS [63]]
  have kc : [txS [45], txS [63]].contains (txS l) = (decide (l = [45]) || decide (l = [63])) := by
    rw [List.contains_cons, List.contains_cons, beq_tS, beq_tS]; simp
  rw [kc] at k1
  have k2 := kEq_txt (a := l) (b := [45]) ha (asc_one (by decide))
  have kd := is_decimal_T ha (by omega : l.length < 100000)
  unfold d_entry_in runD b_entry_in
  rw [s_dash, s_q]
  unfold entryI
  by_cases h1 : l = [45]
  · have h2 : l ≠ [63] := by rw [h1]; decide
    rw [decide_eq_true h1] at k1 k2
    rw [if_pos h1]
    simp -implicitDefEqProofs [startD, k1, k2]
    rfl
  · rw [if_neg h1]
    rw [decide_eq_false h1] at k1 k2
    by_cases h2 : l = [63]
    · rw [decide_eq_true h2] at k1
      rw [if_pos h2]
      simp -implicitDefEqProofs [startD, k1, k2]
      rw [← s_q]
      rfl
    · rw [decide_eq_false h2] at k1
      rw [if_neg h2]
      by_cases hd : isDec l = true
      · rw [hd] at kd
        obtain ⟨h0, hA, _⟩ := isDec_iff.mp hd
        have ki := kIntT_tS hA h0 (by omega)
        have p1 : (100000 : Nat) < 2 ^ 1900 := Nat.lt_of_lt_of_le (by decide : (100000 : Nat) < 2 ^ 20) (Nat.pow_le_pow_right (by decide) (by decide))
        have kt := kStrT_nat (n := n) (by omega)
        have kl1 := kLen_txt l (by omega)
        have hN : (dg n).length ≤ 5 := dg_len_le (k := 5) (by omega) (by decide)
        have kl2 := kLen_txt (dg n) (by omega)
        unfold tN at kt
        by_cases hv : NumText.digitsVal l < n
        · have hE : (if isDec l = true ∧ NumText.digitsVal l < n then some (Ent.w (NumText.digitsVal l : Nat)) else none) = some (.w (NumText.digitsVal l : Nat)) := if_pos ⟨hd, hv⟩
          rw [hE]
          have hle : l.length ≤ (dg n).length := by
            have := len_mono (Nat.le_of_lt hv)
            rw [dec_dg hd] at this; exact this
          have c1 := kLe_nat l.length (dg n).length
          rw [decide_eq_true hle] at c1
          have c2 := kLt_nat (NumText.digitsVal l) n
          rw [decide_eq_true hv] at c2
          simp -implicitDefEqProofs [startD, k1, kd, kl1, kt, kl2, c1, ki, c2, -kLe_int, -kLt_int]
          rfl
        · have hE : (if isDec l = true ∧ NumText.digitsVal l < n then some (Ent.w (NumText.digitsVal l : Nat)) else none) = none := if_neg (fun z => hv z.2)
          rw [hE]
          have c1 := kLe_nat l.length (dg n).length
          have c2 := kLt_nat (NumText.digitsVal l) n
          rw [decide_eq_false hv] at c2
          by_cases hle : l.length ≤ (dg n).length
          · rw [decide_eq_true hle] at c1
            simp -implicitDefEqProofs [startD, k1, kd, kl1, kt, kl2, c1, ki, c2, -kLe_int, -kLt_int]
          · rw [decide_eq_false hle] at c1
            simp -implicitDefEqProofs [startD, k1, kd, kl1, kt, kl2, c1, ki, c2, -kLe_int, -kLt_int]
      · have hE : (if isDec l = true ∧ NumText.digitsVal l < n then some (Ent.w (NumText.digitsVal l : Nat)) else none) = none := if_neg (fun z => hd z.1)
        rw [hE]
        rw [Bool.not_eq_true] at hd
        rw [hd] at kd
        simp -implicitDefEqProofs [startD, k1, kd]
end NS
set_option maxHeartbeats 1000000
namespace NS
open PySem PySem.Spec PyProof.Rows L2
def entL : Ent → List Nat
  | .e => [45]
  | .u => [63]
  | .w v => dg v.toNat
theorem entL_asc (e : Ent) : asc (entL e) := by
  cases e with
  | e => exact asc_one (by decide)
  | u => exact asc_one (by decide)
  | w v => exact dg_asc _
theorem entL_no (e : Ent) : 32 ∉ entL e := by
  cases e with
  | e => simp [entL]
  | u => simp [entL]
  | w v => intro h; have := dg_all _ _ h; omega
def tabL (t : Tab) : List Nat := joinL [32] (t.map entL)
theorem tab_wish {t : Tab} (ok : Tok t) {e : Ent} (he : e ∈ t) : ∀ v, e = .w v → 0 ≤ v ∧ v < tn t := by
  intro v ev
  subst ev
  obtain ⟨i, hi, e1⟩ := List.getElem_of_mem he
  have := ok.wish (i : Int) v
  apply this
  unfold ent
  rw [if_neg (by omega)]
  simp [hi, e1]
theorem entL_len {t : Tab} (ok : Tok t) {e : Ent} (he : e ∈ t) : (entL e).length ≤ 2 := by
  cases e with
  | e => simp [entL]
  | u => simp [entL]
  | w v =>
    have := tab_wish ok he v rfl
    have hl := ok.len
    unfold tn at this
    exact dg_len_le (k := 2) (by omega) (by decide)
theorem sum_le {k : Nat} : ∀ {l : List Nat}, (∀ a ∈ l, a ≤ k) → l.sum ≤ l.length * k
  | [], _ => by simp
  | a :: r, h => by
    have h1 := h a (by simp)
    have h2 := sum_le fun b hb => h b (List.mem_cons_of_mem _ hb)
    simp [Nat.add_mul]; omega
theorem tabL_sum {t : Tab} (ok : Tok t) : ((t.map entL).map List.length).sum ≤ 24 := by
  have := sum_le (k := 2) (l := (t.map entL).map List.length) (by
    intro a ha
    rw [List.map_map] at ha
    obtain ⟨e, he, rfl⟩ := List.mem_map.mp ha
    exact entL_len ok he)
  simp only [List.length_map] at this
  have := ok.len
  omega
theorem tabL_len {t : Tab} (ok : Tok t) : (tabL t).length ≤ 36 := by
  have := joinL_len [32] (t.map entL)
  have h1 := tabL_sum ok
  have := ok.len
  simp at *
  unfold tabL; omega
theorem tabL_asc (t : Tab) : asc (tabL t) := joinL_asc (asc_one (by decide)) fun p hp => by
  obtain ⟨e, _, rfl⟩ := List.mem_map.mp hp
  exact entL_asc e
theorem table_text_T {x : D} {t : Tab} (h : Tb x t) (ok : Tok t) : d_table_text [x] = M.pure (.str (txS (tabL t))) := by
  have hl := ok.len
  have it : itD x = M.pure (t.map Ent.d) := by rcases h with rfl | rfl | rfl <;> rfl
  have key : ∀ x0, compM (gN 1) tYesD (eIf (eTst (eBin kIs (eVar 1) (eC .non))) (eC (.str (txS [45]))) (eArgs kStrT (lCons (eVar 1) lNil))) [x0, none] (t.map Ent.d) = M.pure (t.map fun e => .str (txS (entL e))) := by
    intro x0
    refine compM_all (en := Ent.d) fun e he => ⟨_, rfl, rfl, ?_⟩
    cases e with
    | e => simp -implicitDefEqProofs [Ent.d, entL]
    | u => simp -implicitDefEqProofs [Ent.d, entL, kStrT_str, ← s_q]
    | w v =>
      have := tab_wish ok he v rfl
      unfold tn at this
      obtain ⟨n, rfl⟩ := Int.eq_ofNat_of_zero_le this.1
      have p1 : (100000 : Nat) < 2 ^ 1900 := Nat.lt_of_lt_of_le (by decide : (100000 : Nat) < 2 ^ 20) (Nat.pow_le_pow_right (by decide) (by decide))
      have kt := kStrT_nat (n := n) (by omega)
      simp -implicitDefEqProofs [Ent.d, entL, kt, tN]
  have kj := kJoin_tS (g := [32]) (ps := t.map entL) (by have := tabL_sum ok; simp at *; omega)
  rw [List.map_map] at kj
  have kj : kJoin (.str (txS [32])) (.lst (t.map fun e => .str (txS (entL e)))) = M.pure (.str (txS (tabL t))) := kj
  have hl2 : t.length < 1000000 := by omega
  unfold d_table_text runD b_table_text
  rw [s_blank, s_dash]
  simp -implicitDefEqProofs [startD, it, key, kj, hl2]
theorem Lwritten_T {x : D} {t : Tab} (h : Tb x t) (ok : Tok t) : d_Lwritten [x] = M.pure (.str (txS (tabL t))) := table_text_T h ok
def badAt (n : Nat) (ps : List (List Nat)) : Option Nat := ps.findIdx? fun p => (entryI n p).isNone
def gotI (n : Nat) (ps : List (List Nat)) : List Ent := ps.filterMap (entryI n)
theorem badAt_none {n : Nat} {ps : List (List Nat)} (h : badAt n ps = none) : ∀ p ∈ ps, ∃ e, entryI n p = some e := fun p hp => by
  have := List.findIdx?_eq_none_iff.mp h p hp
  cases e : entryI n p with
  | none => rw [e] at this; simp at this
  | some x => exact ⟨x, rfl⟩
theorem badAt_some {n : Nat} {ps : List (List Nat)} {j : Nat} (h : badAt n ps = some j) : (∃ p, ps[j]? = some p ∧ entryI n p = none) ∧ ∀ i p, i < j → ps[i]? = some p → ∃ e, entryI n p = some e := by
  obtain ⟨hj, h1, h2⟩ := List.findIdx?_eq_some_iff_getElem.mp h
  refine ⟨⟨ps[j], List.getElem?_eq_getElem hj, by simpa using h1⟩, fun i p hi hp => ?_⟩
  obtain ⟨hl, e⟩ := List.getElem?_eq_some_iff.mp hp
  have := h2 i hi
  rw [e] at this
  cases e : entryI n p with
  | none => rw [e] at this; simp at this
  | some x => exact ⟨x, rfl⟩
theorem got_step {n : Nat} {ps : List (List Nat)} {i : Nat} {p : List Nat} {e : Ent} (hp : ps[i]? = some p) (he : entryI n p = some e) : gotI n (ps.take (i + 1)) = gotI n (ps.take i) ++ [e] := by
  unfold gotI
  rw [List.take_succ, hp, List.filterMap_append]
  simp [he]
theorem got_len (n : Nat) (ps : List (List Nat)) : (gotI n ps).length ≤ ps.length := List.length_filterMap_le _ _
theorem enum_words {ps : List (List Nat)} {i : Nat} {d : D} (h : (enumD (ps.map fun p => D.str (txS p)))[i]? = some d) : ∃ p, ps[i]? = some p ∧ d = .tup [.int (i : Nat), .str (txS p)] := by
  have hl := (List.getElem?_eq_some_iff.mp h).1
  rw [enumD_len, List.length_map] at hl
  have e1 : (ps.map fun p => D.str (txS p))[i]? = some (.str (txS ps[i])) := by simp [hl]
  have := enumD_get e1
  rw [this] at h
  cases h
  exact ⟨ps[i], List.getElem?_eq_getElem hl, rfl⟩
theorem kSplit_b {l : List Nat} (h : l.length ≤ 500) : kSplit (.str (txS l)) (.str (txS [32])) = M.pure (.lst ((splL 32 l).map fun p => .str (txS p))) := kSplit_tS (by omega) (by decide)
theorem le_sum {a : Nat} : ∀ {l : List Nat}, a ∈ l → a ≤ l.sum
  | b :: r, h => by
    rw [List.sum_cons]
    rcases List.mem_cons.mp h with rfl | h
    · omega
    · have := le_sum h; omega
theorem words_len {l p : List Nat} {c : Nat} (hp : p ∈ splL c l) : p.length ≤ l.length := by
  have := splL_sum c l
  have h1 : p.length ≤ ((splL c l).map List.length).sum := by
    have : p.length ∈ (splL c l).map List.length := List.mem_map.mpr ⟨p, hp, rfl⟩
    exact le_sum this
  have h2 : 0 < (splL c l).length := List.length_pos_iff.mpr (splL_ne c l)
  omega
theorem table_in_T {l : List Nat} (ha : asc l) (hl : l.length ≤ 500) (hb : badAt (splL 32 l).length (splL 32 l) = none) {g : G} {Q : D → G → Prop} (q : Q (.tup ((gotI (splL 32 l).length (splL 32 l)).map Ent.d)) g) : T (d_table_in [.str (txS l)]) g Q := by
  have ks := kSplit_b hl
  have wl : ∀ p ∈ splL 32 l, asc p ∧ p.length ≤ 500 := fun p hp => ⟨splL_asc ha p hp, Nat.le_trans (words_len hp) hl⟩
  have sl := splL_len 32 l
  have all := badAt_none hb
  generalize splL 32 l = ps at *
  have hn : ps.length < 100000 := by omega
  refine runD_T ?_
  unfold b_table_in
  rw [s_blank]
  simp -implicitDefEqProofs [startD, ks]
  refine forM_T (fun i σ g' => (∃ x3 x4 x5 x6, σ = [some (.sh (.str (txS l))), some (.sh (.lst (ps.map fun p => .str (txS p)))), some (.ow (.lst ((gotI ps.length (ps.take i)).map Ent.d))), x3, x4, x5, x6]) ∧ g' = g) (n := 0) ?_ ⟨⟨none, none, none, none, by simp [gotI]⟩, rfl⟩ ?_
  · rintro i d σ g' e ⟨⟨x3, x4, x5, x6, rfl⟩, rfl⟩
    obtain ⟨p, hp, rfl⟩ := enum_words e
    obtain ⟨a1, a2⟩ := wl p (List.mem_of_getElem? hp)
    obtain ⟨en, he⟩ := all p (List.mem_of_getElem? hp)
    have hi := (List.getElem?_eq_some_iff.mp hp).1
    have kt := entry_in_T hn a1 a2
    rw [he] at kt
    have kt : d_entry_in [.int (ps.length : Nat), .str (txS p)] = M.pure (.tup [.bl true, en.d]) := kt
    have gl := got_len ps.length (ps.take i)
    rw [List.length_take] at gl
    rw [Nat.zero_add, got_step hp he]
    simp -implicitDefEqProofs [kt]
    omega
  · rintro σ g' ⟨⟨x3, x4, x5, x6, rfl⟩, rfl⟩
    rw [Nat.zero_add, enumD_len, List.length_map, List.take_length]
    simp -implicitDefEqProofs
    exact q
theorem table_in_Er {l : List Nat} (ha : asc l) (hl : l.length ≤ 500) {j : Nat} (hb : badAt (splL 32 l).length (splL 32 l) = some j) {g : G} {P : Exn → G → Prop} (q : P ⟨"BadText", some ("entry", .int (j : Nat))⟩ g) : Er (d_table_in [.str (txS l)]) g P := by
  have ks := kSplit_b hl
  have wl : ∀ p ∈ splL 32 l, asc p ∧ p.length ≤ 500 := fun p hp => ⟨splL_asc ha p hp, Nat.le_trans (words_len hp) hl⟩
  have sl := splL_len 32 l
  obtain ⟨⟨pj, hpj, hej⟩, bef⟩ := badAt_some hb
  generalize splL 32 l = ps at *
  have hn : ps.length < 100000 := by omega
  have hjl := (List.getElem?_eq_some_iff.mp hpj).1
  refine runD_Er ?_
  unfold b_table_in
  rw [s_blank]
  simp -implicitDefEqProofs [startD, ks]
  refine Or.inl (forM_Er (fun i σ g' => (∃ x3 x4 x5 x6, σ = [some (.sh (.str (txS l))), some (.sh (.lst (ps.map fun p => .str (txS p)))), some (.ow (.lst ((gotI ps.length (ps.take i)).map Ent.d))), x3, x4, x5, x6]) ∧ g' = g) j (n := 0) ?_ ?_ ?_ (by omega) ?_)
  · rintro i d σ g' e hi ⟨⟨x3, x4, x5, x6, rfl⟩, rfl⟩
    rw [Nat.zero_add] at hi ⊢
    obtain ⟨p, hp, rfl⟩ := enum_words e
    obtain ⟨a1, a2⟩ := wl p (List.mem_of_getElem? hp)
    obtain ⟨en, he⟩ := bef i p hi hp
    have kt := entry_in_T hn a1 a2
    rw [he] at kt
    have kt : d_entry_in [.int (ps.length : Nat), .str (txS p)] = M.pure (.tup [.bl true, en.d]) := kt
    have gl := got_len ps.length (ps.take i)
    rw [List.length_take] at gl
    rw [got_step hp he]
    simp -implicitDefEqProofs [kt]
    omega
  · rintro d σ g' e ⟨⟨x3, x4, x5, x6, rfl⟩, rfl⟩
    obtain ⟨p, hp, rfl⟩ := enum_words e
    rw [Nat.sub_zero] at hp ⊢
    rw [hpj] at hp; cases hp
    obtain ⟨a1, a2⟩ := wl pj (List.mem_of_getElem? hpj)
    have kt := entry_in_T hn a1 a2
    rw [hej] at kt
    have kt : d_entry_in [.int (ps.length : Nat), .str (txS pj)] = M.pure (.tup [.bl false, .non]) := kt
    simp -implicitDefEqProofs [kt, q]
  · exact ⟨⟨none, none, none, none, by simp [gotI]⟩, rfl⟩
  · rw [enumD_len, List.length_map]; omega
def readD (l : List Nat) : D := match badAt (splL 32 l).length (splL 32 l) with
  | none => .tup ((gotI (splL 32 l).length (splL 32 l)).map Ent.d)
  | some j => .int (j : Nat)
theorem Lread_T {l : List Nat} (ha : asc l) (hl : l.length ≤ 500) {g : G} {Q : D → G → Prop} (q : Q (readD l) g) : T (d_Lread [.str (txS l)]) g Q := by
  have ks := kSplit_b hl
  have wl : ∀ p ∈ splL 32 l, asc p ∧ p.length ≤ 500 := fun p hp => ⟨splL_asc ha p hp, Nat.le_trans (words_len hp) hl⟩
  have sl := splL_len 32 l
  unfold readD at q
  generalize splL 32 l = ps at *
  have hn : ps.length < 100000 := by omega
  refine runD_T ?_
  unfold b_Lread
  rw [s_blank, s_dash, s_q]
  simp -implicitDefEqProofs [startD, ks]
  refine forM_T (fun i σ g' => (∃ x3 x4, σ = [some (.sh (.str (txS l))), some (.sh (.lst (ps.map fun p => .str (txS p)))), some (.ow (.lst ((gotI ps.length (ps.take i)).map Ent.d))), x3, x4]) ∧ g' = g ∧ ∀ k p, k < i → ps[k]? = some p → ∃ e, entryI ps.length p = some e) (n := 0) ?_ ?_ ?_
  · rintro i d σ g' e ⟨⟨x3, x4, rfl⟩, rfl, bef⟩
    rw [Nat.zero_add] at bef ⊢
    obtain ⟨p, hp, rfl⟩ := enum_words e
    obtain ⟨a1, a2⟩ := wl p (List.mem_of_getElem? hp)
    have hi := (List.getElem?_eq_some_iff.mp hp).1
    have gl := got_len ps.length (ps.take i)
    rw [List.length_take] at gl
    have k1 := kEq_txt (a := p) (b := [45]) a1 (asc_one (by decide))
    have k2 := kEq_txt (a := p) (b := [63]) a1 (asc_one (by decide))
    have kd := Ldecimal_T a1 a2
    have nx : ∀ en, entryI ps.length p = some en → ∀ k p', k < i + 1 → ps[k]? = some p' → ∃ e, entryI ps.length p' = some e := fun en he k p' hk hp' => by
      by_cases h : k = i
      · subst h; rw [hp] at hp'; cases hp'; exact ⟨en, he⟩
      · exact bef k p' (by omega) hp'
    have lt : (gotI ps.length (ps.take i)).length < 1000000 := by omega
    by_cases h1 : p = [45]
    · have he : entryI ps.length p = some .e := by unfold entryI; rw [if_pos h1]
      rw [decide_eq_true h1] at k1
      rw [got_step hp he]
      simp -implicitDefEqProofs [k1, lt]
      exact ⟨rfl, nx _ he⟩
    · rw [decide_eq_false h1] at k1
      by_cases h2 : p = [63]
      · have he : entryI ps.length p = some .u := by unfold entryI; rw [if_neg h1, if_pos h2]
        rw [decide_eq_true h2] at k2
        rw [got_step hp he]
        simp -implicitDefEqProofs [k1, k2, lt]
        refine ⟨?_, nx _ he⟩
        rw [← s_q]; rfl
      · rw [decide_eq_false h2] at k2
        by_cases hd : isDec p = true
        · obtain ⟨h0, hA, _⟩ := isDec_iff.mp hd
          have ki := kIntT_tS hA h0 (by omega)
          have c2 := kLt_nat (NumText.digitsVal p) ps.length
          rw [hd] at kd
          by_cases hv : NumText.digitsVal p < ps.length
          · have he : entryI ps.length p = some (.w (NumText.digitsVal p : Nat)) := by unfold entryI; rw [if_neg h1, if_neg h2, if_pos ⟨hd, hv⟩]
            rw [decide_eq_true hv] at c2
            rw [got_step hp he]
            simp -implicitDefEqProofs [k1, k2, kd, ki, c2, lt, -kLt_int]
            exact ⟨rfl, nx _ he⟩
          · have he : entryI ps.length p = none := by unfold entryI; rw [if_neg h1, if_neg h2, if_neg (fun z => hv z.2)]
            rw [decide_eq_false hv] at c2
            simp -implicitDefEqProofs [k1, k2, kd, ki, c2, lt, -kLt_int]
            have hb : badAt ps.length ps = some i := by
              refine List.findIdx?_eq_some_iff_getElem.mpr ⟨hi, by rw [(List.getElem?_eq_some_iff.mp hp).2, he]; rfl, fun k hk => ?_⟩
              obtain ⟨e', he'⟩ := bef k _ hk (List.getElem?_eq_getElem (by omega))
              rw [he']; simp
            rw [hb] at q; exact q
        · have he : entryI ps.length p = none := by unfold entryI; rw [if_neg h1, if_neg h2, if_neg (fun z => hd z.1)]
          rw [Bool.not_eq_true] at hd
          rw [hd] at kd
          simp -implicitDefEqProofs [k1, k2, kd, lt]
          have hb : badAt ps.length ps = some i := by
            refine List.findIdx?_eq_some_iff_getElem.mpr ⟨hi, by rw [(List.getElem?_eq_some_iff.mp hp).2, he]; rfl, fun k hk => ?_⟩
            obtain ⟨e', he'⟩ := bef k _ hk (List.getElem?_eq_getElem (by omega))
            rw [he']; simp
          rw [hb] at q; exact q
  · exact ⟨⟨none, none, by simp [gotI]⟩, rfl, fun k p hk => by omega⟩
  · rintro σ g' ⟨⟨x3, x4, rfl⟩, rfl, bef⟩
    rw [Nat.zero_add, enumD_len, List.length_map] at bef ⊢
    rw [List.take_length]
    have hb : badAt ps.length ps = none := List.findIdx?_eq_none_iff.mpr fun p hp => by
      obtain ⟨k, hk, rfl⟩ := List.getElem_of_mem hp
      obtain ⟨e, he⟩ := bef k _ hk (List.getElem?_eq_getElem hk)
      rw [he]; rfl
    rw [hb] at q
    simp -implicitDefEqProofs
    exact q
end NS
namespace NS
def wcn (w : List Int → Int → Nat) : Nat → List Int → Nat
  | _, [] => 1
  | 0, _ :: _ => 0
  | k + 1, c :: R => sg (c :: R) fun d => w (c :: R) d * wcn w k (rm d (c :: R))
def wct (w : List Int → Int → Nat) (R : List Int) : Nat := wcn w R.length R
@[simp] theorem wct_nil (w : List Int → Int → Nat) : wct w [] = 1 := rfl
def wy (n : Int) (opt : Int → List Int) (R : List Int) (c : Int) : Nat := ((opt c).filter fun o => (needL n c o).all fun d => R.contains d).length
def hw (n : Int) (opt : Int → List Int) (a b : Int) : Nat := wct (wy n opt) (rI a b)
end NS
namespace NS
open PySem PySem.Spec PyProof.Rows L2
end NS
namespace NS
open PySem PySem.Spec PyProof.Rows L2
section
variable {nd : Int → Int → Bool}
end
end NS
namespace NS
theorem bm_last (t b j : Nat) : bm (t + 1) t b j = ch (t + j) j := by
  unfold bm
  rw [show t + 1 - 1 - t + (b - j) = b - j by omega, ch_self, Nat.mul_one]
def stl (ok : List Int → Int → Bool) (B : List Int) (y : Int) (j : Nat) : Nat := sg (List.range B.length) fun i => if j ≤ i then tc ok B y i else 0
def two (ok : List Int → Int → Bool) (A B : List Int) (x y : Int) : Nat := sg (List.range A.length) fun t => sg (List.range (B.length + 1)) fun j => tc ok A x t * (stl ok B y j * bm A.length t B.length j)
end NS
namespace NS
open PySem PySem.Spec PyProof.Rows L2
end NS
namespace NS
open PySem PySem.Spec PyProof.Rows L2
section
variable {ndr : Int → Int → Bool} {m : Int}
end
end NS
namespace NS
open PySem PySem.Spec PyProof.Rows L2
end NS
namespace NS
open PySem PySem.Spec PyProof.Rows L2
structure Iso (t s : Tab) (c : Int) : Prop where
  perm : (takenI s).Perm (c :: takenI t)
  out : ∀ d, nd s c d = false
  inn : ∀ a, nd s a c = false
  same : ∀ a, a ≠ c → ∀ d, nd s a d = nd t a d
theorem Iso.mem {t s : Tab} {c : Int} (h : Iso t s c) : c ∈ takenI s := h.perm.mem_iff.mpr List.mem_cons_self
theorem Iso.notin {t s : Tab} {c : Int} (h : Iso t s c) : c ∉ takenI t := (List.nodup_cons.mp (h.perm.nodup_iff.mp (taken_nodup s))).1
theorem Iso.len {t s : Tab} {c : Int} (h : Iso t s c) : (takenI s).length = (takenI t).length + 1 := by rw [h.perm.length_eq]; rfl
theorem sorted_perm_eq {l m : List Int} (hl : l.Pairwise (· < ·)) (hm : m.Pairwise (· < ·)) (h : ∀ x, x ∈ l ↔ x ∈ m) : l = m := by
  have nl : l.Nodup := List.nodup_iff_pairwise_ne.mpr (hl.imp fun h e => by omega)
  have nm : m.Nodup := List.nodup_iff_pairwise_ne.mpr (hm.imp fun h e => by omega)
  exact List.Perm.eq_of_pairwise (le := (· < ·)) (fun a b _ _ h1 h2 => by omega) hl hm (perm_of nl nm (fun x hx => (h x).mp hx) (sub_len nm fun x hx => (h x).mpr hx))
theorem Iso.rm {t s : Tab} {c : Int} (h : Iso t s c) : rm c (takenI s) = takenI t := by
  refine sorted_perm_eq ((taken_sorted s).filter _) (taken_sorted t) fun x => ?_
  rw [mem_rm, h.perm.mem_iff, List.mem_cons]
  constructor
  · rintro ⟨h1 | h1, h2⟩
    · exact absurd h1 h2
    · exact h1
  · intro hx; exact ⟨.inr hx, fun e => by subst e; exact h.notin hx⟩
theorem Iso.apart {t s : Tab} {c : Int} (h : Iso t s c) : Apart (okW (nd s) (takenI s)) (fun d => d == c) (takenI s) := by
  intro S hs a ha
  by_cases e : a = c
  · subst e
    rw [if_pos (by simp)]
    have all : ∀ S, okW (nd s) (takenI s) S a = true := fun S => okW_iff.mpr fun d _ n => by rw [h.out] at n; cases n
    rw [all, all]
  · rw [if_neg (by simpa using e)]
    refine bool_iff ?_
    rw [okW_iff, okW_iff]
    constructor
    · intro hh d hd n
      refine List.mem_filter.mpr ⟨hh d hd n, ?_⟩
      simp
      rintro rfl
      rw [h.inn] at n; cases n
    · intro hh d hd n; exact (List.mem_filter.mp (hh d hd n)).1
theorem Iso.fin {t s : Tab} {c : Int} (h : Iso t s c) : (takenI s).filter (fun d => d == c) = [c] := by
  refine sorted_perm_eq ((taken_sorted s).filter _) (by simp) fun x => ?_
  rw [List.mem_filter]
  simp
  rintro rfl; exact h.mem
theorem Iso.fout {t s : Tab} {c : Int} (h : Iso t s c) : (takenI s).filter (fun d => !(d == c)) = takenI t := by
  rw [← h.rm]; rfl
theorem Iso.ok {t s : Tab} {c : Int} (h : Iso t s c) {S : List Int} (hs : ∀ x ∈ S, x ∈ takenI t) {a : Int} (ha : a ∈ S) : okW (nd s) (takenI s) S a = okW (nd t) (takenI t) S a := by
  have ne : a ≠ c := fun e => by subst e; exact h.notin (hs _ ha)
  refine bool_iff ?_
  rw [okW_iff, okW_iff]
  constructor
  · intro hh d hd n
    rw [← h.same a ne] at n
    exact hh d (h.perm.mem_iff.mpr (List.mem_cons_of_mem _ hd)) n
  · intro hh d hd n
    have dc : d ≠ c := fun e => by subst e; rw [h.inn] at n; cases n
    rw [h.same a ne] at n
    rcases List.mem_cons.mp (h.perm.mem_iff.mp hd) with e | e
    · exact absurd e dc
    · exact hh d e n
theorem ct_same {ok ok' : List Int → Int → Bool} {S : List Int} (hn : S.Nodup) (h : ∀ I : List Int, (∀ x ∈ I, x ∈ S) → ∀ c ∈ I, ok I c = ok' I c) : ct ok S = ct ok' S := by
  refine nodup_ind (P := fun J => (∀ x ∈ J, x ∈ S) → ct ok J = ct ok' J) ?_ hn (fun _ h => h)
  intro J hJ ih hs
  by_cases e : J = []
  · subst e; rfl
  rw [ct_step ok hJ e, ct_step ok' hJ e]
  refine sg_congr fun c hc => ?_
  rw [h J hs c hc, ih c hc fun x hx => hs x (rm_sub _ _ _ hx)]
theorem ct_one {ok : List Int → Int → Bool} {c : Int} (h : ok [c] c = true) : ct ok [c] = 1 := by
  rw [ct_step ok (by simp) (by simp)]
  simp [h, rm]
theorem tc_one {ok : List Int → Int → Bool} {c : Int} (h : ok [c] c = true) (k : Nat) : tc ok [c] c k = if k = 0 then 1 else 0 := by
  rw [tc_step (by simp) (by simp)]
  by_cases e : k = 0
  · subst e; simp [h, rm]
  · simp [e, rm]
theorem ch_one : ∀ n : Nat, ch (n + 1) 1 = n + 1
  | 0 => rfl
  | n + 1 => by
    rw [ch, ch_one n]
    simp [ch]; omega
theorem Iso.okc {t s : Tab} {c : Int} (h : Iso t s c) (S : List Int) : okW (nd s) (takenI s) S c = true := okW_iff.mpr fun d _ n => by rw [h.out] at n; cases n
theorem Iso.ct {t s : Tab} {c : Int} (h : Iso t s c) : NS.ct (okW (nd s) (takenI s)) (takenI t) = LE (nd t) (takenI t) := by
  rw [ct_same (taken_nodup t) fun I hI a ha => h.ok hI ha, LE_W (nd_irr t) (taken_nodup t)]
theorem Iso.LE {t s : Tab} {c : Int} (h : Iso t s c) : NS.LE (nd s) (takenI s) = NS.LE (nd t) (takenI t) * ((takenI t).length + 1) := by
  rw [← LE_W (nd_irr s) (taken_nodup s), ct_parts (taken_nodup s) h.apart, h.fin, h.fout, h.ct, ct_one (h.okc _), h.len, List.length_singleton, ch_one, Nat.one_mul, Nat.mul_comm]
theorem Iso.tc {t s : Tab} {c : Int} (h : Iso t s c) {k : Nat} (hk : k ≤ (takenI t).length) : tcT s c k = NS.LE (nd t) (takenI t) := by
  unfold tcT
  rw [tc_parts (taken_nodup s) h.apart h.mem (by simp) k, h.fin, h.fout, h.ct]
  have e : (sg (List.range ((takenI t).length + 1)) fun j => if j ≤ k then NS.tc (okW (nd s) (takenI s)) [c] c (k - j) * bm [c].length (k - j) (takenI t).length j else 0) = 1 := by
    rw [sg_range_one (i := k) (by omega)]
    · rw [if_pos (Nat.le_refl _), Nat.sub_self, tc_one (h.okc _), if_pos rfl, Nat.one_mul]
      show bm (0 + 1) 0 _ k = 1
      rw [bm_last, Nat.zero_add, ch_self]
    · intro j _ hj
      split
      · rw [tc_one (h.okc _), if_neg (by omega), Nat.zero_mul]
      · rfl
  rw [e, Nat.mul_one]
theorem Iso.pos {t s : Tab} {c : Int} (h : Iso t s c) (p : Pos t) : Pos s := by
  have g : Ngap s := fun a d n => by
    have ne : a ≠ c := by rintro rfl; rw [h.out] at n; cases n
    rw [h.same a ne] at n
    exact mem_taken.mp (h.perm.mem_iff.mpr (List.mem_cons_of_mem _ (mem_taken.mpr (p.1 a d n))))
  refine pos_iff.mpr ⟨ngap_iff.mpr g, ?_⟩
  rw [h.LE]
  exact Nat.mul_pos (pos_iff.mp p).2 (by omega)
end NS
namespace NS
open PySem PySem.Spec PyProof.Rows L2
def clo (t : Tab) : Nat → Nat → List Int → List Int
  | 0, _, lot => lot
  | n + 1, r, lot => match lot[r]? with
    | none => lot
    | some a => clo t n (r + 1) (lot ++ (needI t a).filter fun d => !lot.contains d)
def certI (t : Tab) (c : Int) : List Int := sortI (clo t 13 0 (needI t c))
theorem need_nodup (t : Tab) (c : Int) : (needI t c).Nodup := by
  unfold needI
  split
  · exact rI_nodup _ _
  · exact List.nodup_nil
end NS
namespace NS
open PySem PySem.Spec PyProof.Rows L2
structure Spl (T A B : Tab) (b : Int) : Prop where
  low : ∀ c ∈ takenI A, c < b
  nn : ∀ c ∈ takenI B, 0 ≤ c
  tk : takenI T = takenI A ++ (takenI B).map (· + b)
  ndA : ∀ a ∈ takenI A, ∀ d, nd T a d = nd A a d
  ndB : ∀ a ∈ takenI B, ∀ d, nd T (a + b) d = nd B a (d - b)
  ngA : Ngap A
  ngB : Ngap B
section
variable {T A B : Tab} {b : Int}
theorem Spl.memA (h : Spl T A B b) {c : Int} (hc : c ∈ takenI A) : c ∈ takenI T := by rw [h.tk]; exact List.mem_append_left _ hc
theorem Spl.memB (h : Spl T A B b) {c : Int} (hc : c ∈ takenI B) : c + b ∈ takenI T := by rw [h.tk]; exact List.mem_append_right _ (List.mem_map.mpr ⟨c, hc, rfl⟩)
theorem Spl.cases (h : Spl T A B b) {c : Int} (hc : c ∈ takenI T) : (c ∈ takenI A ∧ c < b) ∨ ∃ d ∈ takenI B, c = d + b ∧ ¬ c < b := by
  rw [h.tk] at hc
  rcases List.mem_append.mp hc with hc | hc
  · exact .inl ⟨hc, h.low c hc⟩
  · obtain ⟨d, hd, rfl⟩ := List.mem_map.mp hc
    exact .inr ⟨d, hd, rfl, by have := h.nn d hd; omega⟩
theorem Spl.fA (h : Spl T A B b) : (takenI T).filter (fun d => decide (d < b)) = takenI A := by
  rw [h.tk, List.filter_append, List.filter_eq_self.mpr fun d hd => decide_eq_true (h.low d hd), List.filter_eq_nil_iff.mpr, List.append_nil]
  intro d hd
  obtain ⟨e, he, rfl⟩ := List.mem_map.mp hd
  have := h.nn e he
  simp; omega
theorem Spl.fB (h : Spl T A B b) : (takenI T).filter (fun d => !decide (d < b)) = (takenI B).map (· + b) := by
  rw [h.tk, List.filter_append, List.filter_eq_nil_iff.mpr, List.nil_append, List.filter_eq_self.mpr]
  · intro d hd
    obtain ⟨e, he, rfl⟩ := List.mem_map.mp hd
    have := h.nn e he
    simp; omega
  · intro d hd
    have := h.low d hd
    simp; omega
theorem Spl.apart (h : Spl T A B b) : Apart (okW (nd T) (takenI T)) (fun d => decide (d < b)) (takenI T) := by
  intro S hs a ha
  rcases h.cases (hs a ha) with ⟨h1, h2⟩ | ⟨d, h1, rfl, h2⟩
  · rw [if_pos (decide_eq_true h2)]
    refine bool_iff ?_
    rw [okW_iff, okW_iff]
    constructor
    · intro hh d hd n
      refine List.mem_filter.mpr ⟨hh d hd n, decide_eq_true (h.low d ?_)⟩
      rw [h.ndA a h1] at n
      exact mem_taken.mpr (h.ngA a d n)
    · intro hh d hd n; exact (List.mem_filter.mp (hh d hd n)).1
  · rw [if_neg (by simpa using h2)]
    refine bool_iff ?_
    rw [okW_iff, okW_iff]
    constructor
    · intro hh e he n
      refine List.mem_filter.mpr ⟨hh e he n, ?_⟩
      rw [h.ndB d h1] at n
      have := h.nn _ (mem_taken.mpr (h.ngB d _ n))
      simp; omega
    · intro hh e he n; exact (List.mem_filter.mp (hh e he n)).1
theorem Spl.okA (h : Spl T A B b) : ∀ I : List Int, (∀ x ∈ I, x ∈ takenI A) → ∀ c ∈ I, okW (nd T) (takenI T) I c = okW (nd A) (takenI A) I c := by
  intro I hI c hc
  refine bool_iff ?_
  rw [okW_iff, okW_iff]
  constructor
  · intro hh d hd n
    rw [← h.ndA c (hI c hc)] at n
    exact hh d (h.memA hd) n
  · intro hh d hd n
    rw [h.ndA c (hI c hc)] at n
    exact hh d (mem_taken.mpr (h.ngA c d n)) n
theorem Spl.okB (h : Spl T A B b) : ∀ I : List Int, (∀ x ∈ I, x ∈ takenI B) → ∀ c ∈ I, okW (nd T) (takenI T) (I.map (· + b)) (c + b) = okW (nd B) (takenI B) I c := by
  intro I hI c hc
  refine bool_iff ?_
  rw [okW_iff, okW_iff]
  constructor
  · intro hh d hd n
    have n2 : nd T (c + b) (d + b) = true := by rw [h.ndB c (hI c hc), show d + b - b = d by omega]; exact n
    obtain ⟨e, he, e2⟩ := List.mem_map.mp (hh (d + b) (h.memB hd) n2)
    have : e = d := by omega
    subst this; exact he
  · intro hh d hd n
    rw [h.ndB c (hI c hc)] at n
    exact List.mem_map.mpr ⟨d - b, hh _ (mem_taken.mpr (h.ngB c _ n)) n, by omega⟩
theorem inj_add (b : Int) : ∀ x y : Int, x + b = y + b → x = y := fun x y h => by omega
theorem Spl.LE (h : Spl T A B b) : NS.LE (nd T) (takenI T) = NS.LE (nd A) (takenI A) * NS.LE (nd B) (takenI B) * ch ((takenI A).length + (takenI B).length) (takenI A).length := by
  have hl : (takenI T).length = (takenI A).length + (takenI B).length := by rw [h.tk]; simp
  rw [← LE_W (nd_irr T) (taken_nodup T), ct_parts (taken_nodup T) h.apart, h.fA, h.fB, ct_same (taken_nodup A) h.okA, LE_W (nd_irr A) (taken_nodup A),
    ct_map (f := (· + b)) (ok' := okW (nd B) (takenI B)) (taken_nodup B) (fun x _ y _ e => inj_add b x y e) h.okB, LE_W (nd_irr B) (taken_nodup B), hl, Nat.mul_comm]
theorem Spl.need (h : Spl T A B b) {c : Int} (hc : c ∈ takenI B) : needI T (c + b) = (needI B c).map (· + b) := by
  have sorted : ∀ (t : Tab) (c : Int), (needI t c).Pairwise (· < ·) := fun t c => by
    unfold needI
    split
    · exact rI_sorted _ _
    · exact .nil
  refine sorted_perm_eq (sorted _ _) ?_ fun x => ?_
  · rw [List.pairwise_map]; exact (sorted B c).imp fun h => by omega
  · rw [mem_need, h.ndB c hc, List.mem_map]
    constructor
    · intro n; exact ⟨x - b, mem_need.mpr n, by omega⟩
    · rintro ⟨e, he, rfl⟩
      rw [show e + b - b = e by omega]; exact mem_need.mp he
theorem Spl.clo (h : Spl T A B b) : ∀ (n r : Nat) (lot : List Int), (∀ d ∈ lot, d ∈ takenI B) → NS.clo T n r (lot.map (· + b)) = (NS.clo B n r lot).map (· + b)
  | 0, _, _, _ => rfl
  | n + 1, r, lot, hl => by
    unfold NS.clo
    rw [List.getElem?_map]
    cases e : lot[r]? with
    | none => rfl
    | some a =>
      have ha := hl a (List.mem_of_getElem? e)
      show NS.clo T n (r + 1) _ = _
      have e2 : ((needI T (a + b)).filter fun d => !(lot.map (· + b)).contains d) = ((needI B a).filter fun d => !lot.contains d).map (· + b) := by
        rw [h.need ha, List.filter_map]
        congr 1
        refine List.filter_congr fun d _ => ?_
        simp only [Function.comp_apply]
        congr 1
        refine bool_iff ?_
        rw [List.contains_iff_mem, List.contains_iff_mem, List.mem_map]
        constructor
        · rintro ⟨z, hz, e⟩
          have : z = d := by omega
          subst this; exact hz
        · intro hd; exact ⟨d, hd, rfl⟩
      rw [e2, ← List.map_append]
      exact h.clo n (r + 1) _ fun d hd => by
        rcases List.mem_append.mp hd with hd | hd
        · exact hl d hd
        · exact mem_taken.mpr (h.ngB a d (mem_need.mp (List.mem_filter.mp hd).1))
theorem Spl.cl (h : Spl T A B b) {X Y : List Int} (hX : ∀ c ∈ X, c ∈ takenI A) (hY : ∀ c ∈ Y, c ∈ takenI B) : clB T (X ++ Y.map (· + b)) = (clB A X && clB B Y) := by
  refine bool_iff ?_
  rw [Bool.and_eq_true, clB_iff, clB_iff, clB_iff]
  have mA : ∀ d, d ∈ takenI A → (d ∈ X ++ Y.map (· + b) ↔ d ∈ X) := fun d hd => by
    rw [List.mem_append]
    refine ⟨fun z => z.elim id fun z => ?_, .inl⟩
    obtain ⟨e, he, rfl⟩ := List.mem_map.mp z
    have h1 := h.low _ hd
    have h2 := h.nn e (hY e he)
    omega
  have mB : ∀ d, d ∈ takenI B → (d + b ∈ X ++ Y.map (· + b) ↔ d ∈ Y) := fun d hd => by
    rw [List.mem_append]
    refine ⟨fun z => z.elim (fun z => ?_) fun z => ?_, fun z => .inr (List.mem_map.mpr ⟨d, z, rfl⟩)⟩
    · have h1 := h.low _ (hX _ z)
      have h2 := h.nn d hd
      omega
    · obtain ⟨e, he, e2⟩ := List.mem_map.mp z
      have : e = d := by omega
      subst this; exact he
  constructor
  · intro hh
    refine ⟨fun c hc d n => ?_, fun c hc d n => ?_⟩
    · have hd := mem_taken.mpr (h.ngA c d n)
      rw [← h.ndA c (hX c hc)] at n
      exact (mA d hd).mp (hh c (List.mem_append_left _ hc) d n)
    · have hd := mem_taken.mpr (h.ngB c d n)
      have n2 : nd T (c + b) (d + b) = true := by rw [h.ndB c (hY c hc), show d + b - b = d by omega]; exact n
      exact (mB d hd).mp (hh (c + b) (List.mem_append_right _ (List.mem_map.mpr ⟨c, hc, rfl⟩)) _ n2)
  · rintro ⟨h1, h2⟩ c hc d n
    rcases List.mem_append.mp hc with hc | hc
    · rw [h.ndA c (hX c hc)] at n
      exact List.mem_append_left _ (h1 c hc d n)
    · obtain ⟨e, he, rfl⟩ := List.mem_map.mp hc
      rw [h.ndB e (hY e he)] at n
      exact List.mem_append_right _ (List.mem_map.mpr ⟨d - b, h2 e he _ n, by omega⟩)
end
end NS
namespace NS
open PySem PySem.Spec PyProof.Rows L2
@[simp] theorem kIsNot_blk (a b : Bool) : kIsNot (.bl a) (.bl b) = M.pure (.bl (!decide (a = b))) := rfl
@[simp] theorem kRev_lst (xs : List D) : kRev (.lst xs) = M.pure (.lst xs.reverse) := rfl
end NS
namespace NS
open PySem PySem.Spec PyProof.Rows L2
theorem clo_good {t : Tab} (ok : Tok t) (ng : Ngap t) : ∀ (n r : Nat) (lot : List Int), r + n = 13 → lot.Nodup → (∀ d ∈ lot, d ∈ takenI t) → (∀ i, i < r → ∀ x, lot[i]? = some x → ∀ e, nd t x e = true → e ∈ lot) →
    (clo t n r lot).Nodup ∧ (∀ d ∈ clo t n r lot, d ∈ takenI t) ∧ ∀ d ∈ clo t n r lot, ∀ e, nd t d e = true → e ∈ clo t n r lot := by
  have stop : ∀ r (lot : List Int), lot[r]? = none → (∀ i, i < r → ∀ x, lot[i]? = some x → ∀ e, nd t x e = true → e ∈ lot) → ∀ d ∈ lot, ∀ e, nd t d e = true → e ∈ lot := fun r lot h hc d hd e n => by
    obtain ⟨i, hi⟩ := List.getElem?_of_mem hd
    have hl := (List.getElem?_eq_some_iff.mp hi).1
    have := List.getElem?_eq_none_iff.mp h
    exact hc i (by omega) d hi e n
  intro n
  induction n with
  | zero =>
    intro r lot hr nl sl hc
    have := Nat.le_trans (sub_len nl sl) (tl_le ok)
    exact ⟨nl, sl, stop r lot (List.getElem?_eq_none (by omega)) hc⟩
  | succ n ih =>
    intro r lot hr nl sl hc
    unfold clo
    cases e : lot[r]? with
    | none => exact ⟨nl, sl, stop r lot e hc⟩
    | some a =>
      have ha := sl a (List.mem_of_getElem? e)
      refine ih (r + 1) _ (by omega) (List.nodup_append.mpr ⟨nl, (need_nodup t a).filter _, fun b hb d hd e => by
        subst e
        have := (List.mem_filter.mp hd).2
        simp at this; exact this hb⟩) (fun d hd => ?_) fun i hi x hx z n => ?_
      · rcases List.mem_append.mp hd with h1 | h1
        · exact sl d h1
        · exact mem_taken.mpr (ng a d (mem_need.mp (List.mem_filter.mp h1).1))
      · have hl := (List.getElem?_eq_some_iff.mp e).1
        rw [List.getElem?_append_left (by omega)] at hx
        by_cases q : i = r
        · subst q
          rw [e] at hx; cases hx
          by_cases zl : z ∈ lot
          · exact List.mem_append_left _ zl
          · exact List.mem_append_right _ (List.mem_filter.mpr ⟨mem_need.mpr n, by simpa using zl⟩)
        · exact List.mem_append_left _ (hc i (by omega) x hx z n)
theorem clo_all {t : Tab} {Q : Int → Prop} (hq : ∀ d, Q d → ∀ e, nd t d e = true → Q e) : ∀ (n r : Nat) (lot : List Int), (∀ d ∈ lot, Q d) → ∀ d ∈ clo t n r lot, Q d
  | 0, _, _, h => h
  | n + 1, r, lot, h => by
    unfold clo
    cases e : lot[r]? with
    | none => exact h
    | some a =>
      refine clo_all hq n (r + 1) _ fun d hd => ?_
      rcases List.mem_append.mp hd with h1 | h1
      · exact h d h1
      · exact hq a (h a (List.mem_of_getElem? e)) d (mem_need.mp (List.mem_filter.mp h1).1)
theorem need_taken {t : Tab} (ng : Ngap t) {c d : Int} (h : nd t c d = true) : d ∈ takenI t := mem_taken.mpr (ng c d h)
end NS
namespace NS
open PySem PySem.Spec PyProof.Rows L2
theorem cert_facts {t : Tab} (ok : Tok t) (p : Pos t) (c : Int) : (∀ d ∈ certI t c, ∀ e, nd t d e = true → e ∈ certI t c) ∧ (certI t c).Pairwise (· < ·) ∧ ∀ Q : Int → Prop, (∀ d, nd t c d = true → Q d) → (∀ d, Q d → ∀ e, nd t d e = true → Q e) → ∀ d ∈ certI t c, Q d := by
  obtain ⟨cn, cs, cc⟩ := clo_good ok p.1 13 0 (needI t c) rfl (need_nodup t c) (fun d hd => need_taken p.1 (mem_need.mp hd)) (fun i hi => absurd hi (Nat.not_lt_zero i))
  have mc : ∀ x, x ∈ certI t c ↔ x ∈ clo t 13 0 (needI t c) := fun x => (sortI_perm _).mem_iff
  refine ⟨fun d hd e n => (mc e).mpr (cc d ((mc d).mp hd) e n), sortI_strict cn, fun Q q0 q1 d hd => clo_all q1 13 0 (needI t c) (fun e he => q0 e (mem_need.mp he)) d ((mc d).mp hd)⟩
structure EarlI (t : Tab) (c : Int) (i : Nat) (P : List Int) : Prop where
  nod : P.Nodup
  sub : ∀ d ∈ P, d ∈ takenI t
  min : ∀ d ∈ P, d ∈ certI t c
  need : ∀ d, nd t c d = true → d ∈ P
  prog : (∀ d ∈ P, ∀ e, nd t d e = true → e ∈ P) ∨ i < P.length
structure EarlJ (t : Tab) (c : Int) (P0 : List Int) (j : Nat) (P : List Int) : Prop where
  pre : ∃ X, P = P0 ++ X
  nod : P.Nodup
  sub : ∀ d ∈ P, d ∈ takenI t
  min : ∀ d ∈ P, d ∈ certI t c
  don : ∀ d ∈ P0.take j, ∀ e, nd t d e = true → e ∈ P
theorem EarlJ.step {t : Tab} (ok : Tok t) (p : Pos t) {c : Int} {P0 P : List Int} {j : Nat} (h : EarlJ t c P0 j P) {d : Int} (ed : P0[j]? = some d) : EarlJ t c P0 (j + 1) (P ++ (needI t d).filter fun e => !P.contains e) := by
  have cf := (cert_facts ok p c).1
  obtain ⟨X, hX⟩ := h.pre
  have dP : d ∈ P := by rw [hX]; exact List.mem_append_left _ (List.mem_of_getElem? ed)
  refine ⟨⟨X ++ (needI t d).filter fun e => !P.contains e, by rw [hX, List.append_assoc]⟩, List.nodup_append.mpr ⟨h.nod, (need_nodup t d).filter _, fun a ha b hb => ?_⟩, fun e he => ?_, fun e he => ?_, fun a ha e n => ?_⟩
  · rintro rfl
    have := (List.mem_filter.mp hb).2
    simp at this
    exact this ha
  · rcases List.mem_append.mp he with he | he
    · exact h.sub e he
    · exact need_taken p.1 (mem_need.mp (List.mem_filter.mp he).1)
  · rcases List.mem_append.mp he with he | he
    · exact h.min e he
    · exact cf d (h.min d dP) e (mem_need.mp (List.mem_filter.mp he).1)
  · rw [List.take_add_one, ed] at ha
    rcases List.mem_append.mp ha with ha | ha
    · exact List.mem_append_left _ (h.don a ha e n)
    · simp at ha; subst ha
      by_cases z : e ∈ P
      · exact List.mem_append_left _ z
      · exact List.mem_append_right _ (List.mem_filter.mpr ⟨mem_need.mpr n, by simpa using z⟩)
theorem EarlJ.done {t : Tab} (ok : Tok t) (p : Pos t) {c : Int} {i : Nat} {P0 P : List Int} (h : EarlJ t c P0 P0.length P) (h0 : EarlI t c i P0) : EarlI t c (i + 1) P := by
  obtain ⟨X, hX⟩ := h.pre
  have hd := h.don
  rw [List.take_length] at hd
  refine ⟨h.nod, h.sub, h.min, fun d n => by rw [hX]; exact List.mem_append_left _ (h0.need d n), ?_⟩
  by_cases z : X = []
  · subst z
    rw [List.append_nil] at hX
    subst hX
    exact .inl hd
  · rcases h0.prog with q | q
    · exfalso
      obtain ⟨e, he⟩ := List.exists_mem_of_ne_nil X z
      have e1 : e ∈ P := by rw [hX]; exact List.mem_append_right _ he
      have nod := h.nod
      rw [hX] at nod
      obtain ⟨_, _, n3⟩ := List.nodup_append.mp nod
      have : e ∈ P0 := (cert_facts ok p c).2.2 (fun d => d ∈ P0) h0.need q e (h.min e e1)
      exact n3 e this e he rfl
    · right
      have : 0 < X.length := List.length_pos_iff.mpr z
      rw [hX, List.length_append]; omega
theorem EarlI.fin {t : Tab} (ok : Tok t) (p : Pos t) {c : Int} {P : List Int} (h : EarlI t c t.length P) : sortI P = certI t c := by
  obtain ⟨_, c2, c3⟩ := cert_facts ok p c
  have cl : ∀ d ∈ P, ∀ e, nd t d e = true → e ∈ P := by
    rcases h.prog with q | q
    · exact q
    · exfalso
      have h1 := sub_len h.nod h.sub
      have h2 : (takenI t).length ≤ (rI 0 (tn t)).length := List.length_filter_le _ _
      rw [rI_len] at h2
      unfold tn at h2
      omega
  refine sorted_perm_eq (sortI_strict h.nod) c2 fun d => ⟨fun hd => h.min d ((sortI_perm P).mem_iff.mp hd), fun hd => (sortI_perm P).mem_iff.mpr (c3 (fun d => d ∈ P) h.need cl d hd)⟩
end NS
namespace NS
open PySem PySem.Spec PyProof.Rows L2
def okStr (x : Str) : Bool := PyData.strOk x && PyData.strOk (D.py (.str x)).shown && decide ((D.py (.str x)).shown.length ≤ 12)
mutual
def vOk (m : Int) : D → Bool
  | .non => true
  | .bl _ => true
  | .int i => decide (-m ≤ i ∧ i ≤ m)
  | .str x => okStr x
  | .tup xs => vOks m xs
  | .lst xs => vOks m xs
  | .hdl _ => false | .slst _ => false | .dT _ => false | .dK _ => false | .ftup _ => false | .fT _ => false | .exc0 _ => false | .exc1 _ _ _ => false
def vOks (m : Int) : List D → Bool
  | [] => true
  | x :: xs => vOk m x && vOks m xs
end
mutual
def wt : D → Nat
  | .tup xs => 4 + wts xs
  | .lst xs => 4 + wts xs
  | .non => 12 | .bl _ => 12 | .int _ => 12 | .str _ => 12 | .hdl _ => 12 | .slst _ => 12 | .dT _ => 12 | .dK _ => 12 | .ftup _ => 12 | .fT _ => 12 | .exc0 _ => 12 | .exc1 _ _ _ => 12
def wts : List D → Nat
  | [] => 0
  | x :: xs => 2 + wt x + wts xs
end
mutual
def dpt : D → Nat
  | .tup xs => dpts xs + 1
  | .lst xs => dpts xs + 1
  | .non => 0 | .bl _ => 0 | .int _ => 0 | .str _ => 0 | .hdl _ => 0 | .slst _ => 0 | .dT _ => 0 | .dK _ => 0 | .ftup _ => 0 | .fT _ => 0 | .exc0 _ => 0 | .exc1 _ _ _ => 0
def dpts : List D → Nat
  | [] => 0
  | x :: xs => max (dpt x) (dpts xs)
end
theorem vOk_mono {m m' : Int} (h : m ≤ m') : ∀ {d : D}, vOk m d = true → vOk m' d = true := by
  intro d
  refine D.rec (motive_1 := fun d => vOk m d = true → vOk m' d = true) (motive_2 := fun ds => vOks m ds = true → vOks m' ds = true) (motive_3 := fun _ => True) (motive_4 := fun _ => True) (motive_5 := fun _ => True) (motive_6 := fun _ => True) ?_ ?_ ?_ ?_ ?_ ?_ ?_ ?_ ?_ ?_ ?_ ?_ ?_ ?_ ?_ ?_ ?_ ?_ ?_ ?_ ?_ ?_ d
  all_goals first
    | (intros; trivial)
    | (intro i h1; simp only [vOk, decide_eq_true_eq] at h1 ⊢; omega)
    | (intro xs ih h1; simp only [vOk] at h1 ⊢; exact ih h1)
    | (intros; simp [vOk] at *; done)
    | (intro x xs h1 h2 h3; simp only [vOks, Bool.and_eq_true] at h3 ⊢; exact ⟨h1 h3.1, h2 h3.2⟩)
    | (intros; simp_all [vOk, vOks])
end NS
set_option maxHeartbeats 4000000
namespace NS
open PySem PySem.Spec PyProof.Rows L2
structure Pv (m : Int) (b k : Nat) (d : D) : Prop where
  ok : vOk m d = true
  wt : wt d ≤ b
  dp : dpt d ≤ k
theorem Pv.mono {m m' : Int} {b b' k k' : Nat} {d : D} (h : Pv m b k d) (h1 : m ≤ m') (h2 : b ≤ b') (h3 : k ≤ k') : Pv m' b' k' d := ⟨vOk_mono h1 h.ok, Nat.le_trans h.wt h2, Nat.le_trans h.dp h3⟩
theorem cutD_two {xs : List D} {j : Nat} (hj : j < xs.length) : cutD xs (some (j : Int)) (some ((j : Int) + 2)) = (xs.drop j).take 2 := by
  have s1 : HT.sIx xs.length 0 (some (j : Int)) = j := by rw [HT.sIx_nat]; omega
  have s2 : HT.sIx xs.length xs.length (some ((j : Int) + 2)) = min (j + 2) xs.length := by rw [show (j : Int) + 2 = ((j + 2 : Nat) : Int) by omega, HT.sIx_nat]
  unfold cutD
  rw [s1, s2]
  by_cases h : j + 2 ≤ xs.length
  · rw [Nat.min_eq_left h, show j + 2 - j = 2 by omega]
  · rw [Nat.min_eq_right (by omega), List.take_of_length_le (by simp), List.take_of_length_le (by simp; omega)]
end NS
set_option maxHeartbeats 1000000
namespace NS
open PySem PySem.Spec PyProof.Rows L2
theorem sTryV_ok {cs : List Str} {i j k n : Nat} {d : List D → M D} {fl : DS → M (List D)} {σ : DS} {g : G} {ds : List D} {Q : Fl → G → Prop} (hf : fl σ = M.pure ds) (h : T (callN n d ds) g fun y g2 => Q (.nx (σ.set k (some (.sh y)))) g2) : T (sTryV cs i j k n d fl σ) g Q := by
  obtain ⟨y, g2, e, q⟩ := h
  refine ⟨_, g2, ?_, q⟩
  unfold sTryV
  rw [hf, noerr_pure', pure_bind', e]
theorem sTryV_er {cs : List Str} {i j k n : Nat} {d : List D → M D} {fl : DS → M (List D)} {σ : DS} {g : G} {ds : List D} {Q : Fl → G → Prop} (hf : fl σ = M.pure ds) (h : Er (callN n d ds) g fun x g2 => cs.contains x.cls = true ∧ Q (.nx (((σ.set i none).set j (some (.sh (excD x)))).set i none)) g2) : T (sTryV cs i j k n d fl σ) g Q := by
  obtain ⟨x, g2, e, c, q⟩ := h
  refine ⟨_, g2, ?_, q⟩
  unfold sTryV
  rw [hf, noerr_pure', pure_bind', e]
  show (if cs.contains x.cls = true then Res.ok (Fl.nx (((σ.set i none).set j (some (.sh (excD x)))).set i none)) g2 else .bad) = _
  rw [if_pos c]
abbrev bt3 : List Str := ["BadLine", "BadText", "NoObject"]
theorem eIsEs_1 {cs ds : List Str} {c f : Str} {d : D} {σ : DS} {b : Bool} (i : Nat) (h : σ[i]? = some (some (.sh (.exc1 c f d)))) (hc : cs.contains c = true) (hb : (ds.any fun d => exIs c d) = b) : eIsEs cs ds (eVar i) σ = M.pure (.bl b) := by
  unfold eIsEs eVar
  rw [h]
  show (if cs.contains c = true then M.pure (D.bl (ds.any fun d => exIs c d)) else M.bad) = _
  rw [if_pos hc, hb]
theorem eIsE_i {cs : List Str} {x c f : Str} {d : D} {σ : DS} {b : Bool} (i : Nat) (h : σ[i]? = some (some (.sh (.exc1 c f d)))) (hc : cs.contains c = true) (hb : exIs c x = b) : eIsE cs x (eVar i) σ = M.pure (.bl b) := by
  unfold eIsE eVar
  rw [h]
  show (if cs.contains c = true then M.pure (D.bl (exIs c x)) else M.bad) = _
  rw [if_pos hc, hb]
theorem eFld_i {cs : List Str} {c f : Str} {d : D} {σ : DS} (i : Nat) (h : σ[i]? = some (some (.sh (.exc1 c f d)))) (hc : cs.contains c = true) : eFld cs f (eVar i) σ = M.pure d := by
  unfold eFld eVar
  rw [h]
  show (if (cs.contains c && f == f) = true then M.pure d else M.bad) = _
  rw [hc, beq_self_eq_true]; rfl
theorem told3_T {l : List Nat} (ha : asc l) (hl : l.length ≤ 500) {g : G} {Q : D → G → Prop} (q : Q (readD l) g) : T (d_Ltold_v3 [.str (txS l)]) g Q := by
  have kp : kIs .non .non = M.pure (.bl true) := rfl
  refine runD_T ?_
  unfold b_Ltold_v3
  unfold readD at q
  cases hb : badAt (splL 32 l).length (splL 32 l) with
  | none =>
    rw [hb] at q
    simp -implicitDefEqProofs [startD, setMs, mkV]
    refine sTryV_ok (ds := [.str (txS l)]) (by simp -implicitDefEqProofs) ?_
    refine table_in_T ha hl hb ?_
    simp -implicitDefEqProofs
    exact q
  | some j =>
    rw [hb] at q
    simp -implicitDefEqProofs [startD, setMs, mkV]
    refine sTryV_er (ds := [.str (txS l)]) (by simp -implicitDefEqProofs) ?_
    refine table_in_Er ha hl hb ⟨(by decide : bt3.contains "BadText" = true), ?_⟩
    have ex : excD ⟨"BadText", some ("entry", .int (j : Nat))⟩ = .exc1 "BadText" "entry" (.int (j : Nat)) := rfl
    have ki : ∀ c f x, (D.exc1 c f x).isN = false := fun _ _ _ => rfl
    have i1 : ∀ x0 x1 x3 x4, eIsE bt3 "BadText" (eVar 2) [x0, x1, some (.sh (.exc1 "BadText" "entry" (.int (j : Nat)))), x3, x4] = M.pure (.bl true) := fun x0 x1 x3 x4 => eIsE_i 2 rfl (by decide) (by decide)
    have i2 : ∀ x0 x1 x3 x4, eIsE bt3 "ValueError" (eVar 2) [x0, x1, some (.sh (.exc1 "BadText" "entry" (.int (j : Nat)))), x3, x4] = M.pure (.bl true) := fun x0 x1 x3 x4 => eIsE_i 2 rfl (by decide) (by decide)
    have i3 : ∀ x0 x1 x3 x4, eIsEs bt3 ["BadLine", "NoObject"] (eVar 2) [x0, x1, some (.sh (.exc1 "BadText" "entry" (.int (j : Nat)))), x3, x4] = M.pure (.bl false) := fun x0 x1 x3 x4 => eIsEs_1 2 rfl (by decide) (by decide)
    have i4 : ∀ x0 x1 x3 x4, eFld bt3 "entry" (eVar 2) [x0, x1, some (.sh (.exc1 "BadText" "entry" (.int (j : Nat)))), x3, x4] = M.pure (.int (j : Nat)) := fun x0 x1 x3 x4 => eFld_i 2 rfl (by decide)
    simp -implicitDefEqProofs [ex, ki, i1, i2, i3, i4]
    exact q
theorem choiceT_T {k m : Nat} {g : G} {l : List Nat} (h : Src k (m + 2) g) (h0 : l ≠ []) (hl : l.length < 1000) {Q : D → G → Prop} (q : ∀ c ∈ l, ∀ g', Go k m g g' → Q (.str (txS [c])) g') : T (d_Lchoice [.hdl k, .str (txS l)]) g Q := by
  have hp : 0 < l.length := List.length_pos_iff.mpr h0
  have kl := kLen_txt l (by omega)
  refine runD_T ?_
  unfold b_Lchoice
  simp -implicitDefEqProofs [startD, kl]
  refine draw_G h (by omega) (by omega) fun r g' h1 h2 go => ?_
  obtain ⟨j, rfl⟩ := Int.eq_ofNat_of_zero_le h1
  have hj : j < l.length := by omega
  have kx := kIx_txt (l := l) (by omega) (List.getElem?_eq_getElem hj)
  simp -implicitDefEqProofs [kx]
  exact q _ (List.getElem_mem hj) _ go
theorem s_signs : Str.ofString "0123456789 -+_.a(" = txS [48, 49, 50, 51, 52, 53, 54, 55, 56, 57, 32, 45, 43, 95, 46, 97, 40] := by decide +kernel
def okT (n : Nat) (d : D) : Prop := ∃ l, d = .str (txS l) ∧ asc l ∧ l.length ≤ n
theorem okT.mono {n m : Nat} (h : n ≤ m) {d : D} (o : okT n d) : okT m d := by
  obtain ⟨l, e, a, b⟩ := o; exact ⟨l, e, a, by omega⟩
theorem sum_take (l : List Nat) (k : Nat) : (l.take k).sum + (l.drop k).sum = l.sum := by
  rw [← List.sum_append, List.take_append_drop]
theorem joined {c : Nat} {l : List Nat} (hc : c < 128) {qs : List (List Nat)} (hl : l.length ≤ 1000) (hq : ∀ p ∈ qs, asc p) (hs : (qs.map List.length).sum + qs.length ≤ 2 * (l.length + 1)) : ∃ y, kJoin (.str (txS [c])) (.lst (qs.map fun p => .str (txS p))) = M.pure y ∧ okT (2 * l.length + 2) y := by
  refine ⟨_, kJoin_tS (g := [c]) (by simp; omega), joinL [c] qs, rfl, joinL_asc (asc_one hc) hq, ?_⟩
  have := joinL_len [c] qs
  simp at this
  omega
def bTc : DS → M Fl :=
  (sSeq (sSet false 6 (eStrM kSplit (eVar 1) (eVar 5)))
    (sSeq (sSet false 7 (eArgs (callN 2 (d_Ldraw 3)) (lCons (eVar 0) (lCons (eArgs kLen (lCons (eVar 6) lNil)) lNil))))
    (sSeq (sIf (eTst (eBin kEq (eBin kMod (eVar 3) (eC (.int 3))) (eC (.int 0))))
    (sRet (eStrM kJoin (eVar 5) (eBin kAdd (eSl kSl (eVar 6) oNone (oSome (eVar 7))) (eSl kSl (eVar 6) (oSome (eBin kAdd (eVar 7) (eC (.int 1)))) oNone))))
    sNil)
    (sSeq (sIf (eTst (eBin kEq (eBin kMod (eVar 3) (eC (.int 3))) (eC (.int 1))))
    (sRet (eStrM kJoin (eVar 5) (eBin kAdd (eSl kSl (eVar 6) oNone (oSome (eBin kAdd (eVar 7) (eC (.int 1))))) (eSl kSl (eVar 6) (oSome (eVar 7)) oNone))))
    sNil)
    (sSeq (sSet false 8 (eRev (eSl kSl (eVar 6) (oSome (eVar 7)) (oSome (eBin kAdd (eVar 7) (eC (.int 2)))))))
    (sRet (eStrM kJoin (eVar 5) (eBin kAdd (eBin kAdd (eSl kSl (eVar 6) oNone (oSome (eVar 7))) (eVar 8)) (eSl kSl (eVar 6) (oSome (eBin kAdd (eVar 7) (eC (.int 2)))) oNone)))))))))
theorem bTc_eq : b_Ltext_changed =
  (sSeq (sPar [2, 3, 4] [false, false, false] (lCons (eArgs (callN 2 (d_Ldraw 3)) (lCons (eVar 0) (lCons (eBin kAdd (eArgs kLen (lCons (eVar 1) lNil)) (eC (.int 1))) lNil))) (lCons (eArgs (callN 2 (d_Ldraw 3)) (lCons (eVar 0) (lCons (eC (.int 8)) lNil))) (lCons (eArgs (callN 2 d_Lchoice) (lCons (eVar 0) (lCons (eC (.str "0123456789 -+_.a(")) lNil))) lNil))))
    (sSeq (sIf (eTst (eBin kEq (eVar 3) (eC (.int 0))))
    (sRet (eBin kAdd (eBin kAdd (eSl kSl (eVar 1) oNone (oSome (eVar 2))) (eVar 4)) (eSl kSl (eVar 1) (oSome (eVar 2)) oNone)))
    sNil)
    (sSeq (sIf (eTst (eBin kEq (eVar 3) (eC (.int 1))))
    (sRet (eBin kAdd (eSl kSl (eVar 1) oNone (oSome (eVar 2))) (eSl kSl (eVar 1) (oSome (eBin kAdd (eVar 2) (eC (.int 1)))) oNone)))
    sNil)
    (sSeq (sIf (eTst (eBin kEq (eVar 3) (eC (.int 2))))
    (sRet (eBin kAdd (eBin kAdd (eSl kSl (eVar 1) oNone (oSome (eVar 2))) (eVar 4)) (eSl kSl (eVar 1) (oSome (eBin kAdd (eVar 2) (eC (.int 1)))) oNone)))
    sNil)
    (sSeq (sSet false 5 (eIf (eTst (eBin kGt (eVar 3) (eC (.int 5)))) (eC (.str "\n")) (eC (.str " ")))) bTc ))))) := rfl
theorem changed_T {k m : Nat} {g : G} {l : List Nat} (hs : Src k (m + 20) g) (ha : asc l) (hl : l.length ≤ 400) {Q : D → G → Prop} (q : ∀ y g', okT (2 * l.length + 2) y → Go k m g g' → Q y g') : T (d_Ltext_changed [.hdl k, .str (txS l)]) g Q := by
  have kl := kLen_txt l (by omega)
  refine runD_T ?_
  rw [bTc_eq]
  rw [s_signs, s_nl, s_blank]
  simp -implicitDefEqProofs [startD, setMs, mkV, kl]
  refine draw_G (m := m + 16) (hs.mono (by omega)) (by omega) (by omega) fun at_ g1 a1 a2 o1 => ?_
  refine draw_G (m := m + 12) (o1.1.mono (by omega)) (by omega) (by omega) fun way g2 b1 b2 o2 => ?_
  refine choiceT_T (m := m + 8) (o2.1.mono (by omega)) (by decide) (by decide) fun c hc g3 o3 => ?_
  have c128 : c < 128 := by
    have : ∀ c ∈ ([48, 49, 50, 51, 52, 53, 54, 55, 56, 57, 32, 45, 43, 95, 46, 97, 40] : List Nat), c < 128 := by decide
    exact this c hc
  have og : Go k (m + 8) g g3 := ((o1.mono (by omega : m + 8 ≤ m + 16)).trans (o2.mono (by omega : m + 8 ≤ m + 12))).trans o3
  obtain ⟨j, rfl⟩ := Int.eq_ofNat_of_zero_le a1
  have hj : j ≤ l.length := by omega
  have s1 := kSl_take (l := l) (by omega) j
  have s2 := kSl_drop (l := l) (by omega) j
  have s3 : kSl (some ((j : Int) + 1)) none (.str (txS l)) = M.pure (.str (txS (l.drop (j + 1)))) := kSl_drop (l := l) (by omega) (j + 1)
  have lt : (l.take j).length = j := by rw [List.length_take]; omega
  have ld : (l.drop j).length = l.length - j := List.length_drop ..
  have ld1 : (l.drop (j + 1)).length = l.length - (j + 1) := List.length_drop ..
  have p1 := kAdd_txt (a := l.take j) (b := [c]) (by simp; omega)
  have p2 := kAdd_txt (a := l.take j ++ [c]) (b := l.drop j) (by simp; omega)
  have p3 := kAdd_txt (a := l.take j) (b := l.drop (j + 1)) (by omega)
  have p4 := kAdd_txt (a := l.take j ++ [c]) (b := l.drop (j + 1)) (by simp; omega)
  by_cases w0 : way = 0
  · subst w0
    simp -implicitDefEqProofs [s1, s2, p1, p2]
    exact q _ _ ⟨l.take j ++ [c] ++ l.drop j, by simp, asc_app (asc_app (asc_take ha j) (asc_one c128)) (asc_drop ha j), by simp; omega⟩ (og.mono (by omega))
  by_cases w1 : way = 1
  · subst w1
    simp -implicitDefEqProofs [s1, s3, p3]
    exact q _ _ ⟨l.take j ++ l.drop (j + 1), rfl, asc_app (asc_take ha j) (asc_drop ha _), by simp; omega⟩ (og.mono (by omega))
  by_cases w2 : way = 2
  · subst w2
    simp -implicitDefEqProofs [s1, s3, p1, p4]
    exact q _ _ ⟨l.take j ++ [c] ++ l.drop (j + 1), by simp, asc_app (asc_app (asc_take ha j) (asc_one c128)) (asc_drop ha _), by simp; omega⟩ (og.mono (by omega))
  clear s1 s2 s3 p1 p2 p3 p4 lt ld ld1
  have rest : ∀ d, (d = 10 ∨ d = 32) → ∀ (x2 x4 x7 x8 : Option DV), T (bTc [some (.sh (.hdl k)), some (.sh (.str (txS l))), x2, some (.sh (.int way)), x4, some (.sh (.str (txS [d]))), none, x7, x8]) g3 (RQ false Q) := by
    intro d hd x2 x4 x7 x8
    unfold bTc
    have d256 : d < 128 := by omega
    have ks := kSplit_tS (l := l) (c := d) (by omega) (by omega)
    have sl := splL_len d l
    have sm := splL_sum d l
    have sn : 0 < (splL d l).length := List.length_pos_iff.mpr (splL_ne d l)
    have sa := splL_asc (c := d) ha
    generalize splL d l = ps at *
    simp -implicitDefEqProofs [ks]
    refine draw_G (m := m + 4) (og.1.mono (by omega)) (by omega) (by omega) fun sp g4 h1 h2 o4 => ?_
    have o5 : Go k m g g4 := (og.mono (by omega : m ≤ m + 8)).trans (o4.mono (by omega))
    obtain ⟨i, rfl⟩ := Int.eq_ofNat_of_zero_le h1
    have hi : i < ps.length := by omega
    have st := fun n => sum_take (ps.map List.length) n
    let f : List Nat → D := fun p => .str (txS p)
    have c1 : cutD (ps.map fun p => .str (txS p)) none (some (i : Int)) = (ps.take i).map fun p => .str (txS p) := by rw [cutD_take _ _ h1, List.map_take]; rfl
    have c2 : cutD (ps.map fun p => .str (txS p)) (some ((i : Int) + 1)) none = (ps.drop (i + 1)).map fun p => .str (txS p) := by rw [cutD_drop _ _ (by omega), List.map_drop]; rfl
    have c3 : cutD (ps.map fun p => .str (txS p)) none (some ((i : Int) + 1)) = (ps.take (i + 1)).map fun p => .str (txS p) := by rw [cutD_take _ _ (by omega), List.map_take]; rfl
    have c4 : cutD (ps.map fun p => .str (txS p)) (some (i : Int)) none = (ps.drop i).map fun p => .str (txS p) := by rw [cutD_drop _ _ h1, List.map_drop]; rfl
    have c5 : cutD (ps.map fun p => .str (txS p)) (some (i : Int)) (some ((i : Int) + 2)) = ((ps.drop i).take 2).map fun p => .str (txS p) := by rw [cutD_two (by simpa using hi), List.map_take, List.map_drop]
    have c6 : cutD (ps.map fun p => .str (txS p)) (some ((i : Int) + 2)) none = (ps.drop (i + 2)).map fun p => .str (txS p) := by rw [cutD_drop _ _ (by omega), List.map_drop]; rfl
    have mt : ∀ n, ∀ p ∈ ps.take n, asc p := fun n p hp => sa p (List.mem_of_mem_take hp)
    have md : ∀ n, ∀ p ∈ ps.drop n, asc p := fun n p hp => sa p (List.mem_of_mem_drop hp)
    have fin : ∀ qs : List (List Nat), (∀ p ∈ qs, asc p) → (qs.map List.length).sum + qs.length ≤ 2 * (l.length + 1) → T (kJoin (.str (txS [d])) (.lst (qs.map fun p => .str (txS p)))) g4 fun a g' => Q a g' := fun qs h1 h2 => by
      obtain ⟨y, e, o⟩ := joined (c := d) (l := l) d256 (by omega) h1 h2
      rw [e, T_pure]
      exact q y g4 o o5
    have l1 : (ps.take i).length ≤ i := by rw [List.length_take]; omega
    have l2 : (ps.drop (i + 1)).length = ps.length - (i + 1) := List.length_drop ..
    have l3 : (ps.take (i + 1)).length ≤ i + 1 := by rw [List.length_take]; omega
    have l4 : (ps.drop i).length = ps.length - i := List.length_drop ..
    have l5 : ((ps.drop i).take 2).length ≤ 2 := by rw [List.length_take]; omega
    have l6 : (ps.drop (i + 2)).length = ps.length - (i + 2) := List.length_drop ..
    have q0 := fin (ps.take i ++ ps.drop (i + 1)) (fun p hp => (List.mem_append.mp hp).elim (mt _ p) (md _ p)) (by
      have a1 := st i
      have a2 := st (i + 1)
      have a3 := sum_take ((ps.map List.length).drop i) 1
      rw [List.drop_drop] at a3
      simp only [List.map_append, List.sum_append, List.length_append, List.map_take, List.map_drop]
      omega)
    have q1 := fin (ps.take (i + 1) ++ ps.drop i) (fun p hp => (List.mem_append.mp hp).elim (mt _ p) (md _ p)) (by
      have a1 := st i
      have a2 := st (i + 1)
      simp only [List.map_append, List.sum_append, List.length_append, List.map_take, List.map_drop]
      omega)
    have q2 := fin (ps.take i ++ (((ps.drop i).take 2).reverse ++ ps.drop (i + 2))) (fun p hp => (List.mem_append.mp hp).elim (mt _ p) fun hp => (List.mem_append.mp hp).elim (fun hp => md i p (List.mem_of_mem_take (List.mem_reverse.mp hp))) (md _ p)) (by
      have a1 := st i
      have a3 := sum_take ((ps.map List.length).drop i) 2
      rw [List.drop_drop] at a3
      simp only [List.map_append, List.sum_append, List.length_append, List.map_reverse, List.sum_reverse, List.length_reverse, List.map_take, List.map_drop]
      omega)
    simp only [List.map_append, List.map_reverse] at q0 q1 q2
    simp -implicitDefEqProofs [c1, c2, c3, c4, c5, c6, -List.length_take, -List.length_drop, -List.map_take, -List.map_drop]
    refine ⟨fun _ => ⟨by omega, q0⟩, fun _ => ⟨fun _ => ⟨by omega, q1⟩, fun _ => ⟨by omega, by omega, q2⟩⟩⟩
  by_cases h5 : 5 < way
  · simp -implicitDefEqProofs [w0, w1, w2, h5]
    exact rest 10 (.inl rfl) _ _ _ _
  · simp -implicitDefEqProofs [w0, w1, w2, h5]
    exact rest 32 (.inr rfl) _ _ _ _
end NS
set_option maxHeartbeats 1000000
namespace NS
open PySem PySem.Spec PyProof.Rows L2
theorem tab_ne {t : Tab} (h : 1 ≤ tn t) : t ≠ [] := fun z => by subst z; simp [tn] at h
theorem entry_self {t : Tab} (ok : Tok t) {e : Ent} (he : e ∈ t) : entryI t.length (entL e) = some e := by
  cases e with
  | e => rfl
  | u => rfl
  | w v =>
    have hw := tab_wish ok he v rfl
    unfold tn at hw
    obtain ⟨n, rfl⟩ := Int.eq_ofNat_of_zero_le hw.1
    have hn : entL (.w (n : Int)) = dg n := rfl
    rw [hn]
    have ha := dg_all n
    have n1 : dg n ≠ [45] := fun z => by have := ha 45 (by rw [z]; simp); omega
    have n2 : dg n ≠ [63] := fun z => by have := ha 63 (by rw [z]; simp); omega
    unfold entryI
    rw [if_neg n1, if_neg n2, dv_dg, if_pos ⟨dg_dec n, by omega⟩]
theorem got_self {t : Tab} (ok : Tok t) : ∀ s : Tab, (∀ e ∈ s, e ∈ t) → gotI t.length (s.map entL) = s ∧ badAt t.length (s.map entL) = none := fun s hs => by
  constructor
  · induction s with
    | nil => rfl
    | cons e s ih =>
      unfold gotI at *
      rw [List.map_cons, List.filterMap_cons, entry_self ok (hs e (by simp))]
      show e :: _ = _
      rw [ih fun x hx => hs x (List.mem_cons_of_mem _ hx)]
  · refine List.findIdx?_eq_none_iff.mpr fun p hp => ?_
    obtain ⟨e, he, rfl⟩ := List.mem_map.mp hp
    rw [entry_self ok (hs e he)]; rfl
theorem split_tab {t : Tab} (h : 1 ≤ tn t) : splL 32 (tabL t) = t.map entL := splL_join (by simpa using tab_ne h) fun p hp => by
  obtain ⟨e, _, rfl⟩ := List.mem_map.mp hp
  exact entL_no e
theorem read_back {t : Tab} (ok : Tok t) (h : 1 ≤ tn t) {g : G} {Q : D → G → Prop} (q : Q (.tup (t.map Ent.d)) g) : T (d_table_in [.str (txS (tabL t))]) g Q := by
  obtain ⟨g1, g2⟩ := got_self ok t fun _ h => h
  have hl := tabL_len ok
  have hs := split_tab h
  refine table_in_T (tabL_asc t) (by omega) (by rw [hs, List.length_map]; exact g2) ?_
  rw [hs, List.length_map, g1]
  exact q
theorem readD_pl {l : List Nat} (hl : l.length ≤ 500) : D.pl 7 (readD l) = true := by
  unfold readD
  cases badAt (splL 32 l).length (splL 32 l) with
  | some j => rfl
  | none =>
    have h1 := got_len (splL 32 l).length (splL 32 l)
    have h2 := splL_len 32 l
    show D.pl (6 + 1) (.tup _) = true
    rw [pl_tup, List.length_map, decide_eq_true (by omega), Bool.true_and, List.all_map]
    exact List.all_eq_true.mpr fun e _ => pl_ent 6 e
theorem okT_lit (x : Str) (h : x.cps.toList.all (· < 128) = true) (h2 : x.length ≤ 500) : okT 500 (.str x) := ⟨x.cps.toList, by rw [txS_cps], fun c hc => by simpa using List.all_eq_true.mp h c hc, h2⟩
theorem holds_k39 : ∀ k m g, Src k (m + 100000000) g → T (d_Lholds_k39 [.hdl k]) g fun d g' => d = .bl true ∧ Src k m g' := by
  intro k m g hs
  refine runD_T ?_
  unfold b_Lholds_k39
  simp -implicitDefEqProofs [startD]
  refine Lany_T (m := m + 10000) (hs.mono (by omega)) (by omega) (by omega) fun t g1 ok h1 h2 o1 => ?_
  have tb : Tb (.tup (t.map Ent.d)) t := .inl rfl
  have tb2 : Tb (.lst (t.map Ent.d)) t := .inr (.inl rfl)
  have w := Lwritten_T tb ok
  have x1 := table_text_T tb ok
  have x2 := table_text_T tb2 ok
  have kl : kList [.tup (t.map Ent.d)] = M.pure (.lst (t.map Ent.d)) := rfl
  simp -implicitDefEqProofs [w, x1, x2, kl]
  refine read_back ok h1 (read_back ok h1 ?_)
  refine (T_ok (equal_self 7 _ (by
    have := ok.len
    simp [pl_lst, asc_ok (tabL_asc t), pl_ent]; omega) g1)).mpr ?_
  simp -implicitDefEqProofs
  have m9 : kMulS (.str "9") (.int 150) = M.pure (.str (strMul "9" 150)) := by
    show (if (2 : Int) ≤ 150 ∧ (150 : Int) ≤ 1000 ∧ 0 < Str.length "9" ∧ Str.length "9" ≤ 1000 then M.pure (D.str (strMul "9" 150)) else M.bad : M D) = _
    rw [if_pos ⟨by omega, by omega, by decide +kernel, by decide +kernel⟩]
  have ma : kAdd (.str (strMul "9" 150)) (.str " -") = M.pure (.str (strMul "9" 150 ++ " -")) := by
    show (if fit ((strMul "9" 150).length + Str.length " -") = true then M.pure (D.str (strMul "9" 150 ++ " -")) else M.bad : M D) = _
    rw [if_pos (by decide +kernel)]
  have mj : kJoin (.str " ") (.lst [.str "12", .str "12", .str "12", .str "12", .str "12", .str "12", .str "12", .str "12", .str "12", .str "12", .str "12", .str "12", .str "12"]) = M.pure (.str (txS (joinL [32] (List.replicate 13 [49, 50])))) := by
    have s12 : Str.ofString "12" = txS [49, 50] := by decide +kernel
    rw [s_blank, s12]
    exact kJoin_tS (ps := List.replicate 13 [49, 50]) (by decide)
  rw [m9, T_pure, ma, T_pure, mj, T_pure]
  have ok0 : ∀ d ∈ ([.str "", .str " ", .str "0", .str "1", .str "-", .str "?", .str "- ", .str " -", .str "-  -", .str "0 1", .str "0 2", .str "1 0 3", .str "00", .str "0 01", .str "? ? ?", .str "-1 0", .str "+0", .str "0_0", .str "a", .str "? a -", .str "--", .str "??", .str "0 0 0 0", .str "0,1",
      .str "0\n1", .str "10 - - - - - - - - - -", .str "- - 3", .str "99999999999999999999", .str (strMul "9" 150 ++ " -"), .str (txS (joinL [32] (List.replicate 13 [49, 50])))] : List D), okT 500 d := by
    have all : ∀ x ∈ (["", " ", "0", "1", "-", "?", "- ", " -", "-  -", "0 1", "0 2", "1 0 3", "00", "0 01", "? ? ?", "-1 0", "+0", "0_0", "a", "? a -", "--", "??", "0 0 0 0", "0,1",
      "0\n1", "10 - - - - - - - - - -", "- - 3", "99999999999999999999", strMul "9" 150 ++ " -", txS (joinL [32] (List.replicate 13 [49, 50]))] : List Str), x.cps.toList.all (· < 128) = true ∧ x.length ≤ 500 := by decide +kernel
    intro d hd
    have : ∃ x ∈ (["", " ", "0", "1", "-", "?", "- ", " -", "-  -", "0 1", "0 2", "1 0 3", "00", "0 01", "? ? ?", "-1 0", "+0", "0_0", "a", "? a -", "--", "??", "0 0 0 0", "0,1",
      "0\n1", "10 - - - - - - - - - -", "- - 3", "99999999999999999999", strMul "9" 150 ++ " -", txS (joinL [32] (List.replicate 13 [49, 50]))] : List Str), D.str x = d := List.mem_map.mp hd
    obtain ⟨x, hx, rfl⟩ := this
    exact okT_lit x (all x hx).1 (all x hx).2
  generalize hds : ([.str "", .str " ", .str "0", .str "1", .str "-", .str "?", .str "- ", .str " -", .str "-  -", .str "0 1", .str "0 2", .str "1 0 3", .str "00", .str "0 01", .str "? ? ?", .str "-1 0", .str "+0", .str "0_0", .str "a", .str "? a -", .str "--", .str "??", .str "0 0 0 0", .str "0,1",
      .str "0\n1", .str "10 - - - - - - - - - -", .str "- - 3", .str "99999999999999999999", .str (strMul "9" 150 ++ " -"), .str (txS (joinL [32] (List.replicate 13 [49, 50])))] : List D) = ds at *
  have dl : ds.length = 30 := by rw [← hds]; rfl
  clear hds
  have tl := tabL_len ok
  refine forM_T (fun i σ g' => (∃ x1 x3 x5 x6 x7 ds', σ = [some (.sh (.hdl k)), x1, some (.sh (.str (txS (tabL t)))), x3, some (.ow (.lst ds')), x5, x6, x7] ∧ (∀ d ∈ ds', okT 500 d) ∧ ds'.length = 30 + i) ∧ Go k (m + 100 * (14 - i)) g g') (n := 0) ?_ ⟨⟨_, _, _, _, _, ds, rfl, ok0, dl⟩, o1.mono (by omega)⟩ ?_
  · rintro i d σ g2 e ⟨⟨x1, x3, x5, x6, x7, ds', rfl, hd, hl⟩, o2⟩
    obtain ⟨rfl, hi⟩ := rngD_get e
    rw [Nat.zero_add] at hl o2 ⊢
    have hi : i < 14 := by omega
    obtain ⟨m', em⟩ : ∃ m', m + 100 * (14 - i) = m' + 100 := ⟨m + 100 * (13 - i), by omega⟩
    have em2 : m + 100 * (14 - (i + 1)) = m' := by omega
    rw [em] at o2
    rw [em2]
    simp -implicitDefEqProofs
    refine changed_T (m := m' + 60) (o2.1.mono (by omega)) (tabL_asc t) (by omega) fun y g3 oy o3 => ?_
    have oy74 : okT 500 y := oy.mono (by omega)
    refine draw_G (m := m' + 40) (o3.1.mono (by omega)) (by omega) (by omega) fun r g4 r1 r2 o4 => ?_
    have o234 : Go k (m' + 40) g g4 := ((o2.mono (by omega : m' + 40 ≤ m' + 100)).trans (o3.mono (by omega : m' + 40 ≤ m' + 60))).trans o4
    simp -implicitDefEqProofs
    refine ⟨fun _ => ?_, fun _ => ?_⟩
    · obtain ⟨l, rfl, al, ll⟩ := oy
      refine changed_T (m := m' + 10) (o4.1.mono (by omega)) al (by omega) fun z g5 oz o5 => ?_
      have of : Go k m' g g5 := (o234.trans o5).mono (by omega)
      refine ⟨by omega, fun d hd' => ?_, by first | exact of | exact ⟨by omega, of⟩⟩
      rcases hd' with h | h
      · exact hd d h
      · rw [h]; exact oz.mono (by omega)
    · have of : Go k m' g g4 := o234.mono (by omega)
      refine ⟨by omega, fun d hd' => ?_, by first | exact of | exact ⟨by omega, of⟩⟩
      rcases hd' with h | h
      · exact hd d h
      · rw [h]; exact oy74
  · rintro σ g2 ⟨⟨x1, x3, x5, x6, x7, ds', rfl, hd, hl⟩, o2⟩
    simp -implicitDefEqProofs at hl ⊢
    refine ⟨by omega, ?_⟩
    refine compM_T (fun n rs g' => rs = List.replicate n (.bl true) ∧ g' = g2) (n := 0) (rs := []) ?_ ⟨rfl, rfl⟩ fun rs g' ⟨e, eg⟩ => ?_
    · rintro i d g' rs e ⟨rfl, rfl⟩
      obtain ⟨l, rfl, al, ll⟩ := hd d (List.mem_of_getElem? e)
      simp -implicitDefEqProofs
      refine told3_T al ll (Lread_T al ll ?_)
      refine (T_ok (equal_self 7 _ (readD_pl ll) _)).mpr ?_
      exact ⟨by rw [List.replicate_succ'], rfl⟩
    · subst eg
      rw [List.nil_append] at e
      rw [e]
      simp -implicitDefEqProofs [kOfBls, bls_rep']
      exact o2.1.mono (by omega)
theorem law_k39 : ∀ ns : List Int, ns.length ≤ 63 → ∃ g', d_law_k39 [.slst (ns.map .int)] [] = .ok (.bl true) g' := law_B (N := 3) (n := 2) holds_k39
end NS
open PySem PySem.W PyProof.Rows
set_option maxHeartbeats 0 in
theorem PySem.Challenge.cw_nearslot_k39_texts_of_tables_holds : PySem.Challenge.rw_nearslot_k39_texts_of_tables.Holds := by
  w_on; o_law; k_head; (case hw => w_witness2)
  k_fill
  refine NS.walk_E (l := PySem.Challenge.rw_nearslot_k39_texts_of_tables) (n := 63) (k := 11) (x := "_law_script") (d := _) (K := _) (m := false) (f := NS.d_law_k39) rfl (by decide) rfl ⟨⟨rfl, by decide, by decide⟩, rfl⟩ (fun w h Y => by first | exact PySem.W.kIn_of Y | exact PySem.W.km_in_of Y) ?F NS.law_k39
  case F =>
    intro w mg fa h KX G hmg
    refine' NS.all_mk KX G hmg ?a0 ?l0 ?c0 ?k0 ?a1 ?l1 ?c1 ?k1 ?a2 ?l2 ?c2 ?k2 ?a3 ?l3 ?c3 ?k3 ?a4 ?l4 ?c4 ?k4 ?a5 ?l5 ?c5 ?k5 ?a6 ?l6 ?c6 ?k6 ?a7 ?l7 ?c7 ?k7 ?a8 ?l8 ?c8 ?k8 ?a9 ?l9 ?c9 ?k9 ?a10 ?l10 ?c10 ?k10 ?a11 ?l11 ?c11 ?k11 ?a12 ?l12 ?c12 ?k12 ?a13 ?l13 ?c13 ?k13 ?a14 ?l14 ?c14 ?k14 ?a15 ?l15 ?c15 ?k15 ?a16 ?l16 ?c16 ?k16 ?a17 ?l17 ?c17 ?k17 ?a18 ?l18 ?c18 ?k18 ?a19 ?l19 ?c19 ?k19 ?a20 ?l20 ?c20 ?k20 ?xa_BadText ?xl_BadText ?xr_BadText ?xs_BadText ?xe_BadText ?xt_BadText ?xk_BadText ?xi_BadText ?xy_BadText ?xf_BadText ?xc_BadText ?xq_BadText ?xd_BadText ?xv_ValueError ?xT_chk ?xM_chk ?z_ValueError ?z_abs ?z_all ?z_bool ?z_enumerate ?z_int ?z_isinstance ?z_len ?z_list ?z_max ?z_min ?z_range ?z_str ?z_tuple ?z_zip ?y_EMPTY ?y_SPACE ?y_UNKNOWN
    (case a0 => k_is)
    (case l0 => k_is)
    (case c0 => k_is)
    (case k0 => k_is)
    (case a1 => k_is)
    (case l1 => k_is)
    (case c1 => k_is)
    (case k1 => k_is)
    (case a2 => k_is)
    (case l2 => k_is)
    (case c2 => k_is)
    (case k2 => k_is)
    (case a3 => k_is)
    (case l3 => k_is)
    (case c3 => k_is)
    (case k3 => k_is)
    (case a4 => k_is)
    (case l4 => k_is)
    (case c4 => k_is)
    (case k4 => k_is)
    (case a5 => k_is)
    (case l5 => k_is)
    (case c5 => k_is)
    (case k5 => k_is)
    (case a6 => k_is)
    (case l6 => k_is)
    (case c6 => k_is)
    (case k6 => k_is)
    (case a7 => k_is)
    (case l7 => k_is)
    (case c7 => k_is)
    (case k7 => k_is)
    (case a8 => k_is)
    (case l8 => k_is)
    (case c8 => k_is)
    (case k8 => k_is)
    (case a9 => k_is)
    (case l9 => k_is)
    (case c9 => k_is)
    (case k9 => k_is)
    (case a10 => k_is)
    (case l10 => k_is)
    (case c10 => k_is)
    (case k10 => k_is)
    (case a11 => k_is)
    (case l11 => k_is)
    (case c11 => k_is)
    (case k11 => k_is)
    (case a12 => k_is)
    (case l12 => k_is)
    (case c12 => k_is)
    (case k12 => k_is)
    (case a13 => k_is)
    (case l13 => k_is)
    (case c13 => k_is)
    (case k13 => k_is)
    (case a14 => k_is)
    (case l14 => k_is)
    (case c14 => k_is)
    (case k14 => k_is)
    (case a15 => k_is)
    (case l15 => k_is)
    (case c15 => k_is)
    (case k15 => k_is)
    (case a16 => k_is)
    (case l16 => k_is)
    (case c16 => k_is)
    (case k16 => k_is)
    (case a17 => k_is)
    (case l17 => k_is)
    (case c17 => k_is)
    (case k17 => k_is)
    (case a18 => k_is)
    (case l18 => k_is)
    (case c18 => k_is)
    (case k18 => k_is)
    (case a19 => k_is)
    (case l19 => k_is)
    (case c19 => k_is)
    (case k19 => k_is)
    (case a20 => k_is)
    (case l20 => k_is)
    (case c20 => k_is)
    (case k20 => k_is)
    (case xa_BadText => k_is)
    (case xl_BadText => k_is)
    (case xr_BadText => kernel_rfl)
    (case xs_BadText => k_is)
    (case xe_BadText => k_is)
    (case xt_BadText => k_is)
    (case xk_BadText => k_is)
    (case xi_BadText => k_is)
    (case xy_BadText => k_is)
    (case xf_BadText => k_is)
    (case xc_BadText => k_is)
    (case xq_BadText => k_is)
    (case xd_BadText => k_is)
    (case xv_ValueError => k_is)
    (case xT_chk => kernel_rfl)
    (case xM_chk => kernel_rfl)
    (case z_ValueError => k_is)
    (case z_abs => k_is)
    (case z_all => k_is)
    (case z_bool => k_is)
    (case z_enumerate => k_is)
    (case z_int => k_is)
    (case z_isinstance => k_is)
    (case z_len => k_is)
    (case z_list => k_is)
    (case z_max => k_is)
    (case z_min => k_is)
    (case z_range => k_is)
    (case z_str => k_is)
    (case z_tuple => k_is)
    (case z_zip => k_is)
    (case y_EMPTY => k_is)
    (case y_SPACE => k_is)
    (case y_UNKNOWN => k_is)
