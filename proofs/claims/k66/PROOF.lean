import PyProof.Rows.All
import Wide.All
import OpenK.AllK
import Wide.FinOn
import HandS.ForExc
import HandS.Wide
import HandS.Lambda
import HandS.TupAny
import HandS.DeepEq
import HandS.TupMul
import HandS.ExcOwn
import HandS.EndOwn
import KE.KStar
import HandS.NoneIn
import KE.KDictDisplayH
import HandS.Iter
import HandS.IsInst
import HandS.WordsDict
import HandS.TupLen
import HandS.Conv
import HandS.Dict
import HandS.Text
import HandS.Deep
import HandS.Comp
import PyProof.ZipIter
import PyProof.Draws
import PyProof.EnumMake
import HandS.Zip
import HandS.Star
import HandS.Style
import HandS.RaiseMore
import HandS.SortInts
import HandS.More
import HandS.DictComp
import KE.KExcInit
import HandS.ExcInit
import HandS.ExcField
import HandS.TryMany
import PyProof.ReprRoads
import HandS.Flow
import KE.BitLaws
import PySem.Challenge.RW_wordwide_k66_whole_roots_as_classes
set_option Elab.async false
set_option linter.all false
set_option maxRecDepth 100000
set_option exponentiation.threshold 5000
namespace PV
open PySem PySem.Spec PyProof.Rows L2

/-! ## values -/
inductive Ty where
  | int | bool | str | tuple | list | dict
  deriving DecidableEq
def Ty.name : Ty → String
  | .int => "int" | .bool => "bool" | .str => "str" | .tuple => "tuple" | .list => "list" | .dict => "dict"
inductive D where
  | non | bl (b : Bool) | int (i : Int) | str (s : Str) | ty (n : Ty) | fn (i : Nat) | cro
  | tup (xs : List D) | lst (xs : List D) | scr (xs : List D) | dk (kvs : List (Key × D)) | dt (kvs : List (List Key × D)) | fdk (kvs : List (Key × D)) | nd | fdt (kvs : List (List Key × D))
/-- the three ints of the draw's own list -/
structure Kp where
  a : Int
  b : Int
  c : Int
  on : Bool
inductive R where
  | ok (d : D) (fr : Bool) (κ : Kp)
  | exc (k : Nat) (d : D) (κ : Kp)
  | bad
inductive RL where
  | ok (ds : List D) (κ : Kp)
  | exc (k : Nat) (d : D) (κ : Kp)
  | bad
inductive Slot where
  | no | val (d : D) | own (d : D)
abbrev Rho := List Slot
abbrev SmE := Rho → Kp → R
abbrev SmL := Rho → Kp → RL
inductive RS where
  | next (ρ : Rho) (κ : Kp)
  | ret (d : D) (fr : Bool) (κ : Kp)
  | brk (ρ : Rho) (κ : Kp)
  | cont (ρ : Rho) (κ : Kp)
  | exc (k : Nat) (d : D) (κ : Kp)
  | bad
abbrev SmS := Rho → Kp → RS
/-! ## how values lie in a heap -/
/-- od is a dict with the only key None -/
structure NoneDict (a : Addr) (od : Obj) : Prop where
  ex : od.ExactDict
  dt : ∃ en ep, od.data = .dict #[en] ep ∧ en.key = Value.none ∧ en.hash = reduceHash 0xFCA86420
  ns : (a == sysModules) = false
/-- od is a dict; its keys, in their order, are xs -/
structure RawKeys (a : Addr) (od : Obj) (xs : List V) : Prop where
  ex : od.ExactDict
  dt : ∃ es ep, od.data = .dict es ep ∧ Paired (fun x (en : DictEntry) => RelV x en.key) xs es.toList
  ns : (a == sysModules) = false
section
variable (K : PySem.W.Frag) (fa : Nat → Option Addr) (c : Option Addr) (F : Hp)
mutual
inductive Rep : D → V → Prop
  | non : Rep .non .non
  | bl (b : Bool) : Rep (.bl b) (.bl b)
  | int (i : Int) : Rep (.int i) (.int i)
  | str (s : Str) : Rep (.str s) (.str s)
  | ty (n : Ty) : Rep (.ty n) (.ty n.name)
  | fn {i : Nat} {a : Addr} : fa i = some a → Rep (.fn i) (.ref a)
  | cro {a : Addr} : c = some a → Rep .cro (.ref a)
  | tup {a : Addr} {vs : List V} {ds : List D} : F a = some (.tup vs) → RepL ds vs → Rep (.tup ds) (.ref a)
  | lst {a : Addr} {vs : List V} {ds : List D} : F a = some (.lst vs) → RepL ds vs → Rep (.lst ds) (.ref a)
  | scr {a : Addr} {vs : List V} {ds : List D} : SqL K F a vs → RepL ds vs → Rep (.scr ds) (.ref a)
  | dk {a : Addr} {ks : List (Key × V)} {kvs : List (Key × D)} : F a = some (.dK ks) → RepK kvs ks → Rep (.dk kvs) (.ref a)
  | dt {a : Addr} {ks : List (List Key × V)} {kvs : List (List Key × D)} : F a = some (.dT ks) → RepT kvs ks → Rep (.dt kvs) (.ref a)
  | fdk {a : Addr} {od : Obj} {ks : List (Key × V)} {kvs : List (Key × D)} : F a = some (.frz od (.dK ks)) → RepK kvs ks → Rep (.fdk kvs) (.ref a)
  | nd {a : Addr} {od : Obj} : F a = some (.frz od (.own a)) → NoneDict a od → Rep .nd (.ref a)
  | fdt {a : Addr} {od : Obj} {ks : List (List Key × V)} {kvs : List (List Key × D)} {qs : List Addr} : F a = some (.frz od (.dT ks)) → RawKeys a od (qs.map V.ref) → (∀ (i : Nat) (q : Addr), qs[i]? = some q → ∃ kv : List Key × D, kvs[i]? = some kv ∧ F q = some (HO.tup (kv.1.map kV))) → qs.length = kvs.length → RepT kvs ks → Rep (.fdt kvs) (.ref a)
inductive RepL : List D → List V → Prop
  | nil : RepL [] []
  | cons {d : D} {v : V} {ds : List D} {vs : List V} : Rep d v → RepL ds vs → RepL (d :: ds) (v :: vs)
inductive RepK : List (Key × D) → List (Key × V) → Prop
  | nil : RepK [] []
  | cons {k : Key} {d : D} {v : V} {ds : List (Key × D)} {vs : List (Key × V)} : Rep d v → RepK ds vs → RepK ((k, d) :: ds) ((k, v) :: vs)
inductive RepT : List (List Key × D) → List (List Key × V) → Prop
  | nil : RepT [] []
  | cons {k : List Key} {d : D} {v : V} {ds : List (List Key × D)} {vs : List (List Key × V)} : Rep d v → RepT ds vs → RepT ((k, d) :: ds) ((k, v) :: vs)
end
end
def PlainO : HO → Prop
  | .lst _ => True
  | .tup _ => True
  | .dK _ => True
  | .dT _ => True
  | _ => False
/-- what may be read in F may be read in F' -/
structure Sub (F F' : Hp) : Prop where
  l : ∀ a vs, F a = some (.lst vs) → F' a = some (.lst vs)
  t : ∀ a vs, F a = some (.tup vs) → F' a = some (.tup vs)
  r : ∀ a u, PlainO u → Rd F a u → Rd F' a u
  k : ∀ a vs, F a = some (.dK vs) → F' a = some (.dK vs)
  q : ∀ a vs, F a = some (.dT vs) → F' a = some (.dT vs)
  z : ∀ a o u, F a = some (.frz o u) → F' a = some (.frz o u)
theorem Sub.refl (F : Hp) : Sub F F := ⟨fun _ _ h => h, fun _ _ h => h, fun _ _ _ h => h, fun _ _ h => h, fun _ _ h => h, fun _ _ _ h => h⟩
theorem Sub.trans {F G H : Hp} (a : Sub F G) (b : Sub G H) : Sub F H := ⟨fun x u h => b.l x u (a.l x u h), fun x u h => b.t x u (a.t x u h), fun x u p h => b.r x u p (a.r x u p h), fun x u h => b.k x u (a.k x u h), fun x u h => b.q x u (a.q x u h), fun x o u h => b.z x o u (a.z x o u h)⟩
theorem Sub.of {F F' : Hp} (h : ∀ a o, F a = some o → F' a = some o) : Sub F F' := ⟨fun a u => h a _, fun a u => h a _, fun a u _ r => by
  rcases r with r | ⟨o, r⟩
  · exact .inl (h _ _ r)
  · exact .inr ⟨o, h _ _ r⟩, fun a u => h a _, fun a u => h a _, fun a o u => h a _⟩
theorem SqL.sub {K : PySem.W.Frag} {F F' : Hp} {a : Addr} {vs : List V} (s : Sub F F') (h : SqL K F a vs) : SqL K F' a vs := by
  rcases h with h | h
  · exact .inl (s.r _ _ trivial h)
  · exact .inr h
theorem SqT.sub {K : PySem.W.Frag} {F F' : Hp} {a : Addr} {vs : List V} (s : Sub F F') (h : SqT K F a vs) : SqT K F' a vs := by
  rcases h with h | h
  · exact .inl (s.r _ _ trivial h)
  · exact .inr h
section
variable {K : PySem.W.Frag} {fa : Nat → Option Addr} {c : Option Addr} {F F' : Hp}
mutual
theorem Rep.sub (s : Sub F F') : ∀ {d : D} {v : V}, Rep K fa c F d v → Rep K fa c F' d v
  | _, _, .non => .non
  | _, _, .bl b => .bl b
  | _, _, .int i => .int i
  | _, _, .str x => .str x
  | _, _, .ty n => .ty n
  | _, _, .fn h => .fn h
  | _, _, .cro h => .cro h
  | _, _, .tup h t => .tup (s.t _ _ h) (RepL.sub s t)
  | _, _, .lst h t => .lst (s.l _ _ h) (RepL.sub s t)
  | _, _, .scr h t => .scr (SqL.sub s h) (RepL.sub s t)
  | _, _, .dk h t => .dk (s.k _ _ h) (RepK.sub s t)
  | _, _, .dt h t => .dt (s.q _ _ h) (RepT.sub s t)
  | _, _, .fdk h t => .fdk (s.z _ _ _ h) (RepK.sub s t)
  | _, _, .nd h t => .nd (s.z _ _ _ h) t
  | _, _, .fdt h g k l t => .fdt (s.z _ _ _ h) g (fun i q e => let ⟨kv, e1, e2⟩ := k i q e; ⟨kv, e1, s.t _ _ e2⟩) l (RepT.sub s t)
theorem RepL.sub (s : Sub F F') : ∀ {d : List D} {v : List V}, RepL K fa c F d v → RepL K fa c F' d v
  | _, _, .nil => .nil
  | _, _, .cons h t => .cons (Rep.sub s h) (RepL.sub s t)
theorem RepK.sub (s : Sub F F') : ∀ {d : List (Key × D)} {v : List (Key × V)}, RepK K fa c F d v → RepK K fa c F' d v
  | _, _, .nil => .nil
  | _, _, .cons h t => .cons (Rep.sub s h) (RepK.sub s t)
theorem RepT.sub (s : Sub F F') : ∀ {d : List (List Key × D)} {v : List (List Key × V)}, RepT K fa c F d v → RepT K fa c F' d v
  | _, _, .nil => .nil
  | _, _, .cons h t => .cons (Rep.sub s h) (RepT.sub s t)
end
theorem RepL.length : ∀ {ds : List D} {vs : List V}, RepL K fa c F ds vs → ds.length = vs.length
  | _, _, .nil => rfl
  | _, _, .cons _ t => by simp [RepL.length t]
theorem RepL.get : ∀ {ds : List D} {vs : List V} {i : Nat} {d : D}, RepL K fa c F ds vs → ds[i]? = some d → ∃ v, vs[i]? = some v ∧ Rep K fa c F d v
  | _, _, _, _, .nil, h => by simp at h
  | _, _, 0, _, .cons h _, e => by simp at e; subst e; exact ⟨_, rfl, h⟩
  | _, _, i + 1, _, .cons _ t, e => by
    obtain ⟨v, h1, h2⟩ := RepL.get (i := i) t (by simpa using e)
    exact ⟨v, by simpa using h1, h2⟩
theorem RepL.append : ∀ {ds es : List D} {vs ws : List V}, RepL K fa c F ds vs → RepL K fa c F es ws → RepL K fa c F (ds ++ es) (vs ++ ws)
  | _, _, _, _, .nil, t => t
  | _, _, _, _, .cons h t, t' => .cons h (RepL.append t t')
theorem RepL.set {d : D} {v : V} (h : Rep K fa c F d v) : ∀ {ds : List D} {vs : List V} (i : Nat), RepL K fa c F ds vs → RepL K fa c F (ds.set i d) (vs.set i v)
  | _, _, _, .nil => .nil
  | _, _, 0, .cons _ t => .cons h t
  | _, _, i + 1, .cons q t => .cons q (RepL.set h i t)
end
/-! ## steps of a heap -/
def NotTbl : HO → Prop
  | .tbl _ => False
  | _ => True
/-- what a table of code objects rests on -/
def KeepT (o : HO) : Prop := (∃ ps, o = .tbl ps) ∨ ∃ c q, o = LamX.CodeO c q
theorem tab_keep {H H' : Hp} (k : ∀ a o, H a = some o → KeepT o → H' a = some o) : ∀ T, LamX.Tabs T H → LamX.Tabs T H' := fun T t p hp => by
  obtain ⟨ps, h1, h2, h3⟩ := t p hp
  refine ⟨ps, k _ _ h1 (.inl ⟨ps, rfl⟩), h2, fun pos cv hc => ?_⟩
  obtain ⟨c, e1, e2⟩ := h3 pos cv hc
  exact ⟨c, e1, k _ _ e2 (.inr ⟨_, _, rfl⟩)⟩
theorem tab_upd {H : Hp} {a : Addr} {o : HO} (h : ∀ u, H a = some u → ¬ KeepT u) : ∀ T, LamX.Tabs T H → LamX.Tabs T (upd H a o) := tab_keep fun b u e k => by
  by_cases q : b = a
  · subst q; exact absurd k (h u e)
  · rw [upd_ne q]; exact e
theorem tab_new {H : Hp} {a : Addr} {o : HO} (h : H a = none) : ∀ T, LamX.Tabs T H → LamX.Tabs T (upd H a o) := tab_upd fun u e => by rw [h] at e; cases e
theorem tab_plain {H : Hp} {a : Addr} {o u : HO} (e : H a = some u) (h : ¬ KeepT u) : ∀ T, LamX.Tabs T H → LamX.Tabs T (upd H a o) := tab_upd fun w q => by rw [e] at q; cases q; exact h
theorem nk_lst {xs : List V} : ¬ KeepT (.lst xs) := fun z => z.elim (fun ⟨_, h⟩ => nomatch h) (fun ⟨_, _, h⟩ => by unfold LamX.CodeO at h; cases h)
theorem nk_dK {xs : List (Key × V)} : ¬ KeepT (.dK xs) := fun z => z.elim (fun ⟨_, h⟩ => nomatch h) (fun ⟨_, _, h⟩ => by unfold LamX.CodeO at h; cases h)
theorem nk_dT {xs : List (List Key × V)} : ¬ KeepT (.dT xs) := fun z => z.elim (fun ⟨_, h⟩ => nomatch h) (fun ⟨_, _, h⟩ => by unfold LamX.CodeO at h; cases h)
theorem nk_frz {o : Obj} {u : HO} : ¬ KeepT (.frz o u) := fun z => z.elim (fun ⟨_, h⟩ => nomatch h) (fun ⟨_, _, h⟩ => by unfold LamX.CodeO at h; cases h)
theorem nk_plain {u : HO} (h : PlainO u) : ¬ KeepT u := by
  rintro (⟨_, rfl⟩ | ⟨_, _, rfl⟩)
  · exact h
  · unfold LamX.CodeO at h; exact h
/-- the defs that make lambdas -/
def makers : List Str := ["_law_right"]
def tabAt (K : PySem.W.Frag) (x : Str) : List (Addr × Addr × Str) := match PySem.W.tabIn K x with
  | some (c, P) => [(c, P, x ++ ".<locals>." ++ "<lambda>")]
  | none => []
def tabsOf (K : PySem.W.Frag) : List (Addr × Str) := (makers.flatMap (tabAt K)).map (·.2)
structure Stp (K : PySem.W.Frag) (c : Option Addr) (F H F' H' : Hp) : Prop where
  sub : Sub F F'
  inH : ∀ a o, F' a = some o → H' a = some o
  new : ∀ a o, F' a = some o → F a ≠ none ∨ H a = none
  keep : ∀ a o, H a = some o → c ≠ some a → NotTbl o → H' a = some o
  dom : ∀ a o, H a = some o → ∃ o', H' a = some o'
  tab : LamX.Tabs (tabsOf K) H → LamX.Tabs (tabsOf K) H'
def Kap (c : Option Addr) (κ : Kp) (F H : Hp) : Prop := κ.on = c.isSome ∧ ∀ a, c = some a → F a = none ∧ H a = some (.lst [.int κ.a, .int κ.b, .int κ.c])
theorem Stp.refl {K : PySem.W.Frag} {c : Option Addr} {F H : Hp} (h : ∀ a o, F a = some o → H a = some o) : Stp K c F H F H :=
  ⟨Sub.refl _, h, fun a o e => .inl (by rw [e]; simp), fun _ _ e _ _ => e, fun _ o e => ⟨o, e⟩, fun h => h⟩
theorem Stp.trans {K : PySem.W.Frag} {c : Option Addr} {F H F1 H1 F2 H2 : Hp} (a : Stp K c F H F1 H1) (b : Stp K c F1 H1 F2 H2) : Stp K c F H F2 H2 where
  sub := a.sub.trans b.sub
  inH := b.inH
  new := fun x o e => by
    rcases b.new x o e with h | h
    · cases q : F1 x with
      | none => exact absurd q h
      | some u => exact a.new x u q
    · refine .inr ?_
      cases q : H x with
      | none => rfl
      | some u =>
        obtain ⟨u', e'⟩ := a.dom x u q
        rw [h] at e'; cases e'
  keep := fun x o e n t => b.keep x o (a.keep x o e n t) n t
  dom := fun x o e => by
    obtain ⟨u, q⟩ := a.dom x o e
    exact b.dom x u q
  tab := fun h => b.tab (a.tab h)
/-- a new object is laid, and known -/
theorem Stp.laid {K : PySem.W.Frag} {c : Option Addr} {F H : Hp} {p : Addr} {o : HO} (h : ∀ a o, F a = some o → H a = some o) (hp : H p = none) : Stp K c F H (upd F p o) (upd H p o) where
  sub := Sub.of fun a u e => by rw [upd_ne (ne_of_none (h _ _ e) hp)]; exact e
  inH := fun a u e => by
    by_cases q : a = p
    · subst q; rw [upd_same] at e ⊢; exact e
    · rw [upd_ne q] at e ⊢; exact h _ _ e
  new := fun a u e => by
    by_cases q : a = p
    · subst q; exact .inr hp
    · rw [upd_ne q] at e; exact .inl (by rw [e]; simp)
  keep := fun a u e _ _ => by rw [upd_ne (ne_of_none e hp)]; exact e
  dom := fun a u e => ⟨u, by rw [upd_ne (ne_of_none e hp)]; exact e⟩
  tab := tab_new hp _
/-- a new object is laid, not known yet -/
theorem Stp.laid0 {K : PySem.W.Frag} {c : Option Addr} {F H : Hp} {p : Addr} {o : HO} (h : ∀ a o, F a = some o → H a = some o) (hp : H p = none) : Stp K c F H F (upd H p o) where
  sub := Sub.refl _
  inH := fun a u e => by rw [upd_ne (ne_of_none (h _ _ e) hp)]; exact h _ _ e
  new := fun a u e => .inl (by rw [e]; simp)
  keep := fun a u e _ _ => by rw [upd_ne (ne_of_none e hp)]; exact e
  dom := fun a u e => ⟨u, by rw [upd_ne (ne_of_none e hp)]; exact e⟩
  tab := tab_new hp _
/-- a known object becomes known -/
theorem Stp.known {K : PySem.W.Frag} {c : Option Addr} {F0 H0 F H : Hp} {p : Addr} {o : HO} (s : Stp K c F0 H0 F H) (hp : H p = some o) (h0 : H0 p = none) (hF : F p = none) : Stp K c F0 H0 (upd F p o) H where
  sub := s.sub.trans (Sub.of fun a u e => by
    rw [upd_ne]
    · exact e
    · intro q; subst q; rw [hF] at e; cases e)
  inH := fun a u e => by
    by_cases q : a = p
    · subst q; rw [upd_same] at e; cases e; exact hp
    · rw [upd_ne q] at e; exact s.inH _ _ e
  new := fun a u e => by
    by_cases q : a = p
    · subst q; exact .inr h0
    · rw [upd_ne q] at e; exact s.new _ _ e
  keep := s.keep
  dom := s.dom
  tab := s.tab
theorem Kap.laid {c : Option Addr} {κ : Kp} {F H : Hp} {p : Addr} {o : HO} (k : Kap c κ F H) (hp : H p = none) : Kap c κ (upd F p o) (upd H p o) := ⟨k.1, fun a e => by
  obtain ⟨h1, h2⟩ := k.2 a e
  have ne : a ≠ p := ne_of_none h2 hp
  rw [upd_ne ne, upd_ne ne]
  exact ⟨h1, h2⟩⟩
theorem Kap.laid0 {c : Option Addr} {κ : Kp} {F H : Hp} {p : Addr} {o : HO} (k : Kap c κ F H) (hp : H p = none) : Kap c κ F (upd H p o) := ⟨k.1, fun a e => by
  obtain ⟨h1, h2⟩ := k.2 a e
  have ne : a ≠ p := ne_of_none h2 hp
  rw [upd_ne ne]
  exact ⟨h1, h2⟩⟩
/-! ## owned objects -/
section
variable (K : PySem.W.Frag) (fa : Nat → Option Addr) (c : Option Addr)
def OwnD (F H : Hp) (a : Addr) : D → Prop
  | .lst ds => ∃ vs, H a = some (.lst vs) ∧ RepL K fa c F ds vs
  | .dk kvs => ∃ ks, H a = some (.dK ks) ∧ RepK K fa c F kvs ks
  | .dt kvs => ∃ ks, H a = some (.dT ks) ∧ RepT K fa c F kvs ks
  | _ => False
structure Own (F H : Hp) (a : Addr) (d : D) : Prop where
  nF : F a = none
  nc : c ≠ some a
  at_ : OwnD K fa c F H a d
/-- a value just made (fr) or one that stays -/
def RepF (F H : Hp) (fr : Bool) (d : D) (v : V) : Prop := match fr with
  | false => Rep K fa c F d v
  | true => ∃ a, v = .ref a ∧ Own K fa c F H a d
end
section
variable {K : PySem.W.Frag} {fa : Nat → Option Addr} {c : Option Addr}
theorem Own.obj {F H : Hp} {a : Addr} {d : D} (o : Own K fa c F H a d) : ∃ u, H a = some u ∧ NotTbl u ∧ PlainO u := by
  have q := o.at_
  cases d <;> try exact q.elim
  · obtain ⟨vs, h, _⟩ := q; exact ⟨_, h, trivial, trivial⟩
  · obtain ⟨vs, h, _⟩ := q; exact ⟨_, h, trivial, trivial⟩
  · obtain ⟨vs, h, _⟩ := q; exact ⟨_, h, trivial, trivial⟩
theorem Own.step {F H F' H' : Hp} {a : Addr} {d : D} (o : Own K fa c F H a d) (s : Stp K c F H F' H') : Own K fa c F' H' a d := by
  obtain ⟨u, hu, nt, _⟩ := o.obj
  refine ⟨?_, o.nc, ?_⟩
  · cases q : F' a with
    | none => rfl
    | some x =>
      rcases s.new a x q with h | h
      · exact absurd o.nF h
      · rw [hu] at h; cases h
  · have q := o.at_
    have k := fun w e => s.keep a w e o.nc
    cases d <;> try exact q.elim
    · obtain ⟨vs, h, r⟩ := q; exact ⟨vs, k _ h trivial, r.sub s.sub⟩
    · obtain ⟨vs, h, r⟩ := q; exact ⟨vs, k _ h trivial, r.sub s.sub⟩
    · obtain ⟨vs, h, r⟩ := q; exact ⟨vs, k _ h trivial, r.sub s.sub⟩
/-- an owned object becomes a value that stays -/
theorem Own.freeze {F0 H0 F H : Hp} {a : Addr} {d : D} (o : Own K fa c F H a d) (s : Stp K c F0 H0 F H) (h0 : H0 a = none) :
    ∃ F', Stp K c F0 H0 F' H ∧ Sub F F' ∧ Rep K fa c F' d (.ref a) ∧ (∀ b, b ≠ a → F' b = F b) := by
  obtain ⟨u, hu, _, _⟩ := o.obj
  refine ⟨upd F a u, s.known hu h0 o.nF, Sub.of (fun b w e => ?_), ?_, fun b hb => upd_ne hb⟩
  · rw [upd_ne]
    · exact e
    · intro q; subst q; rw [o.nF] at e; cases e
  · have sb : Sub F (upd F a u) := Sub.of fun b w e => by
      rw [upd_ne]
      · exact e
      · intro q; subst q; rw [o.nF] at e; cases e
    have q := o.at_
    cases d <;> try exact q.elim
    · obtain ⟨vs, h, r⟩ := q
      rw [hu] at h; cases h
      exact .lst upd_same (r.sub sb)
    · obtain ⟨vs, h, r⟩ := q
      rw [hu] at h; cases h
      exact .dk upd_same (r.sub sb)
    · obtain ⟨vs, h, r⟩ := q
      rw [hu] at h; cases h
      exact .dt upd_same (r.sub sb)
end
/-! ## a frame's state -/
structure RelS (K : PySem.W.Frag) (fa : Nat → Option Addr) (c : Option Addr) (F0 H0 F : Hp) (ρ : Rho) (κ : Kp) (σ : L2.St) (H : Hp) : Prop where
  stp : Stp K c F0 H0 F H
  kap : Kap c κ F H
  len : ρ.length = σ.length
  vals : ∀ (i : Nat) (d : D), ρ[i]? = some (Slot.val d) → ∃ v, σ[i]? = some (some v) ∧ Rep K fa c F d v
  owns : ∀ (i : Nat) (d : D), ρ[i]? = some (Slot.own d) → ∃ a, σ[i]? = some (some (V.ref a)) ∧ Own K fa c F H a d ∧ H0 a = none
  inj : ∀ (i j : Nat) (d e : D) (a : Addr), i ≠ j → ρ[i]? = some (Slot.own d) → ρ[j]? = some (Slot.own e) → σ[i]? = some (some (V.ref a)) → σ[j]? ≠ some (some (V.ref a))
  tab : LamX.Tabs (tabsOf K) H
section
variable {K : PySem.W.Frag} {fa : Nat → Option Addr} {c : Option Addr} {F0 H0 F H F' H' : Hp} {ρ : Rho} {κ κ' : Kp} {σ : L2.St}
theorem RelS.step (r : RelS K fa c F0 H0 F ρ κ σ H) (s : Stp K c F H F' H') (k : Kap c κ' F' H') : RelS K fa c F0 H0 F' ρ κ' σ H' where
  stp := r.stp.trans s
  kap := k
  len := r.len
  vals := fun i d e => by
    obtain ⟨v, h1, h2⟩ := r.vals i d e
    exact ⟨v, h1, h2.sub s.sub⟩
  owns := fun i d e => by
    obtain ⟨a, h1, h2, h3⟩ := r.owns i d e
    exact ⟨a, h1, h2.step s, h3⟩
  inj := r.inj
  tab := s.tab r.tab
theorem RelS.inH (r : RelS K fa c F0 H0 F ρ κ σ H) : ∀ a o, F a = some o → H a = some o := r.stp.inH
end
/-! ## what follows an expression -/
structure ClsI where
  val : Value
  fld : Option Str
def ExcAt (K : PySem.W.Frag) (fa : Nat → Option Addr) (c : Option Addr) (ci : ClsI) (F H : Hp) (d : D) (dd : Option Addr) : Prop :=
  match ci.fld with
  | none => dd = none
  | some f => ∃ a v, dd = some a ∧ H a = some (.xd [(f, v)]) ∧ Rep K fa c F d v
section
variable (K : PySem.W.Frag) (fa : Nat → Option Addr) (cl : Nat → ClsI) (W : WX)
def OutX (c : Option Addr) (σ : L2.St) (F H : Hp) (k : Nat) (d : D) (κ : Kp) : Prop :=
  ∀ F' H' dd, Stp K c F H F' H' → Kap c κ F' H' → ExcAt K fa c (cl k) F' H' d dd → W (cl k).val dd σ H'
def Out (c : Option Addr) (σ : L2.St) (F H : Hp) (Q : VK) : R → Prop
  | .ok d fr κ => ∀ F' H' v, Stp K c F H F' H' → Kap c κ F' H' → RepF K fa c F' H' fr d v → (fr = true → ∀ a, v = .ref a → H a = none) → Q v H'
  | .exc k d κ => OutX K fa cl W c σ F H k d κ
  | .bad => False
def OutT (c : Option Addr) (σ : L2.St) (F H : Hp) (Q : Bool → Hp → Prop) (tr : D → Option Bool) : R → Prop
  | .ok d _ κ => ∃ b, tr d = some b ∧ ∀ F' H', Stp K c F H F' H' → Kap c κ F' H' → Q b H'
  | .exc k d κ => OutX K fa cl W c σ F H k d κ
  | .bad => False
def OutL (c : Option Addr) (σ : L2.St) (F H : Hp) (Q : List V → Hp → Prop) : RL → Prop
  | .ok ds κ => ∀ F' H' vs, Stp K c F H F' H' → Kap c κ F' H' → RepL K fa c F' ds vs → Q vs H'
  | .exc k d κ => OutX K fa cl W c σ F H k d κ
  | .bad => False
end
def truth : D → Option Bool
  | .non => some false
  | .bl b => some b
  | .int i => some (i != 0)
  | .lst xs => some (!xs.isEmpty)
  | .tup xs => some (!xs.isEmpty)
  | _ => none
def R.bind (r : R) (g : D → Kp → R) : R := match r with
  | .ok d _ κ => g d κ
  | .exc k d κ => .exc k d κ
  | .bad => .bad
def R.test (r : R) (g : Bool → Kp → R) : R := match r with
  | .ok d _ κ => match truth d with
    | some b => g b κ
    | none => .bad
  | .exc k d κ => .exc k d κ
  | .bad => .bad
def RL.bind (r : RL) (g : List D → Kp → R) : R := match r with
  | .ok d κ => g d κ
  | .exc k d κ => .exc k d κ
  | .bad => .bad
def lift (o : Option (D × Bool)) (κ : Kp) : R := match o with
  | some (d, fr) => .ok d fr κ
  | none => .bad
section
variable {K : PySem.W.Frag} {fa : Nat → Option Addr} {cl : Nat → ClsI} {W : WX} {c : Option Addr} {σ : L2.St} {F H F1 H1 : Hp} {Q Q1 : VK} {r : R}
theorem OutX.step {k : Nat} {d : D} {κ : Kp} (s : Stp K c F H F1 H1) (o : OutX K fa cl W c σ F H k d κ) : OutX K fa cl W c σ F1 H1 k d κ := fun F' H' dd s' k' e => o F' H' dd (s.trans s') k' e
theorem Out.step (s : Stp K c F H F1 H1) (o : Out K fa cl W c σ F H Q r) : Out K fa cl W c σ F1 H1 Q r := by
  cases r with
  | ok d fr κ =>
    intro F' H' v s' k' e fresh
    refine o F' H' v (s.trans s') k' e fun q a ea => ?_
    cases h : H a with
    | none => rfl
    | some u =>
      obtain ⟨u', e'⟩ := s.dom a u h
      rw [fresh q a ea] at e'; cases e'
  | exc k d κ => exact OutX.step s o
  | bad => exact o
theorem OutT.step {Q : Bool → Hp → Prop} {tr : D → Option Bool} (s : Stp K c F H F1 H1) (o : OutT K fa cl W c σ F H Q tr r) : OutT K fa cl W c σ F1 H1 Q tr r := by
  cases r with
  | ok d fr κ =>
    obtain ⟨b, e, o⟩ := o
    exact ⟨b, e, fun F' H' s' k' => o F' H' (s.trans s') k'⟩
  | exc k d κ => exact OutX.step s o
  | bad => exact o
theorem OutL.step {Q : List V → Hp → Prop} {r : RL} (s : Stp K c F H F1 H1) (o : OutL K fa cl W c σ F H Q r) : OutL K fa cl W c σ F1 H1 Q r := by
  cases r with
  | ok ds κ => exact fun F' H' vs s' k' e => o F' H' vs (s.trans s') k' e
  | exc k d κ => exact OutX.step s o
  | bad => exact o
/-- a value just made, or not, becomes one that stays -/
theorem RepF.still {fr : Bool} {d : D} {v : V} {κ : Kp} (s : Stp K c F H F1 H1) (k : Kap c κ F1 H1) (e : RepF K fa c F1 H1 fr d v) (fresh : fr = true → ∀ a, v = .ref a → H a = none) :
    ∃ F', Stp K c F H F' H1 ∧ Kap c κ F' H1 ∧ Sub F1 F' ∧ Rep K fa c F' d v := by
  cases fr with
  | false => exact ⟨F1, s, k, Sub.refl _, e⟩
  | true =>
    obtain ⟨a, rfl, o⟩ := e
    obtain ⟨F', s', sb, r', oth⟩ := o.freeze s (fresh rfl a rfl)
    refine ⟨F', s', ⟨k.1, fun b hb => ?_⟩, sb, r'⟩
    obtain ⟨h1, h2⟩ := k.2 b hb
    have ne : b ≠ a := fun q => o.nc (by rw [← q]; exact hb)
    exact ⟨(oth b ne).trans h1, h2⟩
theorem Out.bind {g : D → Kp → R} (o : Out K fa cl W c σ F H Q (r.bind g))
    (h : ∀ d κ F1 H1 v, Stp K c F H F1 H1 → Kap c κ F1 H1 → Rep K fa c F1 d v → Out K fa cl W c σ F1 H1 Q (g d κ) → Q1 v H1) : Out K fa cl W c σ F H Q1 r := by
  cases r with
  | ok d fr κ =>
    intro F' H' v s k e fresh
    obtain ⟨F2, s2, k2, _, e2⟩ := e.still s k fresh
    exact h d κ F2 H' v s2 k2 e2 (Out.step s2 o)
  | exc k d κ => exact o
  | bad => exact o
/-- .. as it lies -/
theorem Out.bindF {g : D → Kp → R} (o : Out K fa cl W c σ F H Q (r.bind g))
    (h : ∀ d fr κ F1 H1 v, Stp K c F H F1 H1 → Kap c κ F1 H1 → RepF K fa c F1 H1 fr d v → (fr = true → ∀ a, v = .ref a → H a = none) → Out K fa cl W c σ F1 H1 Q (g d κ) → Q1 v H1) : Out K fa cl W c σ F H Q1 r := by
  cases r with
  | ok d fr κ =>
    intro F' H' v s k e fresh
    exact h d fr κ F' H' v s k e fresh (Out.step s o)
  | exc k d κ => exact o
  | bad => exact o
theorem Out.test {g : Bool → Kp → R} {Q1 : Bool → Hp → Prop} (o : Out K fa cl W c σ F H Q (r.test g))
    (h : ∀ b κ F1 H1, Stp K c F H F1 H1 → Kap c κ F1 H1 → Out K fa cl W c σ F1 H1 Q (g b κ) → Q1 b H1) : OutT K fa cl W c σ F H Q1 truth r := by
  cases r with
  | ok d fr κ =>
    unfold R.test at o
    dsimp only at o
    cases e : truth d with
    | none => rw [e] at o; exact o.elim
    | some b =>
      rw [e] at o
      exact ⟨b, e, fun F' H' s k => h b κ F' H' s k (Out.step s o)⟩
  | exc k d κ => exact o
  | bad => exact o
theorem OutT.test {g : Bool → Kp → R} {Q1 Q : Bool → Hp → Prop} (o : OutT K fa cl W c σ F H Q truth (r.test g))
    (h : ∀ b κ F1 H1, Stp K c F H F1 H1 → Kap c κ F1 H1 → OutT K fa cl W c σ F1 H1 Q truth (g b κ) → Q1 b H1) : OutT K fa cl W c σ F H Q1 truth r := by
  cases r with
  | ok d fr κ =>
    unfold R.test at o
    dsimp only at o
    cases e : truth d with
    | none => rw [e] at o; exact o.elim
    | some b =>
      rw [e] at o
      exact ⟨b, e, fun F' H' s k => h b κ F' H' s k (OutT.step s o)⟩
  | exc k d κ => exact o
  | bad => exact o
theorem OutL.bind {g : List D → Kp → R} {r : RL} {Q1 : List V → Hp → Prop} (o : Out K fa cl W c σ F H Q (r.bind g))
    (h : ∀ ds κ F1 H1 vs, Stp K c F H F1 H1 → Kap c κ F1 H1 → RepL K fa c F1 ds vs → Out K fa cl W c σ F1 H1 Q (g ds κ) → Q1 vs H1) : OutL K fa cl W c σ F H Q1 r := by
  cases r with
  | ok d κ => exact fun F' H' v s k e => h d κ F' H' v s k e (Out.step s o)
  | exc k d κ => exact o
  | bad => exact o
/-- a value without a heap -/
theorem Out.pure {d : D} {v : V} {κ : Kp} (hF : ∀ a o, F a = some o → H a = some o) (k : Kap c κ F H) (o : Out K fa cl W c σ F H Q (.ok d false κ)) (r : Rep K fa c F d v) : Q v H :=
  o F H v (Stp.refl hF) k r (fun q => nomatch q)
end
/-! ## soundness of an expression's meaning -/
section
variable (X : Cx) (fa : Nat → Option Addr) (cl : Nat → ClsI) (W : WX)
def tE (m : SmE) : TE := fun σ H Q => ∃ c F0 H0 F ρ κ, RelS X.K fa c F0 H0 F ρ κ σ H ∧ Out X.K fa cl W c σ F H Q (m ρ κ)
def tT (m : SmE) : TT := fun σ H Q => ∃ c F0 H0 F ρ κ, RelS X.K fa c F0 H0 F ρ κ σ H ∧ OutT X.K fa cl W c σ F H Q truth (m ρ κ)
def tL (m : SmL) : TA := fun σ H Q => ∃ c F0 H0 F ρ κ, RelS X.K fa c F0 H0 F ρ κ σ H ∧ OutL X.K fa cl W c σ F H Q (m ρ κ)
def SnE (x : Expr) (m : SmE) : Prop := PE X x (tE X fa cl W m)
def SnT (x : Expr) (m : SmE) : Prop := PT X x (tT X fa cl W m)
def SnL (xs : List Expr) (m : SmL) : Prop := PA X xs (tL X fa cl W m)
end
theorem PE.imp {X : Cx} {e : Expr} {t t' : TE} (h : ∀ σ H Q, t' σ H Q → t σ H Q) (p : PE X e t) : PE X e t' := ⟨fun pins s σ H Q I q => p.run pins s σ H Q I (h σ H Q q)⟩
theorem PT.imp {X : Cx} {e : Expr} {t t' : TT} (h : ∀ σ H Q, t' σ H Q → t σ H Q) (p : PT X e t) : PT X e t' := ⟨fun pins s σ H Q I q => p.run pins s σ H Q I (h σ H Q q)⟩
theorem PW.imp {X : Cx} {e : Expr} {t t' : TT} (h : ∀ σ H Q, t' σ H Q → t σ H Q) (p : PW X e t) : PW X e t' := ⟨fun wh pins s σ H Q I q => p.run wh pins s σ H Q I (h σ H Q q)⟩
theorem PA.imp {X : Cx} {e : List Expr} {t t' : TA} (h : ∀ σ H Q, t' σ H Q → t σ H Q) (p : PA X e t) : PA X e t' := ⟨fun pos pins s σ H Q I q => p.run pos pins s σ H Q I (h σ H Q q)⟩
theorem PS.imp {X : Cx} {e : Stmt} {t t' : TS} (h : ∀ D σ H, t' D σ H → t D σ H) (p : PS X e t) : PS X e t' := ⟨fun pins s σ H D I q => p.run pins s σ H D I (h D σ H q)⟩
theorem PSs.imp {X : Cx} {e : List Stmt} {t t' : TS} (h : ∀ D σ H, t' D σ H → t D σ H) (p : PSs X e t) : PSs X e t' := ⟨fun pins s σ H D I q => p.run pins s σ H D I (h D σ H q)⟩
/-! ## the meanings (combinators) -/
def cVal (d : D) : SmE := fun _ κ => .ok d false κ
def cVar (i : Nat) : SmE := fun ρ κ => match ρ[i]? with
  | some (.val d) => .ok d false κ
  | _ => .bad
def cBin (f : D → D → Option (D × Bool)) (a b : SmE) : SmE := fun ρ κ => (a ρ κ).bind fun x κ => (b ρ κ).bind fun y κ => lift (f x y) κ
def cUn (f : D → Option (D × Bool)) (a : SmE) : SmE := fun ρ κ => (a ρ κ).bind fun x κ => lift (f x) κ
def cNot (a : SmE) : SmE := fun ρ κ => (a ρ κ).test fun b κ => .ok (.bl (!b)) false κ
def isB : D → Option Bool
  | .bl b => some b
  | _ => none
def R.bool (r : R) (g : Bool → Kp → R) : R := match r with
  | .ok (.bl b) _ κ => g b κ
  | .ok _ _ _ => .bad
  | .exc k d κ => .exc k d κ
  | .bad => .bad
def cAnd (a b : SmE) : SmE := fun ρ κ => (a ρ κ).bool fun x κ => if x then b ρ κ else .ok (.bl false) false κ
def cOr (a b : SmE) : SmE := fun ρ κ => (a ρ κ).bool fun x κ => if x then .ok (.bl true) false κ else b ρ κ
def cIte (t a b : SmE) : SmE := fun ρ κ => (t ρ κ).test fun x κ => if x then a ρ κ else b ρ κ
def cChain (f g : D → D → Option (D × Bool)) (a b c : SmE) : SmE := fun ρ κ => (a ρ κ).bind fun x κ => (b ρ κ).bind fun y κ => (lift (f x y) κ).bool fun k κ =>
  if k then (c ρ κ).bind fun z κ => lift (g y z) κ else .ok (.bl false) false κ
def cNil : SmL := fun _ κ => .ok [] κ
def cCons (a : SmE) (b : SmL) : SmL := fun ρ κ => match a ρ κ with
  | .ok d _ κ => match b ρ κ with
    | .ok ds κ => .ok (d :: ds) κ
    | .exc k d κ => .exc k d κ
    | .bad => .bad
  | .exc k d κ => .exc k d κ
  | .bad => .bad
def cAp (f : List D → Kp → R) (a : SmL) : SmE := fun ρ κ => (a ρ κ).bind f
def cTup (a : SmL) : SmE := cAp (fun ds κ => .ok (.tup ds) false κ) a
def cLst (a : SmL) : SmE := cAp (fun ds κ => .ok (.lst ds) true κ) a
/-- an operation of values keeps its promise -/
def rOp (K : PySem.W.Frag) (fa : Nat → Option Addr) (f : D → D → Option (D × Bool)) : R2 := fun x y H Q => ∃ c F κ dx dy d fr, (∀ a o, F a = some o → H a = some o) ∧ Kap c κ F H ∧ Rep K fa c F dx x ∧ Rep K fa c F dy y ∧ f dx dy = some (d, fr) ∧
  ∀ F' H' v, Stp K c F H F' H' → Kap c κ F' H' → RepF K fa c F' H' fr d v → (fr = true → ∀ a, v = .ref a → H a = none) → Q v H'
def rUn1 (K : PySem.W.Frag) (fa : Nat → Option Addr) (f : D → Option (D × Bool)) : V → Hp → VK → Prop := fun x H Q => ∃ c F κ dx d fr, (∀ a o, F a = some o → H a = some o) ∧ Kap c κ F H ∧ Rep K fa c F dx x ∧ f dx = some (d, fr) ∧
  ∀ F' H' v, Stp K c F H F' H' → Kap c κ F' H' → RepF K fa c F' H' fr d v → (fr = true → ∀ a, v = .ref a → H a = none) → Q v H'
section
variable {X : Cx} {fa : Nat → Option Addr} {cl : Nat → ClsI} {W : WX} {x y z : Expr} {a b e : SmE} {pos : Pos}
theorem sn_val {d : D} {v : V} (hx : PE X x (tC v)) (hr : ∀ c F, Rep X.K fa c F d v) : SnE X fa cl W x (cVal d) :=
  PE.imp (fun _ _ _ ⟨_, _, _, _, _, _, r, o⟩ => Out.pure r.inH r.kap o (hr _ _)) hx
theorem sn_var {i : Nat} {n : Str} (hN : X.N[i]? = some n) (hv : Vis X.env.scope n) (hd : (n == ("__debug__" : Str)) = false) (hcd : (n == ("__classdict__" : Str)) = false) : SnE X fa cl W (.Name n pos) (cVar i) := by
  refine PE.imp (fun σ H Q ⟨c, F0, H0, F, ρ, κ, r, o⟩ => ?_) (pe_var (i := i) hN hv hd hcd)
  unfold cVar at o
  cases e : ρ[i]? with
  | none => rw [e] at o; exact o.elim
  | some s =>
    rw [e] at o
    cases s with
    | val d =>
      obtain ⟨v, h1, h2⟩ := r.vals i d e
      exact ⟨v, h1, Out.pure r.inH r.kap o h2⟩
    | no => exact o.elim
    | own d => exact o.elim
theorem sn_bin {op : Operator} {f : D → D → Option (D × Bool)} (ho : OpR X (binaryOp op) (rOp X.K fa f)) (ha : SnE X fa cl W x a) (hb : SnE X fa cl W y b) : SnE X fa cl W (.BinOp x op y pos) (cBin f a b) := by
  refine PE.imp (fun σ H Q ⟨c, F0, H0, F, ρ, κ, r, o⟩ => ?_) (pe_op ho ha hb)
  refine ⟨c, F0, H0, F, ρ, κ, r, Out.bind o fun d κ1 F1 H1 v s1 k1 r1 o => ?_⟩
  have q1 := r.step s1 k1
  refine ⟨c, F0, H0, F1, ρ, κ1, q1, Out.bind o fun d2 κ2 F2 H2 v2 s2 k2 r2 o => ?_⟩
  cases h : f d d2 with
  | none => rw [h] at o; exact o.elim
  | some p =>
    rw [h] at o
    exact ⟨c, F2, κ2, d, d2, p.1, p.2, s2.inH, k2, r1.sub s2.sub, r2, h, o⟩
theorem sn_un {op : UnaryOp} {f : D → Option (D × Bool)} (ho : UnR X (unaryOp op) (rUn1 X.K fa f)) (ha : SnE X fa cl W x a) : SnE X fa cl W (.UnaryOp op x pos) (cUn f a) := by
  refine PE.imp (fun σ H Q ⟨c, F0, H0, F, ρ, κ, r, o⟩ => ?_) (pe_un ho ha)
  refine ⟨c, F0, H0, F, ρ, κ, r, Out.bind o fun d κ1 F1 H1 v s1 k1 r1 o => ?_⟩
  cases h : f d with
  | none => rw [h] at o; exact o.elim
  | some p =>
    rw [h] at o
    exact ⟨c, F1, κ1, d, p.1, p.2, s1.inH, k1, r1, h, o⟩
theorem sn_cmp {op : CmpOp} {f : D → D → Option (D × Bool)} (ho : OpR X (compareOp op) (rOp X.K fa f)) (ha : SnE X fa cl W x a) (hb : SnE X fa cl W y b) (hm : behindInMarks op y = false) : SnE X fa cl W (.Compare x [op] [y] pos) (cBin f a b) := by
  refine PE.imp (fun σ H Q ⟨c, F0, H0, F, ρ, κ, r, o⟩ => ?_) (pe_cmpR ho ha hb hm)
  refine ⟨c, F0, H0, F, ρ, κ, r, Out.bind o fun d κ1 F1 H1 v s1 k1 r1 o => ?_⟩
  have q1 := r.step s1 k1
  refine ⟨c, F0, H0, F1, ρ, κ1, q1, Out.bind o fun d2 κ2 F2 H2 v2 s2 k2 r2 o => ?_⟩
  cases h : f d d2 with
  | none => rw [h] at o; exact o.elim
  | some p =>
    rw [h] at o
    exact ⟨c, F2, κ2, d, d2, p.1, p.2, s2.inH, k2, r1.sub s2.sub, r2, h, o⟩
theorem st_cmp {op : CmpOp} {f : D → D → Option (D × Bool)} (ho : OpR X (compareOp op) (rOp X.K fa f)) (hf : ∀ d e p, f d e = some p → ∃ k, p = (.bl k, false)) (ha : SnE X fa cl W x a) (hb : SnE X fa cl W y b) (hm : behindInMarks op y = false) :
    SnT X fa cl W (.Compare x [op] [y] pos) (cBin f a b) := by
  refine PT.imp (fun σ H Q ⟨c, F0, H0, F, ρ, κ, r, o⟩ => ?_) (pt_cmpR ho ha hb hm)
  have o' : Out X.K fa cl W c σ F H (fun v H1 => ∃ k, v = .bl k ∧ Q k H1) (cBin f a b ρ κ) := by
    unfold cBin at o ⊢
    cases ea : a ρ κ with
    | ok d fr κ1 =>
      rw [ea] at o
      show Out X.K fa cl W c σ F H _ ((b ρ κ1).bind fun y κ => lift (f d y) κ)
      have o : OutT X.K fa cl W c σ F H Q truth ((b ρ κ1).bind fun y κ => lift (f d y) κ) := o
      cases eb : b ρ κ1 with
      | ok d2 fr2 κ2 =>
        rw [eb] at o
        show Out X.K fa cl W c σ F H _ (lift (f d d2) κ2)
        have o : OutT X.K fa cl W c σ F H Q truth (lift (f d d2) κ2) := o
        cases h : f d d2 with
        | none => rw [h] at o; exact o.elim
        | some p =>
          rw [h] at o
          obtain ⟨k, rfl⟩ := hf _ _ _ h
          obtain ⟨b', e', o⟩ := o
          cases e'
          intro F' H' v s k' e _
          cases e
          exact ⟨k, rfl, o F' H' s k'⟩
      | exc k d κ => rw [eb] at o; exact o
      | bad => rw [eb] at o; exact o
    | exc k d κ => rw [ea] at o; exact o
    | bad => rw [ea] at o; exact o
  refine ⟨c, F0, H0, F, ρ, κ, r, Out.bind o' fun d κ1 F1 H1 v s1 k1 r1 o => ?_⟩
  have q1 := r.step s1 k1
  refine ⟨c, F0, H0, F1, ρ, κ1, q1, Out.bind o fun d2 κ2 F2 H2 v2 s2 k2 r2 o => ?_⟩
  cases h : f d d2 with
  | none => rw [h] at o; exact o.elim
  | some p =>
    rw [h] at o
    exact ⟨c, F2, κ2, d, d2, p.1, p.2, s2.inH, k2, r1.sub s2.sub, r2, h, o⟩
/-- a test by its value -/
theorem truV_of {K : PySem.W.Frag} {fa : Nat → Option Addr} {c : Option Addr} {F H : Hp} {d : D} {v : V} {b : Bool} (hF : ∀ a o, F a = some o → H a = some o) (r : Rep K fa c F d v) (e : truth d = some b) : TruV K v H b := by
  cases r with
  | non => cases e; rfl
  | bl k => cases e; rfl
  | int i => cases e; rfl
  | tup h t =>
    cases e
    refine .inr (.inl ⟨_, SqT.of (hF _ _ h), ?_⟩)
    cases t <;> rfl
  | lst h t =>
    cases e
    refine .inl ⟨_, SqL.of (hF _ _ h), ?_⟩
    cases t <;> rfl
  | _ => cases e
theorem st_of {m : SmE} (h : SnE X fa cl W x m) (he : ∀ whole, isTrue x X.env whole = (do let v ← whole; standAt x.pos; holding [v] (truthy v))) : SnT X fa cl W x m := by
  refine PT.imp (fun σ H Q ⟨c, F0, H0, F, ρ, κ, r, o⟩ => ?_) (pt_truth h he)
  refine ⟨c, F0, H0, F, ρ, κ, r, ?_⟩
  cases e : m ρ κ with
  | ok d fr κ1 =>
    rw [e] at o
    obtain ⟨b, hb, o⟩ := o
    intro F' H' v s k e fresh
    obtain ⟨F2, s2, k2, _, e2⟩ := e.still s k fresh
    exact ⟨b, truV_of s2.inH e2 hb, o F2 H' s2 k2⟩
  | exc k d κ => rw [e] at o; exact o
  | bad => rw [e] at o; exact o
/-! ### and, or, not, if-else -/
theorem R.bool_test {r : R} {g : Bool → Kp → R} (h : ∀ d fr κ, r = .ok d fr κ → ∃ b, d = .bl b) : r.bool g = r.test g := by
  cases r with
  | ok d fr κ => obtain ⟨b, rfl⟩ := h d fr κ rfl; rfl
  | _ => rfl
theorem Out.bool {c : Option Addr} {σ : L2.St} {F H : Hp} {Q Q1 : VK} {K : PySem.W.Frag} {r : R} {g : Bool → Kp → R} (o : Out K fa cl W c σ F H Q (r.bool g))
    (h : ∀ b κ F1 H1, Stp K c F H F1 H1 → Kap c κ F1 H1 → Out K fa cl W c σ F1 H1 Q (g b κ) → Q1 (.bl b) H1) : Out K fa cl W c σ F H Q1 r := by
  cases r with
  | ok d fr κ =>
    cases d <;> try exact o.elim
    rename_i b
    intro F' H' v s k e fresh
    obtain ⟨F2, s2, k2, _, e2⟩ := e.still s k fresh
    cases e2
    exact h b κ F2 H' s2 k2 (Out.step s2 o)
  | exc k d κ => exact o
  | bad => exact o
theorem OutT.bool {c : Option Addr} {σ : L2.St} {F H : Hp} {Q Q1 : Bool → Hp → Prop} {K : PySem.W.Frag} {r : R} {g : Bool → Kp → R} (o : OutT K fa cl W c σ F H Q truth (r.bool g))
    (h : ∀ b κ F1 H1, Stp K c F H F1 H1 → Kap c κ F1 H1 → OutT K fa cl W c σ F1 H1 Q truth (g b κ) → Q1 b H1) : OutT K fa cl W c σ F H Q1 truth r := by
  cases r with
  | ok d fr κ =>
    cases d <;> try exact o.elim
    rename_i b
    exact ⟨b, rfl, fun F' H' s k => h b κ F' H' s k (OutT.step s o)⟩
  | exc k d κ => exact o
  | bad => exact o
theorem OutT.val {c : Option Addr} {σ : L2.St} {F H : Hp} {Q : Bool → Hp → Prop} {K : PySem.W.Frag} {b fr : Bool} {κ : Kp} (hF : ∀ a o, F a = some o → H a = some o) (k : Kap c κ F H) (o : OutT K fa cl W c σ F H Q truth (.ok (.bl b) fr κ)) : Q b H := by
  obtain ⟨b', e, o⟩ := o
  cases e
  exact o F H (Stp.refl hF) k
theorem sn_one {op : BoolOp} (ha : SnE X fa cl W x a) : SnE X fa cl W (.BoolOp op [x] pos) a := pe_one ha
theorem sn_and {rest : List Expr} (ha : SnE X fa cl W x a) (hb : SnE X fa cl W (.BoolOp .And (y :: rest) pos) b) : SnE X fa cl W (.BoolOp .And (x :: y :: rest) pos) (cAnd a b) := by
  refine PE.imp (fun σ H Q ⟨c, F0, H0, F, ρ, κ, r, o⟩ => ?_) (pe_and ha hb)
  refine ⟨c, F0, H0, F, ρ, κ, r, Out.bool o fun k κ1 F1 H1 s1 k1 o => ⟨k, rfl, ?_⟩⟩
  cases k with
  | true => exact ⟨c, F0, H0, F1, ρ, κ1, r.step s1 k1, o⟩
  | false => exact Out.pure s1.inH k1 o (.bl _)
theorem sn_or {rest : List Expr} (ha : SnE X fa cl W x a) (hb : SnE X fa cl W (.BoolOp .Or (y :: rest) pos) b) : SnE X fa cl W (.BoolOp .Or (x :: y :: rest) pos) (cOr a b) := by
  refine PE.imp (fun σ H Q ⟨c, F0, H0, F, ρ, κ, r, o⟩ => ?_) (pe_or ha hb)
  refine ⟨c, F0, H0, F, ρ, κ, r, Out.bool o fun k κ1 F1 H1 s1 k1 o => ⟨k, rfl, ?_⟩⟩
  cases k with
  | true => exact Out.pure s1.inH k1 o (.bl _)
  | false => exact ⟨c, F0, H0, F1, ρ, κ1, r.step s1 k1, o⟩
/-- a test whatever its whole is -/
def SwT (X : Cx) (fa : Nat → Option Addr) (cl : Nat → ClsI) (W : WX) (x : Expr) (m : SmE) : Prop := PW X x (tT X fa cl W m)
theorem SwT.st {m : SmE} (h : SwT X fa cl W x m) : SnT X fa cl W x m := PW.pt h
theorem sw_and1 (ha : SnT X fa cl W x a) : SwT X fa cl W (.BoolOp .And [x] pos) a := pw_and1 ha
theorem sw_or1 (ha : SnT X fa cl W x a) : SwT X fa cl W (.BoolOp .Or [x] pos) a := pw_or1 ha
theorem sw_and {rest : List Expr} (ha : SnT X fa cl W x a) (hb : SwT X fa cl W (.BoolOp .And (y :: rest) pos) b) : SwT X fa cl W (.BoolOp .And (x :: y :: rest) pos) (cAnd a b) := by
  refine PW.imp (fun σ H Q ⟨c, F0, H0, F, ρ, κ, r, o⟩ => ?_) (pw_and ha hb)
  refine ⟨c, F0, H0, F, ρ, κ, r, OutT.bool o fun k κ1 F1 H1 s1 k1 o => ?_⟩
  cases k with
  | true => exact ⟨c, F0, H0, F1, ρ, κ1, r.step s1 k1, o⟩
  | false => exact OutT.val s1.inH k1 o
theorem sw_or {rest : List Expr} (ha : SnT X fa cl W x a) (hb : SwT X fa cl W (.BoolOp .Or (y :: rest) pos) b) : SwT X fa cl W (.BoolOp .Or (x :: y :: rest) pos) (cOr a b) := by
  refine PW.imp (fun σ H Q ⟨c, F0, H0, F, ρ, κ, r, o⟩ => ?_) (pw_or ha hb)
  refine ⟨c, F0, H0, F, ρ, κ, r, OutT.bool o fun k κ1 F1 H1 s1 k1 o => ?_⟩
  cases k with
  | true => exact OutT.val s1.inH k1 o
  | false => exact ⟨c, F0, H0, F1, ρ, κ1, r.step s1 k1, o⟩
theorem st_not (ha : SnT X fa cl W x a) : SnT X fa cl W (.UnaryOp .Not x pos) (cNot a) := by
  refine PT.imp (fun σ H Q ⟨c, F0, H0, F, ρ, κ, r, o⟩ => ?_) (pt_not ha)
  exact ⟨c, F0, H0, F, ρ, κ, r, OutT.test o fun k κ1 F1 H1 s1 k1 o => OutT.val s1.inH k1 o⟩
theorem sn_not (ha : SnE X fa cl W x a) : SnE X fa cl W (.UnaryOp .Not x pos) (fun ρ κ => (a ρ κ).bool fun b κ => .ok (.bl (!b)) false κ) := by
  refine PE.imp (fun σ H Q ⟨c, F0, H0, F, ρ, κ, r, o⟩ => ?_) (pe_not ha)
  exact ⟨c, F0, H0, F, ρ, κ, r, Out.bool o fun k κ1 F1 H1 s1 k1 o => ⟨k, rfl, Out.pure s1.inH k1 o (.bl _)⟩⟩
theorem sn_ite (ht : SnT X fa cl W z e) (ha : SnE X fa cl W x a) (hb : SnE X fa cl W y b) : SnE X fa cl W (.IfExp z x y pos) (cIte e a b) := by
  refine PE.imp (fun σ H Q ⟨c, F0, H0, F, ρ, κ, r, o⟩ => ?_) (pe_ifExp ht ha hb)
  refine ⟨c, F0, H0, F, ρ, κ, r, Out.test o fun k κ1 F1 H1 s1 k1 o => ?_⟩
  cases k with
  | true => exact ⟨c, F0, H0, F1, ρ, κ1, r.step s1 k1, o⟩
  | false => exact ⟨c, F0, H0, F1, ρ, κ1, r.step s1 k1, o⟩
/-! ### argument lists, displays -/
theorem sl_nil : SnL X fa cl W [] cNil := PA.imp (fun _ H _ ⟨_, _, _, F, _, _, r, o⟩ => o F H [] (Stp.refl r.inH) r.kap .nil) pa_nil
theorem sl_cons {xs : List Expr} {m : SmL} (ha : SnE X fa cl W x a) (hb : SnL X fa cl W xs m) (hs : starEach (x :: xs) X.env = (false, eval x X.env) :: starEach xs X.env) : SnL X fa cl W (x :: xs) (cCons a m) := by
  refine PA.imp (fun σ H Q ⟨c, F0, H0, F, ρ, κ, r, o⟩ => ?_) (pa_cons ha hb hs)
  refine ⟨c, F0, H0, F, ρ, κ, r, ?_⟩
  unfold cCons at o
  cases ea : a ρ κ with
  | ok d fr κ1 =>
    rw [ea] at o
    intro F' H' v s k e fresh
    obtain ⟨F2, s2, k2, _, e2⟩ := e.still s k fresh
    refine ⟨c, F0, H0, F2, ρ, κ1, r.step s2 k2, ?_⟩
    cases em : m ρ κ1 with
    | ok ds κ2 =>
      simp only [em] at o
      intro F3 H3 vs s3 k3 e3
      exact o F3 H3 (v :: vs) (s2.trans s3) k3 (.cons (e2.sub s3.sub) e3)
    | exc k d κ => simp only [em] at o; exact OutX.step s2 o
    | bad => simp only [em] at o; exact o
  | exc k d κ => rw [ea] at o; exact o
  | bad => rw [ea] at o; exact o
theorem sn_tup {xs : List Expr} {m : SmL} {k : Nat} (h : SnL X fa cl W xs m) (hl : xs.length ≤ 10000) (hm : ∀ ρ κ ds κ', m ρ κ = .ok ds κ' → ds.length = xs.length) : SnE X fa cl W (.Tuple xs k pos) (cTup m) := by
  refine PE.imp (fun σ H Q ⟨c, F0, H0, F, ρ, κ, r, o⟩ => ?_) (pe_tup h)
  refine ⟨c, F0, H0, F, ρ, κ, r, ?_⟩
  unfold cTup cAp at o
  cases em : m ρ κ with
  | ok ds κ1 =>
    rw [em] at o
    intro F1 H1 vs s1 k1 r1
    have hlen : vs.length ≤ sizeLine := by rw [← r1.length, hm _ _ _ _ em, sizeLine_eq]; omega
    refine ⟨hlen, fun p hp => ?_⟩
    exact o (upd F1 p (.tup vs)) (upd H1 p (.tup vs)) (.ref p) (s1.trans (Stp.laid s1.inH hp)) (k1.laid hp) (.tup upd_same (r1.sub (Stp.laid (K := X.K) (c := c) s1.inH hp).sub)) (fun q => nomatch q)
  | exc k d κ => rw [em] at o; exact o
  | bad => rw [em] at o; exact o
theorem sn_lst {xs : List Expr} {m : SmL} (h : SnL X fa cl W xs m) (hl : xs.length ≤ 10000) (hm : ∀ ρ κ ds κ', m ρ κ = .ok ds κ' → ds.length = xs.length) : SnE X fa cl W (.List xs pos) (cLst m) := by
  refine PE.imp (fun σ H Q ⟨c, F0, H0, F, ρ, κ, r, o⟩ => ?_) (pe_lst h)
  refine ⟨c, F0, H0, F, ρ, κ, r, ?_⟩
  unfold cLst cAp at o
  cases em : m ρ κ with
  | ok ds κ1 =>
    rw [em] at o
    intro F1 H1 vs s1 k1 r1
    have hlen : vs.length ≤ sizeLine := by rw [← r1.length, hm _ _ _ _ em, sizeLine_eq]; omega
    refine ⟨hlen, fun p hp => ?_⟩
    have hF1 : F1 p = none := by
      cases q : F1 p with
      | none => rfl
      | some u => rw [s1.inH _ _ q] at hp; cases hp
    have hcp : c ≠ some p := fun q => by
      obtain ⟨_, h2⟩ := k1.2 p q
      rw [hp] at h2; cases h2
    refine o F1 (upd H1 p (.lst vs)) (.ref p) (s1.trans (Stp.laid0 s1.inH hp)) (k1.laid0 hp) ⟨p, rfl, ⟨hF1, hcp, vs, upd_same, r1⟩⟩ (fun _ a ea => ?_)
    cases ea
    cases q : H p with
    | none => rfl
    | some u =>
      obtain ⟨u', e'⟩ := s1.dom p u q
      rw [hp] at e'; cases e'
  | exc k d κ => rw [em] at o; exact o
  | bad => rw [em] at o; exact o
end
/-! ## operations of values -/
def LIM : Nat := 1000000
def BIG : Nat := 2 ^ 4096
def big (i : Int) : Bool := decide (i.natAbs < BIG)
theorem lim_le : LIM ≤ sizeLine := by rw [sizeLine_eq]; decide
theorem big_of {i : Int} (h : i.natAbs < 2 ^ 64) : big i = true := decide_eq_true (Nat.lt_of_lt_of_le h (by unfold BIG; exact Nat.pow_le_pow_right (by omega) (by omega)))
theorem big_log {i : Int} (h : big i = true) : i.natAbs.log2 < 4096 := PySem.Flt.log2_lt_of (by decide) (of_decide_eq_true h)
theorem big_bits {i : Int} (h : big i = true) : Builtin.Int.intBits i ≤ 4097 := by
  have := big_log h
  unfold Builtin.Int.intBits
  split <;> omega
abbrev O1 := Option (D × Bool)
def fAdd : D → D → O1
  | .int a, .int b => some (.int (a + b), false)
  | .tup a, .tup b => if a.length + b.length ≤ LIM then some (.tup (a ++ b), false) else none
  | .lst a, .lst b => if a.length + b.length ≤ LIM then some (.lst (a ++ b), true) else none
  | .str a, .str b => if a.length + b.length ≤ LIM then some (.str (a ++ b), false) else none
  | _, _ => none
def fSub : D → D → O1
  | .int a, .int b => some (.int (a - b), false)
  | _, _ => none
def fMul : D → D → O1
  | .int a, .int b => if big a && big b then some (.int (a * b), false) else none
  | .lst a, .int k => if a.length * k.toNat ≤ LIM && decide (-(2 ^ 63) ≤ k) && decide (k < 2 ^ 63) then some (.lst (List.replicate k.toNat a).flatten, true) else none
  | .tup a, .int k => if !a.isEmpty && decide (a.length ≤ 1000) && decide (2 ≤ k) && decide (k ≤ 1000) then some (.tup (List.replicate k.toNat a).flatten, false) else none
  | _, _ => none
def fDiv : D → D → O1
  | .int a, .int b => if decide (0 < b) && big b then some (.int (a / b), false) else none
  | _, _ => none
def fMod : D → D → O1
  | .int a, .int b => if 0 < b then some (.int (a % b), false) else none
  | _, _ => none
def fPow : D → D → O1
  | .int a, .int b => if decide (0 ≤ b) && decide (b ≤ 10000) && big a then some (.int (a ^ b.toNat), false) else none
  | _, _ => none
def fShl : D → D → O1
  | .int a, .int b => if decide (0 ≤ b) && decide (b ≤ 100000) && big a then some (.int (a * 2 ^ b.toNat), false) else none
  | _, _ => none
def fShr : D → D → O1
  | .int a, .int b => if 0 ≤ b then some (.int (a / 2 ^ b.toNat), false) else none
  | _, _ => none
def fBan : D → D → O1
  | .int a, .int b => some (.int (Builtin.bitAnd a b), false)
  | _, _ => none
def fBor : D → D → O1
  | .int a, .int b => some (.int (Builtin.bitOr a b), false)
  | _, _ => none
def fBxr : D → D → O1
  | .int a, .int b => some (.int (Builtin.bitXor a b), false)
  | _, _ => none
def fNeg : D → O1
  | .int a => some (.int (-a), false)
  | _ => none
def fLt : D → D → O1
  | .int a, .int b => some (.bl (decide (a < b)), false)
  | _, _ => none
def fLe : D → D → O1
  | .int a, .int b => some (.bl (decide (a ≤ b)), false)
  | _, _ => none
def fGt : D → D → O1
  | .int a, .int b => some (.bl (decide (b < a)), false)
  | _, _ => none
def fGe : D → D → O1
  | .int a, .int b => some (.bl (decide (b ≤ a)), false)
  | _, _ => none
mutual
def D.toPy : D → PyData
  | .bl b => .bool b
  | .int i => .int i
  | .str s => .str s
  | .tup xs => .tuple (toPyL xs)
  | .lst xs => .list (toPyL xs)
  | _ => .none
def toPyL : List D → List PyData
  | [] => []
  | d :: r => d.toPy :: toPyL r
end
mutual
/-- data that == walks: of nesting at most n -/
def D.shp : D → Nat → Bool
  | .non, _ | .bl _, _ | .int _, _ => true
  | .str s, _ => PyData.strOk s
  | .tup xs, n + 1 | .lst xs, n + 1 => shpL xs n
  | _, _ => false
def shpL : List D → Nat → Bool
  | [], _ => true
  | d :: r, n => d.shp n && shpL r n
end
mutual
def D.eqv : D → D → Bool
  | .non, .non => true
  | .bl a, .bl b => a == b
  | .bl a, .int j => (if a then 1 else 0) == j
  | .int i, .bl b => i == (if b then 1 else 0)
  | .int i, .int j => i == j
  | .str x, .str y => x == y
  | .lst xs, .lst ys => eqvL xs ys
  | .tup xs, .tup ys => eqvL xs ys
  | _, _ => false
def eqvL : List D → List D → Bool
  | [], [] => true
  | x :: xs, y :: ys => x.eqv y && eqvL xs ys
  | _, _ => false
end
def fEq : D → D → O1
  | .int a, .int b => some (.bl (a == b), false)
  | a, b => if a.shp 60 && b.shp 60 then some (.bl (a.eqv b), false) else none
def fNe : D → D → O1
  | .int a, .int b => some (.bl (!(a == b)), false)
  | a, b => if a.shp 60 && b.shp 60 then some (.bl (!a.eqv b), false) else none
/-! ### they are Python's -/
section
variable {X : Cx} {fa : Nat → Option Addr}
theorem OpR.imp {X : Cx} {f : Value → Value → PySem.Sem Value} {r r' : R2} (h : ∀ x y H Q, r' x y H Q → r x y H Q) (o : OpR X f r) : OpR X f r' := fun pins s σ H x y v u Q I rx ry q => o pins s σ H x y v u Q I rx ry (h x y H Q q)
theorem fin0 {c : Option Addr} {K : PySem.W.Frag} {F H : Hp} {κ : Kp} {Q : VK} {d : D} {v : V} (hF : ∀ a o, F a = some o → H a = some o) (k : Kap c κ F H)
    (o : ∀ F' H' v, Stp K c F H F' H' → Kap c κ F' H' → RepF K fa c F' H' false d v → (false = true → ∀ a, v = .ref a → H a = none) → Q v H') (r : Rep K fa c F d v) : Q v H := o F H v (Stp.refl hF) k r (fun q => nomatch q)
/-- a new list -/
theorem finL {c : Option Addr} {K : PySem.W.Frag} {F H : Hp} {κ : Kp} {Q : VK} {ds : List D} {vs : List V} (hF : ∀ a o, F a = some o → H a = some o) (k : Kap c κ F H)
    (o : ∀ F' H' v, Stp K c F H F' H' → Kap c κ F' H' → RepF K fa c F' H' true (.lst ds) v → (true = true → ∀ a, v = .ref a → H a = none) → Q v H') (r : RepL K fa c F ds vs) : ∀ p, H p = none → Q (.ref p) (upd H p (.lst vs)) := fun p hp => by
  have hF1 : F p = none := by
    cases q : F p with
    | none => rfl
    | some u => rw [hF _ _ q] at hp; cases hp
  have hcp : c ≠ some p := fun q => by
    obtain ⟨_, h2⟩ := k.2 p q
    rw [hp] at h2; cases h2
  exact o F (upd H p (.lst vs)) (.ref p) (Stp.laid0 hF hp) (k.laid0 hp) ⟨p, rfl, ⟨hF1, hcp, vs, upd_same, r⟩⟩ (fun _ a ea => by cases ea; exact hp)
/-- a new tuple -/
theorem finT {c : Option Addr} {K : PySem.W.Frag} {F H : Hp} {κ : Kp} {Q : VK} {ds : List D} {vs : List V} (hF : ∀ a o, F a = some o → H a = some o) (k : Kap c κ F H)
    (o : ∀ F' H' v, Stp K c F H F' H' → Kap c κ F' H' → RepF K fa c F' H' false (.tup ds) v → (false = true → ∀ a, v = .ref a → H a = none) → Q v H') (r : RepL K fa c F ds vs) : ∀ p, H p = none → Q (.ref p) (upd H p (.tup vs)) := fun p hp =>
  o (upd F p (.tup vs)) (upd H p (.tup vs)) (.ref p) (Stp.laid hF hp) (k.laid hp) (.tup upd_same (r.sub (Stp.laid (K := K) (c := c) hF hp).sub)) (fun q => nomatch q)
theorem Rd.inH {F H : Hp} {a : Addr} {u : HO} (hF : ∀ a o, F a = some o → H a = some o) (h : Rd F a u) : Rd H a u := by
  rcases h with h | ⟨o, h⟩
  · exact .inl (hF _ _ h)
  · exact .inr ⟨o, hF _ _ h⟩
theorem SqT.inH {K : PySem.W.Frag} {F H : Hp} {a : Addr} {vs : List V} (hF : ∀ a o, F a = some o → H a = some o) (h : SqT K F a vs) : SqT K H a vs := SqT.sub (Sub.of hF) h
theorem op_Add : OpR X (binaryOp .Add) (rOp X.K fa fAdd) := by
  intro pins s σ H x y v u Q I rx ry h
  obtain ⟨c, F, κ, dx, dy, d, fr, hF, k, r1, r2, e, o⟩ := h
  unfold fAdd at e
  split at e
  · cases e
    cases r1; cases r2
    exact op_add pins s σ H _ _ v u Q I rx ry ⟨_, _, rfl, rfl, fin0 hF k o (.int _)⟩
  · split at e
    · cases e
      rename_i hz
      cases r1 with
      | tup h1 t1 =>
        cases r2 with
        | tup h2 t2 =>
          refine op_catA pins s σ H _ _ v u Q I rx ry ⟨_, _, _, _, rfl, rfl, SqT.of (hF _ _ h1), SqT.of (hF _ _ h2), ?_, fun e => ?_, fun _ e => ?_, fun _ _ => finT hF k o (t1.append t2)⟩
          · rw [← t1.length, ← t2.length]
            exact Nat.le_trans hz lim_le
          · subst e
            cases t1
            exact fin0 hF k o (.tup h2 t2)
          · subst e
            cases t2
            rw [List.append_nil] at o
            exact fin0 hF k o (.tup h1 t1)
    · cases e
  · split at e
    · cases e
      rename_i hz
      cases r1 with
      | lst h1 t1 =>
        cases r2 with
        | lst h2 t2 => exact op_cat pins s σ H _ _ v u Q I rx ry ⟨_, _, _, _, rfl, rfl, hF _ _ h1, hF _ _ h2, by rw [← t1.length, ← t2.length]; exact Nat.le_trans hz lim_le, finL hF k o (t1.append t2)⟩
    · cases e
  · split at e
    · cases e
      rename_i hz
      cases r1; cases r2
      exact op_add_str pins s σ H _ _ v u Q I rx ry ⟨_, _, rfl, rfl, Nat.le_trans hz lim_le, fin0 hF k o (.str _)⟩
    · cases e
  · cases e
theorem op_Sub : OpR X (binaryOp .Sub) (rOp X.K fa fSub) := by
  intro pins s σ H x y v u Q I rx ry h
  obtain ⟨c, F, κ, dx, dy, d, fr, hF, k, r1, r2, e, o⟩ := h
  unfold fSub at e
  split at e
  · cases e
    cases r1; cases r2
    exact op_sub pins s σ H _ _ v u Q I rx ry ⟨_, _, rfl, rfl, fin0 hF k o (.int _)⟩
  · cases e
theorem RepL.rep {K : PySem.W.Frag} {c : Option Addr} {F : Hp} {ds : List D} {vs : List V} (r : RepL K fa c F ds vs) : ∀ n : Nat, RepL K fa c F (List.replicate n ds).flatten (List.replicate n vs).flatten
  | 0 => .nil
  | n + 1 => by
    rw [List.replicate_succ, List.replicate_succ, List.flatten_cons, List.flatten_cons]
    exact r.append (RepL.rep r n)
theorem op_Mul : OpR X (binaryOp .Mult) (rOp X.K fa fMul) := by
  intro pins s σ H x y v u Q I rx ry h
  obtain ⟨c, F, κ, dx, dy, d, fr, hF, k, r1, r2, e, o⟩ := h
  unfold fMul at e
  split at e
  · split at e
    · cases e
      rename_i hb
      obtain ⟨b1, b2⟩ := Bool.and_eq_true_iff.mp hb
      cases r1; cases r2
      refine op_mulW pins s σ H _ _ v u Q I rx ry ⟨_, _, rfl, rfl, ?_, fin0 hF k o (.int _)⟩
      have l1 := big_log b1
      have l2 := big_log b2
      unfold CMulW
      omega
    · cases e
  · split at e
    · cases e
      rename_i hb
      simp only [Bool.and_eq_true, decide_eq_true_eq] at hb
      obtain ⟨⟨h1, h2⟩, h3⟩ := hb
      cases r2
      cases r1 with
      | lst hl t1 => exact op_rep pins s σ H _ _ v u Q I rx ry ⟨_, _, _, rfl, rfl, hF _ _ hl, h2, h3, by rw [← t1.length]; exact Nat.le_trans h1 lim_le, finL hF k o (t1.rep _)⟩
    · cases e
  · split at e
    · cases e
      rename_i hb
      simp only [Bool.and_eq_true, decide_eq_true_eq, Bool.not_eq_true'] at hb
      obtain ⟨⟨⟨h0, h1⟩, h2⟩, h3⟩ := hb
      cases r2
      cases r1 with
      | tup hl t1 =>
        refine op_repT pins s σ H _ _ v u Q I rx ry ⟨_, _, _, rfl, rfl, SqT.of (hF _ _ hl), fun z => ?_, h2, h3, by rw [← t1.length]; exact h1, finT hF k o (t1.rep _)⟩
        subst z
        cases t1
        cases h0
    · cases e
  · cases e
theorem op_Div : OpR X (binaryOp .FloorDiv) (rOp X.K fa fDiv) := by
  intro pins s σ H x y v u Q I rx ry h
  obtain ⟨c, F, κ, dx, dy, d, fr, hF, k, r1, r2, e, o⟩ := h
  unfold fDiv at e
  split at e
  · split at e
    · cases e
      rename_i hb
      simp only [Bool.and_eq_true, decide_eq_true_eq] at hb
      cases r1; cases r2
      exact op_fdivW pins s σ H _ _ v u Q I rx ry ⟨_, _, rfl, rfl, ⟨hb.1, by have := big_log hb.2; omega⟩, fin0 hF k o (.int _)⟩
    · cases e
  · cases e
theorem op_Mod : OpR X (binaryOp .Mod) (rOp X.K fa fMod) := by
  intro pins s σ H x y v u Q I rx ry h
  obtain ⟨c, F, κ, dx, dy, d, fr, hF, k, r1, r2, e, o⟩ := h
  unfold fMod at e
  split at e
  · split at e
    · cases e
      rename_i hb
      cases r1; cases r2
      exact op_mod pins s σ H _ _ v u Q I rx ry ⟨_, _, rfl, rfl, hb, fin0 hF k o (.int _)⟩
    · cases e
  · cases e
/-- a rule for two ints -/
theorem op_ints {op : Operator} {f : D → D → O1} {C : Int → Int → Prop} {g : Int → Int → Int} (hf : ∀ dx dy p, f dx dy = some p → ∃ a b, dx = .int a ∧ dy = .int b ∧ C a b ∧ p = (.int (g a b), false))
    (rule : ∀ (a b : Int) (t u : Tok) (s : Shared) (Q : Value → Shared → Prop) (E : Value → Shared → Prop), C a b → Q (.int (g a b) s.toks) { s with toks := s.toks + 1 } → wpAny (model X.prog X.w) X.A (binaryOp op (.int a t) (.int b u)) Q E s) :
    OpR X (binaryOp op) (rOp X.K fa f) := by
  intro pins s σ H x y v u Q I rx ry h
  obtain ⟨c, F, κ, dx, dy, d, fr, hF, k, r1, r2, e, o⟩ := h
  obtain ⟨a, b, rfl, rfl, hc, e⟩ := hf _ _ _ e
  cases e
  cases r1; cases r2
  obtain ⟨t, rfl⟩ := rx
  obtain ⟨t', rfl⟩ := ry
  exact rule a b t t' s _ _ hc ⟨.int _, H, I.tok _, ⟨_, rfl⟩, fin0 hF k o (.int _)⟩
theorem op_Pow : OpR X (binaryOp .Pow) (rOp X.K fa fPow) := by
  refine op_ints (C := fun a b => 0 ≤ b ∧ b ≤ 10000 ∧ big a = true) (g := fun a b => a ^ b.toNat) (fun dx dy p e => ?_) (fun a b t u s Q E hc q => pow_int hc.1 ?_ q)
  · unfold fPow at e
    split at e
    · split at e
      · cases e
        rename_i hb
        simp only [Bool.and_eq_true, decide_eq_true_eq] at hb
        exact ⟨_, _, rfl, rfl, ⟨hb.1.1, hb.1.2, hb.2⟩, rfl⟩
      · cases e
    · cases e
  · obtain ⟨h1, h2, h3⟩ := hc
    have := big_bits h3
    have h4 : (Builtin.Int.intBits a : Int) ≤ 4097 := by omega
    calc (Builtin.Int.intBits a : Int) * b ≤ 4097 * 10000 := Int.mul_le_mul h4 h2 h1 (by decide)
      _ ≤ 2 ^ 27 := by decide
theorem op_Shl : OpR X (binaryOp .LShift) (rOp X.K fa fShl) := by
  refine op_ints (C := fun a b => 0 ≤ b ∧ b ≤ 100000 ∧ big a = true) (g := fun a b => a * 2 ^ b.toNat) (fun dx dy p e => ?_) (fun a b t u s Q E hc q => lshift_int hc.1 ?_ q)
  · unfold fShl at e
    split at e
    · split at e
      · cases e
        rename_i hb
        simp only [Bool.and_eq_true, decide_eq_true_eq] at hb
        exact ⟨_, _, rfl, rfl, ⟨hb.1.1, hb.1.2, hb.2⟩, rfl⟩
      · cases e
    · cases e
  · obtain ⟨h1, h2, h3⟩ := hc
    have := big_bits h3
    have h4 : (2 : Int) ^ 27 = 134217728 := by decide
    rw [h4]
    omega
theorem op_Shr : OpR X (binaryOp .RShift) (rOp X.K fa fShr) := by
  intro pins s σ H x y v u Q I rx ry h
  obtain ⟨c, F, κ, dx, dy, d, fr, hF, k, r1, r2, e, o⟩ := h
  unfold fShr at e
  split at e
  · split at e
    · cases e
      rename_i hb
      cases r1; cases r2
      exact op_shr pins s σ H _ _ v u Q I rx ry ⟨_, _, rfl, rfl, hb, fin0 hF k o (.int _)⟩
    · cases e
  · cases e
/-- two ints, always -/
theorem op_int2 {op : Operator} {f : D → D → O1} {g : Int → Int → Int} (ho : OpR X (binaryOp op) (rI0 fun i j => .int (g i j))) (hf : ∀ dx dy p, f dx dy = some p → ∃ a b, dx = .int a ∧ dy = .int b ∧ p = (.int (g a b), false)) :
    OpR X (binaryOp op) (rOp X.K fa f) := by
  intro pins s σ H x y v u Q I rx ry h
  obtain ⟨c, F, κ, dx, dy, d, fr, hF, k, r1, r2, e, o⟩ := h
  obtain ⟨a, b, rfl, rfl, e2⟩ := hf _ _ _ e
  cases e2
  cases r1; cases r2
  exact ho pins s σ H _ _ v u Q I rx ry ⟨_, _, rfl, rfl, fin0 hF k o (.int _)⟩
theorem op_Ban : OpR X (binaryOp .BitAnd) (rOp X.K fa fBan) := op_int2 op_and fun dx dy p e => by
  unfold fBan at e
  split at e
  · cases e; exact ⟨_, _, rfl, rfl, rfl⟩
  · cases e
theorem op_Bor : OpR X (binaryOp .BitOr) (rOp X.K fa fBor) := op_int2 op_or fun dx dy p e => by
  unfold fBor at e
  split at e
  · cases e; exact ⟨_, _, rfl, rfl, rfl⟩
  · cases e
theorem op_Bxr : OpR X (binaryOp .BitXor) (rOp X.K fa fBxr) := op_int2 op_xor fun dx dy p e => by
  unfold fBxr at e
  split at e
  · cases e; exact ⟨_, _, rfl, rfl, rfl⟩
  · cases e
theorem op_Neg : UnR X (unaryOp .USub) (rUn1 X.K fa fNeg) := by
  intro pins s σ H x v Q I rx h
  obtain ⟨c, F, κ, dx, d, fr, hF, k, r1, e, o⟩ := h
  unfold fNeg at e
  split at e
  · cases e
    cases r1
    exact un_neg pins s σ H _ v Q I rx ⟨_, rfl, fin0 hF k o (.int _)⟩
  · cases e
/-- a comparison of two ints -/
theorem op_cmp2 {op : CmpOp} {f : D → D → O1} {g : Int → Int → Bool} (ho : OpR X (compareOp op) (rI0 fun i j => .bl (g i j))) (hf : ∀ dx dy p, f dx dy = some p → ∃ a b, dx = .int a ∧ dy = .int b ∧ p = (.bl (g a b), false)) :
    OpR X (compareOp op) (rOp X.K fa f) := by
  intro pins s σ H x y v u Q I rx ry h
  obtain ⟨c, F, κ, dx, dy, d, fr, hF, k, r1, r2, e, o⟩ := h
  obtain ⟨a, b, rfl, rfl, e2⟩ := hf _ _ _ e
  cases e2
  cases r1; cases r2
  exact ho pins s σ H _ _ v u Q I rx ry ⟨_, _, rfl, rfl, fin0 hF k o (.bl _)⟩
theorem op_Lt : OpR X (compareOp .Lt) (rOp X.K fa fLt) := op_cmp2 op_lt fun dx dy p e => by
  unfold fLt at e
  split at e
  · cases e; exact ⟨_, _, rfl, rfl, rfl⟩
  · cases e
theorem op_Le : OpR X (compareOp .LtE) (rOp X.K fa fLe) := op_cmp2 op_le fun dx dy p e => by
  unfold fLe at e
  split at e
  · cases e; exact ⟨_, _, rfl, rfl, rfl⟩
  · cases e
theorem op_Gt : OpR X (compareOp .Gt) (rOp X.K fa fGt) := op_cmp2 op_gt fun dx dy p e => by
  unfold fGt at e
  split at e
  · cases e; exact ⟨_, _, rfl, rfl, rfl⟩
  · cases e
theorem op_Ge : OpR X (compareOp .GtE) (rOp X.K fa fGe) := op_cmp2 op_ge fun dx dy p e => by
  unfold fGe at e
  split at e
  · cases e; exact ⟨_, _, rfl, rfl, rfl⟩
  · cases e
/-! ### == -/
mutual
theorem Rep.dp {K : PySem.W.Frag} {c : Option Addr} {F H : Hp} (hF : ∀ a o, F a = some o → H a = some o) : ∀ (d : D) (v : V) (n : Nat), Rep K fa c F d v → d.shp n = true → Dp K H v d.toPy
  | .non, v, n, r, e => by cases r; exact .non
  | .bl b, v, n, r, e => by cases r; exact .bl b
  | .int i, v, n, r, e => by cases r; exact .int i
  | .str x, v, n, r, e => by cases r; exact .str x
  | .tup xs, v, n, r, e => by
    cases r with
    | tup h t =>
      cases n with
      | zero => exact Bool.noConfusion e
      | succ n => exact   .tup (SqT.of (hF _ _ h)) (RepL.dp hF xs _ n t e)
  | .lst xs, v, n, r, e => by
    cases r with
    | lst h t =>
      cases n with
      | zero => exact Bool.noConfusion e
      | succ n => exact .lst (SqL.of (hF _ _ h)) (RepL.dp hF xs _ n t e)
  | .ty _, v, n, r, e => by cases n <;> exact Bool.noConfusion e
  | .fn _, v, n, r, e => by cases n <;> exact Bool.noConfusion e
  | .cro, v, n, r, e => by cases n <;> exact Bool.noConfusion e
  | .scr _, v, n, r, e => by cases n <;> exact Bool.noConfusion e
  | .dk _, v, n, r, e => by cases n <;> exact Bool.noConfusion e
  | .dt _, v, n, r, e => by cases n <;> exact Bool.noConfusion e
  | .fdk _, v, n, r, e => by cases n <;> exact Bool.noConfusion e
  | .nd, v, n, r, e => by cases n <;> exact Bool.noConfusion e
  | .fdt _, v, n, r, e => by cases n <;> exact Bool.noConfusion e
theorem RepL.dp {K : PySem.W.Frag} {c : Option Addr} {F H : Hp} (hF : ∀ a o, F a = some o → H a = some o) : ∀ (d : List D) (v : List V) (n : Nat), RepL K fa c F d v → shpL d n = true → DpAll K H v (toPyL d)
  | [], v, n, r, e => by cases r; exact .nil
  | x :: xs, v, n, r, e => by
    unfold shpL at e
    obtain ⟨e1, e2⟩ := Bool.and_eq_true_iff.mp e
    cases r with
    | cons h t => exact .cons (Rep.dp hF x _ n h e1) (RepL.dp hF xs _ n t e2)
end
mutual
theorem D.shp_ok : ∀ (d : D) (n : Nat), d.shp n = true → d.toPy.canLay0 = true ∧ d.toPy.depth ≤ n
  | .non, n, _ => ⟨rfl, Nat.zero_le _⟩
  | .bl _, n, _ => ⟨rfl, Nat.zero_le _⟩
  | .int _, n, _ => ⟨rfl, Nat.zero_le _⟩
  | .str x, n, e => ⟨by unfold D.toPy PyData.canLay0; unfold D.shp at e; exact e, Nat.zero_le _⟩
  | .tup xs, n + 1, e => by
    obtain ⟨h1, h2⟩ := shpL_ok xs n e
    exact ⟨by unfold D.toPy PyData.canLay0; exact h1, by unfold D.toPy PyData.depth; omega⟩
  | .lst xs, n + 1, e => by
    obtain ⟨h1, h2⟩ := shpL_ok xs n e
    exact ⟨by unfold D.toPy PyData.canLay0; exact h1, by unfold D.toPy PyData.depth; omega⟩
theorem shpL_ok : ∀ (ds : List D) (n : Nat), shpL ds n = true → PyData.canLayAll0 (toPyL ds) = true ∧ PyData.depthAll (toPyL ds) ≤ n
  | [], n, _ => ⟨rfl, Nat.zero_le _⟩
  | d :: r, n, e => by
    unfold shpL at e
    obtain ⟨e1, e2⟩ := Bool.and_eq_true_iff.mp e
    obtain ⟨a1, a2⟩ := D.shp_ok d n e1
    obtain ⟨b1, b2⟩ := shpL_ok r n e2
    exact ⟨by unfold toPyL PyData.canLayAll0; rw [a1, b1]; rfl, by unfold toPyL PyData.depthAll; omega⟩
end
mutual
theorem D.eqv_ok : ∀ (a b : D) (n m : Nat), a.shp n = true → b.shp m = true → PyData.eqv a.toPy b.toPy = a.eqv b
  | .non, b, n, m, _, e => by cases b <;> first | rfl | (cases m <;> exact Bool.noConfusion e)
  | .bl x, b, n, m, _, e => by cases b <;> first | rfl | (cases m <;> exact Bool.noConfusion e)
  | .int x, b, n, m, _, e => by cases b <;> first | rfl | (cases m <;> exact Bool.noConfusion e)
  | .str x, b, n, m, _, e => by cases b <;> first | rfl | (cases m <;> exact Bool.noConfusion e)
  | .tup xs, b, n, m, e1, e => by
    cases b <;> first | rfl | (cases m <;> exact Bool.noConfusion e) | skip
    rename_i ys
    cases n with
    | zero => exact Bool.noConfusion e1
    | succ n =>
      cases m with
      | zero => exact Bool.noConfusion e
      | succ m =>
        unfold D.toPy PyData.eqv D.eqv
        exact eqvL_ok xs ys n m e1 e
  | .lst xs, b, n, m, e1, e => by
    cases b <;> first | rfl | (cases m <;> exact Bool.noConfusion e) | skip
    rename_i ys
    cases n with
    | zero => exact Bool.noConfusion e1
    | succ n =>
      cases m with
      | zero => exact Bool.noConfusion e
      | succ m =>
        unfold D.toPy PyData.eqv D.eqv
        exact eqvL_ok xs ys n m e1 e
theorem eqvL_ok : ∀ (a b : List D) (n m : Nat), shpL a n = true → shpL b m = true → PyData.eqvAll (toPyL a) (toPyL b) = eqvL a b
  | [], [], _, _, _, _ => rfl
  | [], _ :: _, _, _, _, _ => rfl
  | _ :: _, [], _, _, _, _ => rfl
  | x :: xs, y :: ys, n, m, e1, e2 => by
    unfold shpL at e1 e2
    obtain ⟨a1, a2⟩ := Bool.and_eq_true_iff.mp e1
    obtain ⟨b1, b2⟩ := Bool.and_eq_true_iff.mp e2
    unfold toPyL PyData.eqvAll eqvL
    rw [D.eqv_ok x y n m a1 b1, eqvL_ok xs ys n m a2 b2]
end
theorem shaped_of {d : D} (h : d.shp 60 = true) : SeqAt.shaped d.toPy = true := by
  obtain ⟨h1, h2⟩ := D.shp_ok d 60 h
  unfold SeqAt.shaped
  rw [h1, decide_eq_true (by omega)]; rfl
theorem op_Eq (hu : X.A.units + 64 < cLine) : OpR X (compareOp .Eq) (rOp X.K fa fEq) := by
  intro pins s σ H x y v u Q I rx ry h
  obtain ⟨c, F, κ, dx, dy, d, fr, hF, k, r1, r2, e, o⟩ := h
  have gen : dx.shp 60 = true → dy.shp 60 = true → Q (.bl (dx.eqv dy)) H → wpAny (model X.prog X.w) X.A (compareOp .Eq v u) (EP X pins σ Q) X.xe s := fun e1 e2 q =>
    op_eqD hu pins s σ H _ _ v u Q I rx ry ⟨_, _, Rep.dp hF _ _ 60 r1 e1, Rep.dp hF _ _ 60 r2 e2, shaped_of e1, shaped_of e2, by rw [D.eqv_ok _ _ 60 60 e1 e2]; exact q⟩
  unfold fEq at e
  split at e
  · cases e
    exact gen rfl rfl (fin0 hF k o (.bl _))
  · split at e
    · cases e
      rename_i hb
      obtain ⟨b1, b2⟩ := Bool.and_eq_true_iff.mp hb
      exact gen b1 b2 (fin0 hF k o (.bl _))
    · cases e
theorem op_Ne (hu : X.A.units + 64 < cLine) : OpR X (compareOp .NotEq) (rOp X.K fa fNe) := by
  intro pins s σ H x y v u Q I rx ry h
  obtain ⟨c, F, κ, dx, dy, d, fr, hF, k, r1, r2, e, o⟩ := h
  have gen : dx.shp 60 = true → dy.shp 60 = true → Q (.bl (!dx.eqv dy)) H → wpAny (model X.prog X.w) X.A (compareOp .NotEq v u) (EP X pins σ Q) X.xe s := fun e1 e2 q =>
    op_neD hu pins s σ H _ _ v u Q I rx ry ⟨_, _, Rep.dp hF _ _ 60 r1 e1, Rep.dp hF _ _ 60 r2 e2, shaped_of e1, shaped_of e2, by rw [D.eqv_ok _ _ 60 60 e1 e2]; exact q⟩
  unfold fNe at e
  split at e
  · cases e
    exact gen rfl rfl (fin0 hF k o (.bl _))
  · split at e
    · cases e
      rename_i hb
      obtain ⟨b1, b2⟩ := Bool.and_eq_true_iff.mp hb
      exact gen b1 b2 (fin0 hF k o (.bl _))
    · cases e
end
/-! ## a def's promise where no repr is under way -/
structure FnG (P : Program) (w : World) (K : PySem.W.Frag) (mg : Str → Option Value) (base : Heap) (k : Nat) (f : Addr) (fd : FuncData) (ps : List Str) (sp : Sp) : Prop where
  len : ∀ vs H Q E, sp vs H Q E → vs.length = ps.length
  run : ∀ (A : Around) (outer : List Env) (s : Shared) (H : Hp) (args : Args) (us : List Value) (vs : List V) (Q : VK) (E : XK), Room k A → A.guards = some [] → Env0 P w K mg base A outer s H → BindsTo s fd args (ps.zip us) → Vals vs us →
    sp vs H Q E → codeAny (model P w) A (.call (.ref f) args) (CR (L2.CX P w) outer P w H s Q E) s
theorem fnG_of {P : Program} {w : World} {K : PySem.W.Frag} {mg : Str → Option Value} {base : Heap} {k : Nat} {f : Addr} {name qual : Str} {params : Arguments} {body : List Stmt} {scope : Scope} {dV kV doc pm cdv ct oc : Value} {an od : Option Addr}
    {osl : Array (Option Value)} {N ps : List Str} {sp : Sp} (lk : K.lookup f = some ⟨oc, od, .func (PySem.W.fnOf name qual params body scope dV kV doc pm an cdv ct), osl⟩) (hcd : PySem.W.codeIn K cdv qual = true) (S : FnScope N ps scope) (len : ∀ vs H Q E, sp vs H Q E → vs.length = ps.length)
    (hbody : ∀ (A : Around) (outer : List Env) (s : Shared) (H : Hp) (vs : List V) (Q : VK) (E : XK), Room k (A.deeper (envOfC qual scope s.heap.objs.size f cdv)) → A.guards = some [] → sp vs H Q E →
      ∃ t, PSs (cxOf (L2.CX P w) P w K mg base N qual scope f cdv A outer s H E) body t ∧ t { nx := fun _ H' => Q .non H', rt := Q } (L2.start N vs) H) :
    FnG P w K mg base (k + 1) f (PySem.W.fnOf name qual params body scope dV kV doc pm an cdv ct) ps sp :=
  ⟨len, fun A outer s H args us vs Q E hr hg e0 hb r hsp => LamX.run_ofS lk hcd S hr e0 hb r (len _ _ _ _ hsp) fun hr' => hbody A outer s H vs Q E hr' hg hsp⟩
section
variable {X : Cx} {k : Nat} {f : Addr} {fd : FuncData} {ps : List Str} {sp : Sp} {E : L2.St → XK} {x : Str} {p pos : Pos} {e : Expr} {es : List Expr} {t : TA}
theorem run_fnG {pins : List (Addr × Obj)} {σ : L2.St} {H : Hp} {s : Shared} {Q : VK} {us : List Value} {vs : List V} (F : FnG X.prog X.w X.K X.mg X.base k f fd ps sp) (hr : Room k X.A) (hgd : X.A.guards = some []) (hb : Binds X.K fd ps []) (hx : PassesAt (L2.CX X.prog X.w) X σ (E σ))
    (I : Inv X pins σ H s) (r : Vals vs us) (h : sp vs H Q (E σ)) : wpAny (model X.prog X.w) X.A (call (.ref f) us) (EP X pins σ Q) X.xe s := by
  have hn : us.length = ps.length := r.length.symm.trans (F.len _ _ _ _ h)
  have b := hb s us I.kIn ((congrArg List.length (List.append_nil us)).trans hn)
  rw [List.append_nil] at b
  refine wpAny_call (codeAny_mono (F.run X.A X.stack s H ⟨us, []⟩ us vs Q (E σ) hr hgd I.env0 b r h) fun z s' hq => ?_)
  match z, hq with
  | .error e, hq => exact hx pins H s e s' I hq
  | .ok (.ret u), hq => exact I.after hq
theorem pe_callG (F : FnG X.prog X.w X.K X.mg X.base k f fd ps sp) (hr : Room k X.A) (hgd : X.A.guards = some []) (hg : Gl X x) (hm : X.mg x = some (.ref f)) (hk : PySem.W.keepIn X.K (.ref f) = true) (hb : Binds X.K fd ps []) (hx : ∀ σ, PassesAt (L2.CX X.prog X.w) X σ (E σ))
    (ha : PA X (e :: es) t) (hdb : (x == ("__debug__" : Str)) = false) (he : starEach (e :: es) X.env = (false, eval e X.env) :: starEach es X.env) (hpl : (backTo pos (starEach es X.env)).any (·.1) = false) :
    PE X (.Call (.Name x p) (e :: es) [] pos) (tCallS sp E t) :=
  ⟨fun pins s σ H Q I h => wpAny_Call_Name_kw (ld_glob I hg hm (PySem.W.callWith_K (h₀ := X.base) I.ok.mod.kin hk (thn (ha.run pos pins s σ H _ I h) fun us s1 ⟨vs, H1, I1, r, q⟩ => ⟨I1.kIn, run_fnG F hr hgd hb (hx σ) I1 r q⟩) he hpl) hdb)⟩
theorem pe_callGS (F : FnG X.prog X.w X.K X.mg X.base k f fd ps sp) (hr : Room k X.A) (hgd : X.A.guards = some []) (hg : Gl X x) (hm : X.mg x = some (.ref f)) (hk : PySem.W.keepIn X.K (.ref f) = true) (hb : Binds X.K fd ps []) (hx : ∀ σ, PassesAt (L2.CX X.prog X.w) X σ (E σ))
    (ha : PA X (e :: es) t) (hdb : (x == ("__debug__" : Str)) = false) (he : starEach (e :: es) X.env = (false, eval e X.env) :: starEach es X.env) (hst : (backTo pos (starEach es X.env)).any (·.1) = true) :
    PE X (.Call (.Name x p) (e :: es) [] pos) (tCallS sp E t) :=
  ⟨fun pins s σ H Q I h => wpAny_Call_Name_kw (ld_glob I hg hm (PySem.W.callWith_S2 (h₀ := X.base) I.ok.mod.kin hk (thn (ha.run pos pins s σ H _ I h) fun us s1 ⟨vs, H1, I1, r, q⟩ => ⟨I1.kIn, run_fnG F hr hgd hb (hx σ) I1 r q⟩) he hst) hdb)⟩
theorem pe_callG0 (F : FnG X.prog X.w X.K X.mg X.base k f fd ps sp) (hr : Room k X.A) (hgd : X.A.guards = some []) (hg : Gl X x) (hm : X.mg x = some (.ref f)) (hk : PySem.W.keepIn X.K (.ref f) = true) (hb : Binds X.K fd ps [])
    (hx : ∀ σ, PassesAt (L2.CX X.prog X.w) X σ (E σ)) (hdb : (x == ("__debug__" : Str)) = false) : PE X (.Call (.Name x p) [] [] pos) (tCallS sp E tNil) :=
  ⟨fun pins s σ H Q I h => wpAny_Call_Name_kw (ld_glob I hg hm (PySem.W.callWith_K0 I.kIn hk (run_fnG (us := []) F hr hgd hb (hx σ) I .nil h)) hdb)⟩
/-- a def that a slot holds -/
theorem pe_callGL {i : Nat} (hN : X.N[i]? = some x) (hv : Vis X.env.scope x) (hgd : X.A.guards = some []) (hx : ∀ σ, PassesAt (L2.CX X.prog X.w) X σ (E σ)) (ha : PA X (e :: es) t)
    (hdb : (x == ("__debug__" : Str)) = false) (hcd : (x == ("__classdict__" : Str)) = false) (he : starEach (e :: es) X.env = (false, eval e X.env) :: starEach es X.env) (hpl : (backTo pos (starEach es X.env)).any (·.1) = false) :
    PE X (.Call (.Name x p) (e :: es) [] pos) (fun σ H Q => ∃ f k fd ps sp, σ[i]? = some (some (.ref f)) ∧ FnG X.prog X.w X.K X.mg X.base k f fd ps sp ∧ Room k X.A ∧ PySem.W.keepIn X.K (.ref f) = true ∧ Binds X.K fd ps [] ∧ t σ H fun vs H1 => sp vs H1 Q (E σ)) := by
  refine ⟨fun pins s σ H Q I ⟨f, k, fd, ps, sp, hs, F, hr, hk, hb, ht⟩ => ?_⟩
  refine wpAny_Call_Name_kw (thn ((pe_var (pos := p) hN hv hdb hcd).run pins s σ H (fun v H1 => v = .ref f ∧ H1 = H) I ⟨.ref f, hs, rfl, rfl⟩) fun u s1 ⟨v, H1, I1, r1, q1⟩ => ?_)
  obtain ⟨rfl, rfl⟩ := q1
  cases r1
  exact PySem.W.callWith_K (h₀ := X.base) I.ok.mod.kin hk (thn (ha.run pos pins s1 σ _ _ I1 ht) fun us s2 ⟨vs, H2, I2, r, q⟩ => ⟨I2.kIn, run_fnG F hr hgd hb (hx σ) I2 r q⟩) he hpl
end
/-! ## any(t), t a tuple of ints -/
theorem iter_anyT {prog : Program} {w : World} {A : Around} {E : Value → Shared → Prop} {s : Shared} {l : Addr} {items : Array Value} {Q : Value → Shared → Prop} (hl : s.heap.IsTuple l items)
    (h : ∀ s₂ : Shared, s₂ = { s with heap := s.heap.push { cls := .type "tuple_iterator", data := .fields #[.ref l, .int 0 0] } } →
      (s₂.heap.IsTupleIter s.heap.objs.size l 0 ∧ s₂.heap.IsTuple l items) → l ≠ s.heap.objs.size → Q (.ref s.heap.objs.size) s₂) : wpAny (model prog w) A (pyIter (.ref l)) Q E s := by
  have hlt : l < s.heap.objs.size := by obtain ⟨_, e, _⟩ := hl; exact Heap.lt_size e
  exact wpAny_pyIter_tuple hl (h _ rfl ⟨⟨_, Heap.get?_push_size _ rfl, rfl, rfl⟩, hl.push _⟩ (Nat.ne_of_lt hlt))
theorem ints_get {ns : List Int} {us : List Value} (h : IntsAre us ns) : ∀ {i : Nat} {v : Value}, us[i]? = some v → ∃ n t, ns[i]? = some n ∧ v = .int n t := by
  induction h with
  | nil => intro i v h; cases h
  | cons n t _ ih =>
    intro i v h
    cases i with
    | zero => cases h; exact ⟨_, _, rfl, rfl⟩
    | succ i => exact ih h
theorem truth_ints {prog : Program} {w : World} {A : Around} {ns : List Int} {its : List Value} (e : IntsAre its ns) :
    TruthOf prog w A (fun i v => its.toArray[i]? = some v) (fun i => (ns.map fun n => n != 0).getD i false) := fun i v s Q E hv hq => by
  have hv' : its[i]? = some v := by simpa using hv
  obtain ⟨n, t, hn, rfl⟩ := ints_get e hv'
  have hg : (ns.map fun n => n != 0).getD i false = (n != 0) := by rw [List.getD_eq_getElem?_getD, List.getElem?_map, hn] <;> rfl
  have hq' : Q ((ns.map fun n => n != 0).getD i false) s := hq
  rw [hg] at hq'
  exact truthy_int hq'
section
variable {X : Cx}
theorem cr_anyT (hc : X.calm = true) : CallR X (.builtin "any") (fun vs H Q => ∃ (a : Addr) (ns : List Int), vs = [V.ref a] ∧ SqT X.K H a (ns.map V.int) ∧ Q (.bl (ns.any fun n => n != 0)) H) := by
  intro pins s σ H vs us Q I r h
  obtain ⟨a, ns, rfl, hs, q⟩ := h
  obtain ⟨its, rv, hl, _⟩ := I.tuple hs
  rw [Vals.ref1 r]
  have hb := rv.ints
  refine call_any_walk (iter_anyT hl fun s₂ e2 st hne => ?_)
  subst e2
  refine ⟨_, _, _, _, _, _, _, rfl, Walks.tuple (A := X.A.in1) (I.ok.hd hc) _ a hne its.toArray, st, truth_ints hb, fun h' tk hk => ?_⟩
  refine ⟨.bl _, H, I.kept fun b o eo => hk b o (fun hmem => ?_) (Heap.get?_push_of_some _ eo), ?_, q⟩
  · rcases List.mem_cons.mp hmem with e1 | hmem
    · exact absurd (e1 ▸ Heap.lt_size eo) (Nat.lt_irrefl _)
    · cases hmem
  · show Value.bool _ = Value.bool _
    have hz : its.toArray.size = (ns.map fun n => n != 0).length := by
      have := rv.length
      simp only [List.length_map] at this
      simp [← this]
    rw [hz, L2.any_range]
    simp [List.any_map]
/-! ## a dict with the only key None -/
theorem NoneDict.dictOf {P : Program} {w : World} {h : Heap} {a : Addr} {od : Obj} (n : NoneDict a od) (e : h.get? a = some od) : ∃ v, h.DictOf (noneKind P w) a [(none, v)] := by
  obtain ⟨en, ep, hd, hk, hh⟩ := n.dt
  refine ⟨en.val, od, #[en], ep, e, n.ex, hd, fun x hx => ⟨none, ?_, ?_⟩, .cons ?_ rfl .nil, by simp⟩
  · have : x = en := by simpa using hx
    subst this
    show nkIs none x.key = true
    rw [hk]; rfl
  · have : x = en := by simpa using hx
    subst this
    exact hh
  · show nkIs none en.key = true
    rw [hk]; rfl
theorem nd_obj {pins : List (Addr × Obj)} {σ : L2.St} {H : Hp} {s : Shared} {a : Addr} {od : Obj} {uo : HO} (I : Inv X pins σ H s) (h : H a = some (.frz od uo)) : s.heap.get? a = some od := (I.hok a _ h).1
theorem cr_lenN : CallR X (.builtin "len") (fun xs H Q => ∃ (a : Addr) (od : Obj), xs = [V.ref a] ∧ H a = some (.frz od (.own a)) ∧ NoneDict a od ∧ Q (.int 1) H) := by
  intro pins s σ H xs us Q I r h
  obtain ⟨a, od, rfl, ha, n, q⟩ := h
  obtain ⟨u, rfl, ru⟩ := vals1 r
  cases ru
  obtain ⟨v, dd⟩ := n.dictOf (P := X.prog) (w := X.w) (nd_obj I ha)
  refine call_len_dict n.ns dd (by simp) ?_
  exact ⟨.int 1, H, I.tok _, ⟨_, rfl⟩, q⟩
theorem cr_isiN : CallR X (.builtin "isinstance") (fun xs H Q => ∃ (a : Addr) (od : Obj) (uo : HO) (x : V) (u : Value) (b : Bool), xs = [V.ref a, x] ∧ H a = some (.frz od uo) ∧ od.ExactDict ∧ ClsV x u ∧ PySem.W.kitOne X.K (.type "dict") u = some b ∧ Q (.bl b) H) := by
  intro pins s σ H xs us Q I r h
  obtain ⟨a, od, uo, x, u, b, rfl, ha, n, k, e, q⟩ := h
  obtain ⟨u1, u2, rfl, r1, r2⟩ := vals2 r
  have e2 := k.eq r2
  subst e2
  cases (show u1 = Value.ref a from r1)
  exact PySem.W.kia_one PySem.W.kitx_dict I.kIn ⟨od, nd_obj I ha, n.1⟩ e (fun z => nomatch z) fun tk => ⟨.bl b, H, I.tok tk, rfl, q⟩
/-- the keys of a frozen dict -/
def Itn (d : Addr) (o : Obj) (uo : HO) (xs : List V) : L2.It := ⟨fun i H => H d = some (.frz o uo) ∧ i < xs.length, fun i H x H' => H' = H ∧ xs[i]? = some x, fun i H => H d = some (.frz o uo) ∧ xs.length ≤ i⟩
theorem turn_nd {P : Program} {w : World} {K : PySem.W.Frag} {tg : Expr} {d : Addr} {o : Obj} {uo : HO} {es : Array DictEntry} {ep : Nat} {xs : List V} (it : Addr) (hod : o.data = .dict es ep) (pr : Paired (fun x (en : DictEntry) => RelV x en.key) xs es.toList) : Turn P w K tg (Itn d o uo xs) [it] it (fun i h => h.IsKeyIter it d i xs.length ep) where
  mem := by simp
  obj := fun i h st b hb => by
    have e : b = it := by simpa using hb
    subst e
    obtain ⟨oi, e, c, dd⟩ := st
    exact ⟨oi, e, fun v z => by rw [dd] at z; cases z⟩
  keep := fun i h h' st k => st.at fun oi e => k it (by simp) oi e
  item := by
    intro X hP hw hK hc i pins s σ H E I hf st hg
    subst hP hw hK
    obtain ⟨hd, hi⟩ := hg
    obtain ⟨f0, f1, f2, f3, f4, f5⟩ := hf it (by simp)
    have hgd := nd_obj I hd
    have hz : es.size = xs.length := by rw [← Array.length_toList]; exact (Paired.length pr).symm
    obtain ⟨en, he, rx⟩ := paired_get pr (List.getElem?_eq_getElem hi)
    rw [Array.getElem?_toList] at he
    refine next_key_item st hgd hod hz he fun h' st' sb => ?_
    have I1 : Inv X pins σ H { s with heap := h' } := I.turned (t' := s.toks) (fun b ob hb e => (sb.2 b hb).trans e) f0 f1 f3 f4 f5
    obtain ⟨oi, e, c, dd⟩ := id st'
    exact ⟨en.key, rfl, go_of (s := { s with heap := h' }) e c dd (by decide) ⟨xs[i], H, I1, rx, ⟨rfl, List.getElem?_eq_getElem hi⟩, st', fun b hb => (hf b hb).1⟩⟩
  done := by
    intro X hP hw hK hc i pins s σ H E I hf st hg
    subst hP hw hK
    obtain ⟨hd, hi⟩ := hg
    obtain ⟨f0, f1, f2, f3, f4, f5⟩ := hf it (by simp)
    have hz : es.size = xs.length := by rw [← Array.length_toList]; exact (Paired.length pr).symm
    exact next_key_end (I.ok.hd hc) st (nd_obj I hd) hod hz hi fun h' eb => ⟨rfl, I.turned (t' := s.toks) (fun b ob hb e => eb b ob hb e) f0 f1 f3 f4 f5⟩
  self := fun A i s Q E st h => wpAny_pyIter_keyiter st h
def iN (td : TE) : TI := fun σ H R => td σ H fun x H1 => ∃ d o uo xs, x = .ref d ∧ H1 d = some (.frz o uo) ∧ RawKeys d o xs ∧ R (Itn d o uo xs) H1
theorem pi_nd {tg e : Expr} {td : TE} (he : PE X e td) : PI X tg e (iN td) := by
  refine ⟨fun pins s σ H R I h => ?_⟩
  refine thn (he.run pins s σ H _ I h) fun u s1 ⟨x, H1, I1, rx, d, o, uo, xs, ex, hd, n, q⟩ => ?_
  subst ex
  obtain rfl : u = Value.ref d := rx
  obtain ⟨es, ep, hdt, pr⟩ := n.dt
  have hz : es.size = xs.length := by rw [← Array.length_toList]; exact (Paired.length pr).symm
  exact iter_keys n.ns (nd_obj I1 hd) n.ex hdt (pi_one (tk := s1.toks) I1 _ (turn_nd _ hdt pr) ⟨_, Heap.get?_push_size _ rfl, rfl, by rw [← hz] <;> rfl⟩ q)
theorem NoneDict.raw {a : Addr} {od : Obj} (n : NoneDict a od) : RawKeys a od [.non] := by
  obtain ⟨en, ep, hd, hk, _⟩ := n.dt
  exact ⟨n.ex, ⟨#[en], ep, hd, .cons hk .nil⟩, n.ns⟩
/-- {None: y} -/
def tNdd (ty : TE) : TE := fun σ H Q => ∀ p, H p = none → tPairs [(tC .non, ty)] σ (upd H p (.dK [])) fun ps H2 => ∃ w, ps = [(V.non, w)] ∧ H2 p = some (.dK []) ∧ ∀ od, NoneDict p od → Q (.ref p) (upd H2 p (.frz od (.own p)))
theorem pe_ndd {pos kp : Pos} {kd : Nat} {y : Expr} {ty : TE} (hy : PE X y ty) : PE X (.Dict [some (.Constant .none kd kp)] [y] pos) (tNdd ty) := by
  refine ⟨fun pins s σ H Q I q => ?_⟩
  have hn := I.hok.fresh (Nat.le_refl s.heap.objs.size)
  have I1 := I.laid (a := s.heap.objs.size) (o := .dK []) (h' := s.heap.push { cls := .type "dict", data := .dict #[] }) (t' := s.toks) (fun _ _ q => Heap.get?_push_of_some _ q) (Nat.le_refl _) (dk_empty s.heap I.big)
  refine wpAny_Dict_walk (knd := noneKind X.prog X.w) rfl rfl (by simp) (by simp) (thn ((pps_cons (pe_non (j := kd) (pos := kp)) hy pps_nil).run pins _ σ _ _ I1 (q _ hn)) fun ws s2 ⟨ps, H2, I2, rel, w, ep, e, q2⟩ => ?_)
  subst ep
  cases rel with
  | @cons a b as bs h t =>
  cases t
  obtain ⟨b1, b2⟩ := b
  obtain rfl : b1 = Value.none := h.1
  obtain ⟨z, hd_, vs0, r0, o0, es0, ep0, ho0, hx0, hdt0, hk0, hp0, hnd0⟩ := dk_of I2.hok e
  cases r0
  have es0n : es0.toList = [] := by
    generalize es0.toList = l at hp0
    cases hp0; rfl
  refine ⟨[(none, b2)], ⟨rfl, rfl, True.intro⟩, ⟨o0, es0, ep0, ho0, hx0, hdt0, fun x hx => ?_, ?_, List.nodup_nil⟩, fun h' dd' hs => ?_⟩
  · have := Array.mem_toList_iff.mpr hx
    rw [es0n] at this; cases this
  · rw [es0n]; exact .nil
  · obtain ⟨o1, es1, ep1, ho1, hx1, hdt1, hk1, hp1, hnd1⟩ := dd'
    have nd : NoneDict s.heap.objs.size o1 := by
      have hm : merged (K := Option Key) [] [(none, b2)] = [(none, b2)] := rfl
      rw [hm] at hp1
      obtain ⟨l⟩ := es1
      cases hp1 with
      | @cons en _ r _ h1 h2 h3 =>
      cases h3
      refine ⟨hx1, ⟨en, ep1, hdt1, nk_none h1, ?_⟩, hd_⟩
      obtain ⟨k, hk, hh⟩ := hk1 en (by simp)
      cases k with
      | none => exact hh
      | some k =>
        have := nk_none h1
        rw [this] at hk
        exact absurd hk (keyIs_none k)
    exact ⟨.ref s.heap.objs.size, upd H2 s.heap.objs.size (.frz o1 (.own s.heap.objs.size)), d_write I2 (by rw [e]; exact True.intro) hs ⟨_, ho1⟩ ⟨ho1, _, ho1⟩, rfl, q2 o1 nd⟩
/-- {k: y}, k a tuple of ints and texts -/
def tDdt (tk ty : TE) : TE := fun σ H Q => ∀ p, H p = none → tPairs [(tk, ty)] σ (upd H p (.dT [])) fun ps H2 => ∃ q k w, ps = [(V.ref q, w)] ∧ H2 q = some (.tup (k.map kV)) ∧ H2 p = some (.dT []) ∧ ∀ od, RawKeys p od [V.ref q] → Q (.ref p) (upd H2 p (.frz od (.dT [(k, w)])))
theorem pe_ddt {pos : Pos} {x y : Expr} {tk ty : TE} (hu : X.A.units < cLine) (hx : PE X x tk) (hy : PE X y ty) : PE X (.Dict [some x] [y] pos) (tDdt tk ty) := by
  refine ⟨fun pins s σ H Q I q => ?_⟩
  have hn := I.hok.fresh (Nat.le_refl s.heap.objs.size)
  have I1 := I.laid (a := s.heap.objs.size) (o := .dT []) (h' := s.heap.push { cls := .type "dict", data := .dict #[] }) (t' := s.toks) (fun _ _ q => Heap.get?_push_of_some _ q) (Nat.le_refl _) (dt_empty s.heap I.big)
  rw [arm_eval_Dict, zip_pairTrees [some x] [y] X.env pos rfl rfl, dictDisplay_pairs (pairTrees [some x] [y] X.env pos) (by simp [pairTrees]) (by rw [pairTrees_length _ _ _ _ rfl rfl]; simp)]
  refine wpAny_bind (wpAny_standAt (wpAny_bind (wpAny_subDictH (knd := tupleKind (mixKind X.prog X.w)) hu (by rw [pairTrees_length _ _ _ _ rfl rfl]; simp) (thn ((pps_cons hx hy pps_nil).run pins _ σ _ _ I1 (q _ hn)) fun ws s2 ⟨ps, H2, I2, rel, q0, k, w, ep, eq0, e, q2⟩ => ?_))))
  subst ep
  cases rel with
  | @cons a b as bs h t =>
  cases t
  obtain ⟨b1, b2⟩ := b
  obtain rfl : b1 = Value.ref q0 := h.1
  obtain ⟨z, hd_, xs0, r0, dd0⟩ := dt_of I2.hok e
  cases r0
  refine ⟨[(k, q0, b2)], ⟨rfl, rfl, key_of I2.hok eq0, True.intro⟩, dd0, fun h' tk dd' hs => ?_⟩
  obtain ⟨o1, es1, ep1, ho1, hx1, hdt1, he1, his1, hnd1⟩ := dd'
  have hm : storedAllH [] [(k, q0, b2)] = [(k, q0, b2)] := rfl
  rw [hm] at he1
  have hne : q0 ≠ s.heap.objs.size := fun z => by rw [z, e] at eq0; cases eq0
  have raw : RawKeys s.heap.objs.size o1 [V.ref q0] := by
    refine ⟨hx1, ⟨es1, ep1, hdt1, ?_⟩, hd_⟩
    rw [he1]
    exact .cons rfl .nil
  refine wpAny_pure ⟨.ref s.heap.objs.size, upd H2 s.heap.objs.size (.frz o1 (.dT [(k, w)])), d_write I2 (by rw [e]; exact True.intro) hs ⟨_, ho1⟩ ⟨ho1, (by show 1 ≤ sizeLine; rw [sizeLine_eq]; decide), hd_, [(k, q0, b2)], .cons ⟨rfl, ?_, h.2⟩ .nil, o1, es1, ep1, ho1, hx1, hdt1, he1, by simp⟩, rfl, q2 o1 raw⟩
  show upd H2 _ _ q0 = _
  rw [upd_ne hne]
  exact eq0
end
/-! ## calls of the text's own defs -/
/-- a def's promise, by its meaning -/
def spF (K : PySem.W.Frag) (fa : Nat → Option Addr) (cl : Nat → ClsI) (f : List D → Kp → R) : Sp := fun vs H Q E => ∃ c F κ ds, (∀ a o, F a = some o → H a = some o) ∧ Kap c κ F H ∧ RepL K fa c F ds vs ∧ LamX.Tabs (tabsOf K) H ∧
  Out K fa cl (fun cls d _ H' => E cls d H') c [] F H Q (f ds κ)
theorem Out.wx {K : PySem.W.Frag} {fa : Nat → Option Addr} {cl : Nat → ClsI} {W W' : WX} {c : Option Addr} {σ σ' : L2.St} {F H : Hp} {Q : VK} {r : R} (h : ∀ cls d H', W cls d σ H' → W' cls d σ' H') (o : Out K fa cl W c σ F H Q r) : Out K fa cl W' c σ' F H Q r := by
  cases r with
  | ok d fr κ => exact o
  | exc k d κ => exact fun F' H' dd s k' e => h _ _ _ (o F' H' dd s k' e)
  | bad => exact o
section
variable {X : Cx} {fa : Nat → Option Addr} {cl : Nat → ClsI} {W : WX} {k : Nat} {a : Addr} {fd : FuncData} {ps : List Str} {f : List D → Kp → R} {x : Str} {p pos : Pos} {e : Expr} {es : List Expr} {m : SmL}
theorem call_imp (o : ∀ σ H Q, tE X fa cl W (cAp f m) σ H Q → tL X fa cl W m σ H (fun vs H1 => spF X.K fa cl f vs H1 Q (WE W σ)) → True) : True := trivial
theorem tE_call {σ : L2.St} {H : Hp} {Q : VK} (h : tE X fa cl W (cAp f m) σ H Q) : tL X fa cl W m σ H (fun vs H1 => spF X.K fa cl f vs H1 Q (WE W σ)) := by
  obtain ⟨c, F0, H0, F, ρ, κ, r, o⟩ := h
  exact ⟨c, F0, H0, F, ρ, κ, r, OutL.bind o fun ds κ1 F1 H1 vs s1 k1 r1 o => ⟨c, F1, κ1, ds, s1.inH, k1, r1, s1.tab r.tab, Out.wx (fun _ _ _ h => h) o⟩⟩
theorem sn_call (F : FnG X.prog X.w X.K X.mg X.base k a fd ps (spF X.K fa cl f)) (hr : Room k X.A) (hgd : X.A.guards = some []) (hg : Gl X x) (hm : X.mg x = some (.ref a)) (hk : PySem.W.keepIn X.K (.ref a) = true) (hb : Binds X.K fd ps []) (tk : Takes X W)
    (ha : SnL X fa cl W (e :: es) m) (hdb : (x == ("__debug__" : Str)) = false) (he : starEach (e :: es) X.env = (false, eval e X.env) :: starEach es X.env) (hpl : (backTo pos (starEach es X.env)).any (·.1) = false) :
    SnE X fa cl W (.Call (.Name x p) (e :: es) [] pos) (cAp f m) :=
  PE.imp (fun σ H Q h => tE_call h) (pe_callG F hr hgd hg hm hk hb (fun σ => passAt tk σ) ha hdb he hpl)
theorem sn_callS (F : FnG X.prog X.w X.K X.mg X.base k a fd ps (spF X.K fa cl f)) (hr : Room k X.A) (hgd : X.A.guards = some []) (hg : Gl X x) (hm : X.mg x = some (.ref a)) (hk : PySem.W.keepIn X.K (.ref a) = true) (hb : Binds X.K fd ps []) (tk : Takes X W)
    (ha : SnL X fa cl W (e :: es) m) (hdb : (x == ("__debug__" : Str)) = false) (he : starEach (e :: es) X.env = (false, eval e X.env) :: starEach es X.env) (hst : (backTo pos (starEach es X.env)).any (·.1) = true) :
    SnE X fa cl W (.Call (.Name x p) (e :: es) [] pos) (cAp f m) :=
  PE.imp (fun σ H Q h => tE_call h) (pe_callGS F hr hgd hg hm hk hb (fun σ => passAt tk σ) ha hdb he hst)
theorem sn_call0 (F : FnG X.prog X.w X.K X.mg X.base k a fd ps (spF X.K fa cl f)) (hr : Room k X.A) (hgd : X.A.guards = some []) (hg : Gl X x) (hm : X.mg x = some (.ref a)) (hk : PySem.W.keepIn X.K (.ref a) = true) (hb : Binds X.K fd ps []) (tk : Takes X W)
    (hdb : (x == ("__debug__" : Str)) = false) : SnE X fa cl W (.Call (.Name x p) [] [] pos) (cAp f cNil) := by
  refine PE.imp (fun σ H Q h => ?_) (pe_callG0 F hr hgd hg hm hk hb (fun σ => passAt tk σ) hdb)
  obtain ⟨c, F0, H0, F, ρ, κ, r, o⟩ := h
  exact ⟨c, F, κ, [], r.inH, r.kap, .nil, r.tab, Out.wx (fun _ _ _ h => h) o⟩
end
/-! ## built-in functions -/
def rAp (K : PySem.W.Frag) (fa : Nat → Option Addr) (g : List D → O1) : List V → Hp → VK → Prop := fun vs H Q => ∃ c F κ ds d fr, (∀ a o, F a = some o → H a = some o) ∧ Kap c κ F H ∧ RepL K fa c F ds vs ∧ g ds = some (d, fr) ∧
  ∀ F' H' v, Stp K c F H F' H' → Kap c κ F' H' → RepF K fa c F' H' fr d v → (fr = true → ∀ a, v = .ref a → H a = none) → Q v H'
def cBi (g : List D → O1) (m : SmL) : SmE := cAp (fun ds κ => lift (g ds) κ) m
section
variable {X : Cx} {fa : Nat → Option Addr} {cl : Nat → ClsI} {W : WX} {x : Str} {p pos : Pos} {e : Expr} {es : List Expr} {m : SmL} {g : List D → O1} {id T : String}
theorem tE_bi {σ : L2.St} {H : Hp} {Q : VK} (h : tE X fa cl W (cBi g m) σ H Q) : tL X fa cl W m σ H (fun vs H1 => rAp X.K fa g vs H1 Q) := by
  obtain ⟨c, F0, H0, F, ρ, κ, r, o⟩ := h
  refine ⟨c, F0, H0, F, ρ, κ, r, OutL.bind o fun ds κ1 F1 H1 vs s1 k1 r1 o => ?_⟩
  cases h : g ds with
  | none => rw [h] at o; exact o.elim
  | some q =>
    rw [h] at o
    exact ⟨c, F1, κ1, ds, q.1, q.2, s1.inH, k1, r1, h, o⟩
theorem sn_bi (hc : CallR X (.builtin id) (rAp X.K fa g)) (hg : Gl X x) (hm : X.mg x = none) (hv : bootBuiltins x = some (.builtin id)) (ha : SnL X fa cl W (e :: es) m) (hn : x ≠ "__name__") (hdb : (x == ("__debug__" : Str)) = false)
    (he : starEach (e :: es) X.env = (false, eval e X.env) :: starEach es X.env) (hpl : (backTo pos (starEach es X.env)).any (·.1) = false) : SnE X fa cl W (.Call (.Name x p) (e :: es) [] pos) (cBi g m) :=
  PE.imp (fun σ H Q h => tE_bi h) (pe_callB hc hg hm hv ha hn hdb he hpl)
theorem sn_biT (hc : CallR X (.type T) (rAp X.K fa g)) (hg : Gl X x) (hm : X.mg x = none) (hv : bootBuiltins x = some (.type T)) (ha : SnL X fa cl W (e :: es) m) (hn : x ≠ "__name__") (hdb : (x == ("__debug__" : Str)) = false)
    (he : starEach (e :: es) X.env = (false, eval e X.env) :: starEach es X.env) (hpl : (backTo pos (starEach es X.env)).any (·.1) = false) : SnE X fa cl W (.Call (.Name x p) (e :: es) [] pos) (cBi g m) :=
  PE.imp (fun σ H Q h => tE_bi h) (pe_callTy hc hg hm hv ha hn hdb he hpl)
end
def keyD : Key → D
  | .inl i => .int i
  | .inr s => .str s
def gLen : List D → O1
  | [.dk kvs] => some (.int (kvs.length : Nat), false)
  | [.dt kvs] => some (.int (kvs.length : Nat), false)
  | [.nd] => some (.int 1, false)
  | [.lst xs] | [.scr xs] | [.tup xs] => some (.int (xs.length : Nat), false)
  | [.str s] => if s.length ≤ LIM then some (.int (s.length : Nat), false) else none
  | _ => none
def gInt : List D → O1
  | [.int i] => some (.int i, false)
  | [.bl b] => some (.int (if b then 1 else 0), false)
  | _ => none
def gAbs : List D → O1
  | [.int i] => some (.int (if i < 0 then -i else i), false)
  | _ => none
def gMax : List D → O1
  | [.int i, .int j] => some (.int (if j > i then j else i), false)
  | _ => none
def gMin : List D → O1
  | [.int i, .int j] => some (.int (if j < i then j else i), false)
  | _ => none
def gTup : List D → O1
  | [.lst xs] => some (.tup xs, false)
  | [.tup xs] => some (.tup xs, false)
  | _ => none
def gLst : List D → O1
  | [.dk kvs] => some (.lst (kvs.map fun kv => keyD kv.1), true)
  | [.lst xs] | [.tup xs] => some (.lst xs, true)
  | _ => none
def asBools : List D → Option (List Bool)
  | [] => some []
  | .bl b :: r => (asBools r).map (b :: ·)
  | _ => none
def asInts : List D → Option (List Int)
  | [] => some []
  | .int b :: r => (asInts r).map (b :: ·)
  | _ => none
def gAll : List D → O1
  | [.lst xs] => (asBools xs).map fun bs => (.bl (bs.all id), false)
  | _ => none
def gAny : List D → O1
  | [.lst xs] => (asBools xs).map fun bs => (.bl (bs.any id), false)
  | [.tup xs] => (asInts xs).map fun ns => (.bl (ns.any fun n => n != 0), false)
  | _ => none
def gSum : List D → O1
  | [.lst xs] => (asInts xs).map fun ns => (.int ns.sum, false)
  | _ => none
section
variable {X : Cx} {fa : Nat → Option Addr}
theorem repL1 {K : PySem.W.Frag} {c : Option Addr} {F : Hp} {d : D} {vs : List V} (r : RepL K fa c F [d] vs) : ∃ v, vs = [v] ∧ Rep K fa c F d v := by
  cases r with
  | cons h t => cases t; exact ⟨_, rfl, h⟩
theorem repL2 {K : PySem.W.Frag} {c : Option Addr} {F : Hp} {d d' : D} {vs : List V} (r : RepL K fa c F [d, d'] vs) : ∃ v w, vs = [v, w] ∧ Rep K fa c F d v ∧ Rep K fa c F d' w := by
  cases r with
  | cons h t =>
    cases t with
    | cons h' t' => cases t'; exact ⟨_, _, rfl, h, h'⟩
theorem repL_ints {K : PySem.W.Frag} {c : Option Addr} {F : Hp} : ∀ {ds : List D} {vs : List V} {ns : List Int}, RepL K fa c F ds vs → asInts ds = some ns → vs = ns.map V.int
  | [], _, _, r, e => by cases r; cases e; rfl
  | d :: ds, _, _, r, e => by
    cases r with
    | cons h t =>
      cases d <;> try cases e
      unfold asInts at e
      cases q : asInts ds with
      | none => rw [q] at e; cases e
      | some ms =>
        rw [q] at e; cases e
        cases h
        rw [repL_ints t q]; rfl
theorem repL_bls {K : PySem.W.Frag} {c : Option Addr} {F : Hp} : ∀ {ds : List D} {vs : List V} {ns : List Bool}, RepL K fa c F ds vs → asBools ds = some ns → vs = ns.map V.bl
  | [], _, _, r, e => by cases r; cases e; rfl
  | d :: ds, _, _, r, e => by
    cases r with
    | cons h t =>
      cases d <;> try cases e
      unfold asBools at e
      cases q : asBools ds with
      | none => rw [q] at e; cases e
      | some ms =>
        rw [q] at e; cases e
        cases h
        rw [repL_bls t q]; rfl
theorem SqL.inH {K : PySem.W.Frag} {F H : Hp} {a : Addr} {vs : List V} (hF : ∀ a o, F a = some o → H a = some o) (h : SqL K F a vs) : SqL K H a vs := SqL.sub (Sub.of hF) h
theorem RepK.len {K : PySem.W.Frag} {c : Option Addr} {F : Hp} : ∀ {ds : List (Key × D)} {vs : List (Key × V)}, RepK K fa c F ds vs → ds.length = vs.length
  | _, _, .nil => rfl
  | _, _, .cons _ t => by rw [List.length_cons, List.length_cons, RepK.len t]
theorem RepT.len {K : PySem.W.Frag} {c : Option Addr} {F : Hp} : ∀ {ds : List (List Key × D)} {vs : List (List Key × V)}, RepT K fa c F ds vs → ds.length = vs.length
  | _, _, .nil => rfl
  | _, _, .cons _ t => by rw [List.length_cons, List.length_cons, RepT.len t]
theorem bi_len : CallR X (.builtin "len") (rAp X.K fa gLen) := by
  intro pins s σ H vs us Q I r h
  obtain ⟨c, F, κ, ds, d, fr, hF, k, r1, e, o⟩ := h
  unfold gLen at e
  split at e
  · cases e
    obtain ⟨v, rfl, rv⟩ := repL1 r1
    cases rv with
    | dk hl t => exact call_lenD pins s σ H _ us Q I r ⟨_, _, rfl, hF _ _ hl, by rw [← t.len]; exact fin0 hF k o (.int _)⟩
  · cases e
    obtain ⟨v, rfl, rv⟩ := repL1 r1
    cases rv with
    | dt hl t => exact call_len_dT pins s σ H _ us Q I r ⟨_, _, rfl, hF _ _ hl, by rw [← t.len]; exact fin0 hF k o (.int _)⟩
  · cases e
    obtain ⟨v, rfl, rv⟩ := repL1 r1
    cases rv with
    | nd hl t => exact cr_lenN pins s σ H _ us Q I r ⟨_, _, rfl, hF _ _ hl, t, fin0 hF k o (.int _)⟩
  · cases e
    obtain ⟨v, rfl, rv⟩ := repL1 r1
    cases rv with
    | lst hl t => exact call_len_seq pins s σ H _ us Q I r ⟨_, _, rfl, .inl (SqL.of (hF _ _ hl)), by rw [← t.length]; exact fin0 hF k o (.int _)⟩
  · cases e
    obtain ⟨v, rfl, rv⟩ := repL1 r1
    cases rv with
    | scr hl t => exact call_len_seq pins s σ H _ us Q I r ⟨_, _, rfl, .inl (SqL.inH hF hl), by rw [← t.length]; exact fin0 hF k o (.int _)⟩
  · cases e
    obtain ⟨v, rfl, rv⟩ := repL1 r1
    cases rv with
    | tup hl t => exact call_len_seq pins s σ H _ us Q I r ⟨_, _, rfl, .inr (SqT.of (hF _ _ hl)), by rw [← t.length]; exact fin0 hF k o (.int _)⟩
  · split at e
    · rename_i hz
      cases e
      obtain ⟨v, rfl, rv⟩ := repL1 r1
      cases rv
      exact call_len_str pins s σ H _ us Q I r ⟨_, rfl, Nat.le_trans hz lim_le, fin0 hF k o (.int _)⟩
    · cases e
  · cases e
theorem bi_int : CallR X (.type "int") (rAp X.K fa gInt) := by
  intro pins s σ H vs us Q I r h
  obtain ⟨c, F, κ, ds, d, fr, hF, k, r1, e, o⟩ := h
  unfold gInt at e
  split at e
  · cases e
    obtain ⟨v, rfl, rv⟩ := repL1 r1
    cases rv
    exact call_int1 pins s σ H _ us Q I r (.inl ⟨_, rfl, fin0 hF k o (.int _)⟩)
  · cases e
    obtain ⟨v, rfl, rv⟩ := repL1 r1
    cases rv
    exact call_int1 pins s σ H _ us Q I r (.inr ⟨_, rfl, fin0 hF k o (.int _)⟩)
  · cases e
theorem bi_abs : CallR X (.builtin "abs") (rAp X.K fa gAbs) := by
  intro pins s σ H vs us Q I r h
  obtain ⟨c, F, κ, ds, d, fr, hF, k, r1, e, o⟩ := h
  unfold gAbs at e
  split at e
  · cases e
    obtain ⟨v, rfl, rv⟩ := repL1 r1
    cases rv
    exact call_abs pins s σ H _ us Q I r ⟨_, rfl, fin0 hF k o (.int _)⟩
  · cases e
theorem bi_max (hc : X.calm = true) : CallR X (.builtin "max") (rAp X.K fa gMax) := by
  intro pins s σ H vs us Q I r h
  obtain ⟨c, F, κ, ds, d, fr, hF, k, r1, e, o⟩ := h
  unfold gMax at e
  split at e
  · cases e
    obtain ⟨v, w, rfl, rv, rw'⟩ := repL2 r1
    cases rv; cases rw'
    exact call_max2 hc pins s σ H _ us Q I r ⟨_, _, rfl, fin0 hF k o (.int _)⟩
  · cases e
theorem bi_min (hc : X.calm = true) : CallR X (.builtin "min") (rAp X.K fa gMin) := by
  intro pins s σ H vs us Q I r h
  obtain ⟨c, F, κ, ds, d, fr, hF, k, r1, e, o⟩ := h
  unfold gMin at e
  split at e
  · cases e
    obtain ⟨v, w, rfl, rv, rw'⟩ := repL2 r1
    cases rv; cases rw'
    exact call_min2 hc pins s σ H _ us Q I r ⟨_, _, rfl, fin0 hF k o (.int _)⟩
  · cases e
theorem bi_tup : CallR X (.type "tuple") (rAp X.K fa gTup) := by
  intro pins s σ H vs us Q I r h
  obtain ⟨c, F, κ, ds, d, fr, hF, k, r1, e, o⟩ := h
  unfold gTup at e
  split at e
  · cases e
    obtain ⟨v, rfl, rv⟩ := repL1 r1
    cases rv with
    | lst hl t => exact call_tuple_of pins s σ H _ us Q I r ⟨_, _, rfl, .inl ⟨SqL.of (hF _ _ hl), finT hF k o t⟩⟩
  · cases e
    obtain ⟨v, rfl, rv⟩ := repL1 r1
    cases rv with
    | tup hl t => exact call_tuple_of pins s σ H _ us Q I r ⟨_, _, rfl, .inr ⟨SqT.of (hF _ _ hl), fin0 hF k o (.tup hl t)⟩⟩
  · cases e
theorem repK_keys {K : PySem.W.Frag} {c : Option Addr} {F G : Hp} : ∀ {kvs : List (Key × D)} {ks : List (Key × V)}, RepK K fa c F kvs ks → RepL K fa c G (kvs.map fun kv => keyD kv.1) (ks.map fun kv => kV kv.1)
  | _, _, .nil => .nil
  | _, _, .cons (k := k) _ t => by
    refine .cons ?_ (repK_keys t)
    cases k
    · exact .int _
    · exact .str _
theorem bi_lst (hc : X.calm = true) : CallR X (.type "list") (rAp X.K fa gLst) := by
  intro pins s σ H vs us Q I r h
  obtain ⟨c, F, κ, ds, d, fr, hF, k, r1, e, o⟩ := h
  unfold gLst at e
  split at e
  · cases e
    obtain ⟨v, rfl, rv⟩ := repL1 r1
    cases rv with
    | dk hl t => exact call_list_dK hc pins s σ H _ us Q I r ⟨_, _, rfl, hF _ _ hl, finL hF k o (repK_keys t)⟩
  · cases e
    obtain ⟨v, rfl, rv⟩ := repL1 r1
    cases rv with
    | lst hl t => exact call_list_of pins s σ H _ us Q I r ⟨_, _, rfl, .inl (SqL.of (hF _ _ hl)), finL hF k o t⟩
  · cases e
    obtain ⟨v, rfl, rv⟩ := repL1 r1
    cases rv with
    | tup hl t => exact call_list_of pins s σ H _ us Q I r ⟨_, _, rfl, .inr (SqT.of (hF _ _ hl)), finL hF k o t⟩
  · cases e
theorem bi_all (hc : X.calm = true) : CallR X (.builtin "all") (rAp X.K fa gAll) := by
  intro pins s σ H vs us Q I r h
  obtain ⟨c, F, κ, ds, d, fr, hF, k, r1, e, o⟩ := h
  unfold gAll at e
  split at e
  · obtain ⟨v, rfl, rv⟩ := repL1 r1
    obtain ⟨bs, eb, e⟩ := Option.map_eq_some_iff.mp e
    cases e
    cases rv with
    | lst hl t => exact cr_all hc pins s σ H _ us Q I r ⟨_, bs, rfl, SqL.of (by rw [← repL_bls t eb]; exact hF _ _ hl), fin0 hF k o (.bl _)⟩
  · cases e
theorem bi_any (hc : X.calm = true) : CallR X (.builtin "any") (rAp X.K fa gAny) := by
  intro pins s σ H vs us Q I r h
  obtain ⟨c, F, κ, ds, d, fr, hF, k, r1, e, o⟩ := h
  unfold gAny at e
  split at e
  · obtain ⟨v, rfl, rv⟩ := repL1 r1
    obtain ⟨bs, eb, e⟩ := Option.map_eq_some_iff.mp e
    cases e
    cases rv with
    | lst hl t => exact cr_any hc pins s σ H _ us Q I r ⟨_, bs, rfl, SqL.of (by rw [← repL_bls t eb]; exact hF _ _ hl), fin0 hF k o (.bl _)⟩
  · obtain ⟨v, rfl, rv⟩ := repL1 r1
    obtain ⟨ns, eb, e⟩ := Option.map_eq_some_iff.mp e
    cases e
    cases rv with
    | tup hl t => exact cr_anyT hc pins s σ H _ us Q I r ⟨_, ns, rfl, SqT.of (by rw [← repL_ints t eb]; exact hF _ _ hl), fin0 hF k o (.bl _)⟩
  · cases e
theorem bi_sum (hc : X.calm = true) : CallR X (.builtin "sum") (rAp X.K fa gSum) := by
  intro pins s σ H vs us Q I r h
  obtain ⟨c, F, κ, ds, d, fr, hF, k, r1, e, o⟩ := h
  unfold gSum at e
  split at e
  · obtain ⟨v, rfl, rv⟩ := repL1 r1
    obtain ⟨bs, eb, e⟩ := Option.map_eq_some_iff.mp e
    cases e
    cases rv with
    | lst hl t => exact cr_sum hc pins s σ H _ us Q I r ⟨_, bs, rfl, SqL.of (by rw [← repL_ints t eb]; exact hF _ _ hl), fin0 hF k o (.int _)⟩
  · cases e
end
/-! ## isinstance -/
def D.tyN : D → Option String
  | .non => some "NoneType" | .bl _ => some "bool" | .int _ => some "int" | .str _ => some "str" | .tup _ => some "tuple" | .lst _ => some "list" | .scr _ => some "list" | .dk _ => some "dict"
  | _ => none
def D.isT : D → Ty → Option Bool
  | .non, _ => some false
  | .bl _, t => some (t == .bool || t == .int)
  | .int _, t => some (t == .int)
  | .str _, t => some (t == .str)
  | .tup _, t => some (t == .tuple)
  | .lst _, t => some (t == .list)
  | .dk _, t => some (t == .dict)
  | _, _ => none
def gIsi : List D → O1
  | [.nd, .ty t] => some (.bl (t == .dict), false)
  | [.fdt _, .ty t] => some (.bl (t == .dict), false)
  | [d, .ty t] => (d.isT t).map fun b => (.bl b, false)
  | _ => none
theorem isT_ok {K : PySem.W.Frag} : ∀ {d : D} {t : Ty} {b : Bool}, d.isT t = some b → ∃ n, d.tyN = some n ∧ PySem.W.kitOne K (.type n) (.type t.name) = some b := by
  intro d t b e
  cases d <;> (try cases e) <;> refine ⟨_, rfl, kit_ty ?_⟩ <;> cases t <;> decide +kernel
theorem tyX_of {K : PySem.W.Frag} {fa : Nat → Option Addr} {c : Option Addr} {F H : Hp} {d : D} {v : V} {n : String} (hF : ∀ a o, F a = some o → H a = some o) (r : Rep K fa c F d v) (e : d.tyN = some n) : TyX K H v (.type n) := by
  cases r with
  | non => cases e; exact .base .non
  | bl b => cases e; exact .base (.bl b)
  | int i => cases e; exact .base (.int i)
  | str s => cases e; exact .base (.str s)
  | tup h t =>
    cases e
    exact .base (.tup (hF _ _ h))
  | lst h t => cases e; exact .base (.lst (hF _ _ h))
  | scr h t =>
    cases e
    rcases h with (h | ⟨o, h⟩) | ⟨o, its, m, h, hc, _⟩
    · exact .base (.lst (hF _ _ h))
    · exact .base (.frz (hF _ _ h))
    · exact .kList h hc
  | dk h t =>
    cases e
    exact .base (.dK (hF _ _ h))
  | _ => cases e
theorem bi_isi {X : Cx} {fa : Nat → Option Addr} : CallR X (.builtin "isinstance") (rAp X.K fa gIsi) := by
  intro pins s σ H vs us Q I r h
  obtain ⟨c, F, κ, ds, d, fr, hF, k, r1, e, o⟩ := h
  unfold gIsi at e
  split at e
  · rename_i t
    cases e
    obtain ⟨v, w, rfl, rv, rw'⟩ := repL2 r1
    cases rw'
    cases rv with
    | nd hl n => exact cr_isiN pins s σ H _ us Q I r ⟨_, _, _, _, _, _, rfl, hF _ _ hl, n.ex, .ty _, kit_ty (by cases t <;> decide +kernel), fin0 hF k o (.bl _)⟩
  · rename_i t
    cases e
    obtain ⟨v, w, rfl, rv, rw'⟩ := repL2 r1
    cases rw'
    cases rv with
    | fdt hl g _ _ _ => exact cr_isiN pins s σ H _ us Q I r ⟨_, _, _, _, _, _, rfl, hF _ _ hl, g.ex, .ty _, kit_ty (by cases t <;> decide +kernel), fin0 hF k o (.bl _)⟩
  · obtain ⟨v, w, rfl, rv, rw'⟩ := repL2 r1
    obtain ⟨b, eb, e⟩ := Option.map_eq_some_iff.mp e
    cases e
    cases rw'
    obtain ⟨n, hn, hk⟩ := isT_ok (K := X.K) eb
    exact call_isi pins s σ H _ us Q I r ⟨_, _, _, _, b, rfl, .ty _, tyX_of hF rv hn, hk, fin0 hF k o (.bl _)⟩
  · cases e
/-! ## items, slices -/
def fIx : D → D → O1
  | .lst xs, .int i | .tup xs, .int i | .scr xs, .int i => (atI xs i).map fun d => (d, false)
  | .str s, .int i => if s.length ≤ LIM then (atI s.cps.toList i).map fun n => (.str ⟨#[n]⟩, false) else none
  | _, _ => none
def Kp.at (κ : Kp) (i : Int) : Option Int := if i = 0 then some κ.a else if i = 1 then some κ.b else if i = 2 then some κ.c else none
def fIxK (κ : Kp) : D → D → O1
  | .cro, .int i => (κ.at i).map fun n => (.int n, false)
  | a, b => fIx a b
def cIx (a b : SmE) : SmE := fun ρ κ => (a ρ κ).bind fun x κ => (b ρ κ).bind fun y κ => lift (fIxK κ x y) κ
def cutD (xs : List D) (lo hi : Option Int) : List D := (xs.drop (HT.sIx xs.length 0 lo)).take (HT.sIx xs.length xs.length hi - HT.sIx xs.length 0 lo)
def fSl (lo hi : Option Int) : D → O1
  | .lst xs => some (.lst (cutD xs lo hi), true)
  | .tup xs => some (.tup (cutD xs lo hi), false)
  | _ => none
def asInt : D → Option Int
  | .int i => some i
  | _ => none
def R.int (r : R) (g : Int → Kp → R) : R := match r with
  | .ok (.int i) _ κ => g i κ
  | .ok _ _ _ => .bad
  | .exc k d κ => .exc k d κ
  | .bad => .bad
def cPart (o : Option SmE) (g : Option Int → SmE) : SmE := fun ρ κ => match o with
  | none => g none ρ κ
  | some m => (m ρ κ).int fun i κ => g (some i) ρ κ
def cSl (a : SmE) (lo hi : Option SmE) : SmE := fun ρ κ => (a ρ κ).bind fun x κ => cPart lo (fun l => cPart hi fun h => fun _ κ => lift (fSl l h x) κ) ρ κ
section
variable {X : Cx} {fa : Nat → Option Addr} {cl : Nat → ClsI} {W : WX} {x y z : Expr} {a b e : SmE} {pos : Pos} {K : PySem.W.Frag} {c : Option Addr} {F H : Hp} {σ : L2.St} {Q : VK}
theorem repL_at {ds : List D} {vs : List V} {i : Int} {d : D} (r : RepL K fa c F ds vs) (e : atI ds i = some d) : ∃ v, atI vs i = some v ∧ Rep K fa c F d v := by
  unfold atI at e ⊢
  rw [← r.length]
  cases q : ixN ds.length i with
  | none => rw [q] at e; cases e
  | some j =>
    rw [q] at e
    exact r.get e
/-- an item, by values, where the draws stand at κ -/
def rIxK (K : PySem.W.Frag) (fa : Nat → Option Addr) : R2 := fun x y H Q => ∃ c F κ dx dy d fr, (∀ a o, F a = some o → H a = some o) ∧ Kap c κ F H ∧ Rep K fa c F dx x ∧ Rep K fa c F dy y ∧ fIxK κ dx dy = some (d, fr) ∧
  ∀ F' H' v, Stp K c F H F' H' → Kap c κ F' H' → RepF K fa c F' H' fr d v → (fr = true → ∀ a, v = .ref a → H a = none) → Q v H'
theorem ix_ok : IxR X (rIxK X.K fa) := by
  intro value slice pins s σ H x y v u Q I rx ry h hs
  obtain ⟨c, F, κ, dx, dy, d, fr, hF, k, r1, r2, e, o⟩ := h
  unfold fIxK at e
  split at e
  · obtain ⟨n, en, e⟩ := Option.map_eq_some_iff.mp e
    cases e
    cases r2
    cases r1 with
    | cro hc =>
      obtain ⟨_, hl⟩ := k.2 _ hc
      refine ix_list value slice pins s σ H _ _ v u Q I rx ry ⟨_, _, _, _, rfl, rfl, SqL.of hl, ?_, fin0 hF k o (.int _)⟩ hs
      unfold Kp.at at en
      split at en
      · rename_i q; subst q; cases en; rfl
      · split at en
        · rename_i q; subst q; cases en; rfl
        · split at en
          · rename_i q; subst q; cases en; rfl
          · cases en
  · unfold fIx at e
    split at e
    · obtain ⟨n, en, e⟩ := Option.map_eq_some_iff.mp e
      cases e
      cases r2
      cases r1 with
      | lst h t =>
        obtain ⟨w, h1, h2⟩ := repL_at t en
        exact ix_list value slice pins s σ H _ _ v u Q I rx ry ⟨_, _, _, _, rfl, rfl, SqL.of (hF _ _ h), h1, fin0 hF k o h2⟩ hs
    · obtain ⟨n, en, e⟩ := Option.map_eq_some_iff.mp e
      cases e
      cases r2
      cases r1 with
      | tup h t =>
        obtain ⟨w, h1, h2⟩ := repL_at t en
        exact ix_tup value slice pins s σ H _ _ v u Q I rx ry ⟨_, _, _, _, rfl, rfl, SqT.of (hF _ _ h), h1, fin0 hF k o h2⟩ hs
    · obtain ⟨n, en, e⟩ := Option.map_eq_some_iff.mp e
      cases e
      cases r2
      cases r1 with
      | scr h t =>
        obtain ⟨w, h1, h2⟩ := repL_at t en
        exact ix_list value slice pins s σ H _ _ v u Q I rx ry ⟨_, _, _, _, rfl, rfl, SqL.inH hF h, h1, fin0 hF k o h2⟩ hs
    · split at e
      · rename_i hz
        obtain ⟨n, en, e⟩ := Option.map_eq_some_iff.mp e
        cases e
        cases r2
        cases r1
        exact ix_str value slice pins s σ H _ _ v u Q I rx ry ⟨_, _, _, rfl, rfl, Nat.le_trans hz lim_le, en, fin0 hF k o (.str _)⟩ hs
      · cases e
    · cases e
theorem sn_ix (ha : SnE X fa cl W x a) (hb : SnE X fa cl W y b) (hs : PlainIx y) : SnE X fa cl W (.Subscript x y pos) (cIx a b) := by
  refine PE.imp (fun σ H Q ⟨c, F0, H0, F, ρ, κ, r, o⟩ => ?_) (pe_ix (ix_ok (fa := fa)) ha hb hs)
  refine ⟨c, F0, H0, F, ρ, κ, r, Out.bind o fun d κ1 F1 H1 v s1 k1 r1 o => ?_⟩
  have q1 := r.step s1 k1
  refine ⟨c, F0, H0, F1, ρ, κ1, q1, Out.bind o fun d2 κ2 F2 H2 v2 s2 k2 r2 o => ?_⟩
  cases h : fIxK κ2 d d2 with
  | none => rw [h] at o; exact o.elim
  | some p =>
    rw [h] at o
    exact ⟨c, F2, κ2, d, d2, p.1, p.2, s2.inH, k2, r1.sub s2.sub, r2, h, o⟩
theorem plainIx_of (h : (match y with | .Slice .. => false | _ => true) = true) : PlainIx y := by
  intro o i
  cases y <;> first | rfl | cases h
theorem repL_take {ds : List D} {vs : List V} (r : RepL K fa c F ds vs) : ∀ n, RepL K fa c F (ds.take n) (vs.take n) := by
  induction r using RepL.rec (motive_1 := fun _ _ _ => True) (motive_3 := fun _ _ _ => True) (motive_4 := fun _ _ _ => True) <;> try trivial
  · intro n; simp only [List.take_nil]; exact .nil
  · rename_i h t ih1 ih2
    intro n
    cases n with
    | zero => exact .nil
    | succ n => exact .cons h (ih2 n)
theorem repL_drop {ds : List D} {vs : List V} (r : RepL K fa c F ds vs) : ∀ n, RepL K fa c F (ds.drop n) (vs.drop n) := by
  induction r using RepL.rec (motive_1 := fun _ _ _ => True) (motive_3 := fun _ _ _ => True) (motive_4 := fun _ _ _ => True) <;> try trivial
  · intro n; simp only [List.drop_nil]; exact .nil
  · rename_i h t ih1 ih2
    intro n
    cases n with
    | zero => exact .cons h t
    | succ n => exact ih2 n
theorem repL_cut {ds : List D} {vs : List V} (lo hi : Option Int) (r : RepL K fa c F ds vs) : RepL K fa c F (cutD ds lo hi) (cutV vs lo hi) := by
  unfold cutD cutV
  rw [r.length]
  exact repL_take (repL_drop r _) _
def rSlK (K : PySem.W.Frag) (fa : Nat → Option Addr) : V → Option Int → Option Int → Hp → VK → Prop := fun x lo hi H Q => ∃ c F κ dx d fr, (∀ a o, F a = some o → H a = some o) ∧ Kap c κ F H ∧ Rep K fa c F dx x ∧ fSl lo hi dx = some (d, fr) ∧
  ∀ F' H' v, Stp K c F H F' H' → Kap c κ F' H' → RepF K fa c F' H' fr d v → (fr = true → ∀ a, v = .ref a → H a = none) → Q v H'
theorem sl_ok : SlR X (rSlK X.K fa) := by
  intro pins s σ H x v vl vu lo hi sl Q I rx hs pl pu h
  obtain ⟨c, F, κ, dx, d, fr, hF, k, r1, e, o⟩ := h
  unfold fSl at e
  split at e
  · cases e
    cases r1 with
    | lst h t => exact sl_list pins s σ H _ v vl vu lo hi sl Q I rx hs pl pu ⟨_, _, rfl, SqL.of (hF _ _ h), finL hF k o (repL_cut lo hi t)⟩
  · rename_i xs
    cases e
    cases r1 with
    | tup h t =>
      refine sl_tupA pins s σ H _ v vl vu lo hi sl Q I rx hs pl pu ⟨_, _, rfl, SqT.of (hF _ _ h), fun q => ?_, fun _ => finT hF k o (repL_cut lo hi t)⟩
      refine fin0 hF k o ?_
      have e : cutD xs lo hi = xs := by
        unfold cutD
        rw [t.length, q.1, q.2, List.drop_zero, Nat.sub_zero, ← t.length, List.take_length]
      rw [e]
      exact .tup h t
  · cases e
theorem Out.int {r : R} {g : Int → Kp → R} {Q1 : VK} (o : Out K fa cl W c σ F H Q (r.int g))
    (h : ∀ i κ F1 H1, Stp K c F H F1 H1 → Kap c κ F1 H1 → Out K fa cl W c σ F1 H1 Q (g i κ) → Q1 (.int i) H1) : Out K fa cl W c σ F H Q1 r := by
  cases r with
  | ok d fr κ =>
    cases d <;> try exact o.elim
    rename_i b
    intro F' H' v s k e fresh
    obtain ⟨F2, s2, k2, _, e2⟩ := e.still s k fresh
    cases e2
    exact h b κ F2 H' s2 k2 (Out.step s2 o)
  | exc k d κ => exact o
  | bad => exact o
/-- a part's meaning -/
def SnO (X : Cx) (fa : Nat → Option Addr) (cl : Nat → ClsI) (W : WX) (x : Option Expr) (m : Option SmE) : Prop :=
  ∃ t : TO, PO X x t ∧ ∀ (g : Option Int → SmE) (c : Option Addr) (F0 H0 F : Hp) (ρ : Rho) (κ : Kp) (σ : L2.St) (H : Hp) (Q : VK) (Q1 : Option Int → Hp → Prop), RelS X.K fa c F0 H0 F ρ κ σ H → Out X.K fa cl W c σ F H Q (cPart m g ρ κ) →
    (∀ l κ1 F1 H1, Stp X.K c F H F1 H1 → Kap c κ1 F1 H1 → Out X.K fa cl W c σ F1 H1 Q (g l ρ κ1) → Q1 l H1) → t σ H Q1
theorem so_none : SnO X fa cl W none none := ⟨tNoPart, po_none, fun g c F0 H0 F ρ κ σ H Q Q1 r o h => h none κ F H (Stp.refl r.inH) r.kap o⟩
theorem so_some (h : SnE X fa cl W x a) : SnO X fa cl W (some x) (some a) := ⟨_, po_some h, fun g c F0 H0 F ρ κ σ H Q Q1 r o hq =>
  ⟨c, F0, H0, F, ρ, κ, r, Out.int o fun i κ1 F1 H1 s1 k1 o => ⟨i, rfl, hq (some i) κ1 F1 H1 s1 k1 o⟩⟩⟩
theorem sn_sl {lo hi : Option Expr} {ml mh : Option SmE} {p2 : Pos} (ha : SnE X fa cl W x a) (hl : SnO X fa cl W lo ml) (hh : SnO X fa cl W hi mh) : SnE X fa cl W (.Subscript x (.Slice lo hi none p2) pos) (cSl a ml mh) := by
  obtain ⟨tl, pl, gl⟩ := hl
  obtain ⟨th, ph, gh⟩ := hh
  refine PE.imp (fun σ H Q ⟨c, F0, H0, F, ρ, κ, r, o⟩ => ?_) (pe_slice (sl_ok (fa := fa)) ha pl ph)
  refine ⟨c, F0, H0, F, ρ, κ, r, Out.bind o fun d κ1 F1 H1 v s1 k1 r1 o => ?_⟩
  refine gl _ c F0 H0 F1 ρ κ1 σ H1 Q _ (r.step s1 k1) o fun l κ2 F2 H2 s2 k2 o => ?_
  refine gh _ c F0 H0 F2 ρ κ2 σ H2 Q _ ((r.step s1 k1).step s2 k2) o fun h κ3 F3 H3 s3 k3 o => ?_
  cases q : fSl l h d with
  | none => rw [q] at o; exact o.elim
  | some p =>
    rw [q] at o
    exact ⟨c, F3, κ3, d, p.1, p.2, s3.inH, k3, (r1.sub s2.sub).sub s3.sub, q, o⟩
end
/-! ## dicts -/
def asKey : D → Option Key
  | .int i => some (.inl i)
  | .str s => some (.inr s)
  | _ => none
def asKeys : List D → Option (List Key)
  | [] => some []
  | d :: r => match asKey d, asKeys r with
    | some k, some ks => some (k :: ks)
    | _, _ => none
def dgetE {κ : Type} [DecidableEq κ] (kvs : List (κ × D)) (k : κ) : Option D := (kvs.find? fun kv => decide (kv.1 = k)).map (·.2)
def dputE {κ : Type} [DecidableEq κ] (kvs : List (κ × D)) (k : κ) (v : D) : List (κ × D) :=
  if (kvs.any fun kv => decide (kv.1 = k)) = true then kvs.map (fun kv => if kv.1 = k then (kv.1, v) else kv) else kvs ++ [(k, v)]
/-- what stands at the key y of a dict: some none: nothing -/
def dLook : D → D → Option (Option D)
  | .dk kvs, y => (asKey y).map fun k => dgetE kvs k
  | .fdk kvs, y => (asKey y).map fun k => dgetE kvs k
  | .dt kvs, .tup ks => (asKeys ks).map fun k => dgetE kvs k
  | .fdt kvs, .tup ks => (asKeys ks).map fun k => dgetE kvs k
  | _, _ => none
def fDix (x y : D) : O1 := match dLook x y with
  | some (some d) => some (d, false)
  | _ => none
def fDin (y x : D) : O1 := (dLook x y).map fun o => (.bl o.isSome, false)
def fDni (y x : D) : O1 := (dLook x y).map fun o => (.bl (!o.isSome), false)
section
variable {X : Cx} {fa : Nat → Option Addr} {cl : Nat → ClsI} {W : WX} {x y z : Expr} {a b e : SmE} {pos : Pos} {K : PySem.W.Frag} {c : Option Addr} {F H : Hp} {σ : L2.St} {Q : VK}
theorem asKey_rep {d : D} {v : V} {k : Key} (r : Rep K fa c F d v) (e : asKey d = some k) : v = kV k := by
  cases r <;> cases e <;> rfl
theorem asKeys_rep : ∀ {ds : List D} {vs : List V} {ks : List Key}, RepL K fa c F ds vs → asKeys ds = some ks → vs = ks.map kV
  | [], _, _, r, e => by cases r; cases e; rfl
  | d :: ds, _, _, r, e => by
    cases r with
    | cons h t =>
      unfold asKeys at e
      split at e
      · rename_i k ks e1 e2
        cases e
        rw [asKey_rep h e1, asKeys_rep t e2]; rfl
      · cases e
theorem repK_look : ∀ {kvs : List (Key × D)} {ks : List (Key × V)} (k : Key), RepK K fa c F kvs ks → (∀ d, dgetE kvs k = some d → ∃ v, valV ks k = some v ∧ Rep K fa c F d v) ∧ (dgetE kvs k = none → valV ks k = none)
  | [], _, k, r => by cases r; exact ⟨fun d e => (by cases e), fun _ => rfl⟩
  | p :: kvs, _, k, r => by
    cases r with
    | cons h t =>
      rename_i k0 d0 v0 vs
      obtain ⟨h1, h2⟩ := repK_look k t
      by_cases q : k0 = k
      · subst q
        refine ⟨fun d e => ⟨v0, valV_pos rfl, ?_⟩, fun e => ?_⟩
        · unfold dgetE at e
          simp only [List.find?_cons, decide_true] at e
          cases e; exact h
        · unfold dgetE at e
          simp only [List.find?_cons, decide_true] at e
          cases e
      · have e0 : dgetE ((k0, d0) :: kvs) k = dgetE kvs k := by
          unfold dgetE
          simp only [List.find?_cons, decide_eq_false q]
        rw [e0, valV_neg q]
        exact ⟨h1, h2⟩
theorem repT_look : ∀ {kvs : List (List Key × D)} {ks : List (List Key × V)} (k : List Key), RepT K fa c F kvs ks → (∀ d, dgetE kvs k = some d → ∃ v, valV ks k = some v ∧ Rep K fa c F d v) ∧ (dgetE kvs k = none → valV ks k = none)
  | [], _, k, r => by cases r; exact ⟨fun d e => (by cases e), fun _ => rfl⟩
  | p :: kvs, _, k, r => by
    cases r with
    | cons h t =>
      rename_i k0 d0 v0 vs
      obtain ⟨h1, h2⟩ := repT_look k t
      by_cases q : k0 = k
      · subst q
        refine ⟨fun d e => ⟨v0, valV_pos rfl, ?_⟩, fun e => ?_⟩
        · unfold dgetE at e
          simp only [List.find?_cons, decide_true] at e
          cases e; exact h
        · unfold dgetE at e
          simp only [List.find?_cons, decide_true] at e
          cases e
      · have e0 : dgetE ((k0, d0) :: kvs) k = dgetE kvs k := by
          unfold dgetE
          simp only [List.find?_cons, decide_eq_false q]
        rw [e0, valV_neg q]
        exact ⟨h1, h2⟩
theorem dLook_ok {dx dy : D} {vx vy : V} {o : Option D} (hF : ∀ a o, F a = some o → H a = some o) (r1 : Rep K fa c F dx vx) (r2 : Rep K fa c F dy vy) (e : dLook dx dy = some o) :
    ∃ a ov, vx = .ref a ∧ IsD H a ∧ DGet H a vy ov ∧ ov.isSome = o.isSome ∧ (∀ d, o = some d → ∃ v, ov = some v ∧ Rep K fa c F d v) ∧ (o = none → ov = none) := by
  unfold dLook at e
  split at e
  · obtain ⟨k, ek, e⟩ := Option.map_eq_some_iff.mp e
    subst e
    cases r1 with
    | dk h t =>
      rename_i a ks
      obtain ⟨h1, h2⟩ := repK_look k t
      refine ⟨a, valV ks k, rfl, .inl ⟨ks, Rd.of (hF _ _ h)⟩, .inl ⟨ks, k, Rd.of (hF _ _ h), asKey_rep r2 ek, rfl⟩, ?_, h1, h2⟩
      cases q : dgetE _ k with
      | none => rw [h2 q] <;> rfl
      | some d => obtain ⟨v, e, _⟩ := h1 d q; rw [e]; rfl
  · obtain ⟨k, ek, e⟩ := Option.map_eq_some_iff.mp e
    subst e
    cases r1 with
    | fdk h t =>
      rename_i a od ks
      obtain ⟨h1, h2⟩ := repK_look k t
      refine ⟨a, valV ks k, rfl, .inl ⟨ks, .inr ⟨od, hF _ _ h⟩⟩, .inl ⟨ks, k, .inr ⟨od, hF _ _ h⟩, asKey_rep r2 ek, rfl⟩, ?_, h1, h2⟩
      cases q : dgetE _ k with
      | none => rw [h2 q] <;> rfl
      | some d => obtain ⟨v, e, _⟩ := h1 d q; rw [e]; rfl
  · obtain ⟨k, ek, e⟩ := Option.map_eq_some_iff.mp e
    subst e
    cases r1 with
    | dt h t =>
      rename_i a ks
      obtain ⟨h1, h2⟩ := repT_look k t
      cases r2 with
      | tup h' t' =>
        rename_i b us
        refine ⟨a, valV ks k, rfl, .inr ⟨ks, Rd.of (hF _ _ h)⟩, .inr ⟨ks, k, b, Rd.of (hF _ _ h), rfl, by rw [← asKeys_rep t' ek]; exact hF _ _ h', rfl⟩, ?_, h1, h2⟩
        cases q : dgetE _ k with
        | none => rw [h2 q] <;> rfl
        | some d => obtain ⟨v, e, _⟩ := h1 d q; rw [e]; rfl
  · obtain ⟨k, ek, e⟩ := Option.map_eq_some_iff.mp e
    subst e
    cases r1 with
    | fdt h g1 g2 g3 t =>
      rename_i a od ks qs
      obtain ⟨h1, h2⟩ := repT_look k t
      cases r2 with
      | tup h' t' =>
        rename_i b us
        refine ⟨a, valV ks k, rfl, .inr ⟨ks, .inr ⟨od, hF _ _ h⟩⟩, .inr ⟨ks, k, b, .inr ⟨od, hF _ _ h⟩, rfl, by rw [← asKeys_rep t' ek]; exact hF _ _ h', rfl⟩, ?_, h1, h2⟩
        cases q : dgetE _ k with
        | none => rw [h2 q] <;> rfl
        | some d => obtain ⟨v, e, _⟩ := h1 d q; rw [e]; rfl
  · cases e
theorem sn_dix (hu : X.A.units + 1 < cLine) (ha : SnE X fa cl W x a) (hb : SnE X fa cl W y b) (hs : PlainIx y) : SnE X fa cl W (.Subscript x y pos) (cBin fDix a b) := by
  refine PE.imp (fun σ H Q ⟨c, F0, H0, F, ρ, κ, r, o⟩ => ?_) (pe_dget hu ha hb hs)
  refine ⟨c, F0, H0, F, ρ, κ, r, Out.bind o fun d κ1 F1 H1 v s1 k1 r1 o => ?_⟩
  refine ⟨c, F0, H0, F1, ρ, κ1, r.step s1 k1, Out.bind o fun d2 κ2 F2 H2 v2 s2 k2 r2 o => ?_⟩
  unfold fDix at o
  split at o
  · rename_i dd q
    obtain ⟨a, ov, rfl, _, g, _, h1, _⟩ := dLook_ok s2.inH (r1.sub s2.sub) r2 q
    obtain ⟨w, rfl, rw'⟩ := h1 dd rfl
    exact ⟨a, w, rfl, g, Out.pure s2.inH k2 o rw'⟩
  · exact o.elim
theorem PC.imp {X : Cx} {op : CmpOp} {a b : Expr} {t t' : TE} (h : ∀ σ H Q, t' σ H Q → t σ H Q) (p : PC X op a b t) : PC X op a b t' := ⟨fun pins s σ H Q I q => p.run pins s σ H Q I (h σ H Q q)⟩
theorem pc_dinK (hu : X.A.units + 1 < cLine) (ha : SnE X fa cl W x a) (hb : SnE X fa cl W y b) : PC X .In x y (tE X fa cl W (cBin fDin a b)) := by
  refine PC.imp (fun σ H Q ⟨c, F0, H0, F, ρ, κ, r, o⟩ => ?_) (pc_din hu ha hb)
  refine ⟨c, F0, H0, F, ρ, κ, r, Out.bind o fun d κ1 F1 H1 v s1 k1 r1 o => ?_⟩
  refine ⟨c, F0, H0, F1, ρ, κ1, r.step s1 k1, Out.bind o fun d2 κ2 F2 H2 v2 s2 k2 r2 o => ?_⟩
  unfold fDin at o
  cases q : dLook d2 d with
  | none => rw [q] at o; exact o.elim
  | some oo =>
    rw [q] at o
    obtain ⟨a, ov, rfl, _, g, e, _, _⟩ := dLook_ok s2.inH r2 (r1.sub s2.sub) q
    refine ⟨a, ov, rfl, g, ?_⟩
    rw [e]
    exact Out.pure s2.inH k2 o (.bl _)
theorem pc_dniK (hu : X.A.units + 1 < cLine) (ha : SnE X fa cl W x a) (hb : SnE X fa cl W y b) : PC X .NotIn x y (tE X fa cl W (cBin fDni a b)) := by
  refine PC.imp (fun σ H Q ⟨c, F0, H0, F, ρ, κ, r, o⟩ => ?_) (pc_dnotin hu ha hb)
  refine ⟨c, F0, H0, F, ρ, κ, r, Out.bind o fun d κ1 F1 H1 v s1 k1 r1 o => ?_⟩
  refine ⟨c, F0, H0, F1, ρ, κ1, r.step s1 k1, Out.bind o fun d2 κ2 F2 H2 v2 s2 k2 r2 o => ?_⟩
  unfold fDni at o
  cases q : dLook d2 d with
  | none => rw [q] at o; exact o.elim
  | some oo =>
    rw [q] at o
    obtain ⟨a, ov, rfl, _, g, e, _, _⟩ := dLook_ok s2.inH r2 (r1.sub s2.sub) q
    refine ⟨a, ov, rfl, g, ?_⟩
    rw [e]
    exact Out.pure s2.inH k2 o (.bl _)
/-- a test that gives a bool -/
theorem tE_bool {f : D → D → O1} (hf : ∀ d e p, f d e = some p → ∃ k, p = (.bl k, false)) {σ : L2.St} {H : Hp} {Q : Bool → Hp → Prop} (h : tT X fa cl W (cBin f a b) σ H Q) : tE X fa cl W (cBin f a b) σ H (fun v H1 => ∃ k, v = .bl k ∧ Q k H1) := by
  obtain ⟨c, F0, H0, F, ρ, κ, r, o⟩ := h
  refine ⟨c, F0, H0, F, ρ, κ, r, ?_⟩
  unfold cBin at o ⊢
  cases ea : a ρ κ with
  | ok d fr κ1 =>
    rw [ea] at o
    show Out X.K fa cl W c σ F H _ ((b ρ κ1).bind fun y κ => lift (f d y) κ)
    have o : OutT X.K fa cl W c σ F H Q truth ((b ρ κ1).bind fun y κ => lift (f d y) κ) := o
    cases eb : b ρ κ1 with
    | ok d2 fr2 κ2 =>
      rw [eb] at o
      show Out X.K fa cl W c σ F H _ (lift (f d d2) κ2)
      have o : OutT X.K fa cl W c σ F H Q truth (lift (f d d2) κ2) := o
      cases h : f d d2 with
      | none => rw [h] at o; exact o.elim
      | some p =>
        rw [h] at o
        obtain ⟨k, rfl⟩ := hf _ _ _ h
        obtain ⟨b', e', o⟩ := o
        cases e'
        intro F' H' v s k' e _
        cases e
        exact ⟨k, rfl, o F' H' s k'⟩
    | exc k d κ => rw [eb] at o; exact o
    | bad => rw [eb] at o; exact o
  | exc k d κ => rw [ea] at o; exact o
  | bad => rw [ea] at o; exact o
theorem fDin_b : ∀ d e p, fDin d e = some p → ∃ k, p = (.bl k, false) := fun d e p h => by
  unfold fDin at h
  obtain ⟨o, _, e⟩ := Option.map_eq_some_iff.mp h
  exact ⟨_, e.symm⟩
theorem fDni_b : ∀ d e p, fDni d e = some p → ∃ k, p = (.bl k, false) := fun d e p h => by
  unfold fDni at h
  obtain ⟨o, _, e⟩ := Option.map_eq_some_iff.mp h
  exact ⟨_, e.symm⟩
theorem sn_din (hu : X.A.units + 1 < cLine) (ha : SnE X fa cl W x a) (hb : SnE X fa cl W y b) (hm : behindInMarks .In y = false) : SnE X fa cl W (.Compare x [.In] [y] pos) (cBin fDin a b) := pe_cmp (pc_dinK hu ha hb) hm
theorem sn_dni (hu : X.A.units + 1 < cLine) (ha : SnE X fa cl W x a) (hb : SnE X fa cl W y b) (hm : behindInMarks .NotIn y = false) : SnE X fa cl W (.Compare x [.NotIn] [y] pos) (cBin fDni a b) := pe_cmp (pc_dniK hu ha hb) hm
theorem st_din (hu : X.A.units + 1 < cLine) (ha : SnE X fa cl W x a) (hb : SnE X fa cl W y b) (hm : behindInMarks .In y = false) : SnT X fa cl W (.Compare x [.In] [y] pos) (cBin fDin a b) := PT.imp (fun _ _ _ h => tE_bool fDin_b h) (pt_cmp (pc_dinK hu ha hb) hm)
theorem st_dni (hu : X.A.units + 1 < cLine) (ha : SnE X fa cl W x a) (hb : SnE X fa cl W y b) (hm : behindInMarks .NotIn y = false) : SnT X fa cl W (.Compare x [.NotIn] [y] pos) (cBin fDni a b) := PT.imp (fun _ _ _ h => tE_bool fDni_b h) (pt_cmp (pc_dniK hu ha hb) hm)
/-! ## in a list or a tuple -/
def D.fl0 : D → Bool
  | .non | .bl _ | .int _ | .str _ => true
  | _ => false
def fIn (x y : D) : O1 := match y with
  | .lst ys => if x.shp 50 && shpL ys 50 then some (.bl (ys.any fun z => z.eqv x), false) else none
  | .tup ys => if x.fl0 && ys.all D.fl0 then some (.bl (ys.any fun z => z.eqv x), false) else none
  | _ => none
def fNi (x y : D) : O1 := match y with
  | .lst ys => if x.shp 50 && shpL ys 50 then some (.bl (!ys.any fun z => z.eqv x), false) else none
  | .tup ys => if x.fl0 && ys.all D.fl0 then some (.bl (!ys.any fun z => z.eqv x), false) else none
  | _ => none
theorem fl0_rep {d : D} {v : V} (r : Rep K fa c F d v) (h : d.fl0 = true) : flatV v = true := by
  cases r <;> first | rfl | cases h
theorem fl0_eqv {d e : D} {v w : V} (r : Rep K fa c F d v) (q : Rep K fa c F e w) (h : d.fl0 = true) (h2 : e.fl0 = true) : eqV v w = d.eqv e := by
  cases r <;> (try cases h) <;> cases q <;> (try cases h2) <;> rfl
theorem fl0_any {x : D} {v : V} (r : Rep K fa c F x v) (h : x.fl0 = true) : ∀ {ys : List D} {vs : List V}, RepL K fa c F ys vs → ys.all D.fl0 = true → vs.all flatV = true ∧ inV v vs = ys.any fun z => z.eqv x
  | _, _, .nil, _ => ⟨rfl, rfl⟩
  | _, _, .cons r1 t, hs => by
    rw [List.all_cons, Bool.and_eq_true] at hs
    obtain ⟨h1, h2⟩ := fl0_any r h t hs.2
    refine ⟨by rw [List.all_cons, fl0_rep r1 hs.1, h1]; rfl, ?_⟩
    unfold inV at h2 ⊢
    rw [List.any_cons, List.any_cons, h2, fl0_eqv r1 r hs.1 h]
theorem any_eqv {x : D} {n : Nat} (e : x.shp n = true) : ∀ {ys : List D} {m : Nat}, shpL ys m = true → ((toPyL ys).any fun z => PyData.eqv z x.toPy) = ys.any fun z => z.eqv x
  | [], _, _ => rfl
  | y :: ys, m, h => by
    unfold shpL at h
    obtain ⟨h1, h2⟩ := Bool.and_eq_true_iff.mp h
    unfold toPyL
    rw [List.any_cons, List.any_cons, any_eqv e h2, D.eqv_ok _ _ m n h1 e]
theorem op_In (hu : X.A.units + 65 < cLine) : OpR X (compareOp .In) (rOp X.K fa fIn) := by
  intro pins s σ H x y v u Q I rx ry h
  obtain ⟨c, F, κ, dx, dy, d, fr, hF, k, r1, r2, e, o⟩ := h
  unfold fIn at e
  split at e
  · split at e
    · cases e
      rename_i hb
      obtain ⟨b1, b2⟩ := Bool.and_eq_true_iff.mp hb
      have b3 : (D.lst _).shp 51 = true := b2
      refine op_inD hu pins s σ H _ _ v u Q I rx ry ⟨_, _, Rep.dp hF _ _ 50 r1 b1, Rep.dp hF (.lst _) _ 51 r2 b3, ?_, ?_, ?_⟩
      · obtain ⟨h1, h2⟩ := D.shp_ok _ 50 b1
        unfold SeqAt.shaped; rw [h1, decide_eq_true (by omega)]; rfl
      · obtain ⟨h1, h2⟩ := D.shp_ok _ 51 b3
        exact Bool.and_eq_true_iff.mpr ⟨h1, decide_eq_true (Nat.le_trans h2 (by decide))⟩
      · rw [any_eqv b1 b2]
        exact fin0 hF k o (.bl _)
    · cases e
  · split at e
    · cases e
      rename_i hb
      obtain ⟨b1, b2⟩ := Bool.and_eq_true_iff.mp hb
      have r2' := r2
      cases r2 with
      | tup hq t =>
      obtain ⟨h1, h2⟩ := fl0_any r1 b1 t b2
      refine op_in_seq pins s σ H _ _ v u Q I rx ry ⟨_, _, rfl, .inr (SqT.of (hF _ _ hq)), fl0_rep r1 b1, h1, ?_⟩
      rw [h2]
      exact fin0 hF k o (.bl _)
    · cases e
  · cases e
theorem op_Ni (hu : X.A.units + 65 < cLine) : OpR X (compareOp .NotIn) (rOp X.K fa fNi) := by
  intro pins s σ H x y v u Q I rx ry h
  obtain ⟨c, F, κ, dx, dy, d, fr, hF, k, r1, r2, e, o⟩ := h
  unfold fNi at e
  split at e
  · split at e
    · cases e
      rename_i hb
      obtain ⟨b1, b2⟩ := Bool.and_eq_true_iff.mp hb
      have b3 : (D.lst _).shp 51 = true := b2
      refine op_notInD hu pins s σ H _ _ v u Q I rx ry ⟨_, _, Rep.dp hF _ _ 50 r1 b1, Rep.dp hF (.lst _) _ 51 r2 b3, ?_, ?_, ?_⟩
      · obtain ⟨h1, h2⟩ := D.shp_ok _ 50 b1
        unfold SeqAt.shaped; rw [h1, decide_eq_true (by omega)]; rfl
      · obtain ⟨h1, h2⟩ := D.shp_ok _ 51 b3
        exact Bool.and_eq_true_iff.mpr ⟨h1, decide_eq_true (Nat.le_trans h2 (by decide))⟩
      · rw [any_eqv b1 b2]
        exact fin0 hF k o (.bl _)
    · cases e
  · split at e
    · cases e
      rename_i hb
      obtain ⟨b1, b2⟩ := Bool.and_eq_true_iff.mp hb
      have r2' := r2
      cases r2 with
      | tup hq t =>
      obtain ⟨h1, h2⟩ := fl0_any r1 b1 t b2
      refine op_notIn_seq pins s σ H _ _ v u Q I rx ry ⟨_, _, rfl, .inr (SqT.of (hF _ _ hq)), fl0_rep r1 b1, h1, ?_⟩
      rw [h2]
      exact fin0 hF k o (.bl _)
    · cases e
  · cases e
end
/-! ## what a loop walks -/
/-- the walk J hands out ds, wherever all that is known in F1 is still known -/
def Yields (K : PySem.W.Frag) (fa : Nat → Option Addr) (c : Option Addr) (F1 : Hp) (J : It) (ds : List D) : Prop :=
  ∀ (F H : Hp) (κ : Kp) (i : Nat), Sub F1 F → (∀ a o, F a = some o → H a = some o) → Kap c κ F H →
    (∀ d, ds[i]? = some d → J.go i H ∧ ∀ x H', J.yld i H x H' → ∃ F', Stp K c F H F' H' ∧ Kap c κ F' H' ∧ Rep K fa c F' d x) ∧ (ds[i]? = none → J.stop i H)
section
variable (K : PySem.W.Frag) (fa : Nat → Option Addr) (cl : Nat → ClsI) (W : WX)
def OutI (c : Option Addr) (σ : L2.St) (F H : Hp) (R : It → Hp → Prop) : RL → Prop
  | .ok ds κ => ∀ F' H' J, Stp K c F H F' H' → Kap c κ F' H' → Yields K fa c F' J ds → R J H'
  | .exc k d κ => OutX K fa cl W c σ F H k d κ
  | .bad => False
end
section
variable (X : Cx) (fa : Nat → Option Addr) (cl : Nat → ClsI) (W : WX)
def tI (m : SmL) : TI := fun σ H R => ∃ c F0 H0 F ρ κ, RelS X.K fa c F0 H0 F ρ κ σ H ∧ OutI X.K fa cl W c σ F H R (m ρ κ)
def SnI (tg x : Expr) (m : SmL) : Prop := PI X tg x (tI X fa cl W m)
end
theorem PI.imp {X : Cx} {tg e : Expr} {t t' : TI} (h : ∀ σ H Q, t' σ H Q → t σ H Q) (p : PI X tg e t) : PI X tg e t' := ⟨fun pins s σ H Q I q => p.run pins s σ H Q I (h σ H Q q)⟩
def asSeq : D → RL → RL
  | .lst xs, _ => .bad
  | _, _ => .bad
/-- the items of a list or a tuple -/
def cItL (a : SmE) : SmL := fun ρ κ => match a ρ κ with
  | .ok (.lst xs) _ κ => .ok xs κ
  | .ok _ _ _ => .bad
  | .exc k d κ => .exc k d κ
  | .bad => .bad
def cItT (a : SmE) : SmL := fun ρ κ => match a ρ κ with
  | .ok (.tup xs) _ κ => .ok xs κ
  | .ok _ _ _ => .bad
  | .exc k d κ => .exc k d κ
  | .bad => .bad
def rngD (lo : Int) (n : Nat) : List D := (List.range n).map fun (i : Nat) => D.int (lo + (i : Int))
def cRng (a : SmL) : SmL := fun ρ κ => match a ρ κ with
  | .ok [.int j] κ => if decide (-1000000000 ≤ j) && decide (j ≤ 1000000000) then .ok (rngD 0 j.toNat) κ else .bad
  | .ok [.int i, .int j] κ => if decide (-1000000000 ≤ i) && decide (i ≤ 1000000000) && decide (-1000000000 ≤ j) && decide (j ≤ 1000000000) then .ok (rngD i (j - i).toNat) κ else .bad
  | .ok _ _ => .bad
  | .exc k d κ => .exc k d κ
  | .bad => .bad
section
variable {X : Cx} {fa : Nat → Option Addr} {cl : Nat → ClsI} {W : WX} {x y z tg : Expr} {a b e : SmE} {pos p : Pos} {K : PySem.W.Frag} {c : Option Addr} {F H : Hp} {σ : L2.St} {Q : VK}
theorem RepL.none_of : ∀ {ds : List D} {vs : List V} {i : Nat}, RepL K fa c F ds vs → ds[i]? = none → vs.length ≤ i := fun {ds vs i} r e => by
  rw [← r.length]
  exact List.getElem?_eq_none_iff.mp e
theorem si_lst (ha : SnE X fa cl W x a) : SnI X fa cl W tg x (cItL a) := by
  refine PI.imp (fun σ H R ⟨c, F0, H0, F, ρ, κ, r, o⟩ => ?_) (pi_list ha)
  refine ⟨c, F0, H0, F, ρ, κ, r, ?_⟩
  unfold cItL at o
  cases ea : a ρ κ with
  | ok d fr κ1 =>
    rw [ea] at o
    cases d <;> try exact o.elim
    rename_i xs
    intro F' H' v s k e fresh
    obtain ⟨F2, s2, k2, _, e2⟩ := e.still s k fresh
    cases e2 with
    | lst h t =>
      rename_i ad vs
      refine ⟨ad, rfl, ⟨vs, SqL.of (s2.inH _ _ h)⟩, o F2 H' _ s2 k2 fun G I κ3 i sb hG k3 => ⟨fun d ed => ?_, fun ed => ?_⟩⟩
      · obtain ⟨w, hw, rw'⟩ := t.get ed
        have hq : SqL X.K I ad vs := SqL.of (hG _ _ (sb.l _ _ h))
        refine ⟨⟨vs, w, hq, hw⟩, fun y I' ⟨e1, e3⟩ => ?_⟩
        subst e1
        have := e3 vs hq
        rw [hw] at this; cases this
        exact ⟨G, Stp.refl hG, k3, rw'.sub sb⟩
      · exact ⟨vs, SqL.of (hG _ _ (sb.l _ _ h)), t.none_of ed⟩
  | exc k d κ => rw [ea] at o; exact o
  | bad => rw [ea] at o; exact o
theorem si_tup (ha : SnE X fa cl W x a) : SnI X fa cl W tg x (cItT a) := by
  refine PI.imp (fun σ H R ⟨c, F0, H0, F, ρ, κ, r, o⟩ => ?_) (pi_tup ha)
  refine ⟨c, F0, H0, F, ρ, κ, r, ?_⟩
  unfold cItT at o
  cases ea : a ρ κ with
  | ok d fr κ1 =>
    rw [ea] at o
    cases d <;> try exact o.elim
    rename_i xs
    intro F' H' v s k e fresh
    obtain ⟨F2, s2, k2, _, e2⟩ := e.still s k fresh
    cases e2 with
    | tup h t =>
      rename_i ad vs
      refine ⟨ad, rfl, ⟨vs, SqT.of (s2.inH _ _ h)⟩, o F2 H' _ s2 k2 fun G I κ3 i sb hG k3 => ⟨fun d ed => ?_, fun ed => ?_⟩⟩
      · obtain ⟨w, hw, rw'⟩ := t.get ed
        have hq : SqT X.K I ad vs := SqT.of (hG _ _ (sb.t _ _ h))
        refine ⟨⟨vs, w, hq, hw⟩, fun y I' ⟨e1, e3⟩ => ?_⟩
        subst e1
        have := e3 vs hq
        rw [hw] at this; cases this
        exact ⟨G, Stp.refl hG, k3, rw'.sub sb⟩
      · exact ⟨vs, SqT.of (hG _ _ (sb.t _ _ h)), t.none_of ed⟩
  | exc k d κ => rw [ea] at o; exact o
  | bad => rw [ea] at o; exact o
theorem rng_yields (lo : Int) (n : Nat) : Yields K fa c F (Itr lo n) (rngD lo n) := fun G I κ3 i sb hG k3 => by
  constructor
  · intro d ed
    unfold rngD at ed
    rw [List.getElem?_map] at ed
    by_cases hi : i < n
    · rw [List.getElem?_range hi] at ed
      cases ed
      refine ⟨hi, fun y I' ⟨e1, e3⟩ => ?_⟩
      subst e1 e3
      exact ⟨G, Stp.refl hG, k3, .int _⟩
    · rw [List.getElem?_eq_none (by simpa using hi)] at ed
      cases ed
  · intro ed
    unfold rngD at ed
    have := List.getElem?_eq_none_iff.mp ed
    rw [List.length_map, List.length_range] at this
    exact this
theorem si_rng1 {m : SmL} (hg : Gl X "range") (hm : X.mg "range" = none) (ha : SnL X fa cl W [x] m) (hs : starEach [x] X.env = [(false, eval x X.env)]) (hl : ∀ ρ κ ds κ', m ρ κ = .ok ds κ' → ds.length = 1) : SnI X fa cl W tg (.Call (.Name "range" p) [x] [] pos) (cRng m) := by
  refine PI.imp (fun σ H R ⟨c, F0, H0, F, ρ, κ, r, o⟩ => ?_) (pi_range1 hg hm ha hs)
  refine ⟨c, F0, H0, F, ρ, κ, r, ?_⟩
  unfold cRng at o
  cases em : m ρ κ with
  | ok ds κ1 =>
    have h1 := hl _ _ _ _ em
    rw [em] at o
    obtain ⟨d, rfl⟩ := List.length_eq_one_iff.mp h1
    cases d <;> try exact o.elim
    rename_i j
    dsimp only at o
    split at o
    · rename_i hb
      simp only [Bool.and_eq_true, decide_eq_true_eq] at hb
      intro F' H' vs s k e
      obtain ⟨v, rfl, rv⟩ := repL1 e
      cases rv
      exact ⟨j, rfl, by omega, by omega, o F' H' _ s k (rng_yields 0 j.toNat)⟩
    · exact o.elim
  | exc k d κ => rw [em] at o; exact o
  | bad => rw [em] at o; exact o
theorem si_rng2 {m : SmL} (hg : Gl X "range") (hm : X.mg "range" = none) (ha : SnL X fa cl W [x, y] m) (hs : starEach [x, y] X.env = [(false, eval x X.env), (false, eval y X.env)]) (hs2 : starEach [y] X.env = [(false, eval y X.env)]) (hl : ∀ ρ κ ds κ', m ρ κ = .ok ds κ' → ds.length = 2) :
    SnI X fa cl W tg (.Call (.Name "range" p) [x, y] [] pos) (cRng m) := by
  refine PI.imp (fun σ H R ⟨c, F0, H0, F, ρ, κ, r, o⟩ => ?_) (pi_range2 hg hm ha hs hs2)
  refine ⟨c, F0, H0, F, ρ, κ, r, ?_⟩
  unfold cRng at o
  cases em : m ρ κ with
  | ok ds κ1 =>
    have h1 := hl _ _ _ _ em
    rw [em] at o
    obtain ⟨d, d2, rfl⟩ : ∃ d d2, ds = [d, d2] := by
      match ds, h1 with
      | [d, d2], _ => exact ⟨d, d2, rfl⟩
    cases d <;> try exact o.elim
    cases d2 <;> try exact o.elim
    rename_i i j
    dsimp only at o
    split at o
    · rename_i hb
      simp only [Bool.and_eq_true, decide_eq_true_eq] at hb
      intro F' H' vs s k e
      obtain ⟨v, w, rfl, rv, rw'⟩ := repL2 e
      cases rv; cases rw'
      exact ⟨i, j, rfl, ⟨by omega, by omega, by omega, by omega⟩, o F' H' _ s k (rng_yields i (j - i).toNat)⟩
    · exact o.elim
  | exc k d κ => rw [em] at o; exact o
  | bad => rw [em] at o; exact o
end
/-! ## targets -/
abbrev Tg := D → Rho → Option Rho
def tgName (i : Nat) : Tg := fun d ρ => some (ρ.set i (.val d))
abbrev Tgs := List D → Rho → Option Rho
def tgNil : Tgs := fun ds ρ => match ds with
  | [] => some ρ
  | _ => none
def tgCons (t : Tg) (u : Tgs) : Tgs := fun ds ρ => match ds with
  | d :: r => (t d ρ).bind (u r)
  | [] => none
def tgTup (n : Nat) (u : Tgs) : Tg := fun d ρ => match d with
  | .tup ds => if ds.length = n then u ds ρ else none
  | _ => none
section
variable (X : Cx) (fa : Nat → Option Addr)
/-- all slots but those at ts are as they were -/
def SameBut (ts : List Nat) (σ σ' : L2.St) : Prop := σ'.length = σ.length ∧ ∀ j, j ∉ ts → σ'[j]? = σ[j]?
def tG (ts : List Nat) (g : Tg) : TG := fun v σ H Q => ∃ c F0 H0 F ρ κ d ρ', RelS X.K fa c F0 H0 F ρ κ σ H ∧ Rep X.K fa c F d v ∧ g d ρ = some ρ' ∧ ∀ σ', RelS X.K fa c F0 H0 F ρ' κ σ' H → SameBut ts σ σ' → Q σ' H
def tGs (ts : List Nat) (g : Tgs) : TGs := fun vs σ H Q => ∃ c F0 H0 F ρ κ ds ρ', RelS X.K fa c F0 H0 F ρ κ σ H ∧ RepL X.K fa c F ds vs ∧ g ds ρ = some ρ' ∧ ∀ σ', RelS X.K fa c F0 H0 F ρ' κ σ' H → SameBut ts σ σ' → Q σ' H
def SnG (ts : List Nat) (tg : Expr) (g : Tg) : Prop := PG X tg (tG X fa ts g)
def SnGs (ts : List Nat) (tg : List Expr) (g : Tgs) : Prop := PGs X tg (tGs X fa ts g)
end
theorem PG.imp {X : Cx} {tg : Expr} {t t' : TG} (h : ∀ v σ H Q, t' v σ H Q → t v σ H Q) (p : PG X tg t) : PG X tg t' := ⟨fun pins s σ H v u Q I r q => p.run pins s σ H v u Q I r (h v σ H Q q)⟩
theorem PGs.imp {X : Cx} {tg : List Expr} {t t' : TGs} (h : ∀ v σ H Q, t' v σ H Q → t v σ H Q) (p : PGs X tg t) : PGs X tg t' := ⟨fun pins s σ H v u Q I r q => p.run pins s σ H v u Q I r (h v σ H Q q)⟩
section
variable {X : Cx} {fa : Nat → Option Addr} {K : PySem.W.Frag} {c : Option Addr} {F0 H0 F H : Hp} {ρ : Rho} {κ : Kp} {σ : L2.St}
/-- a slot is stored: a value that stays -/
theorem RelS.setV {i : Nat} {d : D} {v : V} (r : RelS K fa c F0 H0 F ρ κ σ H) (h : Rep K fa c F d v) : RelS K fa c F0 H0 F (ρ.set i (.val d)) κ (σ.set i (some v)) H where
  stp := r.stp
  kap := r.kap
  tab := r.tab
  len := by rw [List.length_set, List.length_set, r.len]
  vals := fun j e q => by
    by_cases hj : i = j
    · subst hj
      by_cases hl : i < ρ.length
      · rw [List.getElem?_set_self (by rw [← r.len]; exact hl)]
        rw [List.getElem?_set_self hl] at q; cases q
        exact ⟨v, rfl, h⟩
      · rw [List.getElem?_eq_none (by rw [List.length_set]; omega)] at q; cases q
    · rw [List.getElem?_set_ne hj] at q ⊢
      exact r.vals j e q
  owns := fun j e q => by
    by_cases hj : i = j
    · subst hj
      by_cases hl : i < ρ.length
      · rw [List.getElem?_set_self hl] at q; cases q
      · rw [List.getElem?_eq_none (by rw [List.length_set]; omega)] at q; cases q
    · rw [List.getElem?_set_ne hj] at q ⊢
      exact r.owns j e q
  inj := fun j l e f a hjl q1 q2 q3 => by
    have hj : i ≠ j := fun z => by
      subst z
      by_cases hl : i < ρ.length
      · rw [List.getElem?_set_self hl] at q1; cases q1
      · rw [List.getElem?_eq_none (by rw [List.length_set]; omega)] at q1; cases q1
    have hl' : i ≠ l := fun z => by
      subst z
      by_cases hl : i < ρ.length
      · rw [List.getElem?_set_self hl] at q2; cases q2
      · rw [List.getElem?_eq_none (by rw [List.length_set]; omega)] at q2; cases q2
    rw [List.getElem?_set_ne hj] at q1 q3
    rw [List.getElem?_set_ne hl'] at q2 ⊢
    exact r.inj j l e f a hjl q1 q2 q3
/-- .. an owned one -/
theorem RelS.setO {i : Nat} {d : D} {a : Addr} (r : RelS K fa c F0 H0 F ρ κ σ H) (h : Own K fa c F H a d) (h0 : H0 a = none) (hn : ∀ (j : Nat) (e : D), ρ[j]? = some (Slot.own e) → σ[j]? ≠ some (some (V.ref a))) :
    RelS K fa c F0 H0 F (ρ.set i (.own d)) κ (σ.set i (some (.ref a))) H where
  stp := r.stp
  kap := r.kap
  tab := r.tab
  len := by rw [List.length_set, List.length_set, r.len]
  vals := fun j e q => by
    by_cases hj : i = j
    · subst hj
      by_cases hl : i < ρ.length
      · rw [List.getElem?_set_self hl] at q; cases q
      · rw [List.getElem?_eq_none (by rw [List.length_set]; omega)] at q; cases q
    · rw [List.getElem?_set_ne hj] at q ⊢
      exact r.vals j e q
  owns := fun j e q => by
    by_cases hj : i = j
    · subst hj
      by_cases hl : i < ρ.length
      · rw [List.getElem?_set_self (by rw [← r.len]; exact hl)]
        rw [List.getElem?_set_self hl] at q; cases q
        exact ⟨a, rfl, h, h0⟩
      · rw [List.getElem?_eq_none (by rw [List.length_set]; omega)] at q; cases q
    · rw [List.getElem?_set_ne hj] at q ⊢
      exact r.owns j e q
  inj := fun j l e f b hjl q1 q2 q3 => by
    by_cases hj : i = j
    · subst hj
      have hi : i < σ.length := by
        cases Nat.lt_or_ge i σ.length with
        | inl h => exact h
        | inr h =>
          rw [List.getElem?_eq_none (by rw [List.length_set]; omega)] at q3
          cases q3
      rw [List.getElem?_set_self hi] at q3
      cases q3
      rw [List.getElem?_set_ne hjl] at q2 ⊢
      exact hn l f q2
    · rw [List.getElem?_set_ne hj] at q1 q3
      by_cases hl : i = l
      · subst hl
        intro z
        cases Nat.lt_or_ge i σ.length with
        | inl h =>
          rw [List.getElem?_set_self h] at z
          cases z
          exact hn j e q1 q3
        | inr h =>
          rw [List.getElem?_eq_none (by rw [List.length_set]; omega)] at z
          cases z
      · rw [List.getElem?_set_ne hl] at q2 ⊢
        exact r.inj j l e f b hjl q1 q2 q3
theorem sg_name {i : Nat} {n : Str} {pos : Pos} (hN : X.N.Nodup) (hi : X.N[i]? = some n) (hx : Loc X.env.scope n) (hf : X.fn n = true ∨ X.env.scope.names.lookup n = some .local) : SnG X fa [i] (.Name n pos) (tgName i) := by
  refine ⟨fun pins s σ H v u Q I rv h => ?_⟩
  obtain ⟨c, F0, H0, F, ρ, κ, d, ρ', r, rd, e, q⟩ := h
  cases e
  exact (pg_name hN hi hx hf).run pins s σ H v u Q I rv (q _ (r.setV rd) ⟨List.length_set .., fun j hj => List.getElem?_set_ne (fun z => hj (by simp [z]))⟩)
theorem sgs_nil : SnGs X fa [] [] tgNil := by
  refine PGs.imp (fun vs σ H Q ⟨c, F0, H0, F, ρ, κ, ds, ρ', r, rd, e, q⟩ => ?_) pgs_nil
  cases rd with
  | nil => cases e; exact ⟨rfl, q σ r ⟨rfl, fun _ _ => rfl⟩⟩
  | cons _ _ => cases e
theorem sgs_cons {e : Expr} {es : List Expr} {t : Tg} {u : Tgs} {ts us : List Nat} (h1 : SnG X fa ts e t) (h2 : SnGs X fa us es u) (hs : (assignEach (e :: es) X.env).map (·.2) = assign e X.env :: (assignEach es X.env).map (·.2)) : SnGs X fa (ts ++ us) (e :: es) (tgCons t u) := by
  refine PGs.imp (fun vs σ H Q ⟨c, F0, H0, F, ρ, κ, ds, ρ', r, rd, e, q⟩ => ?_) (pgs_cons h1 h2 hs)
  cases rd with
  | nil => cases e
  | @cons d v ds vs h tl =>
    unfold tgCons at e
    obtain ⟨ρ1, e1, e2⟩ := Option.bind_eq_some_iff.mp e
    exact ⟨v, vs, rfl, c, F0, H0, F, ρ, κ, d, ρ1, r, h, e1, fun σ1 r1 b1 => ⟨c, F0, H0, F, ρ1, κ, ds, ρ', r1, tl, e2, fun σ2 r2 b2 => q σ2 r2 ⟨b2.1.trans b1.1, fun j hj => (b2.2 j fun z => hj (List.mem_append_right _ z)).trans (b1.2 j fun z => hj (List.mem_append_left _ z))⟩⟩⟩
theorem sg_tup {es : List Expr} {k n : Nat} {u : Tgs} {pos : Pos} {ts : List Nat} (hc : X.calm = true) (h : SnGs X fa ts es u) (hn : (assignEach es X.env).length = n) (hst : (assignEach es X.env).findIdx? (·.1) = none) : SnG X fa ts (.Tuple es k pos) (tgTup n u) := by
  refine PG.imp (fun v σ H Q ⟨c, F0, H0, F, ρ, κ, d, ρ', r, rd, e, q⟩ => ?_) (pg_tup hc h hn hst)
  unfold tgTup at e
  cases d <;> try cases e
  rename_i ds
  dsimp only at e
  split at e
  · rename_i hl
    cases rd with
    | tup hq t => exact ⟨_, _, rfl, SqT.of (r.stp.inH _ _ hq), by rw [← t.length]; exact hl, c, F0, H0, F, ρ, κ, ds, ρ', r, t, e, q⟩
  · cases e
end
/-! zip and enumerate over lists and tuples, each of its own kind (turned from the kit's zip of two tuples) -/
namespace PVZ
open PySem
open PySem.Sem (wp)
/-- the walk's class: true a tuple's, false a list's -/
def icls : Bool → Value
  | true => .type "tuple_iterator"
  | false => .type "list_iterator"
def IsIx (h : Heap) (b : Bool) (it l : Addr) (i : Nat) : Prop := ∃ o, h.get? it = some o ∧ o.cls = icls b ∧ o.data = .fields #[.ref l, .int i 0]
def IsSx (h : Heap) : Bool → Addr → Array Value → Prop
  | true, l, items => h.IsTuple l items
  | false, l, items => h.IsList l items
theorem IsIx.extBut {h h' : Heap} {b : Bool} {a c l i} (x : IsIx h b a l i) (hs : Heap.ExtBut c h h') (hab : a ≠ c) : IsIx h' b a l i := let ⟨o, ho, r⟩ := x; ⟨o, hs a o hab ho, r⟩
theorem IsIx.at {h h' : Heap} {b : Bool} {a l i} (x : IsIx h b a l i) (e : ∀ o, h.get? a = some o → h'.get? a = some o) : IsIx h' b a l i := let ⟨o, ho, r⟩ := x; ⟨o, e _ ho, r⟩
theorem IsSx.extBut {h h' : Heap} {b : Bool} {a c items} (x : IsSx h b a items) (hs : Heap.ExtBut c h h') (hab : a ≠ c) : IsSx h' b a items := by
  cases b
  · exact Heap.IsList.extBut x hs hab
  · exact Heap.IsTuple.extBut x hs hab
section
variable {prog : Program} {w : World} {A : Around} {E : Value → Shared → Prop} {s : Shared}
theorem nextOf_x_item {b : Bool} {it l : Addr} {i : Nat} {items : Array Value} {x : Value} {Q : Value → Shared → Prop} (hit : IsIx s.heap b it l i)
    (hl : IsSx s.heap b l items) (hx : items[i]? = some x)
    (hQ : ∀ h', IsIx h' b it l (i + 1) → Heap.SameBut it s.heap h' → Q x { s with heap := h' }) :
    wpAny (model prog w) A (Builtin.SmallTypes.nextOf (.ref it)) Q E s := by
  cases b
  · exact wpAny_nextOf_list_item hit hl hx hQ
  · exact RZ.nextOf_tuple_item hit hl hx hQ
theorem nextOf_x_end {b : Bool} {it l : Addr} {i : Nat} {items : Array Value} {Q : Value → Shared → Prop} (hh : A.handled = none)
    (hit : IsIx s.heap b it l i) (hl : IsSx s.heap b l items) (hx : items[i]? = none)
    (hE : ∀ h' e, Heap.ExtBut it s.heap h' → (∃ o, h'.get? e = some o ∧ o.cls = .type "StopIteration") → E (.ref e) { s with heap := h' }) :
    wpAny (model prog w) A (Builtin.SmallTypes.nextOf (.ref it)) Q E s := by
  cases b
  · exact wpAny_nextOf_list_end hh hit hl hx hE
  · exact RZ.nextOf_tuple_end hh hit hl hx hE
theorem drawsX (b : Bool) (hh : A.handled = none) (it l : Addr) (hne : l ≠ it) (items : Array Value) :
    Draws prog w A it [it, l] items.size (fun i v => items[i]? = some v) (fun i h => IsIx h b it l i ∧ IsSx h b l items) where
  live := fun _ _ st => let ⟨o, ho, _⟩ := st.1; ⟨o, ho⟩
  frame := fun _ _ _ st hk => ⟨st.1.at fun o e => hk it (by simp) o e, by
    cases b
    · exact Heap.IsList.at st.2 fun o e => hk l (by simp) o e
    · exact Heap.IsTuple.at st.2 fun o e => hk l (by simp) o e⟩
  item := fun i s Q E hi st hQ => by
    refine nextOf_x_item st.1 st.2 (x := items[i]) (by simp [hi]) fun h' hit' hs' => ?_
    exact hQ _ h' s.toks (by simp [hi]) ⟨hit', st.2.extBut hs'.extBut hne⟩ hs'
  done := fun s Q E st hE => nextOf_x_end hh st.1 st.2 (by simp) hE
theorem zipX_next_item {z TI TO i1 i2 l1 l2 : Addr} {b1 b2 : Bool} {k1 k2 : Nat} {xs ys : Array Value} {x y a b : Value} {Q : Value → Shared → Prop} (D : ZipApart z TI TO i1 i2 l1 l2)
    (hz : IsZip s.heap z TI TO .none) (hTI : IsPair s.heap TI (.ref i1) (.ref i2)) (hTO : IsPair s.heap TO a b)
    (h1 : IsIx (s.heap) b1 i1 l1 k1) (h2 : IsIx (s.heap) b2 i2 l2 k2) (hl1 : IsSx (s.heap) b1 l1 xs) (hl2 : IsSx (s.heap) b2 l2 ys) (hx : xs[k1]? = some x) (hy : ys[k2]? = some y)
    (hQ : ∀ h', IsZip h' z TI TO (rawInt s.heap.objs.size) → IsPair h' TO x y → IsIx (h') b1 i1 l1 (k1 + 1) → IsIx (h') b2 i2 l2 (k2 + 1) → IsPair h' s.heap.objs.size x y → h'.objs.size = s.heap.objs.size + 1 →
      (∀ c o, c ≠ z → c ≠ TO → c ≠ i1 → c ≠ i2 → s.heap.get? c = some o → h'.get? c = some o) → Q (.ref s.heap.objs.size) { s with heap := h' }) :
    wpAny (model prog w) A (Builtin.«zip.__next__» ⟨[.ref z], []⟩) (fun fin s' => ∃ v, fin = .done (.ret v) ∧ Q v s') E s := by
  show wpAny _ _ (field (.ref z) 2 >>= _) _ _ _
  refine wpAny_bind (wpAny_field hz rfl (x := .bool false) rfl ?_)
  show wpAny _ _ (field (.ref z) 3 >>= _) _ _ _
  refine wpAny_bind (wpAny_field hz rfl (x := .ref TI) rfl ?_)
  refine wpAny_bind (wpAny_seqItems hTI rfl ?_)
  show wpAny _ _ (Builtin.SmallTypes.ownedTupleIsFree (.ref z) >>= _) _ _ _
  refine wpAny_bind ?_
  unfold Builtin.SmallTypes.ownedTupleIsFree
  refine wpAny_bind (wpAny_field hz rfl (x := .none) rfl (wpAny_pure ?_))
  simp only [if_true]
  refine wpAny_bind (wpAny_rule ?_)
  refine wpAny_bind (wpAny_field hz rfl (x := .ref TO) rfl ?_)
  refine wpAny_bind (wpAny_setField_rec hz (by simp) fun h₁ hz₁ hs₁ => ?_)
  replace hz₁ : IsZip h₁ z TI TO .ellipsis := hz₁
  refine wpAny_bind ?_
  simp only [List.zipIdx_cons, List.zipIdx_nil, List.forIn_cons, List.forIn_nil]
  refine wpAny_bind (wpAny_bind (wpAny_onRaise ?_))
  show wpAny _ _ (Builtin.SmallTypes.nextOf (.ref i1) >>= _) _ _ _
  refine wpAny_bind (nextOf_x_item (h1.extBut hs₁.extBut D.i1z) (hl1.extBut hs₁.extBut D.l1z) hx fun h₂ h1₂ hs₂ => wpAny_pure ?_)
  have hTO₂ : IsPair h₂ TO a b := hs₂.extBut _ _ D.TOi1 (hs₁.extBut _ _ D.TOz hTO)
  refine wpAny_bind (wpAny_seqItems hTO₂ rfl ?_)
  refine wpAny_bind (wpAny_updateSeq_pair hTO₂ fun h₃ hTO₃ hs₃ => ?_)
  replace hTO₃ : IsPair h₃ TO x b := hTO₃
  refine wpAny_bind (wpAny_letGo (wpAny_pure ?_))
  refine wpAny_bind (wpAny_bind (wpAny_onRaise ?_))
  show wpAny _ _ (Builtin.SmallTypes.nextOf (.ref i2) >>= _) _ _ _
  refine wpAny_bind (nextOf_x_item (((h2.extBut hs₁.extBut D.i2z).extBut hs₂.extBut D.i12.symm).extBut hs₃.extBut D.TOi2.symm)
    (((hl2.extBut hs₁.extBut D.l2z).extBut hs₂.extBut D.l2i1).extBut hs₃.extBut D.l2TO) hy fun h₄ h2₄ hs₄ => wpAny_pure ?_)
  have hTO₄ : IsPair h₄ TO x b := hs₄.extBut _ _ D.TOi2 hTO₃
  refine wpAny_bind (wpAny_seqItems hTO₄ rfl ?_)
  refine wpAny_bind (wpAny_updateSeq_pair hTO₄ fun h₅ hTO₅ hs₅ => ?_)
  replace hTO₅ : IsPair h₅ TO x y := hTO₅
  refine wpAny_bind (wpAny_letGo (wpAny_pure (wpAny_pure ?_)))
  refine wpAny_bind (wpAny_seqItems hTO₅ rfl ?_)
  refine wpAny_bind (wpAny_newTuple ?_)
  have hsz : h₅.objs.size = s.heap.objs.size := by rw [hs₅.1, hs₄.1, hs₃.1, hs₂.1, hs₁.1]
  have hz₅ : IsZip h₅ z TI TO .ellipsis := hs₅.extBut _ _ D.TOz.symm (hs₄.extBut _ _ D.i2z.symm (hs₃.extBut _ _ D.TOz.symm (hs₂.extBut _ _ D.i1z.symm hz₁)))
  have hk₅ : ∀ c o, c ≠ z → c ≠ TO → c ≠ i1 → c ≠ i2 → s.heap.get? c = some o → h₅.get? c = some o := fun c o c1 c2 c3 c4 e =>
    hs₅.extBut _ _ c2 (hs₄.extBut _ _ c4 (hs₃.extBut _ _ c2 (hs₂.extBut _ _ c3 (hs₁.extBut _ _ c1 e))))
  have h1₅ : IsIx (h₅) b1 i1 l1 (k1 + 1) := ((h1₂.extBut hs₃.extBut D.TOi1.symm).extBut hs₄.extBut D.i12).extBut hs₅.extBut D.TOi1.symm
  have h2₅ : IsIx (h₅) b2 i2 l2 (k2 + 1) := h2₄.extBut hs₅.extBut D.TOi2.symm
  have hzlt : z < h₅.objs.size := Heap.lt_size hz₅
  have hTOlt : TO < h₅.objs.size := Heap.lt_size hTO₅
  have hi1lt : i1 < h₅.objs.size := by obtain ⟨_, e, _⟩ := h1₅; exact Heap.lt_size e
  have hi2lt : i2 < h₅.objs.size := by obtain ⟨_, e, _⟩ := h2₅; exact Heap.lt_size e
  show wpAny _ _ (Builtin.SmallTypes.ownedTupleHandOut (.ref z) (.ref h₅.objs.size) >>= _) _ _ _
  refine wpAny_bind ?_
  unfold Builtin.SmallTypes.ownedTupleHandOut
  have hz₆ : IsZip (h₅.push { cls := .type "tuple", data := .seq #[x, y] }) z TI TO .ellipsis := Heap.get?_push_of_some _ hz₅
  refine wpAny_bind (wpAny_setField_rec hz₆ (by simp) fun h₇ hz₇ hs₇ => ?_)
  replace hz₇ : IsZip h₇ z TI TO (rawInt h₅.objs.size) := hz₇
  refine wpAny_setField_rec hz₇ (by simp) fun h₈ hz₈ hs₈ => ?_
  replace hz₈ : IsZip h₈ z TI TO (rawInt h₅.objs.size) := hz₈
  have up : ∀ c o, c ≠ z → h₅.get? c = some o → h₈.get? c = some o := fun c o c1 e => hs₈.extBut _ _ c1 (hs₇.extBut _ _ c1 (Heap.get?_push_of_some _ e))
  have hT₈ : IsPair h₈ h₅.objs.size x y := hs₈.extBut _ _ (Nat.ne_of_gt hzlt) (hs₇.extBut _ _ (Nat.ne_of_gt hzlt) (Heap.get?_push_size _ rfl))
  have hz8 : h₈.objs.size = h₅.objs.size + 1 := by rw [hs₈.1, hs₇.1, Heap.size_push]
  rw [hsz] at hz₈ hT₈ hz8
  refine wpAny_pure ⟨_, rfl, ?_⟩
  show Q (.ref h₅.objs.size) _
  rw [hsz]
  exact hQ h₈ hz₈ (up _ _ D.TOz hTO₅) (h1₅.at fun o e => up _ o D.i1z e) (h2₅.at fun o e => up _ o D.i2z e) hT₈ hz8 fun c o c1 c2 c3 c4 e => up c o c1 (hk₅ c o c1 c2 c3 c4 e)
theorem zipX_next_end {z TI TO i1 i2 l1 l2 : Addr} {b1 b2 : Bool} {k1 k2 : Nat} {xs ys : Array Value} {a b : Value} {Q : Fin → Shared → Prop} (hh : A.handled = none) (D : ZipApart z TI TO i1 i2 l1 l2)
    (hz : IsZip s.heap z TI TO .none) (hTI : IsPair s.heap TI (.ref i1) (.ref i2)) (hTO : IsPair s.heap TO a b)
    (h1 : IsIx (s.heap) b1 i1 l1 k1) (h2 : IsIx (s.heap) b2 i2 l2 k2) (hl1 : IsSx (s.heap) b1 l1 xs) (hl2 : IsSx (s.heap) b2 l2 ys) (hend : xs[k1]? = none ∨ ys[k2]? = none)
    (hE : ∀ h' e, (∀ c o, c ≠ z → c ≠ TO → c ≠ i1 → c ≠ i2 → s.heap.get? c = some o → h'.get? c = some o) → (∃ o, h'.get? e = some o ∧ o.cls = .type "StopIteration") → E (.ref e) { s with heap := h' }) :
    wpAny (model prog w) A (Builtin.«zip.__next__» ⟨[.ref z], []⟩) Q E s := by
  show wpAny _ _ (field (.ref z) 2 >>= _) _ _ _
  refine wpAny_bind (wpAny_field hz rfl (x := .bool false) rfl ?_)
  show wpAny _ _ (field (.ref z) 3 >>= _) _ _ _
  refine wpAny_bind (wpAny_field hz rfl (x := .ref TI) rfl ?_)
  refine wpAny_bind (wpAny_seqItems hTI rfl ?_)
  show wpAny _ _ (Builtin.SmallTypes.ownedTupleIsFree (.ref z) >>= _) _ _ _
  refine wpAny_bind ?_
  unfold Builtin.SmallTypes.ownedTupleIsFree
  refine wpAny_bind (wpAny_field hz rfl (x := .none) rfl (wpAny_pure ?_))
  simp only [if_true]
  refine wpAny_bind (wpAny_rule ?_)
  refine wpAny_bind (wpAny_field hz rfl (x := .ref TO) rfl ?_)
  refine wpAny_bind (wpAny_setField_rec hz (by simp) fun h₁ hz₁ hs₁ => ?_)
  replace hz₁ : IsZip h₁ z TI TO .ellipsis := hz₁
  refine wpAny_bind ?_
  simp only [List.zipIdx_cons, List.zipIdx_nil, List.forIn_cons, List.forIn_nil]
  refine wpAny_bind (wpAny_bind (wpAny_onRaise ?_))
  show wpAny _ _ (Builtin.SmallTypes.nextOf (.ref i1) >>= _) _ _ _
  cases hx : xs[k1]? with
  | none =>
    refine wpAny_bind (nextOf_x_end hh (h1.extBut hs₁.extBut D.i1z) (hl1.extBut hs₁.extBut D.l1z) hx fun h₂ e hs₂ he => ?_)
    obtain ⟨oe, hoe, hce⟩ := he
    have hz₂ : IsZip h₂ z TI TO .ellipsis := hs₂ _ _ D.i1z.symm hz₁
    have hez : e ≠ z := fun x => by subst x; rw [hz₂] at hoe; cases hoe; simp at hce
    refine wpAny_setField_rec hz₂ (by simp) fun h₃ _ hs₃ => hE h₃ e (fun c o c1 _ c3 _ x => hs₃.extBut _ _ c1 (hs₂ _ _ c3 (hs₁.extBut _ _ c1 x))) ⟨oe, hs₃.extBut _ _ hez hoe, hce⟩
  | some x =>
    have hy : ys[k2]? = none := by rcases hend with h | h; rw [hx] at h; cases h; exact h
    refine wpAny_bind (nextOf_x_item (h1.extBut hs₁.extBut D.i1z) (hl1.extBut hs₁.extBut D.l1z) hx fun h₂ h1₂ hs₂ => wpAny_pure ?_)
    have hTO₂ : IsPair h₂ TO a b := hs₂.extBut _ _ D.TOi1 (hs₁.extBut _ _ D.TOz hTO)
    refine wpAny_bind (wpAny_seqItems hTO₂ rfl ?_)
    refine wpAny_bind (wpAny_updateSeq_pair hTO₂ fun h₃ hTO₃ hs₃ => ?_)
    refine wpAny_bind (wpAny_letGo (wpAny_pure ?_))
    refine wpAny_bind (wpAny_bind (wpAny_onRaise ?_))
    show wpAny _ _ (Builtin.SmallTypes.nextOf (.ref i2) >>= _) _ _ _
    refine wpAny_bind (nextOf_x_end hh (((h2.extBut hs₁.extBut D.i2z).extBut hs₂.extBut D.i12.symm).extBut hs₃.extBut D.TOi2.symm)
      (((hl2.extBut hs₁.extBut D.l2z).extBut hs₂.extBut D.l2i1).extBut hs₃.extBut D.l2TO) hy fun h₄ e hs₄ he => ?_)
    obtain ⟨oe, hoe, hce⟩ := he
    have hz₄ : IsZip h₄ z TI TO .ellipsis := hs₄ _ _ D.i2z.symm (hs₃.extBut _ _ D.TOz.symm (hs₂.extBut _ _ D.i1z.symm hz₁))
    have hez : e ≠ z := fun x => by subst x; rw [hz₄] at hoe; cases hoe; simp at hce
    refine wpAny_setField_rec hz₄ (by simp) fun h₅ _ hs₅ => hE h₅ e (fun c o c1 c2 c3 c4 x => hs₅.extBut _ _ c1 (hs₄ _ _ c4 (hs₃.extBut _ _ c2 (hs₂.extBut _ _ c3 (hs₁.extBut _ _ c1 x))))) ⟨oe, hs₅.extBut _ _ hez hoe, hce⟩
theorem pyNext_zipX_item {z TI TO i1 i2 l1 l2 : Addr} {b1 b2 : Bool} {k1 k2 : Nat} {xs ys : Array Value} {x y a b : Value} {Q : Option Value → Shared → Prop} (D : ZipApart z TI TO i1 i2 l1 l2)
    (hz : IsZip s.heap z TI TO .none) (hTI : IsPair s.heap TI (.ref i1) (.ref i2)) (hTO : IsPair s.heap TO a b)
    (h1 : IsIx (s.heap) b1 i1 l1 k1) (h2 : IsIx (s.heap) b2 i2 l2 k2) (hl1 : IsSx (s.heap) b1 l1 xs) (hl2 : IsSx (s.heap) b2 l2 ys) (hx : xs[k1]? = some x) (hy : ys[k2]? = some y)
    (hQ : ∀ h', IsZip h' z TI TO (rawInt s.heap.objs.size) → IsPair h' TO x y → IsIx (h') b1 i1 l1 (k1 + 1) → IsIx (h') b2 i2 l2 (k2 + 1) → IsPair h' s.heap.objs.size x y → h'.objs.size = s.heap.objs.size + 1 →
      (∀ c o, c ≠ z → c ≠ TO → c ≠ i1 → c ≠ i2 → s.heap.get? c = some o → h'.get? c = some o) → Q (some (.ref s.heap.objs.size)) { s with heap := h' }) :
    wpAny (model prog w) A (pyNext (.ref z)) Q E s := by
  have hT : s.TypeIs (.ref z) "zip" := ⟨_, hz, rfl⟩
  unfold pyNext
  exact wpAny_bind (wpAny_attempt (wpAny_callSpecial?_slot (name := Str.ofString "__next__") hT F.slot_zip_next
    (wpAny_call_entry F.slot_zip_next hT F.entry_zip_next
      (zipX_next_item D hz hTI hTO h1 h2 hl1 hl2 hx hy fun h' a1 a2 a3 a4 a5 a6 a7 => wpAny_pure (hQ h' a1 a2 a3 a4 a5 a6 a7)) (F.args_zip_next_1 _))))
theorem pyNext_zipX_end {z TI TO i1 i2 l1 l2 : Addr} {b1 b2 : Bool} {k1 k2 : Nat} {xs ys : Array Value} {a b : Value} {Q : Option Value → Shared → Prop} (hh : A.handled = none) (D : ZipApart z TI TO i1 i2 l1 l2)
    (hz : IsZip s.heap z TI TO .none) (hTI : IsPair s.heap TI (.ref i1) (.ref i2)) (hTO : IsPair s.heap TO a b)
    (h1 : IsIx (s.heap) b1 i1 l1 k1) (h2 : IsIx (s.heap) b2 i2 l2 k2) (hl1 : IsSx (s.heap) b1 l1 xs) (hl2 : IsSx (s.heap) b2 l2 ys) (hend : xs[k1]? = none ∨ ys[k2]? = none)
    (hQ : ∀ h', (∀ c o, c ≠ z → c ≠ TO → c ≠ i1 → c ≠ i2 → s.heap.get? c = some o → h'.get? c = some o) → Q none { s with heap := h' }) : wpAny (model prog w) A (pyNext (.ref z)) Q E s := by
  have hT : s.TypeIs (.ref z) "zip" := ⟨_, hz, rfl⟩
  unfold pyNext
  refine wpAny_bind (wpAny_attempt (wpAny_callSpecial?_slot (name := Str.ofString "__next__") hT F.slot_zip_next
    (wpAny_call_entry F.slot_zip_next hT F.entry_zip_next (zipX_next_end hh D hz hTI hTO h1 h2 hl1 hl2 hend fun h' e hk he => ?_) (F.args_zip_next_1 _))))
  obtain ⟨o, ho, hc⟩ := he
  refine wpAny_bind (wpAny_isInstance (T := "StopIteration") (b := true) ⟨o, ho, hc⟩ isSubtype_stop ?_)
  exact wpAny_pure (hQ _ hk)
end
abbrev zipXH1 (b1 : Bool) (h : Heap) (l1 : Addr) : Heap := h.push { cls := icls b1, data := .fields #[.ref l1, .int 0 0] }
abbrev zipXH2 (b1 b2 : Bool) (h : Heap) (l1 l2 : Addr) : Heap := (zipXH1 b1 h l1).push { cls := icls b2, data := .fields #[.ref l2, .int 0 0] }
abbrev zipXH3 (b1 b2 : Bool) (h : Heap) (l1 l2 : Addr) : Heap := (zipXH2 b1 b2 h l1 l2).push { cls := .type "tuple", data := .seq #[.ref h.objs.size, .ref (zipXH1 b1 h l1).objs.size] }
abbrev zipXH4 (b1 b2 : Bool) (h : Heap) (l1 l2 : Addr) : Heap := (zipXH3 b1 b2 h l1 l2).push { cls := .type "tuple", data := .seq #[.none, .none] }
abbrev zipXH5 (b1 b2 : Bool) (h : Heap) (l1 l2 : Addr) : Heap := (zipXH4 b1 b2 h l1 l2).push { cls := .type "zip", data := .fields #[.none, .bool false, .bool false, .ref (zipXH2 b1 b2 h l1 l2).objs.size, .ref (zipXH3 b1 b2 h l1 l2).objs.size] }
set_option maxHeartbeats 1000000 in
theorem meets_zipX_new (b1 b2 : Bool) (l1 l2 : Addr) (xs ys : Array Value) :
    Meets (Builtin.«zip.__new__» ⟨[.type "zip", .ref l1, .ref l2], []⟩) (fun _ R s => IsSx s.heap b1 l1 xs ∧ IsSx s.heap b2 l2 ys ∧
      R (.ok (.ret (.ref (zipXH4 b1 b2 s.heap l1 l2).objs.size))) { s with heap := zipXH5 b1 b2 s.heap l1 l2 }) :=
  .of_wp fun prog w A R s h => by
    obtain ⟨hp, g, d, tk, os⟩ := s; obtain ⟨hl1, hl2, h⟩ := h
    have hsub := sub_zip
    cases b1 <;> cases b2
    · have hL1 : Heap.IsList (Shared.heap ⟨hp, g, d, tk, os⟩) l1 xs := hl1
      have hL2 : Heap.IsList (Shared.heap ⟨hp.push { cls := .type "list_iterator", data := .fields #[.ref l1, .int 0 0] }, g, d, tk, os⟩) l2 ys := Heap.IsList.push hl2 _
      wp_walk using wpAny_pyIter_list hL1, wpAny_pyIter_list hL2
      exact ⟨_, rfl, h⟩
    · have hL1 : Heap.IsList (Shared.heap ⟨hp, g, d, tk, os⟩) l1 xs := hl1
      have hL2 : Heap.IsTuple (Shared.heap ⟨hp.push { cls := .type "list_iterator", data := .fields #[.ref l1, .int 0 0] }, g, d, tk, os⟩) l2 ys := Heap.IsTuple.push hl2 _
      wp_walk using wpAny_pyIter_list hL1, wpAny_pyIter_tuple hL2
      exact ⟨_, rfl, h⟩
    · have hL1 : Heap.IsTuple (Shared.heap ⟨hp, g, d, tk, os⟩) l1 xs := hl1
      have hL2 : Heap.IsList (Shared.heap ⟨hp.push { cls := .type "tuple_iterator", data := .fields #[.ref l1, .int 0 0] }, g, d, tk, os⟩) l2 ys := Heap.IsList.push hl2 _
      wp_walk using wpAny_pyIter_tuple hL1, wpAny_pyIter_list hL2
      exact ⟨_, rfl, h⟩
    · have hL1 : Heap.IsTuple (Shared.heap ⟨hp, g, d, tk, os⟩) l1 xs := hl1
      have hL2 : Heap.IsTuple (Shared.heap ⟨hp.push { cls := .type "tuple_iterator", data := .fields #[.ref l1, .int 0 0] }, g, d, tk, os⟩) l2 ys := Heap.IsTuple.push hl2 _
      wp_walk using wpAny_pyIter_tuple hL1, wpAny_pyIter_tuple hL2
      exact ⟨_, rfl, h⟩
section
variable {prog : Program} {w : World} {A : Around} {E : Value → Shared → Prop} {s : Shared}
theorem call_zipX {b1 b2 : Bool} {l1 l2 : Addr} {xs ys : Array Value} {Q : Value → Shared → Prop} (hl1 : IsSx (s.heap) b1 l1 xs) (hl2 : IsSx (s.heap) b2 l2 ys)
    (h : ∀ h', IsZip h' (s.heap.objs.size + 4) (s.heap.objs.size + 2) (s.heap.objs.size + 3) .none → IsPair h' (s.heap.objs.size + 2) (.ref s.heap.objs.size) (.ref (s.heap.objs.size + 1)) →
      IsPair h' (s.heap.objs.size + 3) .none .none → IsIx (h') b1 s.heap.objs.size l1 0 → IsIx (h') b2 (s.heap.objs.size + 1) l2 0 → h'.objs.size = s.heap.objs.size + 5 →
      (∀ c o, s.heap.get? c = some o → h'.get? c = some o) → Q (.ref (s.heap.objs.size + 4)) { s with heap := h' }) :
    wpAny (model prog w) A (call (.type "zip") [.ref l1, .ref l2]) Q E s := by
  refine callType_new F.called_zip (by decide) (F.typeCall_zip_2 _ _) (F.newCall_zip_2 _ _) (fun obj => F.args_object_init_3 obj _ _) F.entry_zip_new
    (meets_zipX_new b1 b2 l1 l2 xs ys) ⟨hl1, hl2, ?_⟩
  have z1 : (zipXH1 b1 s.heap l1).objs.size = s.heap.objs.size + 1 := Heap.size_push ..
  have z2 : (zipXH2 b1 b2 s.heap l1 l2).objs.size = s.heap.objs.size + 2 := by rw [Heap.size_push, z1]
  have z3 : (zipXH3 b1 b2 s.heap l1 l2).objs.size = s.heap.objs.size + 3 := by rw [Heap.size_push, z2]
  have z4 : (zipXH4 b1 b2 s.heap l1 l2).objs.size = s.heap.objs.size + 4 := by rw [Heap.size_push, z3]
  have z5 : (zipXH5 b1 b2 s.heap l1 l2).objs.size = s.heap.objs.size + 5 := by rw [Heap.size_push, z4]
  have g5 : (zipXH5 b1 b2 s.heap l1 l2).get? (zipXH4 b1 b2 s.heap l1 l2).objs.size = some _ := Heap.get?_push_size _ rfl
  have g4 : (zipXH5 b1 b2 s.heap l1 l2).get? (zipXH3 b1 b2 s.heap l1 l2).objs.size = some _ := Heap.get?_push_of_some _ (Heap.get?_push_size _ rfl)
  have g3 : (zipXH5 b1 b2 s.heap l1 l2).get? (zipXH2 b1 b2 s.heap l1 l2).objs.size = some _ := Heap.get?_push_of_some _ (Heap.get?_push_of_some _ (Heap.get?_push_size _ rfl))
  have g2 : (zipXH5 b1 b2 s.heap l1 l2).get? (zipXH1 b1 s.heap l1).objs.size = some _ := Heap.get?_push_of_some _ (Heap.get?_push_of_some _ (Heap.get?_push_of_some _ (Heap.get?_push_size _ rfl)))
  have g1 : (zipXH5 b1 b2 s.heap l1 l2).get? s.heap.objs.size = some _ := Heap.get?_push_of_some _ (Heap.get?_push_of_some _ (Heap.get?_push_of_some _ (Heap.get?_push_of_some _ (Heap.get?_push_size _ rfl))))
  show _ ∧ _
  rw [z2, z3, z4] at g5
  rw [z1, z2] at g3
  rw [z3] at g4
  rw [z1] at g2
  rw [z4]
  exact ⟨⟨_, g5, rfl⟩, h _ g5 g3 g4 ⟨_, g1, rfl, rfl⟩ ⟨_, g2, rfl, rfl⟩ z5 fun c o x =>
    Heap.get?_push_of_some _ (Heap.get?_push_of_some _ (Heap.get?_push_of_some _ (Heap.get?_push_of_some _ (Heap.get?_push_of_some _ x))))⟩
end
end PVZ
namespace PVZ
def SqX (K : PySem.W.Frag) (H : Hp) : Bool → Addr → List V → Prop
  | true, a, xs => SqT K H a xs
  | false, a, xs => SqL K H a xs
section
variable {X : Cx} {pins : List (Addr × Obj)} {σ : L2.St} {H : Hp} {s : Shared}
theorem inv_x (I : Inv X pins σ H s) {b : Bool} {a : Addr} {xs : List V} (h : SqX X.K H b a xs) : ∃ its : List Value, Vals xs its ∧ IsSx s.heap b a its.toArray ∧ xs.length ≤ sizeLine := by
  cases b
  · obtain ⟨its, r, p, z⟩ := I.list h
    exact ⟨its, r, p.isList, z⟩
  · obtain ⟨its, r, p, z⟩ := I.tuple h
    exact ⟨its, r, p, z⟩
theorem inj_x (I : Inv X pins σ H s) {b : Bool} {a : Addr} {xs ys : List V} (h : SqX X.K H b a xs) (h' : SqX X.K H b a ys) : xs = ys := by
  cases b
  · exact I.list_inj h h'
  · exact I.tuple_inj h h'
theorem lt_x {h : Heap} {b : Bool} {a : Addr} {its : Array Value} (x : IsSx h b a its) : a < h.objs.size := by
  cases b
  · obtain ⟨o, ho, _⟩ := (show h.IsList a its from x); exact Heap.lt_size ho
  · obtain ⟨o, ho, _⟩ := (show h.IsTuple a its from x); exact Heap.lt_size ho
end
/-- two sequences, as they stand at each turn, the items in new pairs -/
def ItzX (K : PySem.W.Frag) (b1 b2 : Bool) (a b : Addr) : It :=
  ⟨fun i H => ∃ (xs ys : List V) (x y : V), SqX K H b1 a xs ∧ SqX K H b2 b ys ∧ xs[i]? = some x ∧ ys[i]? = some y,
    fun i H v H' => ∃ T x y, v = .ref T ∧ H T = none ∧ H' = upd H T (.tup [x, y]) ∧ (∀ xs, SqX K H b1 a xs → xs[i]? = some x) ∧ ∀ ys, SqX K H b2 b ys → ys[i]? = some y,
    fun i H => ∃ xs ys : List V, SqX K H b1 a xs ∧ SqX K H b2 b ys ∧ (xs.length ≤ i ∨ ys.length ≤ i)⟩
theorem turn_zipX {P : Program} {w : World} {K : PySem.W.Frag} {elts : List Expr} {kk : Nat} {tpos : Pos} {b1 b2 : Bool} {a b z TI TO i1 i2 : Addr} (D : ZipApart z TI TO i1 i2 a b) :
    Turn P w K (.Tuple elts kk tpos) (ItzX K b1 b2 a b) [z, TI, TO, i1, i2] z (fun i h => IsZip h z TI TO .none ∧ IsPair h TI (.ref i1) (.ref i2) ∧ (∃ x y, IsPair h TO x y) ∧ IsIx h b1 i1 a i ∧ IsIx h b2 i2 b i) where
  mem := by simp
  obj := fun i h st c hc => by
    obtain ⟨hz, hTI, ⟨x, y, hTO⟩, ⟨o1, e1, _, d1⟩, ⟨o2, e2, _, d2⟩⟩ := st
    have e' : c = z ∨ c = TI ∨ c = TO ∨ c = i1 ∨ c = i2 := by simpa using hc
    rcases e' with q | q | q | q | q
    · rw [q]; exact ⟨_, hz, fun v q => nomatch q⟩
    · rw [q]; exact ⟨_, hTI, fun v q => nomatch q⟩
    · rw [q]; exact ⟨_, hTO, fun v q => nomatch q⟩
    · rw [q]; exact ⟨o1, e1, fun v q => by rw [d1] at q; cases q⟩
    · rw [q]; exact ⟨o2, e2, fun v q => by rw [d2] at q; cases q⟩
  keep := fun i h h' st k => by
    obtain ⟨hz, hTI, ⟨x, y, hTO⟩, h1, h2⟩ := st
    exact ⟨k z (by simp) _ hz, k TI (by simp) _ hTI, ⟨x, y, k TO (by simp) _ hTO⟩, h1.at fun o q => k i1 (by simp) o q, h2.at fun o q => k i2 (by simp) o q⟩
  item := by
    intro X hP hw hK hc i pins s σ H E I hf st hg
    subst hP hw hK
    obtain ⟨hz, hTI, ⟨x0, y0, hTO⟩, h1, h2⟩ := st
    obtain ⟨xs, ys, x, y, hqx, hqy, hx, hy⟩ := hg
    obtain ⟨its, rv, p, _⟩ := inv_x I hqx
    obtain ⟨its2, rv2, p2, _⟩ := inv_x I hqy
    obtain ⟨u, hu, ru⟩ := rv.get hx
    obtain ⟨u2, hu2, ru2⟩ := rv2.get hy
    have hzl : z < s.heap.objs.size := Heap.lt_size hz
    refine pyNext_zipX_item D hz hTI hTO h1 h2 p p2 (x := u) (y := u2) (by simpa using hu) (by simpa using hu2) fun h' z' TO' h1' h2' hT hsz hk => ?_
    refine ⟨_, rfl, wpAny_letOwnedTupleGo_zip (s := { s with heap := h' }) z' fun h'' z'' sb => ?_⟩
    have hT2 : h''.get? s.heap.objs.size = some { cls := .type "tuple", data := .seq #[u, u2] } := (sb.2 _ (Nat.ne_of_gt hzl)).trans hT
    have new : ObjOk X.prog X.w (upd H s.heap.objs.size (.tup [x, y])) h'' s.heap.objs.size (.tup [x, y]) :=
      ⟨by show 2 ≤ sizeLine; decide, [u, u2], .cons ru (.cons ru2 .nil), ⟨_, hT2, rfl, _, rfl⟩⟩
    have I1 : Inv X pins σ (upd H s.heap.objs.size (.tup [x, y])) { s with heap := h'' } :=
      I.turnedNew (t' := s.toks) (ch := [z, TI, TO, i1, i2]) (fun c o hb q => (sb.2 c (fun q' => hb (by simp [q']))).trans (hk c o (fun q' => hb (by simp [q'])) (fun q' => hb (by simp [q'])) (fun q' => hb (by simp [q'])) (fun q' => hb (by simp [q'])) q)) hf (Nat.le_refl _) new
    refine ⟨.ref s.heap.objs.size, _, I1, rfl, ⟨_, x, y, rfl, I.hok.fresh (Nat.le_refl _), rfl, fun l hl => by rw [inj_x I hl hqx]; exact hx, fun l hl => by rw [inj_x I hl hqy]; exact hy⟩, ⟨z'', ?_, ⟨u, u2, ?_⟩, ?_, ?_⟩, fun c hcm => ?_⟩
    · exact (sb.2 _ D.TIz).trans (hk _ _ D.TIz D.TITO D.TIi1 D.TIi2 hTI)
    · exact (sb.2 _ D.TOz).trans TO'
    · exact h1'.at fun o q => (sb.2 _ D.i1z).trans q
    · exact h2'.at fun o q => (sb.2 _ D.i2z).trans q
    · have hlt : c < s.heap.objs.size := by
        have e' : c = z ∨ c = TI ∨ c = TO ∨ c = i1 ∨ c = i2 := by simpa using hcm
        rcases e' with q | q | q | q | q
        · rw [q]; exact hzl
        · rw [q]; exact Heap.lt_size hTI
        · rw [q]; exact Heap.lt_size hTO
        · rw [q]; obtain ⟨_, e1, _⟩ := h1; exact Heap.lt_size e1
        · rw [q]; obtain ⟨_, e2, _⟩ := h2; exact Heap.lt_size e2
      rw [upd_ne (Nat.ne_of_lt hlt)]
      exact (hf c hcm).1
  done := by
    intro X hP hw hK hc i pins s σ H E I hf st hg
    subst hP hw hK
    obtain ⟨hz, hTI, ⟨x0, y0, hTO⟩, h1, h2⟩ := st
    obtain ⟨xs, ys, hqx, hqy, hend⟩ := hg
    obtain ⟨its, rv, p, _⟩ := inv_x I hqx
    obtain ⟨its2, rv2, p2, _⟩ := inv_x I hqy
    have l1 := rv.length
    have l2 := rv2.length
    have he : its.toArray[i]? = none ∨ its2.toArray[i]? = none := by
      rcases hend with q | q
      · exact .inl (by simp; omega)
      · exact .inr (by simp; omega)
    exact pyNext_zipX_end (I.ok.hd hc) D hz hTI hTO h1 h2 p p2 he fun h' hk => ⟨rfl, I.turnedL (t' := s.toks) (ch := [z, TI, TO, i1, i2]) (fun c o hb q =>
      hk c o (fun q' => hb (by simp [q'])) (fun q' => hb (by simp [q'])) (fun q' => hb (by simp [q'])) (fun q' => hb (by simp [q'])) q) hf⟩
  self := fun A i s Q E st h => wpAny_pyIter_zip st.1 h
def iZipX (K : PySem.W.Frag) (ta : TA) : TI := fun σ H R => ta σ H fun vs H1 => ∃ a b xs ys b1 b2, vs = [.ref a, .ref b] ∧ SqX K H1 b1 a xs ∧ SqX K H1 b2 b ys ∧ R (ItzX K b1 b2 a b) H1
theorem pi_zipX {X : Cx} {e e2 : Expr} {ta : TA} {p pos tpos : Pos} {elts : List Expr} {kk : Nat} (hg : Gl X "zip") (hm : X.mg "zip" = none) (ha : PA X [e, e2] ta)
    (hs : starEach [e, e2] X.env = (false, eval e X.env) :: starEach [e2] X.env := by rfl) (hpl : (backTo pos (starEach [e2] X.env)).any (·.1) = false := by rfl) :
    PI X (.Tuple elts kk tpos) (.Call (.Name "zip" p) [e, e2] [] pos) (iZipX X.K ta) := by
  refine ⟨fun pins s σ H R I h => ?_⟩
  refine Call_ (ld_blt I hg hm PyProof.Rows.boot_zip (PyProof.Rows.callWith_type1 (thn (ha.run pos pins s σ H _ I h) fun us s1 ⟨vs, H1, I1, r1, q1⟩ => ?_) hs hpl))
  obtain ⟨a, b, xs, ys, b1, b2, ex, hqx, hqy, q⟩ := q1
  subst ex
  cases r1 with
  | cons r rr =>
  cases rr with
  | cons r' rr =>
  cases rr
  cases r
  cases r'
  have fresh5 : ∀ c, c ∈ [s1.heap.objs.size + 4, s1.heap.objs.size + 2, s1.heap.objs.size + 3, s1.heap.objs.size, s1.heap.objs.size + 1] → FpOk X pins H1 c := fun c hcm => by
    have e' : c = s1.heap.objs.size + 4 ∨ c = s1.heap.objs.size + 2 ∨ c = s1.heap.objs.size + 3 ∨ c = s1.heap.objs.size ∨ c = s1.heap.objs.size + 1 := by simpa using hcm
    have hle : s1.heap.objs.size ≤ c := by omega
    exact I1.fpOk hle (I1.hok.fresh hle)
  obtain ⟨its, rv, p1, _⟩ := inv_x I1 hqx
  obtain ⟨its2, rv2, p2, _⟩ := inv_x I1 hqy
  refine call_zipX p1 p2 fun h' hz hTI hTO h1 h2 hsz hk => wpAny_pyIter_zip hz ?_
  have I2 : Inv X pins σ H1 { s1 with heap := h' } := I1.kept (t' := s1.toks) hk
  exact ⟨s1.heap.objs.size + 4, [s1.heap.objs.size + 4, s1.heap.objs.size + 2, s1.heap.objs.size + 3, s1.heap.objs.size, s1.heap.objs.size + 1], _, _, H1, rfl, I2, turn_zipX (PySem.W.ktu_apart s1.heap.objs.size a b (lt_x p1) (lt_x p2)), ⟨hz, hTI, ⟨_, _, hTO⟩, h1, h2⟩, fresh5, q⟩
end PVZ
namespace PVZ
theorem ne_it {h : Heap} {b1 b2 : Bool} {it l a : Addr} {i : Nat} {its : Array Value} (x : IsIx h b1 it l i) (y : IsSx h b2 a its) : a ≠ it := by
  rintro rfl
  obtain ⟨o, ho, hc, _⟩ := x
  cases b2
  · obtain ⟨o', ho', hc', _⟩ := (show h.IsList a its from y)
    rw [ho] at ho'
    cases ho'
    rw [hc] at hc'
    cases b1 <;> exact absurd hc' (by decide)
  · obtain ⟨o', ho', hc', _⟩ := (show h.IsTuple a its from y)
    rw [ho] at ho'
    cases ho'
    rw [hc] at hc'
    cases b1 <;> exact absurd hc' (by decide)
theorem ne_en {h : Heap} {b2 : Bool} {e it a : Addr} {i : Int} {old : Value} {its : Array Value} (x : IsEnum h e it i old) (y : IsSx h b2 a its) : e ≠ a := by
  rintro rfl
  cases b2
  · obtain ⟨o', ho', hc', _⟩ := (show h.IsList e its from y)
    rw [show h.get? e = _ from x] at ho'
    cases ho'
    exact absurd (show Value.type "enumerate" = Value.type "list" from hc') (by decide)
  · obtain ⟨o', ho', hc', _⟩ := (show h.IsTuple e its from y)
    rw [show h.get? e = _ from x] at ho'
    cases ho'
    exact absurd (show Value.type "enumerate" = Value.type "tuple" from hc') (by decide)
theorem enum_endX {prog : Program} {w : World} {A : Around} {E : Value → Shared → Prop} {s : Shared} {b1 : Bool} {e it l : Addr} {i : Nat} {items : Array Value} {old : Value} {Q : Option Value → Shared → Prop} (hh : A.in1.handled = none) (he : IsEnum s.heap e it i old) (hit : IsIx s.heap b1 it l i) (hl : IsSx s.heap b1 l items) (hx : items.size ≤ i)
    (hQ : ∀ h', Heap.ExtBut it s.heap h' → Q none { s with heap := h' }) : wpAny (model prog w) A (pyNext (.ref e)) Q E s :=
  wpAny_pyNext_enum_endD (n := i) (fp := [it, l]) (P := fun _ _ => False) (St := fun j h => j = i ∧ IsIx h b1 it l i ∧ IsSx h b1 l items)
    { live := fun _ _ st => let ⟨o, ho, _⟩ := st.2.1; ⟨o, ho⟩
      frame := fun _ _ _ st hk => ⟨st.1, st.2.1.at fun o e => hk it (by simp) o e, by
        have st := st.2.2
        cases b1
        · exact Heap.IsList.at st fun o e => hk l (by simp) o e
        · exact Heap.IsTuple.at st fun o e => hk l (by simp) o e⟩
      item := fun j s Q E hi st _ => absurd hi (by rw [st.1]; exact Nat.lt_irrefl _)
      done := fun s Q E st hE => nextOf_x_end hh st.2.1 st.2.2 (by simp; exact hx) hE } he ⟨rfl, hit, hl⟩ hQ
/-- the sequence at a as it stands at each turn, each item in a new pair -/
def IteX (K : PySem.W.Frag) (b1 : Bool) (a : Addr) : It :=
  ⟨fun i H => ∃ (xs : List V) (x : V), SqX K H b1 a xs ∧ xs[i]? = some x, fun i H v H' => ∃ T x, v = .ref T ∧ H T = none ∧ H' = upd H T (.tup [.int (i : Nat), x]) ∧ ∀ xs, SqX K H b1 a xs → xs[i]? = some x, fun i H => ∃ xs : List V, SqX K H b1 a xs ∧ xs.length ≤ i⟩
theorem turn_enumX {P : Program} {w : World} {K : PySem.W.Frag} {elts : List Expr} {kk : Nat} {tpos : Pos} (b1 : Bool) (a e it : Addr) :
    Turn P w K (.Tuple elts kk tpos) (IteX K b1 a) [e, it] e (fun i h => (∃ old, IsEnum h e it ((i : Nat) : Int) old) ∧ IsIx h b1 it a i ∧ e ≠ it) where
  mem := by simp
  obj := fun i h st b hb => by
    obtain ⟨⟨old, he⟩, ⟨o, ho, hc, hd⟩, _⟩ := st
    have e' : b = e ∨ b = it := by simpa using hb
    rcases e' with z | z
    · rw [z]; exact ⟨_, he, fun v q => nomatch q⟩
    · rw [z]; exact ⟨o, ho, fun v q => by rw [hd] at q; cases q⟩
  keep := fun i h h' st k => let ⟨⟨old, he⟩, hi, hne⟩ := st; ⟨⟨old, k e (by simp) _ he⟩, hi.at fun o q => k it (by simp) o q, hne⟩
  item := by
    intro X hP hw hK hc i pins s σ H E I hf st hg
    subst hP hw hK
    obtain ⟨⟨old, he⟩, hit, hne⟩ := st
    obtain ⟨xs, x, hq, hx⟩ := hg
    obtain ⟨its, rv, p, hz⟩ := inv_x I hq
    obtain ⟨u, hu, ru⟩ := rv.get hx
    have hel : e < s.heap.objs.size := Heap.lt_size he
    have hil : it < s.heap.objs.size := by obtain ⟨_, q, _⟩ := hit; exact Heap.lt_size q
    have D := drawsX (prog := X.prog) (w := X.w) (A := X.A.in1) b1 (show X.A.in1.handled = none from I.ok.hd hc) it a (ne_it hit p) its.toArray
    have hlt : i < its.toArray.size := by
      rcases Nat.lt_or_ge i its.toArray.size with z | z
      · exact z
      · rw [List.getElem?_eq_none (by simpa using z)] at hu; cases hu
    refine wpAny_pyNext_enum_itemD D he ⟨hit, p⟩ hlt hne (by
      intro z
      rcases List.mem_cons.mp z with z | z
      · exact hne z
      · exact ne_en he p (by simpa using z)) fun x' h' tk px ho hst' hT hsz hk => ?_
    obtain ⟨hit', _⟩ := hst'
    obtain rfl : x' = u := by
      have z : its.toArray[i]? = some x' := px
      rw [show its.toArray[i]? = some u from by simpa using hu] at z
      exact (Option.some.inj z).symm
    refine ⟨_, rfl, wpAny_letOwnedTupleGo_enum (s := { s with heap := h', toks := tk + 1 }) ho fun h'' he' sb => ?_⟩
    have hT2 : h''.get? s.heap.objs.size = some { cls := .type "tuple", data := .seq #[.int i tk, x'] } := (sb.2 _ (Nat.ne_of_gt hel)).trans hT
    have new : ObjOk X.prog X.w (upd H s.heap.objs.size (.tup [.int (i : Nat), x])) h'' s.heap.objs.size (.tup [.int (i : Nat), x]) :=
      ⟨by show 2 ≤ sizeLine; decide, [.int i tk, x'], .cons ⟨_, rfl⟩ (.cons ru .nil), ⟨_, hT2, rfl, _, rfl⟩⟩
    have I1 : Inv X pins σ (upd H s.heap.objs.size (.tup [.int (i : Nat), x])) { s with heap := h'', toks := tk + 1 } :=
      I.turnedNew (ch := [e, it]) (fun b ob hb q => (sb.2 b (fun z => hb (by simp [z]))).trans (hk b ob (fun z => hb (by simp [z])) (fun z => hb (by simp [z])) q)) hf (Nat.le_refl _) new
    refine ⟨.ref s.heap.objs.size, _, I1, rfl, ⟨_, x, rfl, I.hok.fresh (Nat.le_refl _), rfl, fun ys hy => by rw [inj_x I hy hq]; exact hx⟩, ⟨⟨x', ?_⟩, hit'.at fun o q => (sb.2 it (Ne.symm hne)).trans q, hne⟩, fun b hb => ?_⟩
    · have e1 : ((i + 1 : Nat) : Int) = (i : Int) + 1 := by omega
      rw [e1]; exact he'
    · have hb' : b < s.heap.objs.size := by
        have e' : b = e ∨ b = it := by simpa using hb
        rcases e' with z | z
        · rw [z]; exact hel
        · rw [z]; exact hil
      rw [upd_ne (Nat.ne_of_lt hb')]
      exact (hf b hb).1
  done := by
    intro X hP hw hK hc i pins s σ H E I hf st hg
    subst hP hw hK
    obtain ⟨⟨old, he⟩, hit, hne⟩ := st
    obtain ⟨xs, hq, hx⟩ := hg
    obtain ⟨its, rv, p, hz⟩ := inv_x I hq
    obtain ⟨f0, f1, f2, f3, f4, f5⟩ := hf it (by simp)
    have hl := rv.length
    have D := drawsX (prog := X.prog) (w := X.w) (A := X.A.in1) b1 (show X.A.in1.handled = none from I.ok.hd hc) it a (ne_it hit p) its.toArray
    have hge : its.toArray.size ≤ i := by simp; omega
    exact enum_endX (show X.A.in1.handled = none from I.ok.hd hc) he hit p hge fun h' eb => ⟨rfl, I.turned (t' := s.toks) (fun b o hb q => eb b o hb q) f0 f1 f3 f4 f5⟩
  self := fun A i s Q E st h => let ⟨⟨_, he⟩, _⟩ := st; wpAny_pyIter_enum he h
set_option maxHeartbeats 1000000 in
theorem meets_enumerate_newX (b1 : Bool) (l : Addr) (items : Array Value) :
    Meets (Builtin.«enumerate.__new__» ⟨[.type "enumerate", .ref l], []⟩) (fun _ R s => IsSx s.heap b1 l items ∧
      R (.ok (.ret (.ref (s.heap.push { cls := icls b1, data := .fields #[.ref l, .int 0 0] }).objs.size)))
        { s with heap := (s.heap.push { cls := icls b1, data := .fields #[.ref l, .int 0 0] }).push { cls := .type "enumerate", data := .fields #[.none, .bool false, .ref s.heap.objs.size, rawInt 0, .none, .none] } }) :=
  .of_wp fun prog w A R s h => by
    obtain ⟨hp, g, d, tk, os⟩ := s; obtain ⟨hl, h⟩ := h
    have hsub := sub_enumerate
    cases b1
    · have hL : Heap.IsList (Shared.heap ⟨hp, g, d, tk, os⟩) l items := hl
      obtain ⟨oo, ho, _⟩ := id hL
      wp_walk using AutoSeq1.wpAny_loadPart' ho
      refine wpAny_stack_any fun st => wpAny_pure ?_
      split
      · rename_i c _ _ _ _ _
        cases (c == Value.type "enumerate")
        · wp_walk using AutoSeq1.wpAny_loadPart' ho, wpAny_pyIter_list hL
          exact ⟨_, rfl, h⟩
        · wp_walk using AutoSeq1.wpAny_loadPart' ho, wpAny_pyIter_list hL
          exact ⟨_, rfl, h⟩
      · wp_walk using AutoSeq1.wpAny_loadPart' ho, wpAny_pyIter_list hL
        exact ⟨_, rfl, h⟩
    · have hL : Heap.IsTuple (Shared.heap ⟨hp, g, d, tk, os⟩) l items := hl
      obtain ⟨oo, ho, _⟩ := id hL
      wp_walk using AutoSeq1.wpAny_loadPart' ho
      refine wpAny_stack_any fun st => wpAny_pure ?_
      split
      · rename_i c _ _ _ _ _
        cases (c == Value.type "enumerate")
        · wp_walk using AutoSeq1.wpAny_loadPart' ho, wpAny_pyIter_tuple hL
          exact ⟨_, rfl, h⟩
        · wp_walk using AutoSeq1.wpAny_loadPart' ho, wpAny_pyIter_tuple hL
          exact ⟨_, rfl, h⟩
      · wp_walk using AutoSeq1.wpAny_loadPart' ho, wpAny_pyIter_tuple hL
        exact ⟨_, rfl, h⟩
theorem call_enumerateX {prog : Program} {w : World} {A : Around} {E : Value → Shared → Prop} {s : Shared} {b1 : Bool} {l : Addr} {items : Array Value} {Q : Value → Shared → Prop} (hL : IsSx s.heap b1 l items)
    (h : ∀ h', IsEnum h' (s.heap.objs.size + 1) s.heap.objs.size 0 .none → IsIx h' b1 s.heap.objs.size l 0 → h'.objs.size = s.heap.objs.size + 2 →
      (∀ b o, s.heap.get? b = some o → h'.get? b = some o) → Q (.ref (s.heap.objs.size + 1)) { s with heap := h' }) :
    wpAny (model prog w) A (call (.type "enumerate") [.ref l]) Q E s := by
  refine callType_new F.called_enumerate (by decide) (F.typeCall_enumerate_1 _) (F.newCall_enumerate_1 _) (fun obj => F.args_object_init_2 obj _) F.entry_enumerate_new
    (meets_enumerate_newX b1 l items) ⟨hL, ?_⟩
  have hz : (s.heap.push { cls := icls b1, data := .fields #[.ref l, .int 0 0] }).objs.size = s.heap.objs.size + 1 := Heap.size_push ..
  show _ ∧ _
  rw [hz]
  have he : IsEnum ((s.heap.push { cls := icls b1, data := .fields #[.ref l, .int 0 0] }).push
      { cls := .type "enumerate", data := .fields #[.none, .bool false, .ref s.heap.objs.size, rawInt 0, .none, .none] }) (s.heap.objs.size + 1) s.heap.objs.size 0 .none := by
    have := Heap.get?_push_size (s.heap.push { cls := icls b1, data := .fields #[.ref l, .int 0 0] })
      (o := { cls := .type "enumerate", data := .fields #[.none, .bool false, .ref s.heap.objs.size, rawInt 0, .none, .none] }) rfl
    rw [hz] at this; exact this
  refine ⟨⟨_, he, rfl⟩, h _ he ⟨_, Heap.get?_push_of_some _ (Heap.get?_push_size _ rfl), rfl, rfl⟩ (by rw [Heap.size_push, hz]) fun b o x => Heap.get?_push_of_some _ (Heap.get?_push_of_some _ x)⟩
def iEnumX (K : PySem.W.Frag) (ta : TA) : TI := fun σ H R => ta σ H fun vs H1 => ∃ a xs b1, vs = [.ref a] ∧ SqX K H1 b1 a xs ∧ R (IteX K b1 a) H1
theorem pi_enumX {X : Cx} {e : Expr} {ta : TA} {p pos tpos : Pos} {elts : List Expr} {kk : Nat} (hg : Gl X "enumerate") (hm : X.mg "enumerate" = none) (ha : PA X [e] ta) (hs : starEach [e] X.env = [(false, eval e X.env)] := by rfl) :
    PI X (.Tuple elts kk tpos) (.Call (.Name "enumerate" p) [e] [] pos) (iEnumX X.K ta) := by
  refine ⟨fun pins s σ H R I h => ?_⟩
  refine Call_ (ld_blt I hg hm boot_enumerate (PyProof.Rows.callWith_type1 (thn (ha.run pos pins s σ H _ I h) fun us s1 ⟨vs, H1, I1, r1, q1⟩ => ?_) hs rfl))
  obtain ⟨a, xs, b1, ex, hq, q⟩ := q1
  subst ex
  cases r1 with
  | cons r rr =>
  cases rr
  cases r
  obtain ⟨its, rv, p', hz⟩ := inv_x I1 hq
  refine call_enumerateX p' fun h' he hit hsz hk => wpAny_pyIter_enum he ?_
  have I2 : Inv X pins σ H1 { s1 with heap := h' } := I1.kept (t' := s1.toks) hk
  refine ⟨s1.heap.objs.size + 1, [s1.heap.objs.size + 1, s1.heap.objs.size], _, _, H1, rfl, I2, turn_enumX b1 a (s1.heap.objs.size + 1) s1.heap.objs.size, ⟨⟨.none, he⟩, hit, Nat.succ_ne_self _⟩, fun b hb => ?_, q⟩
  have e' : b = s1.heap.objs.size + 1 ∨ b = s1.heap.objs.size := by simpa using hb
  have hle : s1.heap.objs.size ≤ b := by rcases e' with z | z <;> rw [z] <;> first | exact Nat.le_add_right _ _ | exact Nat.le_refl _
  exact I1.fpOk hle (I1.hok.fresh hle)
end PVZ
/-! ## zip and enumerate: pairs of what lists and tuples hold -/
def seqD : D → Option (List D)
  | .lst xs => some xs
  | .tup xs => some xs
  | _ => none
def prs (xs ys : List D) : List D := List.zipWith (fun x y => .tup [x, y]) xs ys
def numd (n : Nat) : List D → List D
  | [] => []
  | x :: xs => .tup [.int (n : Int), x] :: numd (n + 1) xs
def cZip (a : SmL) : SmL := fun ρ κ => match a ρ κ with
  | .ok [x, y] κ => (match seqD x, seqD y with
    | some xs, some ys => .ok (prs xs ys) κ
    | _, _ => .bad)
  | .ok _ _ => .bad
  | .exc k d κ => .exc k d κ
  | .bad => .bad
def cEnm (a : SmL) : SmL := fun ρ κ => match a ρ κ with
  | .ok [x] κ => (match seqD x with
    | some xs => .ok (numd 0 xs) κ
    | none => .bad)
  | .ok _ _ => .bad
  | .exc k d κ => .exc k d κ
  | .bad => .bad
section
variable {X : Cx} {fa : Nat → Option Addr} {cl : Nat → ClsI} {W : WX} {x y : Expr} {pos p : Pos} {K : PySem.W.Frag} {c : Option Addr} {F H : Hp} {σ : L2.St}
theorem rep_seq {d : D} {v : V} {xs : List D} (r : Rep K fa c F d v) (e : seqD d = some xs) : ∃ b a vs, v = .ref a ∧ RepL K fa c F xs vs ∧ ∀ F' H', Sub F F' → (∀ a o, F' a = some o → H' a = some o) → PVZ.SqX K H' b a vs := by
  match d, e, r with
  | .tup ys, e, r =>
    obtain rfl : ys = xs := Option.some.inj e
    cases r with
    | tup h t => exact ⟨true, _, _, rfl, t, fun F' H' sb hF => SqT.of (hF _ _ (sb.t _ _ h))⟩
  | .lst ys, e, r =>
    obtain rfl : ys = xs := Option.some.inj e
    cases r with
    | lst h t => exact ⟨false, _, _, rfl, t, fun F' H' sb hF => SqL.of (hF _ _ (sb.l _ _ h))⟩
theorem prs_get {xs ys : List D} {i : Nat} {d : D} (h : (prs xs ys)[i]? = some d) : ∃ x y, xs[i]? = some x ∧ ys[i]? = some y ∧ d = .tup [x, y] := by
  unfold prs at h
  rw [List.getElem?_zipWith] at h
  split at h
  · rename_i x y h1 h2
    cases h
    exact ⟨x, y, h1, h2, rfl⟩
  · cases h
theorem prs_end {xs ys : List D} {i : Nat} (h : (prs xs ys)[i]? = none) : xs.length ≤ i ∨ ys.length ≤ i := by
  have := List.getElem?_eq_none_iff.mp h
  unfold prs at this
  rw [List.length_zipWith] at this
  omega
theorem numd_get : ∀ {xs : List D} {n i : Nat} {d : D}, (numd n xs)[i]? = some d → ∃ x, xs[i]? = some x ∧ d = .tup [.int ((n + i : Nat) : Int), x]
  | [], _, _, _, h => by cases h
  | x :: xs, n, 0, d, h => by cases h; exact ⟨x, rfl, rfl⟩
  | x :: xs, n, i + 1, d, h => by
    obtain ⟨y, h1, h2⟩ := numd_get (xs := xs) (n := n + 1) (i := i) (d := d) h
    refine ⟨y, h1, ?_⟩
    rw [h2, show n + 1 + i = n + (i + 1) from by omega]
theorem numd_len : ∀ {xs : List D} {n : Nat}, (numd n xs).length = xs.length
  | [], _ => rfl
  | x :: xs, n => by
    show (numd (n + 1) xs).length + 1 = xs.length + 1
    rw [numd_len]
theorem si_zip {elts : List Expr} {kk : Nat} {tpos : Pos} {m : SmL} (hg : Gl X "zip") (hm : X.mg "zip" = none) (ha : SnL X fa cl W [x, y] m) (hs : starEach [x, y] X.env = [(false, eval x X.env), (false, eval y X.env)]) (hs2 : starEach [y] X.env = [(false, eval y X.env)]) :
    SnI X fa cl W (.Tuple elts kk tpos) (.Call (.Name "zip" p) [x, y] [] pos) (cZip m) := by
  refine PI.imp (fun σ H R ⟨c, F0, H0, F, ρ, κ, r, o⟩ => ?_) (PVZ.pi_zipX hg hm ha (by rw [hs, hs2]) (by rw [hs2]; rfl))
  refine ⟨c, F0, H0, F, ρ, κ, r, ?_⟩
  unfold cZip at o
  cases em : m ρ κ with
  | ok ds κ1 =>
    rw [em] at o
    match ds, o with
    | [], o => exact o.elim
    | [_], o => exact o.elim
    | _ :: _ :: _ :: _, o => exact o.elim
    | [d, d2], o =>
    dsimp only at o
    cases e1 : seqD d with
    | none => rw [e1] at o; exact o.elim
    | some xs =>
    cases e2 : seqD d2 with
    | none => rw [e1, e2] at o; exact o.elim
    | some ys =>
    rw [e1, e2] at o
    intro F' H' vs s k e
    obtain ⟨v, w, rfl, rv, rw'⟩ := repL2 e
    obtain ⟨b1, a, us, rfl, t1, q1⟩ := rep_seq rv e1
    obtain ⟨b2, b, ws, rfl, t2, q2⟩ := rep_seq rw' e2
    refine ⟨a, b, us, ws, b1, b2, rfl, q1 F' H' (Sub.refl _) s.inH, q2 F' H' (Sub.refl _) s.inH, o F' H' _ s k fun G I κ3 i sb hG k3 => ⟨fun d ed => ?_, fun ed => ?_⟩⟩
    · obtain ⟨x', y', h1, h2, rfl⟩ := prs_get ed
      obtain ⟨v1, hv1, r1⟩ := t1.get h1
      obtain ⟨v2, hv2, r2⟩ := t2.get h2
      refine ⟨⟨us, ws, v1, v2, q1 G I sb hG, q2 G I sb hG, hv1, hv2⟩, fun z I' ⟨T, z1, z2, ez, hT, eI, f1, f2⟩ => ?_⟩
      subst ez eI
      have e1 := f1 us (q1 G I sb hG)
      have e2 := f2 ws (q2 G I sb hG)
      rw [hv1] at e1; rw [hv2] at e2
      cases e1; cases e2
      exact ⟨upd G T (.tup [v1, v2]), Stp.laid hG hT, k3.laid hT, .tup upd_same (.cons ((r1.sub sb).sub (Stp.laid (K := X.K) (c := c) hG hT).sub) (.cons ((r2.sub sb).sub (Stp.laid (K := X.K) (c := c) hG hT).sub) .nil))⟩
    · refine ⟨us, ws, q1 G I sb hG, q2 G I sb hG, ?_⟩
      rw [← t1.length, ← t2.length]
      exact prs_end ed
  | exc k d κ => rw [em] at o; exact o
  | bad => rw [em] at o; exact o
theorem si_enum {elts : List Expr} {kk : Nat} {tpos : Pos} {m : SmL} (hg : Gl X "enumerate") (hm : X.mg "enumerate" = none) (ha : SnL X fa cl W [x] m) (hs : starEach [x] X.env = [(false, eval x X.env)]) :
    SnI X fa cl W (.Tuple elts kk tpos) (.Call (.Name "enumerate" p) [x] [] pos) (cEnm m) := by
  refine PI.imp (fun σ H R ⟨c, F0, H0, F, ρ, κ, r, o⟩ => ?_) (PVZ.pi_enumX hg hm ha hs)
  refine ⟨c, F0, H0, F, ρ, κ, r, ?_⟩
  unfold cEnm at o
  cases em : m ρ κ with
  | ok ds κ1 =>
    rw [em] at o
    match ds, o with
    | [], o => exact o.elim
    | _ :: _ :: _, o => exact o.elim
    | [d], o =>
    dsimp only at o
    cases e1 : seqD d with
    | none => rw [e1] at o; exact o.elim
    | some xs =>
    rw [e1] at o
    intro F' H' vs s k e
    obtain ⟨v, rfl, rv⟩ := repL1 e
    obtain ⟨b1, a, us, rfl, t1, q1⟩ := rep_seq rv e1
    refine ⟨a, us, b1, rfl, q1 F' H' (Sub.refl _) s.inH, o F' H' _ s k fun G I κ3 i sb hG k3 => ⟨fun d ed => ?_, fun ed => ?_⟩⟩
    · obtain ⟨x', h1, rfl⟩ := numd_get ed
      obtain ⟨v1, hv1, r1⟩ := t1.get h1
      refine ⟨⟨us, v1, q1 G I sb hG, hv1⟩, fun z I' ⟨T, z1, ez, hT, eI, f1⟩ => ?_⟩
      subst ez eI
      have e1 := f1 us (q1 G I sb hG)
      rw [hv1] at e1
      cases e1
      rw [show 0 + i = i from Nat.zero_add i]
      exact ⟨upd G T (.tup [.int (i : Nat), v1]), Stp.laid hG hT, k3.laid hT, .tup upd_same (.cons (.int _) (.cons ((r1.sub sb).sub (Stp.laid (K := X.K) (c := c) hG hT).sub) .nil))⟩
    · refine ⟨us, q1 G I sb hG, ?_⟩
      have := List.getElem?_eq_none_iff.mp ed
      rw [numd_len] at this
      rw [← t1.length]
      exact this
  | exc k d κ => rw [em] at o; exact o
  | bad => rw [em] at o; exact o
end
/-! ## range with a step -/
def stpD (lo c : Int) (n : Nat) : List D := (List.range n).map fun (i : Nat) => D.int (lo + (i : Int) * c)
def cRg3 (a : SmL) : SmL := fun ρ κ => match a ρ κ with
  | .ok [.int i, .int j, .int c] κ => if decide (c ≠ 0) && decide (c.natAbs < 1073741824) && Builtin.Range.small i j c && decide (0 ≤ Builtin.Range.rangeSize i j c) then .ok (stpD i c (Builtin.Range.rangeSize i j c).toNat) κ else .bad
  | .ok _ _ => .bad
  | .exc k d κ => .exc k d κ
  | .bad => .bad
section
variable {X : Cx} {fa : Nat → Option Addr} {cl : Nat → ClsI} {W : WX} {x y z tg : Expr} {pos p : Pos} {K : PySem.W.Frag} {c : Option Addr} {F H : Hp} {σ : L2.St}
theorem stp_yields (lo st : Int) (n : Nat) : Yields K fa c F (Itc lo st n) (stpD lo st n) := fun G I κ3 i sb hG k3 => by
  constructor
  · intro d ed
    unfold stpD at ed
    rw [List.getElem?_map] at ed
    by_cases hi : i < n
    · rw [List.getElem?_range hi] at ed
      cases ed
      refine ⟨hi, fun y I' ⟨e1, e3⟩ => ?_⟩
      subst e1 e3
      exact ⟨G, Stp.refl hG, k3, .int _⟩
    · rw [List.getElem?_eq_none (by simpa using hi)] at ed
      cases ed
  · intro ed
    unfold stpD at ed
    have := List.getElem?_eq_none_iff.mp ed
    rw [List.length_map, List.length_range] at this
    exact this
theorem si_rg3 {m : SmL} (hg : Gl X "range") (hm : X.mg "range" = none) (ha : SnL X fa cl W [x, y, z] m) (hs : starEach [x, y, z] X.env = (false, eval x X.env) :: starEach [y, z] X.env) (hpl : (backTo pos (starEach [y, z] X.env)).any (·.1) = false) :
    SnI X fa cl W tg (.Call (.Name "range" p) [x, y, z] [] pos) (cRg3 m) := by
  refine PI.imp (fun σ H R ⟨c, F0, H0, F, ρ, κ, r, o⟩ => ?_) (pi_range3 hg hm ha hs hpl)
  refine ⟨c, F0, H0, F, ρ, κ, r, ?_⟩
  unfold cRg3 at o
  cases em : m ρ κ with
  | ok ds κ1 =>
    rw [em] at o
    split at o
    · rename_i i j st κ2 eq
      cases eq
      split at o
      · rename_i hb
        simp only [Bool.and_eq_true, decide_eq_true_eq] at hb
        obtain ⟨⟨⟨h1, h2⟩, h3⟩, h4⟩ := hb
        intro F' H' vs s k e
        cases e with
        | cons r1 t =>
        cases t with
        | cons r2 t =>
        cases t with
        | cons r3 t =>
        cases t
        cases r1; cases r2; cases r3
        exact ⟨i, j, st, _, rfl, ⟨h1, h2, h3, by omega⟩, o F' H' _ s k (stp_yields i st _)⟩
      · exact o.elim
    · exact o.elim
    · rename_i eq; cases eq
    · exact o.elim
  | exc k d κ => rw [em] at o; exact o
  | bad => rw [em] at o; exact o
end
/-! ## comprehensions -/
def wipeR (ρ : Rho) : List Nat → Rho
  | [] => ρ
  | v :: vs => (wipeR ρ vs).set v .no
def lcRun (tg : Tg) (t e : SmE) : List D → Rho → Kp → RL
  | [], _, κ => .ok [] κ
  | d :: ds, ρ, κ => match tg d ρ with
    | none => .bad
    | some ρ1 => match t ρ1 κ with
      | .ok b _ κ => match truth b with
        | some true => match e ρ1 κ with
          | .ok x _ κ => match lcRun tg t e ds ρ κ with
            | .ok xs κ => .ok (x :: xs) κ
            | _ => .bad
          | _ => .bad
        | some false => lcRun tg t e ds ρ κ
        | none => .bad
      | _ => .bad
def cLc (it : SmL) (tg : Tg) (t e : SmE) (vs : List Nat) : SmE := fun ρ κ => match it ρ κ with
  | .ok ds κ => if ds.length ≤ LIM then (match lcRun tg t e ds (wipeR ρ vs) κ with
    | .ok xs κ => .ok (.lst xs) true κ
    | _ => .bad) else .bad
  | .exc k d κ => .exc k d κ
  | .bad => .bad
def cYes : SmE := fun _ κ => .ok (.bl true) false κ
abbrev WF : WX := fun _ _ _ _ => False
section
variable {X : Cx} {fa : Nat → Option Addr} {cl : Nat → ClsI} {W : WX} {K : PySem.W.Frag} {c : Option Addr} {F0 H0 F H : Hp} {ρ : Rho} {κ : Kp} {σ : L2.St} {Q : VK}
theorem wipe_at {σ : L2.St} {j : Nat} : ∀ {vs : List Nat}, j ∉ vs → (wipe σ vs)[j]? = σ[j]?
  | [], _ => rfl
  | v :: vs, h => by
    unfold wipe
    rw [List.getElem?_set_ne (fun z => h (by simp [z])), wipe_at (fun z => h (List.mem_cons_of_mem _ z))]
theorem wipe_in {σ : L2.St} {j : Nat} : ∀ {vs : List Nat}, j ∈ vs → (wipe σ vs)[j]? = if j < σ.length then some none else none
  | [], h => nomatch h
  | v :: vs, h => by
    unfold wipe
    by_cases q : v = j
    · subst q
      by_cases hl : v < (wipe σ vs).length
      · rw [List.getElem?_set_self hl, if_pos (by rw [wipe_length] at hl; exact hl)]
      · rw [List.getElem?_eq_none (by rw [List.length_set]; omega), if_neg (by rw [wipe_length] at hl; exact hl)]
    · rw [List.getElem?_set_ne q]
      exact wipe_in ((List.mem_cons.mp h).resolve_left fun z => q z.symm)
theorem wipeR_at {j : Nat} {s : Slot} : ∀ {vs : List Nat}, (wipeR ρ vs)[j]? = some s → s ≠ .no → j ∉ vs ∧ ρ[j]? = some s
  | [], h, _ => ⟨by simp, h⟩
  | v :: vs, h, n => by
    unfold wipeR at h
    by_cases q : v = j
    · subst q
      by_cases hl : v < (wipeR ρ vs).length
      · rw [List.getElem?_set_self hl] at h; cases h; exact absurd rfl n
      · rw [List.getElem?_eq_none (by rw [List.length_set]; omega)] at h; cases h
    · rw [List.getElem?_set_ne q] at h
      obtain ⟨h1, h2⟩ := wipeR_at h n
      exact ⟨by simp only [List.mem_cons, not_or]; exact ⟨fun e => q e.symm, h1⟩, h2⟩
theorem wipeR_length : ∀ vs : List Nat, (wipeR ρ vs).length = ρ.length
  | [] => rfl
  | v :: vs => by unfold wipeR; rw [List.length_set, wipeR_length vs]
theorem RelS.wipe {vs : List Nat} (r : RelS K fa c F0 H0 F ρ κ σ H) : RelS K fa c F0 H0 F (wipeR ρ vs) κ (L2.wipe σ vs) H where
  stp := r.stp
  kap := r.kap
  tab := r.tab
  len := by rw [wipe_length, wipeR_length, r.len]
  vals := fun j d e => by
    obtain ⟨h1, h2⟩ := wipeR_at e (by simp)
    rw [wipe_at h1]
    exact r.vals j d h2
  owns := fun j d e => by
    obtain ⟨h1, h2⟩ := wipeR_at e (by simp)
    rw [wipe_at h1]
    exact r.owns j d h2
  inj := fun i j d e a hij e1 e2 e3 => by
    obtain ⟨h1, h2⟩ := wipeR_at e1 (by simp)
    obtain ⟨h3, h4⟩ := wipeR_at e2 (by simp)
    rw [wipe_at h1] at e3
    rw [wipe_at h3]
    exact r.inj i j d e a hij h2 h4 e3
theorem wipe_same {ts vs : List Nat} {σ σ2 : L2.St} (h : SameBut ts (L2.wipe σ vs) σ2) (hs : ∀ j ∈ ts, j ∈ vs) : L2.wipe σ2 vs = L2.wipe σ vs := by
  apply List.ext_getElem?
  intro j
  have hl : σ2.length = σ.length := by rw [h.1, wipe_length]
  by_cases hj : j ∈ vs
  · rw [wipe_in hj, wipe_in hj, hl]
  · rw [wipe_at hj, h.2 j (fun z => hj (hs j z)), wipe_at hj]
/-- a list comprehension's reading -/
theorem tE_lc {it : SmL} {tg : Tg} {t e : SmE} {ts vs : List Nat} {σ : L2.St} {H : Hp} {Q : VK} (hs : ∀ j ∈ ts, j ∈ vs) (h : tE X fa cl W (cLc it tg t e vs) σ H Q) :
    tLc (tI X fa cl W it) (tG X fa ts tg) (tT X fa cl WF t) (tE X fa cl WF e) vs σ H Q := by
  obtain ⟨c, F0, H0, F, ρ, κ, r, o⟩ := h
  refine ⟨c, F0, H0, F, ρ, κ, r, ?_⟩
  unfold cLc at o
  cases ei : it ρ κ with
  | exc k d κ => rw [ei] at o; exact o
  | bad => rw [ei] at o; exact o
  | ok ds κ1 =>
    rw [ei] at o
    dsimp only at o
    by_cases hz : ds.length ≤ LIM
    case neg => rw [if_neg hz] at o; exact o.elim
    rw [if_pos hz] at o
    cases er : lcRun tg t e ds (wipeR ρ vs) κ1 with
    | exc k d κ => rw [er] at o; exact o.elim
    | bad => rw [er] at o; exact o.elim
    | ok all κf =>
      rw [er] at o
      dsimp only at o
      intro F1 H1 J s1 k1 Y D hD
      have cD : c ≠ some D := fun q => by
        obtain ⟨_, h2⟩ := k1.2 D q
        rw [hD] at h2; cases h2
      have F1D : F1 D = none := by
        cases q : F1 D with
        | none => rfl
        | some u => rw [s1.inH _ _ q] at hD; cases hD
      refine ⟨fun i m Hc => m + i = ds.length ∧ ∃ Fc κc acc ws rest, Stp X.K c F1 H1 Fc Hc ∧ Kap c κc Fc Hc ∧ Fc D = none ∧ Hc D = some (.lst ws) ∧ RepL X.K fa c Fc acc ws ∧ acc.length ≤ i ∧ lcRun tg t e (ds.drop i) (wipeR ρ vs) κc = .ok rest κf ∧ all = acc ++ rest,
        ⟨ds.length, by omega, F1, κ1, [], [], all, Stp.laid0 s1.inH hD, k1.laid0 hD, F1D, upd_same, .nil, Nat.le_refl _, er, rfl⟩, ?_⟩
      rintro i m Hc ⟨hm, Fc, κc, acc, ws, rest, sc, kc, FcD, HcD, ra, hal, run, eall⟩
      obtain ⟨Y1, Y2⟩ := Y Fc Hc κc i sc.sub sc.inH kc
      cases ed : ds[i]? with
      | none =>
        refine .inl ⟨Y2 ed, ?_⟩
        have hlen := List.getElem?_eq_none_iff.mp ed
        rw [List.drop_eq_nil_of_le hlen] at run
        cases run
        rw [List.append_nil] at eall
        subst eall
        refine o Fc Hc (.ref D) (s1.trans sc) kc ⟨D, rfl, ⟨FcD, cD, ws, HcD, ra⟩⟩ fun _ a ea => ?_
        cases ea
        cases q : H D with
        | none => rfl
        | some u =>
          obtain ⟨u', e'⟩ := s1.dom D u q
          rw [hD] at e'; cases e'
      | some d =>
        obtain ⟨go, yld⟩ := Y1 d ed
        have hi : i < ds.length := (List.getElem?_eq_some_iff.mp ed).1
        have edrop : ds.drop i = d :: ds.drop (i + 1) := by
          rw [List.drop_eq_getElem_cons hi]
          congr 1
          rw [List.getElem?_eq_getElem hi] at ed
          exact Option.some.inj ed
        rw [edrop] at run
        unfold lcRun at run
        refine .inr ⟨go, _, fun H' n => ⟨m - 1, by omega, n⟩, fun x H' yx => ?_⟩
        obtain ⟨F2, s2, k2, rx⟩ := yld x H' yx
        have s2' := sc.trans s2
        have H'D : H' D = some (.lst ws) := s2.keep D _ HcD cD trivial
        have F2D : F2 D = none := by
          cases q : F2 D with
          | none => rfl
          | some u =>
            rcases s2.new D u q with z | z
            · exact absurd FcD z
            · rw [HcD] at z; cases z
        cases etg : tg d (wipeR ρ vs) with
        | none => rw [etg] at run; cases run
        | some ρ1 =>
          rw [etg] at run
          dsimp only at run
          have rel2 : RelS X.K fa c F0 H0 F2 (wipeR ρ vs) κc (L2.wipe σ vs) H' := r.wipe.step (s1.trans s2') k2
          refine ⟨c, F0, H0, F2, wipeR ρ vs, κc, d, ρ1, rel2, rx, etg, fun σ2 r2 sb => ⟨wipe_same sb hs, c, F0, H0, F2, ρ1, κc, r2, ?_⟩⟩
          cases et : t ρ1 κc with
          | exc k d κ => rw [et] at run; cases run
          | bad => rw [et] at run; cases run
          | ok b _ κ2 =>
            rw [et] at run
            dsimp only at run
            cases eb : truth b with
            | none => rw [eb] at run; cases run
            | some bb =>
              rw [eb] at run
              refine ⟨bb, eb, fun F3 H3 s3 k3 => ?_⟩
              have s3' := s2'.trans s3
              have H3D : H3 D = some (.lst ws) := s3.keep D _ H'D cD trivial
              have F3D : F3 D = none := by
                cases q : F3 D with
                | none => rfl
                | some u =>
                  rcases s3.new D u q with z | z
                  · exact absurd F2D z
                  · rw [H'D] at z; cases z
              cases bb with
              | false =>
                show if (false = true) then _ else _
                rw [if_neg (by simp)]
                exact ⟨by omega, F3, κ2, acc, ws, rest, s3', k3, F3D, H3D, ra.sub (s2.trans s3).sub, by omega, run, eall⟩
              | true =>
                show if (true = true) then _ else _
                rw [if_pos rfl]
                refine ⟨c, F0, H0, F3, ρ1, κ2, r2.step s3 k3, ?_⟩
                dsimp only at run
                cases ee : e ρ1 κ2 with
                | exc k d κ => rw [ee] at run; cases run
                | bad => rw [ee] at run; cases run
                | ok x2 fr κ3 =>
                  rw [ee] at run
                  dsimp only at run
                  intro F4 H4 v s4 k4 e4 fresh
                  obtain ⟨F5, s5, k5, _, e5⟩ := e4.still s4 k4 fresh
                  cases el : lcRun tg t e (ds.drop (i + 1)) (wipeR ρ vs) κ3 with
                  | exc k d κ => rw [el] at run; cases run
                  | bad => rw [el] at run; cases run
                  | ok xs κ4 =>
                    rw [el] at run
                    cases run
                    have s5' := s3'.trans s5
                    have H4D : H4 D = some (.lst ws) := s5.keep D _ H3D cD trivial
                    have F5D : F5 D = none := by
                      cases q : F5 D with
                      | none => rfl
                      | some u =>
                        rcases s5.new D u q with z | z
                        · exact absurd F3D z
                        · rw [H3D] at z; cases z
                    have hwl : ws.length < sizeLine := by
                      rw [← ra.length]
                      have := sizeLine_eq
                      unfold LIM at hz
                      omega
                    have ne : ∀ a o, F5 a = some o → a ≠ D := fun a o q z => by subst z; rw [F5D] at q; cases q
                    refine ⟨ws, H4D, hwl, ⟨by omega, F5, κ3, acc ++ [x2], ws ++ [v], xs, ⟨s5'.sub, fun a o q => by rw [upd_ne (ne a o q)]; exact s5'.inH a o q, s5'.new, fun a o q n nt => ?_, fun a o q => ?_, fun h => tab_plain H4D nk_lst _ (s5'.tab h)⟩, ⟨k5.1, fun a q => ?_⟩, F5D, upd_same, (ra.sub ((s2.trans s3).trans s5).sub).append (.cons e5 .nil), by rw [List.length_append]; exact Nat.succ_le_succ hal, el, by rw [eall]; simp⟩⟩
                    · rw [upd_ne (fun z => by subst z; rw [hD] at q; cases q)]
                      exact s5'.keep a o q n nt
                    · rw [upd_ne (fun z => by subst z; rw [hD] at q; cases q)]
                      exact s5'.dom a o q
                    · obtain ⟨h1, h2⟩ := k5.2 a q
                      refine ⟨h1, ?_⟩
                      rw [upd_ne (fun z => cD (by rw [← z]; exact q))]
                      exact h2
end
/-! ## comprehensions with two fors -/
def Slot.dro : Slot → Slot
  | .own _ => .no
  | s => s
def dropOwn (ρ : Rho) : Rho := ρ.map Slot.dro
theorem dropOwn_at {ρ : Rho} {j : Nat} {d : D} (h : (dropOwn ρ)[j]? = some (.val d)) : ρ[j]? = some (.val d) := by
  unfold dropOwn at h
  rw [List.getElem?_map] at h
  obtain ⟨s, h1, h2⟩ := Option.map_eq_some_iff.mp h
  cases s with
  | no => cases h2
  | own x => cases h2
  | val x => cases h2; exact h1
theorem dropOwn_own {ρ : Rho} {j : Nat} {d : D} (h : (dropOwn ρ)[j]? = some (.own d)) : False := by
  unfold dropOwn at h
  rw [List.getElem?_map] at h
  obtain ⟨s, h1, h2⟩ := Option.map_eq_some_iff.mp h
  cases s <;> cases h2
theorem RelS.anew {K : PySem.W.Frag} {fa : Nat → Option Addr} {c : Option Addr} {F0 H0 F H F' H' : Hp} {ρ : Rho} {κ κ' : Kp} {σ : L2.St} (r : RelS K fa c F0 H0 F ρ κ σ H) (sb : Sub F F') (st : Stp K c F0 H0 F' H') (k : Kap c κ' F' H') (tb : LamX.Tabs (tabsOf K) H') : RelS K fa c F0 H0 F' (dropOwn ρ) κ' σ H' where
  stp := st
  kap := k
  tab := tb
  len := by unfold dropOwn; rw [List.length_map]; exact r.len
  vals := fun j d e => by
    obtain ⟨v, h1, h2⟩ := r.vals j d (dropOwn_at e)
    exact ⟨v, h1, h2.sub sb⟩
  owns := fun j d e => (dropOwn_own e).elim
  inj := fun i j d e a hij e1 e2 e3 => (dropOwn_own e1).elim
def lc2Run (tg : Tg) (t : SmE) (it1 : SmL) (tg1 : Tg) (t1 e : SmE) (vs1 : List Nat) : List D → Rho → Kp → RL
  | [], _, κ => .ok [] κ
  | d :: ds, ρ, κ => match tg d ρ with
    | none => .bad
    | some ρ1 => match t ρ1 κ with
      | .ok b _ κ => match truth b with
        | some true => match it1 (dropOwn ρ1) κ with
          | .ok ds1 κ => match lcRun tg1 t1 e ds1 (wipeR (dropOwn ρ1) vs1) κ with
            | .ok xs κ => match lc2Run tg t it1 tg1 t1 e vs1 ds ρ κ with
              | .ok ys κ => .ok (xs ++ ys) κ
              | _ => .bad
            | _ => .bad
          | _ => .bad
        | some false => lc2Run tg t it1 tg1 t1 e vs1 ds ρ κ
        | none => .bad
      | _ => .bad
def cLc2 (it : SmL) (tg : Tg) (t : SmE) (it1 : SmL) (tg1 : Tg) (t1 e : SmE) (vs vs1 : List Nat) : SmE := fun ρ κ => match it ρ κ with
  | .ok ds κ => (match lc2Run tg t it1 tg1 t1 e vs1 ds (wipeR ρ vs) κ with
    | .ok xs κ => if xs.length ≤ LIM then .ok (.lst xs) true κ else .bad
    | _ => .bad)
  | .exc k d κ => .exc k d κ
  | .bad => .bad
section
variable {X : Cx} {fa : Nat → Option Addr} {cl : Nat → ClsI} {W : WX} {K : PySem.W.Frag} {c : Option Addr} {F0 H0 F H : Hp} {ρ : Rho} {κ : Kp} {σ : L2.St} {Q : VK}
theorem tE_lc2 {it it1 : SmL} {tg tg1 : Tg} {t t1 e : SmE} {ts ts1 vs vs1 : List Nat} {σ : L2.St} {H : Hp} {Q : VK} (hs : ∀ j ∈ ts, j ∈ vs) (hs1 : ∀ j ∈ ts1, j ∈ vs1) (h : tE X fa cl W (cLc2 it tg t it1 tg1 t1 e vs vs1) σ H Q) :
    tLc2 (tI X fa cl W it) (tG X fa ts tg) (tT X fa cl WF t) (tI X fa cl WF it1) (tG X fa ts1 tg1) (tT X fa cl WF t1) (tE X fa cl WF e) vs vs1 σ H Q := by
  obtain ⟨c, F0, H0, F, ρ, κ, r, o⟩ := h
  refine ⟨c, F0, H0, F, ρ, κ, r, ?_⟩
  unfold cLc2 at o
  cases ei : it ρ κ with
  | exc k d κ => rw [ei] at o; exact o
  | bad => rw [ei] at o; exact o
  | ok ds κ1 =>
    rw [ei] at o
    dsimp only at o
    cases er : lc2Run tg t it1 tg1 t1 e vs1 ds (wipeR ρ vs) κ1 with
    | exc k d κ => rw [er] at o; exact o.elim
    | bad => rw [er] at o; exact o.elim
    | ok all κf =>
      rw [er] at o
      dsimp only at o
      by_cases hz : all.length ≤ LIM
      case neg => rw [if_neg hz] at o; exact o.elim
      rw [if_pos hz] at o
      intro F1 H1 J s1 k1 Y D hD
      have cD : c ≠ some D := fun q => by
        obtain ⟨_, h2⟩ := k1.2 D q
        rw [hD] at h2; cases h2
      have F1D : F1 D = none := by
        cases q : F1 D with
        | none => rfl
        | some u => rw [s1.inH _ _ q] at hD; cases hD
      refine ⟨fun i m Hc => m + i = ds.length ∧ ∃ Fc κc acc ws rest, Stp X.K c F1 H1 Fc Hc ∧ Kap c κc Fc Hc ∧ Fc D = none ∧ Hc D = some (.lst ws) ∧ RepL X.K fa c Fc acc ws ∧ lc2Run tg t it1 tg1 t1 e vs1 (ds.drop i) (wipeR ρ vs) κc = .ok rest κf ∧ all = acc ++ rest,
        ⟨ds.length, by omega, F1, κ1, [], [], all, Stp.laid0 s1.inH hD, k1.laid0 hD, F1D, upd_same, .nil, er, rfl⟩, ?_⟩
      rintro i m Hc ⟨hm, Fc, κc, acc, ws, rest, sc, kc, FcD, HcD, ra, run, eall⟩
      obtain ⟨Y1, Y2⟩ := Y Fc Hc κc i sc.sub sc.inH kc
      cases ed : ds[i]? with
      | none =>
        refine .inl ⟨Y2 ed, ?_⟩
        have hlen := List.getElem?_eq_none_iff.mp ed
        rw [List.drop_eq_nil_of_le hlen] at run
        cases run
        rw [List.append_nil] at eall
        subst eall
        refine o Fc Hc (.ref D) (s1.trans sc) kc ⟨D, rfl, ⟨FcD, cD, ws, HcD, ra⟩⟩ fun _ a ea => ?_
        cases ea
        cases q : H D with
        | none => rfl
        | some u =>
          obtain ⟨u', e'⟩ := s1.dom D u q
          rw [hD] at e'; cases e'
      | some d =>
        obtain ⟨go, yld⟩ := Y1 d ed
        have hi : i < ds.length := (List.getElem?_eq_some_iff.mp ed).1
        have edrop : ds.drop i = d :: ds.drop (i + 1) := by
          rw [List.drop_eq_getElem_cons hi]
          congr 1
          rw [List.getElem?_eq_getElem hi] at ed
          exact Option.some.inj ed
        rw [edrop] at run
        unfold lc2Run at run
        refine .inr ⟨go, _, fun H' n => ⟨m - 1, by omega, n⟩, fun x H' yx => ?_⟩
        obtain ⟨F2, s2, k2, rx⟩ := yld x H' yx
        have s2' := sc.trans s2
        have H'D : H' D = some (.lst ws) := s2.keep D _ HcD cD trivial
        have F2D : F2 D = none := by
          cases q : F2 D with
          | none => rfl
          | some u =>
            rcases s2.new D u q with z | z
            · exact absurd FcD z
            · rw [HcD] at z; cases z
        cases etg : tg d (wipeR ρ vs) with
        | none => rw [etg] at run; cases run
        | some ρ1 =>
          rw [etg] at run
          dsimp only at run
          have rel2 : RelS X.K fa c F0 H0 F2 (wipeR ρ vs) κc (L2.wipe σ vs) H' := r.wipe.step (s1.trans s2') k2
          refine ⟨c, F0, H0, F2, wipeR ρ vs, κc, d, ρ1, rel2, rx, etg, fun σ2 r2 sb => ⟨wipe_same sb hs, c, F0, H0, F2, ρ1, κc, r2, ?_⟩⟩
          cases et : t ρ1 κc with
          | exc k d κ => rw [et] at run; cases run
          | bad => rw [et] at run; cases run
          | ok b _ κ2 =>
            rw [et] at run
            dsimp only at run
            cases eb : truth b with
            | none => rw [eb] at run; cases run
            | some bb =>
              rw [eb] at run
              refine ⟨bb, eb, fun F3 H3 s3 k3 => ?_⟩
              have s3' := s2'.trans s3
              have H3D : H3 D = some (.lst ws) := s3.keep D _ H'D cD trivial
              have F3D : F3 D = none := by
                cases q : F3 D with
                | none => rfl
                | some u =>
                  rcases s3.new D u q with z | z
                  · exact absurd F2D z
                  · rw [H'D] at z; cases z
              cases bb with
              | false =>
                show if (false = true) then _ else _
                rw [if_neg (by simp)]
                exact ⟨by omega, F3, κ2, acc, ws, rest, s3', k3, F3D, H3D, ra.sub (s2.trans s3).sub, run, eall⟩
              | true =>
                show if (true = true) then _ else _
                rw [if_pos rfl]
                have st0 : Stp X.K c F0 H0 F1 H1 := r.stp.trans s1
                have tb1 : LamX.Tabs (tabsOf X.K) H1 := s1.tab r.tab
                have r3 : RelS X.K fa c F0 H0 F3 (dropOwn ρ1) κ2 σ2 H3 := r2.anew s3.sub (st0.trans s3') k3 (s3'.tab tb1)
                refine ⟨c, F0, H0, F3, dropOwn ρ1, κ2, r3, ?_⟩
                dsimp only at run
                cases ei1 : it1 (dropOwn ρ1) κ2 with
                | exc k d κ => rw [ei1] at run; cases run
                | bad => rw [ei1] at run; cases run
                | ok ds1 κ3 =>
                rw [ei1] at run
                dsimp only at run
                cases er1 : lcRun tg1 t1 e ds1 (wipeR (dropOwn ρ1) vs1) κ3 with
                | exc k d κ => rw [er1] at run; cases run
                | bad => rw [er1] at run; cases run
                | ok xs1 κi =>
                rw [er1] at run
                dsimp only at run
                cases er2 : lc2Run tg t it1 tg1 t1 e vs1 (ds.drop (i + 1)) (wipeR ρ vs) κi with
                | exc k d κ => rw [er2] at run; cases run
                | bad => rw [er2] at run; cases run
                | ok ys1 κj =>
                rw [er2] at run
                cases run
                intro F4 H4 J1 s4 k4 Yn
                have s4' := s3'.trans s4
                have H4D : H4 D = some (.lst ws) := s4.keep D _ H3D cD trivial
                have F4D : F4 D = none := by
                  cases q : F4 D with
                  | none => rfl
                  | some u =>
                    rcases s4.new D u q with z | z
                    · exact absurd F3D z
                    · rw [H3D] at z; cases z
                refine ⟨fun j k Hc => k + j = ds1.length ∧ ∃ Fc κc acc1 ws rest1, Sub F4 Fc ∧ Kap c κc Fc Hc ∧ Stp X.K c F1 H1 Fc Hc ∧ Fc D = none ∧ Hc D = some (.lst ws) ∧ RepL X.K fa c Fc acc1 ws ∧ lcRun tg1 t1 e (ds1.drop j) (wipeR (dropOwn ρ1) vs1) κc = .ok rest1 κi ∧ all = acc1 ++ (rest1 ++ ys1),
                  ⟨ds1.length, by omega, F4, κ3, acc, ws, xs1, Sub.refl _, k4, s4', F4D, H4D, ra.sub ((s2.trans s3).trans s4).sub, er1, eall⟩, ?_⟩
                rintro j k Hq ⟨hk, Fq, κq, acc1, wq, rest1, sq, kq, tq, FqD, HqD, rq, runq, eallq⟩
                obtain ⟨Z1, Z2⟩ := Yn Fq Hq κq j sq tq.inH kq
                cases ed1 : ds1[j]? with
                | none =>
                  refine .inl ⟨Z2 ed1, ?_⟩
                  have hlen := List.getElem?_eq_none_iff.mp ed1
                  rw [List.drop_eq_nil_of_le hlen] at runq
                  cases runq
                  exact ⟨by omega, Fq, _, acc1, wq, ys1, tq, kq, FqD, HqD, rq, er2, eallq⟩
                | some d1 =>
                  obtain ⟨go1, yld1⟩ := Z1 d1 ed1
                  have hj : j < ds1.length := (List.getElem?_eq_some_iff.mp ed1).1
                  have edrop1 : ds1.drop j = d1 :: ds1.drop (j + 1) := by
                    rw [List.drop_eq_getElem_cons hj]
                    congr 1
                    rw [List.getElem?_eq_getElem hj] at ed1
                    exact Option.some.inj ed1
                  rw [edrop1] at runq
                  unfold lcRun at runq
                  refine .inr ⟨go1, _, fun H' n => ⟨k - 1, by omega, n⟩, fun x1 H5 yx1 => ?_⟩
                  obtain ⟨F5, s5, k5, rx1⟩ := yld1 x1 H5 yx1
                  have s5' := tq.trans s5
                  have H5D : H5 D = some (.lst wq) := s5.keep D _ HqD cD trivial
                  have F5D : F5 D = none := by
                    cases q : F5 D with
                    | none => rfl
                    | some u =>
                      rcases s5.new D u q with z | z
                      · exact absurd FqD z
                      · rw [HqD] at z; cases z
                  cases etg1 : tg1 d1 (wipeR (dropOwn ρ1) vs1) with
                  | none => rw [etg1] at runq; cases runq
                  | some ρ2 =>
                    rw [etg1] at runq
                    dsimp only at runq
                    have rel5 : RelS X.K fa c F0 H0 F5 (wipeR (dropOwn ρ1) vs1) κq (L2.wipe σ2 vs1) H5 := (r2.anew (((s3.sub.trans s4.sub).trans sq).trans s5.sub) (st0.trans s5') k5 (s5'.tab tb1)).wipe
                    refine ⟨c, F0, H0, F5, wipeR (dropOwn ρ1) vs1, κq, d1, ρ2, rel5, rx1, etg1, fun σ3 r5 sb1 => ⟨wipe_same sb1 hs1, c, F0, H0, F5, ρ2, κq, r5, ?_⟩⟩
                    cases et1 : t1 ρ2 κq with
                    | exc k d κ => rw [et1] at runq; cases runq
                    | bad => rw [et1] at runq; cases runq
                    | ok b1 _ κ6 =>
                      rw [et1] at runq
                      dsimp only at runq
                      cases eb1 : truth b1 with
                      | none => rw [eb1] at runq; cases runq
                      | some bb1 =>
                        rw [eb1] at runq
                        refine ⟨bb1, eb1, fun F6 H6 s6 k6 => ?_⟩
                        have s6' := s5'.trans s6
                        have H6D : H6 D = some (.lst wq) := s6.keep D _ H5D cD trivial
                        have F6D : F6 D = none := by
                          cases q : F6 D with
                          | none => rfl
                          | some u =>
                            rcases s6.new D u q with z | z
                            · exact absurd F5D z
                            · rw [H5D] at z; cases z
                        cases bb1 with
                        | false =>
                          show if (false = true) then _ else _
                          rw [if_neg (by simp)]
                          exact ⟨by omega, F6, κ6, acc1, wq, rest1, (sq.trans s5.sub).trans s6.sub, k6, s6', F6D, H6D, rq.sub (s5.trans s6).sub, runq, eallq⟩
                        | true =>
                          show if (true = true) then _ else _
                          rw [if_pos rfl]
                          refine ⟨c, F0, H0, F6, ρ2, κ6, r5.step s6 k6, ?_⟩
                          dsimp only at runq
                          cases ee : e ρ2 κ6 with
                          | exc k d κ => rw [ee] at runq; cases runq
                          | bad => rw [ee] at runq; cases runq
                          | ok x2 fr κ7 =>
                            rw [ee] at runq
                            dsimp only at runq
                            intro F7 H7 v s7 k7 e7 fresh
                            obtain ⟨F8, s8, k8, _, e8⟩ := e7.still s7 k7 fresh
                            cases el : lcRun tg1 t1 e (ds1.drop (j + 1)) (wipeR (dropOwn ρ1) vs1) κ7 with
                            | exc k d κ => rw [el] at runq; cases runq
                            | bad => rw [el] at runq; cases runq
                            | ok xs κ8 =>
                              rw [el] at runq
                              cases runq
                              have s8' := s6'.trans s8
                              have t8 := ((sq.trans s5.sub).trans s6.sub).trans s8.sub
                              have H7D : H7 D = some (.lst wq) := s8.keep D _ H6D cD trivial
                              have F8D : F8 D = none := by
                                cases q : F8 D with
                                | none => rfl
                                | some u =>
                                  rcases s8.new D u q with z | z
                                  · exact absurd F6D z
                                  · rw [H6D] at z; cases z
                              have hwl : wq.length < sizeLine := by
                                rw [← rq.length]
                                have h1 := congrArg List.length eallq
                                simp only [List.length_append, List.length_cons] at h1
                                have := sizeLine_eq
                                unfold LIM at hz
                                omega
                              have ne : ∀ a o, F8 a = some o → a ≠ D := fun a o q z => by subst z; rw [F8D] at q; cases q
                              have kk : Kap c κ7 F8 (upd H7 D (.lst (wq ++ [v]))) := ⟨k8.1, fun a q => by
                                obtain ⟨h1, h2⟩ := k8.2 a q
                                refine ⟨h1, ?_⟩
                                rw [upd_ne (fun z => cD (by rw [← z]; exact q))]
                                exact h2⟩
                              refine ⟨wq, H7D, hwl, ⟨by omega, F8, κ7, acc1 ++ [x2], wq ++ [v], xs, t8, kk, ⟨s8'.sub, fun a o q => by rw [upd_ne (ne a o q)]; exact s8'.inH a o q, s8'.new, fun a o q n nt => ?_, fun a o q => ?_, fun h => tab_plain H7D nk_lst _ (s8'.tab h)⟩, F8D, upd_same, (rq.sub ((s5.trans s6).trans s8).sub).append (.cons e8 .nil), el, by rw [eallq]; simp⟩⟩
                              · rw [upd_ne (fun z => by subst z; rw [hD] at q; cases q)]
                                exact s8'.keep a o q n nt
                              · rw [upd_ne (fun z => by subst z; rw [hD] at q; cases q)]
                                exact s8'.dom a o q
end
/-! ## stars in displays -/
def starOf : D → Option (List D)
  | .tup xs => some xs
  | .lst xs => some xs
  | _ => none
def cStar (a : SmE) (b : SmL) : SmL := fun ρ κ => match a ρ κ with
  | .ok d _ κ => (match starOf d with
    | some xs => (match b ρ κ with
      | .ok ds κ => .ok (xs ++ ds) κ
      | .exc k d κ => .exc k d κ
      | .bad => .bad)
    | none => .bad)
  | .exc k d κ => .exc k d κ
  | .bad => .bad
def cTups (a : SmL) : SmE := cAp (fun ds κ => if ds.length ≤ LIM then .ok (.tup ds) false κ else .bad) a
def cLsts (a : SmL) : SmE := cAp (fun ds κ => if ds.length ≤ LIM then .ok (.lst ds) true κ else .bad) a
section
variable {X : Cx} {fa : Nat → Option Addr} {cl : Nat → ClsI} {W : WX} {x : Expr} {a : SmE} {pos sp : Pos}
theorem starOf_rep {K : PySem.W.Frag} {c : Option Addr} {F H : Hp} {d : D} {v : V} {xs : List D} (h : starOf d = some xs) (r : Rep K fa c F d v) (hF : ∀ a o, F a = some o → H a = some o) : ∃ p vs, v = .ref p ∧ (SqT K H p vs ∨ SqL K H p vs) ∧ RepL K fa c F xs vs := by
  cases r <;> try cases h
  · rename_i hF' t; exact ⟨_, _, rfl, .inl (SqT.of (hF _ _ hF')), t⟩
  · rename_i hF' t; exact ⟨_, _, rfl, .inr (SqL.of (hF _ _ hF')), t⟩
theorem repL_append {K : PySem.W.Frag} {c : Option Addr} {F : Hp} {xs ys : List D} {vs ws : List V} (a : RepL K fa c F xs vs) (b : RepL K fa c F ys ws) : RepL K fa c F (xs ++ ys) (vs ++ ws) := a.append b
theorem sl_star {xs : List Expr} {m : SmL} (ha : SnE X fa cl W x a) (hb : SnL X fa cl W xs m) : SnL X fa cl W (.Starred x sp :: xs) (cStar a m) := by
  refine PA.imp (fun σ H Q ⟨c, F0, H0, F, ρ, κ, r, o⟩ => ?_) (StX.pa_star ha hb)
  refine ⟨c, F0, H0, F, ρ, κ, r, ?_⟩
  unfold cStar at o
  cases ea : a ρ κ with
  | ok d fr κ1 =>
    rw [ea] at o
    intro F' H' v s k e fresh
    obtain ⟨F2, s2, k2, _, e2⟩ := e.still s k fresh
    dsimp only at o
    cases eq : starOf d with
    | none => rw [eq] at o; exact o.elim
    | some ys =>
    rw [eq] at o
    dsimp only at o
    obtain ⟨p, vs, ev, hq, rl⟩ := starOf_rep eq e2 s2.inH
    refine ⟨p, vs, ev, hq, c, F0, H0, F2, ρ, κ1, r.step s2 k2, ?_⟩
    cases em : m ρ κ1 with
    | ok ds κ2 =>
      simp only [em] at o
      intro F3 H3 ws s3 k3 e3
      exact o F3 H3 (vs ++ ws) (s2.trans s3) k3 (repL_append (rl.sub s3.sub) e3)
    | exc k d κ => simp only [em] at o; exact OutX.step s2 o
    | bad => simp only [em] at o; exact o
  | exc k d κ => rw [ea] at o; exact o
  | bad => rw [ea] at o; exact o
theorem sn_tups {xs : List Expr} {m : SmL} {k : Nat} (h : SnL X fa cl W xs m) : SnE X fa cl W (.Tuple xs k pos) (cTups m) := by
  refine PE.imp (fun σ H Q ⟨c, F0, H0, F, ρ, κ, r, o⟩ => ?_) (pe_tup h)
  refine ⟨c, F0, H0, F, ρ, κ, r, ?_⟩
  unfold cTups cAp at o
  cases em : m ρ κ with
  | ok ds κ1 =>
    rw [em] at o
    unfold RL.bind at o
    dsimp only at o
    split at o
    case isFalse => exact o.elim
    rename_i hz
    intro F1 H1 vs s1 k1 r1
    have hlen : vs.length ≤ sizeLine := by rw [← r1.length, sizeLine_eq]; unfold LIM at hz; omega
    refine ⟨hlen, fun p hp => ?_⟩
    exact o (upd F1 p (.tup vs)) (upd H1 p (.tup vs)) (.ref p) (s1.trans (Stp.laid s1.inH hp)) (k1.laid hp) (.tup upd_same (r1.sub (Stp.laid (K := X.K) (c := c) s1.inH hp).sub)) (fun q => nomatch q)
  | exc k d κ => rw [em] at o; exact o
  | bad => rw [em] at o; exact o
theorem sn_lsts {xs : List Expr} {m : SmL} (h : SnL X fa cl W xs m) : SnE X fa cl W (.List xs pos) (cLsts m) := by
  refine PE.imp (fun σ H Q ⟨c, F0, H0, F, ρ, κ, r, o⟩ => ?_) (pe_lst h)
  refine ⟨c, F0, H0, F, ρ, κ, r, ?_⟩
  unfold cLsts cAp at o
  cases em : m ρ κ with
  | ok ds κ1 =>
    rw [em] at o
    unfold RL.bind at o
    dsimp only at o
    split at o
    case isFalse => exact o.elim
    rename_i hz
    intro F1 H1 vs s1 k1 r1
    have hlen : vs.length ≤ sizeLine := by rw [← r1.length, sizeLine_eq]; unfold LIM at hz; omega
    refine ⟨hlen, fun p hp => ?_⟩
    have hF1 : F1 p = none := by
      cases q : F1 p with
      | none => rfl
      | some u => rw [s1.inH _ _ q] at hp; cases hp
    have hcp : c ≠ some p := fun q => by
      obtain ⟨_, h2⟩ := k1.2 p q
      rw [hp] at h2; cases h2
    refine o F1 (upd H1 p (.lst vs)) (.ref p) (s1.trans (Stp.laid0 s1.inH hp)) (k1.laid0 hp) ⟨p, rfl, ⟨hF1, hcp, vs, upd_same, r1⟩⟩ (fun _ a ea => ?_)
    cases ea
    cases q : H p with
    | none => rfl
    | some u =>
      obtain ⟨u', e'⟩ := s1.dom p u q
      rw [hp] at e'; cases e'
  | exc k d κ => rw [em] at o; exact o
  | bad => rw [em] at o; exact o
end
/-! ## statements -/
section
variable (K : PySem.W.Frag) (fa : Nat → Option Addr) (cl : Nat → ClsI) (W : WX)
def OutS (c : Option Addr) (F0 H0 F : Hp) (E : Ends) : RS → Prop
  | .next ρ κ => ∀ F' σ' H', Sub F F' → RelS K fa c F0 H0 F' ρ κ σ' H' → E.nx σ' H'
  | .brk ρ κ => ∀ F' σ' H', Sub F F' → RelS K fa c F0 H0 F' ρ κ σ' H' → E.bk σ' H'
  | .cont ρ κ => ∀ F' σ' H', Sub F F' → RelS K fa c F0 H0 F' ρ κ σ' H' → E.ct σ' H'
  | .ret d fr κ => ∀ F' H' v, Stp K c F0 H0 F' H' → Kap c κ F' H' → RepF K fa c F' H' fr d v → (fr = true → ∀ a, v = .ref a → H0 a = none) → E.rt v H'
  | .exc k d κ => ∀ σ' F' H' dd, Stp K c F0 H0 F' H' → Kap c κ F' H' → ExcAt K fa c (cl k) F' H' d dd → W (cl k).val dd σ' H'
  | .bad => False
end
section
variable (X : Cx) (fa : Nat → Option Addr) (cl : Nat → ClsI) (W : WX)
def tSt (m : SmS) : TS := fun E σ H => ∃ c F0 H0 F ρ κ, RelS X.K fa c F0 H0 F ρ κ σ H ∧ OutS X.K fa cl W c F0 H0 F E (m ρ κ)
def SnS (st : Stmt) (m : SmS) : Prop := PS X st (tSt X fa cl W m)
def SnB (sts : List Stmt) (m : SmS) : Prop := PSs X sts (tSt X fa cl W m)
end
def cNext : SmS := fun ρ κ => .next ρ κ
def cSeq (a b : SmS) : SmS := fun ρ κ => match a ρ κ with
  | .next ρ κ => b ρ κ
  | r => r
def R.st (r : R) (g : D → Bool → Kp → RS) : RS := match r with
  | .ok d fr κ => g d fr κ
  | .exc k d κ => .exc k d κ
  | .bad => .bad
def R.stT (r : R) (g : Bool → Kp → RS) : RS := match r with
  | .ok d _ κ => match truth d with
    | some b => g b κ
    | none => .bad
  | .exc k d κ => .exc k d κ
  | .bad => .bad
def mkS (own : Bool) (d : D) (fr : Bool) : Option Slot := if own then (if fr then some (.own d) else some (.val d)) else some (.val d)
def putS (ρ : Rho) (i : Nat) (o : Option Slot) (g : Rho → RS) : RS := match o with
  | some s => g (ρ.set i s)
  | none => .bad
def cSet (i : Nat) (own : Bool) (e : SmE) : SmS := fun ρ κ => (e ρ κ).st fun d fr κ => putS ρ i (mkS own d fr) fun ρ => .next ρ κ
def cPar2 (i : Nat) (oi : Bool) (a : SmE) (j : Nat) (oj : Bool) (b : SmE) : SmS := fun ρ κ => (a ρ κ).st fun d1 f1 κ => (b ρ κ).st fun d2 f2 κ =>
  putS ρ i (mkS oi d1 f1) fun ρ => putS ρ j (mkS oj d2 f2) fun ρ => .next ρ κ
def cPar3 (i : Nat) (oi : Bool) (a : SmE) (j : Nat) (oj : Bool) (b : SmE) (l : Nat) (ol : Bool) (e : SmE) : SmS := fun ρ κ => (a ρ κ).st fun d1 f1 κ => (b ρ κ).st fun d2 f2 κ => (e ρ κ).st fun d3 f3 κ =>
  putS ρ i (mkS oi d1 f1) fun ρ => putS ρ j (mkS oj d2 f2) fun ρ => putS ρ l (mkS ol d3 f3) fun ρ => .next ρ κ
def cExp (e : SmE) : SmS := fun ρ κ => (e ρ κ).st fun _ _ κ => .next ρ κ
def cRet (e : SmE) : SmS := fun ρ κ => (e ρ κ).st fun d fr κ => .ret d fr κ
def cRetN : SmS := fun _ κ => .ret .non false κ
def cRetO (i : Nat) : SmS := fun ρ κ => match ρ[i]? with
  | some (.own d) => .ret d true κ
  | some (.val d) => .ret d false κ
  | _ => .bad
def cIf (t : SmE) (a b : SmS) : SmS := fun ρ κ => (t ρ κ).stT fun k κ => if k then a ρ κ else b ρ κ
def cBrk : SmS := fun ρ κ => .brk ρ κ
def cCont : SmS := fun ρ κ => .cont ρ κ
/-- a target that takes a value of several parts -/
def cUnp (tg : Tg) (e : SmE) : SmS := fun ρ κ => (e ρ κ).st fun d _ κ => match tg d ρ with
  | some ρ => .next ρ κ
  | none => .bad
def forRun (tg : Tg) (b : SmS) : List D → Rho → Kp → RS
  | [], ρ, κ => .next ρ κ
  | d :: ds, ρ, κ => match tg d ρ with
    | none => .bad
    | some ρ => match b ρ κ with
      | .next ρ κ => forRun tg b ds ρ κ
      | .cont ρ κ => forRun tg b ds ρ κ
      | .brk ρ κ => .next ρ κ
      | r => r
def cFor (it : SmL) (tg : Tg) (b : SmS) : SmS := fun ρ κ => match it ρ κ with
  | .ok ds κ => forRun tg b ds ρ κ
  | .exc k d κ => .exc k d κ
  | .bad => .bad
def whRun (t : SmE) (b : SmS) : Nat → Rho → Kp → RS
  | 0, _, _ => .bad
  | n + 1, ρ, κ => (t ρ κ).stT fun k κ => if k then (match b ρ κ with
      | .next ρ κ => whRun t b n ρ κ
      | .cont ρ κ => whRun t b n ρ κ
      | .brk ρ κ => .next ρ κ
      | r => r) else .next ρ κ
def cWhile (n : Nat) (t : SmE) (b : SmS) : SmS := fun ρ κ => whRun t b n ρ κ
section
variable {X : Cx} {fa : Nat → Option Addr} {cl : Nat → ClsI} {W : WX} {K : PySem.W.Frag} {c : Option Addr} {F0 H0 F H F1 H1 : Hp} {ρ : Rho} {κ : Kp} {σ : L2.St} {Q : VK} {E : Ends}
theorem OutS.sub {r : RS} (s : Sub F F1) (o : OutS K fa cl W c F0 H0 F E r) : OutS K fa cl W c F0 H0 F1 E r := by
  cases r with
  | next ρ κ => exact fun F' σ' H' s' => o F' σ' H' (s.trans s')
  | brk ρ κ => exact fun F' σ' H' s' => o F' σ' H' (s.trans s')
  | cont ρ κ => exact fun F' σ' H' s' => o F' σ' H' (s.trans s')
  | ret d fr κ => exact o
  | exc k d κ => exact o
  | bad => exact o
/-- an address that is not tracked is no owned slot's -/
theorem RelS.notOwn {a : Addr} (r : RelS K fa c F0 H0 F ρ κ σ H) (h : H a = none) : ∀ (j : Nat) (e : D), ρ[j]? = some (Slot.own e) → σ[j]? ≠ some (some (V.ref a)) := fun j e q z => by
  obtain ⟨b, h1, h2, _⟩ := r.owns j e q
  rw [h1] at z; cases z
  obtain ⟨u, hu, _⟩ := h2.obj
  rw [h] at hu; cases hu
theorem RelS.new0 {a : Addr} (r : RelS K fa c F0 H0 F ρ κ σ H) (h : H a = none) : H0 a = none := by
  cases q : H0 a with
  | none => rfl
  | some u =>
    obtain ⟨u', e⟩ := r.stp.dom a u q
    rw [h] at e; cases e
/-- a value is stored into a slot -/
theorem RelS.putS {i : Nat} {own fr : Bool} {d : D} {v : V} {s : Slot} (r : RelS K fa c F0 H0 F ρ κ σ H) (ef : RepF K fa c F H fr d v) (h0 : fr = true → ∀ a, v = .ref a → H0 a = none)
    (hn : fr = true → ∀ a, v = .ref a → ∀ (j : Nat) (e : D), ρ[j]? = some (Slot.own e) → σ[j]? ≠ some (some (V.ref a))) (es : mkS own d fr = some s) :
    ∃ F2, Sub F F2 ∧ RelS K fa c F0 H0 F2 (ρ.set i s) κ (σ.set i (some v)) H ∧ ∀ b, (fr = true → v ≠ .ref b) → F2 b = F b := by
  unfold mkS at es
  cases own with
  | true =>
    rw [if_pos rfl] at es
    cases fr with
    | false =>
      cases es
      exact ⟨F, Sub.refl _, r.setV ef, fun _ _ => rfl⟩
    | true =>
      cases es
      obtain ⟨a, rfl, o⟩ := ef
      exact ⟨F, Sub.refl _, r.setO o (h0 rfl a rfl) (hn rfl a rfl), fun _ _ => rfl⟩
  | false =>
    rw [if_neg (by simp)] at es
    cases es
    cases fr with
    | false => exact ⟨F, Sub.refl _, r.setV ef, fun _ _ => rfl⟩
    | true =>
      obtain ⟨a, rfl, o⟩ := ef
      obtain ⟨u, hu, _, _⟩ := o.obj
      obtain ⟨F2, s2, sb, r2, oth⟩ := o.freeze r.stp (h0 rfl a rfl)
      have kap2 : Kap c κ F2 H := ⟨r.kap.1, fun b hb => by
        obtain ⟨h1, h2⟩ := r.kap.2 b hb
        have ne : b ≠ a := fun q => o.nc (by rw [← q]; exact hb)
        exact ⟨(oth b ne).trans h1, h2⟩⟩
      have rel2 : RelS K fa c F0 H0 F2 ρ κ σ H := ⟨s2, kap2, r.len, fun j e q => by
          obtain ⟨w, h1, h2⟩ := r.vals j e q
          exact ⟨w, h1, h2.sub sb⟩, fun j e q => by
          obtain ⟨b, h1, h2, h3⟩ := r.owns j e q
          have ne : b ≠ a := fun z => by subst z; exact hn rfl _ rfl j e q h1
          refine ⟨b, h1, ⟨(oth b ne).trans h2.nF, h2.nc, ?_⟩, h3⟩
          have qq := h2.at_
          cases e <;> try exact qq.elim
          · obtain ⟨vs, h, rr⟩ := qq; exact ⟨vs, h, rr.sub sb⟩
          · obtain ⟨vs, h, rr⟩ := qq; exact ⟨vs, h, rr.sub sb⟩
          · obtain ⟨vs, h, rr⟩ := qq; exact ⟨vs, h, rr.sub sb⟩, r.inj, r.tab⟩
      exact ⟨F2, sb, rel2.setV r2, fun b hb => oth b fun z => hb rfl (by rw [z])⟩
theorem RepF.step {fr : Bool} {d : D} {v : V} (e : RepF K fa c F H fr d v) (s : Stp K c F H F1 H1) : RepF K fa c F1 H1 fr d v := by
  cases fr with
  | false => exact Rep.sub s.sub e
  | true =>
    obtain ⟨a, rfl, o⟩ := e
    exact ⟨a, rfl, o.step s⟩
/-- a statement's meaning from an expression's: the expression's end first -/
theorem Out.st {r : R} {g : D → Bool → Kp → RS} {Q1 : VK} (rel : RelS K fa c F0 H0 F ρ κ σ H) (o : OutS K fa cl W c F0 H0 F E (r.st g))
    (h : ∀ d fr κ F1 H1 v, Stp K c F H F1 H1 → Kap c κ F1 H1 → RepF K fa c F1 H1 fr d v → (fr = true → ∀ a, v = .ref a → H a = none) → OutS K fa cl W c F0 H0 F1 E (g d fr κ) → Q1 v H1) : Out K fa cl W c σ F H Q1 r := by
  cases r with
  | ok d fr κ =>
    intro F' H' v s k e fresh
    exact h d fr κ F' H' v s k e fresh (OutS.sub s.sub o)
  | exc k d κ => exact fun F' H' dd s k' e => o σ F' H' dd (rel.stp.trans s) k' e
  | bad => exact o
theorem OutT.st {r : R} {g : Bool → Kp → RS} {Q1 : Bool → Hp → Prop} (rel : RelS K fa c F0 H0 F ρ κ σ H) (o : OutS K fa cl W c F0 H0 F E (r.stT g))
    (h : ∀ b κ F1 H1, Stp K c F H F1 H1 → Kap c κ F1 H1 → OutS K fa cl W c F0 H0 F1 E (g b κ) → Q1 b H1) : OutT K fa cl W c σ F H Q1 truth r := by
  cases r with
  | ok d fr κ =>
    unfold R.stT at o
    dsimp only at o
    cases e : truth d with
    | none => rw [e] at o; exact o.elim
    | some b =>
      rw [e] at o
      exact ⟨b, e, fun F' H' s k => h b κ F' H' s k (OutS.sub s.sub o)⟩
  | exc k d κ => exact fun F' H' dd s k' e => o σ F' H' dd (rel.stp.trans s) k' e
  | bad => exact o
/-- a value that is to be stored -/
structure Pend (K : PySem.W.Frag) (fa : Nat → Option Addr) (c : Option Addr) (H0 F H : Hp) (ρ : Rho) (σ : L2.St) (fr : Bool) (d : D) (v : V) : Prop where
  rep : RepF K fa c F H fr d v
  h0 : fr = true → ∀ a, v = .ref a → H0 a = none
  hn : fr = true → ∀ a, v = .ref a → ∀ (j : Nat) (e : D), ρ[j]? = some (Slot.own e) → σ[j]? ≠ some (some (V.ref a))
theorem RelS.pend {fr : Bool} {d : D} {v : V} (r : RelS K fa c F0 H0 F ρ κ σ H) (e : RepF K fa c F1 H1 fr d v) (fresh : fr = true → ∀ a, v = .ref a → H a = none) : Pend K fa c H0 F1 H1 ρ σ fr d v :=
  ⟨e, fun q a ea => r.new0 (fresh q a ea), fun q a ea => r.notOwn (fresh q a ea)⟩
theorem Pend.step {fr : Bool} {d : D} {v : V} (p : Pend K fa c H0 F H ρ σ fr d v) (s : Stp K c F H F1 H1) : Pend K fa c H0 F1 H1 ρ σ fr d v := ⟨p.rep.step s, p.h0, p.hn⟩
/-- the first of two is stored -/
theorem Pend.after {i : Nat} {own f1 f2 : Bool} {d1 d2 : D} {v1 v2 : V} {s : Slot} {F2 : Hp} (r : RelS K fa c F0 H0 F ρ κ σ H) (e : mkS own d1 f1 = some s) (p : Pend K fa c H0 F H ρ σ f2 d2 v2) (ne : f1 = true → f2 = true → v1 ≠ v2) (sb : Sub F F2)
    (oth : ∀ b, (f1 = true → v1 ≠ .ref b) → F2 b = F b) : Pend K fa c H0 F2 H (ρ.set i s) (σ.set i (some v1)) f2 d2 v2 := by
  refine ⟨?_, p.h0, fun q a ea jj ee qq zz => ?_⟩
  · cases f2 with
    | false => exact Rep.sub sb p.rep
    | true =>
      obtain ⟨b, rfl, ow⟩ := p.rep
      refine ⟨b, rfl, ⟨(oth b fun q z => ne q rfl z).trans ow.nF, ow.nc, ?_⟩⟩
      have qq := ow.at_
      cases d2 <;> try exact qq.elim
      · obtain ⟨vs, h, rr⟩ := qq; exact ⟨vs, h, rr.sub sb⟩
      · obtain ⟨vs, h, rr⟩ := qq; exact ⟨vs, h, rr.sub sb⟩
      · obtain ⟨vs, h, rr⟩ := qq; exact ⟨vs, h, rr.sub sb⟩
  · by_cases hjj : i = jj
    · subst hjj
      by_cases hl : i < σ.length
      · rw [List.getElem?_set_self hl] at zz
        rw [List.getElem?_set_self (by rw [r.len]; exact hl)] at qq
        cases qq
        have zz : v1 = .ref a := Option.some.inj (Option.some.inj zz)
        cases f1 with
        | true => exact ne rfl q (by rw [zz, ea])
        | false =>
          unfold mkS at e
          cases own <;> cases e
      · rw [List.getElem?_eq_none (by rw [List.length_set]; omega)] at zz; cases zz
    · rw [List.getElem?_set_ne hjj] at qq zz
      exact p.hn q a ea jj ee qq zz
/-- two values made one after the other are not one -/
theorem fresh_ne {f1 f2 : Bool} {d1 : D} {v1 v2 : V} (e1 : RepF K fa c F1 H1 f1 d1 v1) (fr2 : f2 = true → ∀ a, v2 = .ref a → H1 a = none) : f1 = true → f2 = true → v1 ≠ v2 := fun q1 q2 e => by
  subst q1 e
  obtain ⟨b, rfl, ow⟩ := e1
  obtain ⟨u, hu, _⟩ := ow.obj
  rw [fr2 q2 b rfl] at hu; cases hu
theorem OutS.putS {i : Nat} {own fr : Bool} {d : D} {v : V} {g : Rho → RS} {P : Prop} (r : RelS K fa c F0 H0 F ρ κ σ H) (p : Pend K fa c H0 F H ρ σ fr d v)
    (o : OutS K fa cl W c F0 H0 F E (PV.putS ρ i (mkS own d fr) g))
    (h : ∀ s F2, mkS own d fr = some s → Sub F F2 → RelS K fa c F0 H0 F2 (ρ.set i s) κ (σ.set i (some v)) H → (∀ b, (fr = true → v ≠ .ref b) → F2 b = F b) → OutS K fa cl W c F0 H0 F2 E (g (ρ.set i s)) → P) : P := by
  cases e : mkS own d fr with
  | none => rw [e] at o; exact o.elim
  | some s =>
    rw [e] at o
    obtain ⟨F2, sb, r2, oth⟩ := r.putS (i := i) p.rep p.h0 p.hn e
    exact h s F2 e sb r2 oth (OutS.sub sb o)
end
section
variable {X : Cx} {fa : Nat → Option Addr} {cl : Nat → ClsI} {W : WX} {st : Stmt} {sts : List Stmt} {a b : SmS} {x y z : Expr} {e t : SmE} {pos : Pos} {i j l : Nat} {n n2 n3 : Str}
theorem sb_nil : SnB X fa cl W [] cNext := PSs.imp (fun D σ H ⟨c, F0, H0, F, ρ, κ, r, o⟩ => o F σ H (Sub.refl _) r) pss_nil
theorem seq_imp {D : Ends} {σ : L2.St} {H : Hp} (h : tSt X fa cl W (cSeq a b) D σ H) : tSt X fa cl W a { D with nx := tSt X fa cl W b D } σ H := by
  obtain ⟨c, F0, H0, F, ρ, κ, r, o⟩ := h
  refine ⟨c, F0, H0, F, ρ, κ, r, ?_⟩
  unfold cSeq at o
  cases ea : a ρ κ with
  | next ρ1 κ1 =>
    rw [ea] at o
    exact fun F' σ' H' sb r' => ⟨c, F0, H0, F', ρ1, κ1, r', OutS.sub sb o⟩
  | brk ρ1 κ1 => rw [ea] at o; exact o
  | cont ρ1 κ1 => rw [ea] at o; exact o
  | ret d fr κ1 => rw [ea] at o; exact o
  | exc k d κ1 => rw [ea] at o; exact o
  | bad => rw [ea] at o; exact o
theorem sb_cons (h1 : SnS X fa cl W st a) (h2 : SnB X fa cl W sts b) : SnB X fa cl W (st :: sts) (cSeq a b) := PSs.imp (fun D σ H h => seq_imp h) (pss_cons h1 h2)
theorem sb_one (h1 : SnS X fa cl W st a) : SnB X fa cl W [st] a := pss_one h1
theorem ss_pass : SnS X fa cl W (.Pass pos) cNext := PS.imp (fun D σ H ⟨c, F0, H0, F, ρ, κ, r, o⟩ => o F σ H (Sub.refl _) r) ps_pass
theorem ss_brk : SnS X fa cl W (.Break pos) cBrk := PS.imp (fun D σ H ⟨c, F0, H0, F, ρ, κ, r, o⟩ => o F σ H (Sub.refl _) r) ps_break
theorem ss_cont : SnS X fa cl W (.Continue pos) cCont := PS.imp (fun D σ H ⟨c, F0, H0, F, ρ, κ, r, o⟩ => o F σ H (Sub.refl _) r) ps_continue
theorem ss_exp (he : SnE X fa cl W x e) (hs : swapsWith x none pos.line X.env = pure false) : SnS X fa cl W (.Expr x pos) (cExp e) := by
  refine PS.imp (fun D σ H ⟨c, F0, H0, F, ρ, κ, r, o⟩ => ?_) (ps_expr he hs)
  exact ⟨c, F0, H0, F, ρ, κ, r, Out.st r o fun d fr κ1 F1 H1 v s k ef fresh o => o F1 σ H1 (Sub.refl _) (r.step s k)⟩
theorem ss_ret (he : SnE X fa cl W x e) : SnS X fa cl W (.Return (some x) pos) (cRet e) := by
  refine PS.imp (fun D σ H ⟨c, F0, H0, F, ρ, κ, r, o⟩ => ?_) (ps_ret he)
  exact ⟨c, F0, H0, F, ρ, κ, r, Out.st r o fun d fr κ1 F1 H1 v s k ef fresh o => o F1 H1 v (r.stp.trans s) k ef fun q a ea => r.new0 (fresh q a ea)⟩
theorem ss_retN : SnS X fa cl W (.Return none pos) cRetN := PS.imp (fun D σ H ⟨c, F0, H0, F, ρ, κ, r, o⟩ => o F H .non r.stp r.kap .non (fun q => nomatch q)) ps_retN
theorem ss_retO {p : Pos} (hN : X.N[i]? = some n) (hv : Vis X.env.scope n) (hd : (n == ("__debug__" : Str)) = false) (hcd : (n == ("__classdict__" : Str)) = false) : SnS X fa cl W (.Return (some (.Name n p)) pos) (cRetO i) := by
  refine PS.imp (fun D σ H ⟨c, F0, H0, F, ρ, κ, r, o⟩ => ?_) (ps_ret (pe_var (i := i) hN hv hd hcd))
  unfold cRetO at o
  split at o
  · rename_i d q
    obtain ⟨a, h1, h2, h3⟩ := r.owns i d q
    exact ⟨_, h1, o F H _ r.stp r.kap ⟨a, rfl, h2⟩ fun _ b eb => by cases eb; exact h3⟩
  · rename_i d q
    obtain ⟨v, h1, h2⟩ := r.vals i d q
    exact ⟨v, h1, o F H v r.stp r.kap h2 (fun q => nomatch q)⟩
  · exact o.elim
theorem ss_set (hN : X.N.Nodup) (hi : X.N[i]? = some n) (hx : Loc X.env.scope n) {p : Pos} {own : Bool} (he : SnE X fa cl W x e) (hs : swapsWith x (some (.Name n p)) pos.line X.env = pure false) (hf : X.fn n = true ∨ X.env.scope.names.lookup n = some .local) :
    SnS X fa cl W (.Assign [.Name n p] x pos) (cSet i own e) := by
  refine PS.imp (fun D σ H ⟨c, F0, H0, F, ρ, κ, r, o⟩ => ?_) (ps_set hN hi hx he hs hf)
  refine ⟨c, F0, H0, F, ρ, κ, r, Out.st r o fun d fr κ1 F1 H1 v s k ef fresh o => ?_⟩
  exact OutS.putS (r.step s k) (r.pend ef fresh) o fun s F2 _ sb r2 _ o => o F2 _ H1 (Sub.refl _) r2
theorem ss_if {xs ys : List Stmt} (ht : SnT X fa cl W x t) (ha : SnB X fa cl W xs a) (hb : SnB X fa cl W ys b) : SnS X fa cl W (.If x xs ys pos) (cIf t a b) := by
  refine PS.imp (fun D σ H ⟨c, F0, H0, F, ρ, κ, r, o⟩ => ?_) (ps_if ht ha hb)
  refine ⟨c, F0, H0, F, ρ, κ, r, OutT.st r o fun k κ1 F1 H1 s kp o => ?_⟩
  cases k with
  | true => exact ⟨c, F0, H0, F1, ρ, κ1, r.step s kp, o⟩
  | false => exact ⟨c, F0, H0, F1, ρ, κ1, r.step s kp, o⟩
theorem ss_unp {ts : List Nat} {tg : Expr} {g : Tg} (he : SnE X fa cl W x e) (hg : SnG X fa ts tg g) (hs : swapsWithSole [tg] x pos.line X.env = pure false) (hw : swappedStores [tg] x X.env = pure none) (h1 : (assignEach [tg] X.env).map (·.2) = [assign tg X.env]) :
    SnS X fa cl W (.Assign [tg] x pos) (cUnp g e) := by
  refine PS.imp (fun D σ H ⟨c, F0, H0, F, ρ, κ, r, o⟩ => ?_) (ps_asg he hg hs hw h1)
  refine ⟨c, F0, H0, F, ρ, κ, r, Out.st r o fun d fr κ1 F1 H1 v s k ef fresh o => ?_⟩
  obtain ⟨F2, s2, k2, sb, e2⟩ := ef.still s k fresh
  cases q : g d ρ with
  | none => rw [q] at o; exact o.elim
  | some ρ1 =>
    rw [q] at o
    exact ⟨c, F0, H0, F2, ρ, κ1, d, ρ1, r.step s2 k2, e2, q, fun σ' r' _ => o F2 σ' H1 sb r'⟩
theorem ss_par2 {px py pt : Pos} {kt k2 : Nat} {pt2 : Pos} {oi oj : Bool} {ea eb : SmE} (hc : X.calm = true) (hN : X.N.Nodup) (hi : X.N[i]? = some n) (hj : X.N[j]? = some n2) (hij : i ≠ j) (hx : X.env.scope.names.lookup n = some .local) (hy : X.env.scope.names.lookup n2 = some .local)
    (ha : SnE X fa cl W x ea) (hb : SnE X fa cl W y eb) (h1 : starEach [x, y] X.env = (false, eval x X.env) :: starEach [y] X.env) (h2 : starEach [y] X.env = (false, eval y X.env) :: starEach [] X.env)
    (hw : swappedStores [.Tuple [.Name n px, .Name n2 py] kt pt] (.Tuple [x, y] k2 pt2) X.env = pure (some [n, n2])) :
    SnS X fa cl W (.Assign [.Tuple [.Name n px, .Name n2 py] kt pt] (.Tuple [x, y] k2 pt2) pos) (cPar2 i oi ea j oj eb) := by
  refine PS.imp (fun D σ H ⟨c, F0, H0, F, ρ, κ, r, o⟩ => ?_) (ps_par hc hN hi hj hij hx hy (pa_cons ha (pa_cons hb pa_nil h2) h1) hw rfl)
  refine ⟨c, F0, H0, F, ρ, κ, r, Out.st r o fun d1 f1 κ1 F1 H1 v1 s1 k1 e1 fr1 o => ?_⟩
  have r1 := r.step s1 k1
  refine ⟨c, F0, H0, F1, ρ, κ1, r1, Out.st r1 o fun d2 f2 κ2 F2 H2 v2 s2 k2 e2 fr2 o => ?_⟩
  have r2 := r1.step s2 k2
  refine ⟨v1, v2, rfl, ?_⟩
  refine OutS.putS r2 ((r.pend e1 fr1).step s2) o fun sl F3 hsl sb r3 oth o => ?_
  exact OutS.putS r3 ((r1.pend e2 fr2).after r2 hsl (fresh_ne e1 fr2) sb oth) o fun sl2 F4 _ sb2 r4 _ o => o F4 _ H2 (Sub.refl _) r4
theorem ss_par3 {px py pz pt : Pos} {kt k2 : Nat} {pt2 : Pos} {oi oj ol : Bool} {ea eb ec : SmE} (hc : X.calm = true) (hN : X.N.Nodup) (hi : X.N[i]? = some n) (hj : X.N[j]? = some n2) (hl : X.N[l]? = some n3) (hij : i ≠ j) (hil : i ≠ l) (hjl : j ≠ l)
    (hx : X.env.scope.names.lookup n = some .local) (hy : X.env.scope.names.lookup n2 = some .local) (hz : X.env.scope.names.lookup n3 = some .local)
    (ha : SnE X fa cl W x ea) (hb : SnE X fa cl W y eb) (hc3 : SnE X fa cl W z ec) (h1 : starEach [x, y, z] X.env = (false, eval x X.env) :: starEach [y, z] X.env) (h2 : starEach [y, z] X.env = (false, eval y X.env) :: starEach [z] X.env) (h3 : starEach [z] X.env = (false, eval z X.env) :: starEach [] X.env)
    (hw : swappedStores [.Tuple [.Name n px, .Name n2 py, .Name n3 pz] kt pt] (.Tuple [x, y, z] k2 pt2) X.env = pure (some [n, n2, n3])) :
    SnS X fa cl W (.Assign [.Tuple [.Name n px, .Name n2 py, .Name n3 pz] kt pt] (.Tuple [x, y, z] k2 pt2) pos) (cPar3 i oi ea j oj eb l ol ec) := by
  refine PS.imp (fun D σ H ⟨c, F0, H0, F, ρ, κ, r, o⟩ => ?_) (ps_par3 hc hN hi hj hl hij hil hjl hx hy hz (pa_cons ha (pa_cons hb (pa_cons hc3 pa_nil h3) h2) h1) hw rfl)
  refine ⟨c, F0, H0, F, ρ, κ, r, Out.st r o fun d1 f1 κ1 F1 H1 v1 s1 k1 e1 fr1 o => ?_⟩
  have r1 := r.step s1 k1
  refine ⟨c, F0, H0, F1, ρ, κ1, r1, Out.st r1 o fun d2 f2 κ2 F2 H2 v2 s2 k2 e2 fr2 o => ?_⟩
  have r2 := r1.step s2 k2
  refine ⟨c, F0, H0, F2, ρ, κ2, r2, Out.st r2 o fun d3 f3 κ3 F3 H3 v3 s3 k3 e3 fr3 o => ?_⟩
  have r3 := r2.step s3 k3
  refine ⟨v1, v2, v3, rfl, ?_⟩
  have p1 := ((r.pend e1 fr1).step s2).step s3
  have p2 := (r1.pend e2 fr2).step s3
  have p3 := r2.pend e3 fr3
  refine OutS.putS r3 p1 o fun sl F4 hsl sb r4 oth o => ?_
  have p2' := p2.after (i := i) r3 hsl (fresh_ne e1 fr2) sb oth
  have p3' := p3.after (i := i) r3 hsl (fresh_ne (e1.step s2) fr3) sb oth
  refine OutS.putS r4 p2' o fun sl2 F5 hsl2 sb2 r5 oth2 o => ?_
  exact OutS.putS r5 (p3'.after (i := j) r4 hsl2 (fresh_ne e2 fr3) sb2 oth2) o fun sl3 F6 _ sb3 r6 _ o => o F6 _ H3 (Sub.refl _) r6
/-! ### for, while -/
theorem ss_for {ts : List Nat} {tg it : Expr} {g : Tg} {mi : SmL} {body : List Stmt} {b : SmS} (hp : PassesOwn (model X.prog X.w) X.A X.env X.xe) (hc : X.calm = true) (hi : SnI X fa cl W tg it mi) (hg : SnG X fa ts tg g) (hb : SnB X fa cl W body b)
    (hs : ∀ x, foldedSetIterable it X.env x = pure x) : SnS X fa cl W (.For tg it body [] pos) (cFor mi g b) := by
  refine PS.imp (fun D σ H ⟨c, F0, H0, F, ρ, κ, r, o⟩ => ?_) (ps_for hp hc hi hg hb hs)
  refine ⟨c, F0, H0, F, ρ, κ, r, ?_⟩
  unfold cFor at o
  cases ei : mi ρ κ with
  | exc k d κ => rw [ei] at o; exact fun F' H' dd s k' e => o σ F' H' dd (r.stp.trans s) k' e
  | bad => rw [ei] at o; exact o
  | ok ds κ1 =>
    rw [ei] at o
    intro F1 H1 J s1 k1 Y
    refine ⟨fun i m σc Hc => m + i = ds.length ∧ ∃ Fc ρc κc, Sub F1 Fc ∧ RelS X.K fa c F0 H0 Fc ρc κc σc Hc ∧ OutS X.K fa cl W c F0 H0 Fc D (forRun g b (ds.drop i) ρc κc), ⟨ds.length, by omega, F1, ρ, κ1, Sub.refl _, r.step s1 k1, OutS.sub s1.sub o⟩, ?_⟩
    rintro i m σc Hc ⟨hm, Fc, ρc, κc, sc, rc, oc⟩
    obtain ⟨Y1, Y2⟩ := Y Fc Hc κc i sc rc.stp.inH rc.kap
    cases ed : ds[i]? with
    | none =>
      refine .inl ⟨Y2 ed, ?_⟩
      have hlen := List.getElem?_eq_none_iff.mp ed
      rw [List.drop_eq_nil_of_le hlen] at oc
      exact oc Fc σc Hc (Sub.refl _) rc
    | some d =>
      obtain ⟨go, yld⟩ := Y1 d ed
      have hi : i < ds.length := (List.getElem?_eq_some_iff.mp ed).1
      have edrop : ds.drop i = d :: ds.drop (i + 1) := by
        rw [List.drop_eq_getElem_cons hi]
        congr 1
        rw [List.getElem?_eq_getElem hi] at ed
        exact Option.some.inj ed
      rw [edrop] at oc
      unfold forRun at oc
      refine .inr ⟨go, _, fun σ' H' n => ⟨m - 1, by omega, n⟩, fun x H' yx => ?_⟩
      obtain ⟨F2, s2, k2, rx⟩ := yld x H' yx
      cases etg : g d ρc with
      | none => rw [etg] at oc; exact oc.elim
      | some ρ1 =>
        rw [etg] at oc
        dsimp only at oc
        refine ⟨c, F0, H0, F2, ρc, κc, d, ρ1, rc.step s2 k2, rx, etg, fun σ2 r2 _ => ⟨c, F0, H0, F2, ρ1, κc, r2, ?_⟩⟩
        have sb2 : Sub F1 F2 := sc.trans s2.sub
        cases eb : b ρ1 κc with
        | next ρ3 κ3 =>
          rw [eb] at oc
          exact fun F' σ' H'' sb r' => ⟨by omega, F', ρ3, κ3, sb2.trans sb, r', OutS.sub (s2.sub.trans sb) oc⟩
        | cont ρ3 κ3 =>
          rw [eb] at oc
          exact fun F' σ' H'' sb r' => ⟨by omega, F', ρ3, κ3, sb2.trans sb, r', OutS.sub (s2.sub.trans sb) oc⟩
        | brk ρ3 κ3 =>
          rw [eb] at oc
          exact fun F' σ' H'' sb r' => oc F' σ' H'' (s2.sub.trans sb) r'
        | ret d fr κ3 => rw [eb] at oc; exact oc
        | exc k d κ3 => rw [eb] at oc; exact oc
        | bad => rw [eb] at oc; exact oc
theorem ss_while {body : List Stmt} {b : SmS} {N : Nat} (hp : PassesOwn (model X.prog X.w) X.A X.env X.xe) (ht : SnT X fa cl W x t) (hb : SnB X fa cl W body b) : SnS X fa cl W (.While x body [] pos) (cWhile N t b) := by
  refine PS.imp (fun D σ H ⟨c, F0, H0, F, ρ, κ, r, o⟩ => ?_) (ps_while hp ht hb)
  refine ⟨fun m σc Hc => ∃ Fc ρc κc, RelS X.K fa c F0 H0 Fc ρc κc σc Hc ∧ OutS X.K fa cl W c F0 H0 Fc D (whRun t b m ρc κc), ⟨N, F, ρ, κ, r, o⟩, ?_⟩
  rintro m σc Hc ⟨Fc, ρc, κc, rc, oc⟩
  cases m with
  | zero => exact oc.elim
  | succ m =>
    unfold whRun at oc
    refine ⟨c, F0, H0, Fc, ρc, κc, rc, OutT.st rc oc fun k κ1 F1 H1 s1 k1 o => ?_⟩
    have r1 := rc.step s1 k1
    cases k with
    | false =>
      show if (false = true) then _ else _
      rw [if_neg (by simp)]
      exact o F1 σc H1 (Sub.refl _) r1
    | true =>
      show if (true = true) then _ else _
      rw [if_pos rfl]
      refine ⟨_, fun σ' H' n => ⟨m, Nat.lt_succ_self m, n⟩, c, F0, H0, F1, ρc, κ1, r1, ?_⟩
      simp only [if_true] at o
      cases eb : b ρc κ1 with
      | next ρ3 κ3 =>
        rw [eb] at o
        exact fun F' σ' H'' sb r' => ⟨F', ρ3, κ3, r', OutS.sub sb o⟩
      | cont ρ3 κ3 =>
        rw [eb] at o
        exact fun F' σ' H'' sb r' => ⟨F', ρ3, κ3, r', OutS.sub sb o⟩
      | brk ρ3 κ3 => rw [eb] at o; exact o
      | ret d fr κ3 => rw [eb] at o; exact o
      | exc k d κ3 => rw [eb] at o; exact o
      | bad => rw [eb] at o; exact o
end
/-! ## what changes in place -/
section
variable {K : PySem.W.Frag} {fa : Nat → Option Addr} {c : Option Addr} {F0 H0 F H : Hp} {ρ : Rho} {κ : Kp} {σ : L2.St}
theorem RelS.put {i : Nat} {a : Addr} {d d' : D} {o' : HO} (r : RelS K fa c F0 H0 F ρ κ σ H) (hi : ρ[i]? = some (.own d)) (hs : σ[i]? = some (some (.ref a))) (hd : OwnD K fa c F (upd H a o') a d') : RelS K fa c F0 H0 F (ρ.set i (.own d')) κ σ (upd H a o') := by
  obtain ⟨b, h1, ow, h0⟩ := r.owns i d hi
  rw [hs] at h1; cases h1
  obtain ⟨u, hu, _, hpl⟩ := ow.obj
  have hl : i < ρ.length := (List.getElem?_eq_some_iff.mp hi).1
  have neF : ∀ b o, F b = some o → b ≠ a := fun b o q z => by subst z; rw [ow.nF] at q; cases q
  have ne0 : ∀ b o, H0 b = some o → b ≠ a := fun b o q z => by subst z; rw [h0] at q; cases q
  refine ⟨⟨r.stp.sub, fun b o q => by rw [upd_ne (neF b o q)]; exact r.stp.inH b o q, r.stp.new, fun b o q n t => by rw [upd_ne (ne0 b o q)]; exact r.stp.keep b o q n t, fun b o q => by rw [upd_ne (ne0 b o q)]; exact r.stp.dom b o q, fun h => tab_plain hu (nk_plain hpl) _ (r.stp.tab h)⟩,
    ⟨r.kap.1, fun b q => ?_⟩, by rw [List.length_set]; exact r.len, fun j e q => ?_, fun j e q => ?_, fun j l e f b hjl q1 q2 q3 => ?_, tab_plain hu (nk_plain hpl) _ r.tab⟩
  · obtain ⟨h1, h2⟩ := r.kap.2 b q
    refine ⟨h1, ?_⟩
    rw [upd_ne (fun z => ow.nc (by rw [← z]; exact q))]
    exact h2
  · by_cases hj : i = j
    · subst hj
      rw [List.getElem?_set_self hl] at q; cases q
    · rw [List.getElem?_set_ne hj] at q
      exact r.vals j e q
  · by_cases hj : i = j
    · subst hj
      rw [List.getElem?_set_self hl] at q; cases q
      exact ⟨a, hs, ⟨ow.nF, ow.nc, hd⟩, h0⟩
    · rw [List.getElem?_set_ne hj] at q
      obtain ⟨b, k1, k2, k3⟩ := r.owns j e q
      have nb : b ≠ a := fun z => by
        subst z
        exact r.inj i j d e b hj hi q hs k1
      refine ⟨b, k1, ⟨k2.nF, k2.nc, ?_⟩, k3⟩
      have qq := k2.at_
      cases e <;> try exact qq.elim
      · obtain ⟨vs, h, rr⟩ := qq; exact ⟨vs, by rw [upd_ne nb]; exact h, rr⟩
      · obtain ⟨vs, h, rr⟩ := qq; exact ⟨vs, by rw [upd_ne nb]; exact h, rr⟩
      · obtain ⟨vs, h, rr⟩ := qq; exact ⟨vs, by rw [upd_ne nb]; exact h, rr⟩
  · by_cases hj : i = j
    · subst hj
      rw [List.getElem?_set_ne hjl] at q2
      exact r.inj i l d f b hjl hi q2 q3
    · rw [List.getElem?_set_ne hj] at q1
      by_cases hll : i = l
      · subst hll
        exact r.inj j i e d b hjl q1 hi q3
      · rw [List.getElem?_set_ne hll] at q2
        exact r.inj j l e f b hjl q1 q2 q3
/-- the draws' own list is written -/
theorem RelS.putC {a : Addr} {κ' : Kp} (r : RelS K fa c F0 H0 F ρ κ σ H) (hc : c = some a) (ho : κ'.on = κ.on) : RelS K fa c F0 H0 F ρ κ' σ (upd H a (.lst [.int κ'.a, .int κ'.b, .int κ'.c])) := by
  obtain ⟨hF, hH⟩ := r.kap.2 a hc
  have neF : ∀ b o, F b = some o → b ≠ a := fun b o q z => by subst z; rw [hF] at q; cases q
  refine ⟨⟨r.stp.sub, fun b o q => by rw [upd_ne (neF b o q)]; exact r.stp.inH b o q, r.stp.new, fun b o q n t => by rw [upd_ne (fun z => n (by rw [z]; exact hc))]; exact r.stp.keep b o q n t, fun b o q => ?_, fun h => tab_plain hH nk_lst _ (r.stp.tab h)⟩,
    ⟨by rw [ho]; exact r.kap.1, fun b q => ?_⟩, r.len, r.vals, fun j e q => ?_, r.inj, tab_plain hH nk_lst _ r.tab⟩
  · by_cases z : b = a
    · subst z; exact ⟨_, upd_same⟩
    · rw [upd_ne z]; exact r.stp.dom b o q
  · rw [hc] at q; cases q
    exact ⟨hF, upd_same⟩
  · obtain ⟨b, k1, k2, k3⟩ := r.owns j e q
    have nb : b ≠ a := fun z => k2.nc (by rw [z]; exact hc)
    refine ⟨b, k1, ⟨k2.nF, k2.nc, ?_⟩, k3⟩
    have qq := k2.at_
    cases e <;> try exact qq.elim
    · obtain ⟨vs, h, rr⟩ := qq; exact ⟨vs, by rw [upd_ne nb]; exact h, rr⟩
    · obtain ⟨vs, h, rr⟩ := qq; exact ⟨vs, by rw [upd_ne nb]; exact h, rr⟩
    · obtain ⟨vs, h, rr⟩ := qq; exact ⟨vs, by rw [upd_ne nb]; exact h, rr⟩
theorem repK_put {d : D} {v : V} (h : Rep K fa c F d v) (k : Key) : ∀ {kvs : List (Key × D)} {ks : List (Key × V)}, RepK K fa c F kvs ks → RepK K fa c F (dputE kvs k d) (putK ks k v) ∧ (dputE kvs k d).length ≤ kvs.length + 1 := by
  have any : ∀ {kvs : List (Key × D)} {ks : List (Key × V)}, RepK K fa c F kvs ks → (kvs.any fun kv => decide (kv.1 = k)) = (ks.any fun kv => decide (kv.1 = k)) := by
    intro kvs
    induction kvs with
    | nil => intro ks r; cases r; rfl
    | cons p kvs ih =>
      intro ks r
      cases r with
      | cons h t => rw [List.any_cons, List.any_cons, ih t]
  have mp : ∀ {kvs : List (Key × D)} {ks : List (Key × V)}, RepK K fa c F kvs ks → RepK K fa c F (kvs.map fun kv => if kv.1 = k then (kv.1, d) else kv) (ks.map fun kv => if kv.1 = k then (kv.1, v) else kv) := by
    intro kvs
    induction kvs with
    | nil => intro ks r; cases r; exact .nil
    | cons p kvs ih =>
      intro ks r
      cases r with
      | cons h' t =>
        rw [List.map_cons, List.map_cons]
        split
        · exact .cons h (ih t)
        · exact .cons h' (ih t)
  have ap : ∀ {kvs : List (Key × D)} {ks : List (Key × V)}, RepK K fa c F kvs ks → RepK K fa c F (kvs ++ [(k, d)]) (ks ++ [(k, v)]) := by
    intro kvs
    induction kvs with
    | nil => intro ks r; cases r; exact .cons h .nil
    | cons p kvs ih =>
      intro ks r
      cases r with
      | cons h' t => exact .cons h' (ih t)
  intro kvs ks r
  unfold dputE putK
  rw [← any r]
  split
  · exact ⟨mp r, by rw [List.length_map]; omega⟩
  · exact ⟨ap r, by rw [List.length_append]; exact Nat.le_refl _⟩
theorem repT_put {d : D} {v : V} (h : Rep K fa c F d v) (k : List Key) : ∀ {kvs : List (List Key × D)} {ks : List (List Key × V)}, RepT K fa c F kvs ks → RepT K fa c F (dputE kvs k d) (putK ks k v) ∧ (dputE kvs k d).length ≤ kvs.length + 1 := by
  have any : ∀ {kvs : List (List Key × D)} {ks : List (List Key × V)}, RepT K fa c F kvs ks → (kvs.any fun kv => decide (kv.1 = k)) = (ks.any fun kv => decide (kv.1 = k)) := by
    intro kvs
    induction kvs with
    | nil => intro ks r; cases r; rfl
    | cons p kvs ih =>
      intro ks r
      cases r with
      | cons h t => rw [List.any_cons, List.any_cons, ih t]
  have mp : ∀ {kvs : List (List Key × D)} {ks : List (List Key × V)}, RepT K fa c F kvs ks → RepT K fa c F (kvs.map fun kv => if kv.1 = k then (kv.1, d) else kv) (ks.map fun kv => if kv.1 = k then (kv.1, v) else kv) := by
    intro kvs
    induction kvs with
    | nil => intro ks r; cases r; exact .nil
    | cons p kvs ih =>
      intro ks r
      cases r with
      | cons h' t =>
        rw [List.map_cons, List.map_cons]
        split
        · exact .cons h (ih t)
        · exact .cons h' (ih t)
  have ap : ∀ {kvs : List (List Key × D)} {ks : List (List Key × V)}, RepT K fa c F kvs ks → RepT K fa c F (kvs ++ [(k, d)]) (ks ++ [(k, v)]) := by
    intro kvs
    induction kvs with
    | nil => intro ks r; cases r; exact .cons h .nil
    | cons p kvs ih =>
      intro ks r
      cases r with
      | cons h' t => exact .cons h' (ih t)
  intro kvs ks r
  unfold dputE putK
  rw [← any r]
  split
  · exact ⟨mp r, by rw [List.length_map]; omega⟩
  · exact ⟨ap r, by rw [List.length_append]; exact Nat.le_refl _⟩
theorem RepK.length : ∀ {ds : List (Key × D)} {vs : List (Key × V)}, RepK K fa c F ds vs → ds.length = vs.length
  | [], _, r => by cases r; rfl
  | _ :: ds, _, r => by
    cases r with
    | cons h t => simp [RepK.length t]
theorem RepT.length : ∀ {ds : List (List Key × D)} {vs : List (List Key × V)}, RepT K fa c F ds vs → ds.length = vs.length
  | [], _, r => by cases r; rfl
  | _ :: ds, _, r => by
    cases r with
    | cons h t => simp [RepT.length t]
theorem RepL.dropLast : ∀ {ds : List D} {vs : List V}, RepL K fa c F ds vs → RepL K fa c F ds.dropLast vs.dropLast := fun {ds vs} r => by
  rw [List.dropLast_eq_take, List.dropLast_eq_take, r.length]
  exact repL_take r _
end
def R.stV (r : R) (g : D → Kp → RS) : RS := match r with
  | .ok d _ κ => g d κ
  | .exc k d κ => .exc k d κ
  | .bad => .bad
def upS (ρ : Rho) (i : Nat) (κ : Kp) (o : Option D) : RS := match o with
  | some d => .next (ρ.set i (.own d)) κ
  | none => .bad
def dApp (ds : List D) (x : D) : Option D := if ds.length < LIM then some (.lst (ds ++ [x])) else none
def dExt (ds : List D) (x : D) : Option D := match x with
  | .lst es => if ds.length + es.length ≤ LIM then some (.lst (ds ++ es)) else none
  | _ => none
def dSubL (ds : List D) (j x : D) : Option D := match j with
  | .int i => (ixN ds.length i).map fun k => .lst (ds.set k x)
  | _ => none
def dSubD (d j x : D) : Option D := match d with
  | .dk kvs => if kvs.length < LIM then (asKey j).map fun k => .dk (dputE kvs k x) else none
  | .dt kvs => if kvs.length < LIM then (match j with
    | .tup ks => (asKeys ks).map fun k => .dt (dputE kvs k x)
    | _ => none) else none
  | _ => none
def Kp.set (κ : Kp) (j : Int) (x : Int) : Option Kp := if j = 0 then some ⟨x, κ.b, κ.c, κ.on⟩ else if j = 1 then some ⟨κ.a, x, κ.c, κ.on⟩ else if j = 2 then some ⟨κ.a, κ.b, x, κ.on⟩ else none
/-- the slot's own thing -/
def ownAt (ρ : Rho) (i : Nat) (g : D → RS) : RS := match ρ[i]? with
  | some (.own d) => g d
  | _ => .bad
def ownL (ρ : Rho) (i : Nat) (g : List D → RS) : RS := match ρ[i]? with
  | some (.own (.lst d)) => g d
  | _ => .bad
def cApp (i : Nat) (e : SmE) : SmS := fun ρ κ => ownL ρ i fun d => (e ρ κ).stV fun x κ => upS ρ i κ (dApp d x)
def cExt (i : Nat) (e : SmE) : SmS := fun ρ κ => ownL ρ i fun d => (e ρ κ).stV fun x κ => upS ρ i κ (dExt d x)
def cSubL (i : Nat) (j e : SmE) : SmS := fun ρ κ => ownL ρ i fun d => (e ρ κ).stV fun x κ => (j ρ κ).stV fun y κ => upS ρ i κ (dSubL d y x)
def cSubD (i : Nat) (j e : SmE) : SmS := fun ρ κ => ownAt ρ i fun d => (e ρ κ).stV fun x κ => (j ρ κ).stV fun y κ => upS ρ i κ (dSubD d y x)
def cSubC (i : Nat) (j e : SmE) : SmS := fun ρ κ => match ρ[i]? with
  | some (.val .cro) => (e ρ κ).stV fun x κ => (j ρ κ).stV fun y κ => match x, y with
    | .int x, .int y => (match κ.set y x with
      | some κ => .next ρ κ
      | none => .bad)
    | _, _ => .bad
  | _ => .bad
/-- the last item is taken, and handed on -/
def cPop (i : Nat) (g : D → SmS) : SmS := fun ρ κ => ownL ρ i fun ds => match ds[ds.length - 1]? with
  | some x => g x (ρ.set i (.own (.lst ds.dropLast))) κ
  | none => .bad
def fIAdd : D → D → O1 | .int a, .int b => some (.int (a + b), false) | _, _ => none
def fIMul : D → D → O1 | .int a, .int b => if big a && big b then some (.int (a * b), false) else none | _, _ => none
def fIDiv : D → D → O1 | .int a, .int b => if decide (0 < b) && big b then some (.int (a / b), false) else none | _, _ => none
def cAug (i : Nat) (f : D → D → O1) (e : SmE) : SmS := fun ρ κ => match ρ[i]? with
  | some (.val d) => (e ρ κ).stV fun x κ => (match f d x with
    | some (z, false) => .next (ρ.set i (.val z)) κ
    | _ => .bad)
  | _ => .bad
section
variable {X : Cx} {fa : Nat → Option Addr} {cl : Nat → ClsI} {W : WX} {K : PySem.W.Frag} {c : Option Addr} {F0 H0 F H F1 H1 : Hp} {ρ : Rho} {κ : Kp} {σ : L2.St} {Q : VK} {E : Ends} {st : Stmt} {x y z : Expr} {e t ej : SmE} {pos p apos cpos : Pos} {i j l : Nat} {n : Str}
theorem Out.stV {r : R} {g : D → Kp → RS} {Q1 : VK} (rel : RelS K fa c F0 H0 F ρ κ σ H) (o : OutS K fa cl W c F0 H0 F E (r.stV g))
    (h : ∀ d κ F1 H1 v, Stp K c F H F1 H1 → Kap c κ F1 H1 → Rep K fa c F1 d v → OutS K fa cl W c F0 H0 F1 E (g d κ) → Q1 v H1) : Out K fa cl W c σ F H Q1 r := by
  cases r with
  | ok d fr κ =>
    intro F' H' v s k e fresh
    obtain ⟨F2, s2, k2, _, e2⟩ := e.still s k fresh
    exact h d κ F2 H' v s2 k2 e2 (OutS.sub s2.sub o)
  | exc k d κ => exact fun F' H' dd s k' e => o σ F' H' dd (rel.stp.trans s) k' e
  | bad => exact o
/-- the receiver of a list's own method -/
theorem own_recv {ds : List D} (r : RelS K fa c F0 H0 F ρ κ σ H) (q : ρ[i]? = some (.own (.lst ds))) : ∃ a vs, σ[i]? = some (some (.ref a)) ∧ tyV K "list" (.ref a) H ∧ H a = some (.lst vs) ∧ RepL K fa c F ds vs ∧ Own K fa c F H a (.lst ds) := by
  obtain ⟨a, hs, ow, h0⟩ := r.owns i _ q
  obtain ⟨vs, h, t⟩ := ow.at_
  exact ⟨a, vs, hs, .inl ⟨rfl, vs, SqL.of h⟩, h, t, ow⟩
theorem ownL_at {g : List D → RS} (o : OutS K fa cl W c F0 H0 F E (ownL ρ i g)) : ∃ ds, ρ[i]? = some (.own (.lst ds)) ∧ OutS K fa cl W c F0 H0 F E (g ds) := by
  unfold ownL at o
  split at o
  · rename_i ds q
    exact ⟨ds, q, o⟩
  · exact o.elim
theorem upS_at {o' : Option D} (o : OutS K fa cl W c F0 H0 F E (upS ρ i κ o')) : ∃ d, o' = some d ∧ OutS K fa cl W c F0 H0 F E (.next (ρ.set i (.own d)) κ) := by
  unfold upS at o
  split at o
  · exact ⟨_, rfl, o⟩
  · exact o.elim
theorem ss_app (hN : X.N[i]? = some n) (hv : Vis X.env.scope n) (hd : (n == ("__debug__" : Str)) = false) (hcd : (n == ("__classdict__" : Str)) = false) (he : SnE X fa cl W x e) (h1 : starEach [x] X.env = (false, eval x X.env) :: starEach [] X.env) (hline : (apos.endLine == cpos.line) = true) :
    SnS X fa cl W (.Expr (.Call (.Attribute (.Name n p) "append" apos) [x] [] cpos) pos) (cApp i e) := by
  have hst : starEach [x] X.env = [(false, eval x X.env)] := h1
  refine PS.imp (fun D σ H ⟨c, F0, H0, F, ρ, κ, r, o⟩ => ?_) (ps_expr (pe_bm PySem.F.plainAttrs_list PySem.F.slot_list_append PySem.F.type_list_append mt_append (pe_var (i := i) hN hv hd hcd) (pa_cons he pa_nil h1) rfl (by rw [hst] <;> rfl) hline h1 rfl) rfl)
  obtain ⟨ds, q, o⟩ := ownL_at o
  obtain ⟨a, vs0, hs, ty, _, _, ow⟩ := own_recv r q
  refine ⟨.ref a, hs, ty, c, F0, H0, F, ρ, κ, r, Out.stV r o fun d2 κ1 F1 H1 v s1 k1 r1 o => ?_⟩
  obtain ⟨d3, e3, o⟩ := upS_at o
  unfold dApp at e3
  split at e3
  · rename_i hz
    cases e3
    obtain ⟨vs, hH, rl⟩ := (ow.step s1).at_
    exact ⟨a, vs, v, rfl, rfl, hH, by rw [← rl.length]; exact Nat.lt_of_lt_of_le hz lim_le, o F1 σ _ (Sub.refl _) ((r.step s1 k1).put q hs ⟨_, upd_same, rl.append (.cons r1 .nil)⟩)⟩
  · cases e3
theorem ss_ext (hN : X.N[i]? = some n) (hv : Vis X.env.scope n) (hd : (n == ("__debug__" : Str)) = false) (hcd : (n == ("__classdict__" : Str)) = false) (he : SnE X fa cl W x e) (h1 : starEach [x] X.env = (false, eval x X.env) :: starEach [] X.env) (hline : (apos.endLine == cpos.line) = true) :
    SnS X fa cl W (.Expr (.Call (.Attribute (.Name n p) "extend" apos) [x] [] cpos) pos) (cExt i e) := by
  have hst : starEach [x] X.env = [(false, eval x X.env)] := h1
  refine PS.imp (fun D σ H ⟨c, F0, H0, F, ρ, κ, r, o⟩ => ?_) (ps_expr (pe_bm PySem.F.plainAttrs_list PySem.F.slot_list_extend PySem.F.type_list_extend mt_extend (pe_var (i := i) hN hv hd hcd) (pa_cons he pa_nil h1) rfl (by rw [hst] <;> rfl) hline h1 rfl) rfl)
  obtain ⟨ds, q, o⟩ := ownL_at o
  obtain ⟨a, vs0, hs, ty, _, _, ow⟩ := own_recv r q
  refine ⟨.ref a, hs, ty, c, F0, H0, F, ρ, κ, r, Out.stV r o fun d2 κ1 F1 H1 v s1 k1 r1 o => ?_⟩
  obtain ⟨d3, e3, o⟩ := upS_at o
  unfold dExt at e3
  split at e3
  · split at e3
    · rename_i hz
      cases e3
      cases r1 with
      | lst hb tb =>
        obtain ⟨vs, hH, rl⟩ := (ow.step s1).at_
        exact ⟨a, _, vs, _, rfl, rfl, hH, s1.inH _ _ hb, by rw [← rl.length, ← tb.length]; exact Nat.le_trans hz lim_le, o F1 σ _ (Sub.refl _) ((r.step s1 k1).put q hs ⟨_, upd_same, rl.append tb⟩)⟩
    · cases e3
  · cases e3
theorem swSole_of {tg : Expr} {ln : Nat} (h : swapsWith x (some tg) ln X.env = pure false) : swapsWithSole [tg] x ln X.env = pure false := h
theorem ss_subL (hN : X.N[i]? = some n) (hv : Vis X.env.scope n) (hd : (n == ("__debug__" : Str)) = false) (hcd : (n == ("__classdict__" : Str)) = false) {tp : Pos} (he : SnE X fa cl W x e) (hj : SnE X fa cl W y ej)
    (ha : ∀ v, assign (.Subscript (.Name n p) y tp) X.env v = (do
      let ov ← holding [v] (eval (.Name n p) X.env)
      let iv ← holding [v, ov] (eval y X.env)
      standAt tp
      holding [v, ov, iv] (setItem ov iv v)
      release [v, ov, iv] [])) (hs : swapsWith x (some (.Subscript (.Name n p) y tp)) pos.line X.env = pure false) (hw : swappedStores [.Subscript (.Name n p) y tp] x X.env = pure none) :
    SnS X fa cl W (.Assign [.Subscript (.Name n p) y tp] x pos) (cSubL i ej e) := by
  refine PS.imp (fun D σ H ⟨c, F0, H0, F, ρ, κ, r, o⟩ => ?_) (ps_asg he (pg_sub (pe_var (i := i) hN hv hd hcd) hj set_list ha) (swSole_of hs) hw rfl)
  obtain ⟨ds, q, o⟩ := ownL_at o
  obtain ⟨a, vs0, hss, ty, _, _, ow⟩ := own_recv r q
  refine ⟨c, F0, H0, F, ρ, κ, r, Out.stV r o fun d2 κ1 F1 H1 v s1 k1 r1 o => ?_⟩
  have rel1 := r.step s1 k1
  refine ⟨.ref a, hss, c, F0, H0, F1, ρ, κ1, rel1, Out.stV rel1 o fun d4 κ2 F2 H2 v2 s2 k2 r2 o => ?_⟩
  obtain ⟨d3, e3, o⟩ := upS_at o
  unfold dSubL at e3
  split at e3
  · obtain ⟨k, ek, e3⟩ := Option.map_eq_some_iff.mp e3
    cases e3
    cases r2
    obtain ⟨vs, hH, rl⟩ := ((ow.step s1).step s2).at_
    exact ⟨a, vs, _, k, rfl, rfl, hH, by rw [← rl.length]; exact ek, o F2 σ _ (Sub.refl _) ((rel1.step s2 k2).put q hss ⟨_, upd_same, RepL.set (r1.sub s2.sub) k rl⟩)⟩
  · cases e3
theorem ss_subC (hN : X.N[i]? = some n) (hv : Vis X.env.scope n) (hd : (n == ("__debug__" : Str)) = false) (hcd : (n == ("__classdict__" : Str)) = false) {tp : Pos} (he : SnE X fa cl W x e) (hj : SnE X fa cl W y ej)
    (ha : ∀ v, assign (.Subscript (.Name n p) y tp) X.env v = (do
      let ov ← holding [v] (eval (.Name n p) X.env)
      let iv ← holding [v, ov] (eval y X.env)
      standAt tp
      holding [v, ov, iv] (setItem ov iv v)
      release [v, ov, iv] [])) (hs : swapsWith x (some (.Subscript (.Name n p) y tp)) pos.line X.env = pure false) (hw : swappedStores [.Subscript (.Name n p) y tp] x X.env = pure none) :
    SnS X fa cl W (.Assign [.Subscript (.Name n p) y tp] x pos) (cSubC i ej e) := by
  refine PS.imp (fun D σ H ⟨c, F0, H0, F, ρ, κ, r, o⟩ => ?_) (ps_asg he (pg_sub (pe_var (i := i) hN hv hd hcd) hj set_list ha) (swSole_of hs) hw rfl)
  unfold cSubC at o
  split at o
  · rename_i q
    obtain ⟨w, hss, rc⟩ := r.vals i _ q
    cases rc with
    | cro hc =>
      rename_i a
      refine ⟨c, F0, H0, F, ρ, κ, r, Out.stV r o fun d2 κ1 F1 H1 v s1 k1 r1 o => ?_⟩
      have rel1 := r.step s1 k1
      refine ⟨.ref a, hss, c, F0, H0, F1, ρ, κ1, rel1, Out.stV rel1 o fun d4 κ2 F2 H2 v2 s2 k2 r2 o => ?_⟩
      split at o
      · cases r1; cases r2
        rename_i xi yi oo
        split at o
        · rename_i κ' ek
          obtain ⟨_, hH⟩ := k2.2 a hc
          have ho : κ'.on = κ2.on := by
            unfold Kp.set at ek
            split at ek
            · cases ek; rfl
            · split at ek
              · cases ek; rfl
              · split at ek
                · cases ek; rfl
                · cases ek
          have key : ∃ j, ixN ([.int κ2.a, .int κ2.b, .int κ2.c] : List V).length yi = some j ∧ ([.int κ2.a, .int κ2.b, .int κ2.c] : List V).set j (.int xi) = [.int κ'.a, .int κ'.b, .int κ'.c] := by
            unfold Kp.set at ek
            split at ek
            · rename_i z; subst z; cases ek; exact ⟨0, rfl, rfl⟩
            · split at ek
              · rename_i z; subst z; cases ek; exact ⟨1, rfl, rfl⟩
              · split at ek
                · rename_i z; subst z; cases ek; exact ⟨2, rfl, rfl⟩
                · cases ek
          obtain ⟨j, hj, ej⟩ := key
          refine ⟨a, _, _, j, rfl, rfl, hH, hj, ?_⟩
          rw [ej]
          exact o F2 σ _ (Sub.refl _) ((rel1.step s2 k2).putC hc ho)
        · exact o.elim
      · exact o.elim
  · exact o.elim
theorem ss_subD (hu : X.A.units + 1 < cLine) (hN : X.N[i]? = some n) (hv : Vis X.env.scope n) (hd : (n == ("__debug__" : Str)) = false) (hcd : (n == ("__classdict__" : Str)) = false) {tp : Pos} (he : SnE X fa cl W x e) (hj : SnE X fa cl W y ej)
    (hs : swapsWith x (some (.Subscript (.Name n p) y tp)) pos.line X.env = pure false) : SnS X fa cl W (.Assign [.Subscript (.Name n p) y tp] x pos) (cSubD i ej e) := by
  refine PS.imp (fun D σ H ⟨c, F0, H0, F, ρ, κ, r, o⟩ => ?_) (ps_dput hu (pe_var (i := i) hN hv hd hcd) hj he hs)
  unfold cSubD ownAt at o
  split at o
  · rename_i d q
    obtain ⟨a, hss, ow, h0⟩ := r.owns i _ q
    refine ⟨c, F0, H0, F, ρ, κ, r, Out.stV r o fun d2 κ1 F1 H1 v s1 k1 r1 o => ?_⟩
    have rel1 := r.step s1 k1
    refine ⟨.ref a, hss, c, F0, H0, F1, ρ, κ1, rel1, Out.stV rel1 o fun d4 κ2 F2 H2 v2 s2 k2 r2 o => ?_⟩
    obtain ⟨d3, e3, o⟩ := upS_at o
    have ow2 := (ow.step s1).step s2
    have r1' := r1.sub s2.sub
    unfold dSubD at e3
    split at e3
    · split at e3
      · rename_i hz
        obtain ⟨k, ek, e3⟩ := Option.map_eq_some_iff.mp e3
        cases e3
        obtain ⟨ks, hH, rl⟩ := ow2.at_
        refine ⟨a, _, rfl, .inl ⟨ks, k, hH, asKey_rep r2 ek, ?_, rfl⟩, o F2 σ _ (Sub.refl _) ((rel1.step s2 k2).put q hss ⟨_, upd_same, (repK_put r1' k rl).1⟩)⟩
        rw [← rl.length]; exact Nat.lt_of_lt_of_le hz lim_le
      · cases e3
    · split at e3
      · rename_i hz
        split at e3
        · obtain ⟨k, ek, e3⟩ := Option.map_eq_some_iff.mp e3
          cases e3
          obtain ⟨ks, hH, rl⟩ := ow2.at_
          cases r2 with
          | tup hb tb =>
            refine ⟨a, _, rfl, .inr ⟨ks, k, _, hH, rfl, by rw [← asKeys_rep tb ek]; exact s2.inH _ _ hb, ?_, rfl⟩, o F2 σ _ (Sub.refl _) ((rel1.step s2 k2).put q hss ⟨_, upd_same, (repT_put r1' k rl).1⟩)⟩
            rw [← rl.length]; exact Nat.lt_of_lt_of_le hz lim_le
        · cases e3
      · cases e3
    · cases e3
  · exact o.elim
/-- name op= e of ints -/
theorem ss_aug {op : Operator} {f : D → D → O1} {tp : Pos} (hN : X.N.Nodup) (hi : X.N[i]? = some n) (hx : Loc X.env.scope n) (he : SnE X fa cl W x e) (ho : OpR X (inplaceOp op) (rOp X.K fa f)) (hf : X.fn n = true ∨ X.env.scope.names.lookup n = some .local) :
    SnS X fa cl W (.AugAssign (.Name n tp) op x pos) (cAug i f e) := by
  refine PS.imp (fun D σ H ⟨c, F0, H0, F, ρ, κ, r, o⟩ => ?_) (ps_aug hN hi hx he ho hf)
  unfold cAug at o
  split at o
  · rename_i d q
    obtain ⟨v, hs, rv⟩ := r.vals i d q
    refine ⟨v, hs, c, F0, H0, F, ρ, κ, r, Out.stV r o fun d2 κ1 F1 H1 v2 s1 k1 r1 o => ?_⟩
    split at o
    · rename_i zz ez
      exact ⟨c, F1, κ1, d, d2, zz, false, s1.inH, k1, rv.sub s1.sub, r1, ez, fun F' H' w s' k' rw' _ => o F' _ H' s'.sub (((r.step s1 k1).step s' k').setV rw')⟩
    · exact o.elim
  · exact o.elim
theorem op_iints {op : Operator} {f : D → D → O1} {C : Int → Int → Prop} {g : Int → Int → Int} (hf : ∀ dx dy p, f dx dy = some p → ∃ a b, dx = .int a ∧ dy = .int b ∧ C a b ∧ p = (.int (g a b), false))
    (rule : ∀ (a b : Int) (t u : Tok) (s : Shared) (Q : Value → Shared → Prop) (E : Value → Shared → Prop), C a b → Q (.int (g a b) s.toks) { s with toks := s.toks + 1 } → wpAny (model X.prog X.w) X.A (inplaceOp op (.int a t) (.int b u)) Q E s) :
    OpR X (inplaceOp op) (rOp X.K fa f) := by
  intro pins s σ H x y v u Q I rx ry h
  obtain ⟨c, F, κ, dx, dy, d, fr, hF, k, r1, r2, e, o⟩ := h
  obtain ⟨a, b, rfl, rfl, hc, e2⟩ := hf _ _ _ e
  cases e2
  cases r1; cases r2
  obtain ⟨t, rfl⟩ := rx
  obtain ⟨t', rfl⟩ := ry
  exact rule a b t t' s _ _ hc ⟨.int _, H, I.tok _, ⟨_, rfl⟩, fin0 hF k o (.int _)⟩
theorem op_IAdd : OpR X (inplaceOp .Add) (rOp X.K fa fIAdd) := op_iints (C := fun _ _ => True) (g := fun a b => a + b) (fun dx dy p e => by
  unfold fIAdd at e
  split at e
  · cases e; exact ⟨_, _, rfl, rfl, trivial, rfl⟩
  · cases e) fun a b t u s Q E _ q => iadd_int q
theorem op_IMul : OpR X (inplaceOp .Mult) (rOp X.K fa fIMul) := op_iints (C := fun a b => big a = true ∧ big b = true) (g := fun a b => a * b) (fun dx dy p e => by
  unfold fIMul at e
  split at e
  · split at e
    · cases e
      rename_i hb
      exact ⟨_, _, rfl, rfl, Bool.and_eq_true_iff.mp hb, rfl⟩
    · cases e
  · cases e) fun a b t u s Q E hc q => imul_int q (CMulW.ok (by
      have l1 := big_log hc.1
      have l2 := big_log hc.2
      unfold CMulW
      omega))
theorem op_IDiv : OpR X (inplaceOp .FloorDiv) (rOp X.K fa fIDiv) := op_iints (C := fun a b => 0 < b ∧ big b = true) (g := fun a b => a / b) (fun dx dy p e => by
  unfold fIDiv at e
  split at e
  · split at e
    · cases e
      rename_i hb
      simp only [Bool.and_eq_true, decide_eq_true_eq] at hb
      exact ⟨_, _, rfl, rfl, hb, rfl⟩
    · cases e
  · cases e) fun a b t u s Q E hc q => ifloordiv_int (by omega) (by rw [Int.fdiv_eq_ediv_of_nonneg a (by omega)]; exact q) (.inl (PyProof.noPylong_of_log2 (by have := big_log hc.2; omega)))
end
/-! ## x = l.pop(), x, y = l.pop(), l.pop() -/
def cPopU (i : Nat) (g : Tg) : SmS := fun ρ κ => ownL ρ i fun ds => match ds[ds.length - 1]? with
  | some x => (match g x (ρ.set i (.own (.lst ds.dropLast))) with
    | some ρ' => .next ρ' κ
    | none => .bad)
  | none => .bad
def cPopX (i : Nat) : SmS := fun ρ κ => ownL ρ i fun ds => match ds[ds.length - 1]? with
  | some _ => .next (ρ.set i (.own (.lst ds.dropLast))) κ
  | none => .bad
section
variable {X : Cx} {fa : Nat → Option Addr} {cl : Nat → ClsI} {W : WX} {K : PySem.W.Frag} {c : Option Addr} {F0 H0 F H F1 H1 : Hp} {ρ : Rho} {κ : Kp} {σ : L2.St} {Q : VK} {E : Ends} {pos p apos cpos : Pos} {i : Nat} {n : Str}
theorem ss_popU {ts : List Nat} {tg : Expr} {g : Tg} (hN : X.N[i]? = some n) (hv : Vis X.env.scope n) (hd : (n == ("__debug__" : Str)) = false) (hcd : (n == ("__classdict__" : Str)) = false) (hg : SnG X fa ts tg g) (hline : (apos.endLine == cpos.line) = true)
    (hs : swapsWithSole [tg] (.Call (.Attribute (.Name n p) "pop" apos) [] [] cpos) pos.line X.env = pure false) (hw : swappedStores [tg] (.Call (.Attribute (.Name n p) "pop" apos) [] [] cpos) X.env = pure none) (h1 : (assignEach [tg] X.env).map (·.2) = [assign tg X.env]) :
    SnS X fa cl W (.Assign [tg] (.Call (.Attribute (.Name n p) "pop" apos) [] [] cpos) pos) (cPopU i g) := by
  refine PS.imp (fun D σ H ⟨c, F0, H0, F, ρ, κ, r, o⟩ => ?_) (ps_asg (pe_bm0 PySem.F.plainAttrs_list PySem.F.slot_list_pop PySem.F.type_list_pop mt_pop (pe_var (i := i) hN hv hd hcd) rfl hline) hg hs hw h1)
  obtain ⟨ds, q, o⟩ := ownL_at o
  obtain ⟨a, vs, hs, ty, hH, rl, ow⟩ := own_recv r q
  cases hx : ds[ds.length - 1]? with
  | none => rw [hx] at o; exact o.elim
  | some x =>
    rw [hx] at o
    cases hq : g x (ρ.set i (.own (.lst ds.dropLast))) with
    | none => simp only [hq] at o; exact o.elim
    | some ρ1 =>
      simp only [hq] at o
      obtain ⟨w, hw', rw'⟩ := rl.get hx
      rw [rl.length] at hw'
      have r2 := r.put q hs (d' := .lst ds.dropLast) (o' := .lst vs.dropLast) ⟨_, upd_same, rl.dropLast⟩
      exact ⟨.ref a, hs, ty, a, vs, w, rfl, rfl, hH, hw', c, F0, H0, F, _, κ, x, ρ1, r2, rw', hq, fun σ' r' _ => o F σ' _ (Sub.refl _) r'⟩
theorem ss_popX (hN : X.N[i]? = some n) (hv : Vis X.env.scope n) (hd : (n == ("__debug__" : Str)) = false) (hcd : (n == ("__classdict__" : Str)) = false) (hline : (apos.endLine == cpos.line) = true) :
    SnS X fa cl W (.Expr (.Call (.Attribute (.Name n p) "pop" apos) [] [] cpos) pos) (cPopX i) := by
  refine PS.imp (fun D σ H ⟨c, F0, H0, F, ρ, κ, r, o⟩ => ?_) (ps_expr (pe_bm0 PySem.F.plainAttrs_list PySem.F.slot_list_pop PySem.F.type_list_pop mt_pop (pe_var (i := i) hN hv hd hcd) rfl hline) rfl)
  obtain ⟨ds, q, o⟩ := ownL_at o
  obtain ⟨a, vs, hs, ty, hH, rl, ow⟩ := own_recv r q
  cases hx : ds[ds.length - 1]? with
  | none => rw [hx] at o; exact o.elim
  | some x =>
    rw [hx] at o
    obtain ⟨w, hw', rw'⟩ := rl.get hx
    rw [rl.length] at hw'
    have r2 := r.put q hs (d' := .lst ds.dropLast) (o' := .lst vs.dropLast) ⟨_, upd_same, rl.dropLast⟩
    exact ⟨.ref a, hs, ty, a, vs, w, rfl, rfl, hH, hw', o F σ _ (Sub.refl _) r2⟩
end
/-! ## an owned thing is lent to an expression -/
mutual
def D.flat : D → Bool
  | .non | .bl _ | .int _ | .str _ | .ty _ | .fn _ | .cro => true
  | .tup xs => flatL xs
  | _ => false
def flatL : List D → Bool
  | [] => true
  | d :: r => d.flat && flatL r
end
def flatK {κ : Type} : List (κ × D) → Bool
  | [] => true
  | d :: r => d.2.flat && flatK r
def flatR (d : D) (fr : Bool) : Bool := match fr, d with
  | true, .lst xs => flatL xs
  | true, .dk kvs => flatK kvs
  | true, .dt kvs => flatK kvs
  | false, d => d.flat
  | _, _ => false
def cLend (i : Nat) (m : SmE) : SmE := fun ρ κ => match ρ[i]? with
  | some (.own d) => (match m (ρ.set i (.val d)) κ with
    | .ok x fr κ => if flatR x fr then .ok x fr κ else .bad
    | .exc k x κ => if x.flat then .exc k x κ else .bad
    | .bad => .bad)
  | _ => m ρ κ
section
variable {X : Cx} {fa : Nat → Option Addr} {cl : Nat → ClsI} {W : WX} {K : PySem.W.Frag} {c : Option Addr} {F0 H0 F H F1 H1 : Hp} {ρ : Rho} {κ : Kp} {σ : L2.St} {Q : VK} {x : Expr} {m : SmE} {i : Nat}
def NotTup : HO → Prop
  | .tup _ => False
  | _ => True
def del1 (F : Hp) (a : Addr) : Hp := fun b => if b = a then none else F b
theorem del1_ne {a b : Addr} (h : b ≠ a) : del1 F a b = F b := by unfold del1; rw [if_neg h]
theorem del1_same {a : Addr} : del1 F a a = none := by unfold del1; rw [if_pos rfl]
mutual
theorem Rep.del {a : Addr} (h : ∀ o, F a = some o → NotTup o) : ∀ (d : D) (v : V), d.flat = true → Rep K fa c F d v → Rep K fa c (del1 F a) d v
  | .non, v, _, r => by cases r; exact .non
  | .bl b, v, _, r => by cases r; exact .bl b
  | .int b, v, _, r => by cases r; exact .int b
  | .str b, v, _, r => by cases r; exact .str b
  | .ty b, v, _, r => by cases r; exact .ty b
  | .fn b, v, _, r => by
    cases r with
    | fn h => exact .fn h
  | .cro, v, _, r => by
    cases r with
    | cro h => exact .cro h
  | .tup xs, v, e, r => by
    cases r with
    | tup hq t =>
      refine .tup ?_ (RepL.del h xs _ e t)
      rw [del1_ne]
      · exact hq
      · intro z; subst z; exact h _ hq
  | .lst _, _, e, _ => Bool.noConfusion e
  | .scr _, _, e, _ => Bool.noConfusion e
  | .dk _, _, e, _ => Bool.noConfusion e
  | .dt _, _, e, _ => Bool.noConfusion e
  | .fdk _, _, e, _ => Bool.noConfusion e
  | .nd, _, e, _ => Bool.noConfusion e
  | .fdt _, _, e, _ => Bool.noConfusion e
theorem RepL.del {a : Addr} (h : ∀ o, F a = some o → NotTup o) : ∀ (d : List D) (v : List V), flatL d = true → RepL K fa c F d v → RepL K fa c (del1 F a) d v
  | [], v, _, r => by cases r; exact .nil
  | x :: xs, v, e, r => by
    unfold flatL at e
    obtain ⟨e1, e2⟩ := Bool.and_eq_true_iff.mp e
    cases r with
    | cons h1 t => exact .cons (Rep.del h x _ e1 h1) (RepL.del h xs _ e2 t)
end
theorem RepK.del {a : Addr} (h : ∀ o, F a = some o → NotTup o) : ∀ (d : List (Key × D)) (v : List (Key × V)), flatK d = true → RepK K fa c F d v → RepK K fa c (del1 F a) d v
  | [], v, _, r => by cases r; exact .nil
  | x :: xs, v, e, r => by
    unfold flatK at e
    obtain ⟨e1, e2⟩ := Bool.and_eq_true_iff.mp e
    cases r with
    | cons h1 t => exact .cons (Rep.del h _ _ e1 h1) (RepK.del h xs _ e2 t)
theorem RepT.del {a : Addr} (h : ∀ o, F a = some o → NotTup o) : ∀ (d : List (List Key × D)) (v : List (List Key × V)), flatK d = true → RepT K fa c F d v → RepT K fa c (del1 F a) d v
  | [], v, _, r => by cases r; exact .nil
  | x :: xs, v, e, r => by
    unfold flatK at e
    obtain ⟨e1, e2⟩ := Bool.and_eq_true_iff.mp e
    cases r with
    | cons h1 t => exact .cons (Rep.del h _ _ e1 h1) (RepT.del h xs _ e2 t)
theorem sn_lend (h : SnE X fa cl W x m) : SnE X fa cl W x (cLend i m) := by
  refine PE.imp (fun σ H Q ⟨c, F0, H0, F, ρ, κ, r, o⟩ => ?_) h
  unfold cLend at o
  split at o
  · rename_i d q
    obtain ⟨a, hs, ow, h0⟩ := r.owns i d q
    obtain ⟨u, hu, nt, _⟩ := ow.obj
    obtain ⟨F', s', sb, rd, oth⟩ := ow.freeze r.stp h0
    have hl : i < ρ.length := (List.getElem?_eq_some_iff.mp q).1
    have rel' : RelS X.K fa c F0 H0 F' (ρ.set i (.val d)) κ σ H := by
      refine ⟨s', ⟨r.kap.1, fun b hb => ?_⟩, by rw [List.length_set]; exact r.len, fun j e qq => ?_, fun j e qq => ?_, fun j l e f b hjl q1 q2 q3 => ?_, r.tab⟩
      · obtain ⟨h1, h2⟩ := r.kap.2 b hb
        exact ⟨(oth b fun z => ow.nc (by rw [← z]; exact hb)).trans h1, h2⟩
      · by_cases hj : i = j
        · subst hj
          rw [List.getElem?_set_self hl] at qq; cases qq
          exact ⟨_, hs, rd⟩
        · rw [List.getElem?_set_ne hj] at qq
          obtain ⟨w, h1, h2⟩ := r.vals j e qq
          exact ⟨w, h1, h2.sub sb⟩
      · by_cases hj : i = j
        · subst hj
          rw [List.getElem?_set_self hl] at qq; cases qq
        · rw [List.getElem?_set_ne hj] at qq
          obtain ⟨b, k1, k2, k3⟩ := r.owns j e qq
          have nb : b ≠ a := fun z => by subst z; exact r.inj i j d e b hj q qq hs k1
          refine ⟨b, k1, ⟨(oth b nb).trans k2.nF, k2.nc, ?_⟩, k3⟩
          have qq := k2.at_
          cases e <;> try exact qq.elim
          · obtain ⟨vs, h, rr⟩ := qq; exact ⟨vs, h, rr.sub sb⟩
          · obtain ⟨vs, h, rr⟩ := qq; exact ⟨vs, h, rr.sub sb⟩
          · obtain ⟨vs, h, rr⟩ := qq; exact ⟨vs, h, rr.sub sb⟩
      · have hj : i ≠ j := fun z => by subst z; rw [List.getElem?_set_self hl] at q1; cases q1
        have hj2 : i ≠ l := fun z => by subst z; rw [List.getElem?_set_self hl] at q2; cases q2
        rw [List.getElem?_set_ne hj] at q1
        rw [List.getElem?_set_ne hj2] at q2
        exact r.inj j l e f b hjl q1 q2 q3
    refine ⟨c, F0, H0, F', ρ.set i (.val d), κ, rel', ?_⟩
    -- what comes back from F' to F
    have aF' : ∀ o, F' a = some o → NotTup o := fun o e => by
      have e2 := s'.inH _ _ e
      have qq := ow.at_
      cases d <;> try exact qq.elim
      · obtain ⟨vs, h, _⟩ := qq; rw [h] at e2; cases e2; trivial
      · obtain ⟨vs, h, _⟩ := qq; rw [h] at e2; cases e2; trivial
      · obtain ⟨vs, h, _⟩ := qq; rw [h] at e2; cases e2; trivial
    have back : ∀ {G I : Hp} {κ' : Kp}, Stp X.K c F' H G I → Kap c κ' G I → Stp X.K c F H (del1 G a) I ∧ Kap c κ' (del1 G a) I ∧ ∀ o, G a = some o → NotTup o := fun {G I κ'} s k => by
      have gn : ∀ o, G a = some o → NotTup o := fun o e => by
        have e2 := s.inH _ _ e
        rw [s.keep a u hu ow.nc nt] at e2
        cases e2
        have qq := ow.at_
        cases d <;> try exact qq.elim
        · obtain ⟨vs, h, _⟩ := qq; rw [hu] at h; cases h; trivial
        · obtain ⟨vs, h, _⟩ := qq; rw [hu] at h; cases h; trivial
        · obtain ⟨vs, h, _⟩ := qq; rw [hu] at h; cases h; trivial
      have nb : ∀ b o, F b = some o → b ≠ a := fun b o e z => by subst z; rw [ow.nF] at e; cases e
      refine ⟨⟨⟨fun b vs e => ?_, fun b vs e => ?_, fun b w p e => ?_, fun b vs e => ?_, fun b vs e => ?_, fun b o u e => ?_⟩, fun b o e => ?_, fun b o e => ?_, s.keep, s.dom, s.tab⟩, ⟨k.1, fun b hb => ?_⟩, gn⟩
      · rw [del1_ne (nb b _ e)]; exact s.sub.l b vs (sb.l b vs e)
      · rw [del1_ne (nb b _ e)]; exact s.sub.t b vs (sb.t b vs e)
      · have nba : b ≠ a := by
          rcases e with e | ⟨o, e⟩
          · exact nb b _ e
          · exact nb b _ e
        have := s.sub.r b w p (sb.r b w p e)
        rcases this with e | ⟨o, e⟩
        · exact .inl (by rw [del1_ne nba]; exact e)
        · exact .inr ⟨o, by rw [del1_ne nba]; exact e⟩
      · rw [del1_ne (nb b _ e)]; exact s.sub.k b vs (sb.k b vs e)
      · rw [del1_ne (nb b _ e)]; exact s.sub.q b vs (sb.q b vs e)
      · rw [del1_ne (nb b _ e)]; exact s.sub.z b o u (sb.z b o u e)
      · have nba : b ≠ a := fun z => by subst z; rw [del1_same] at e; cases e
        rw [del1_ne nba] at e
        exact s.inH b o e
      · have nba : b ≠ a := fun z => by subst z; rw [del1_same] at e; cases e
        rw [del1_ne nba] at e
        rcases s.new b o e with z | z
        · rw [oth b nba] at z; exact .inl z
        · exact .inr z
      · obtain ⟨h1, h2⟩ := k.2 b hb
        refine ⟨?_, h2⟩
        by_cases z : b = a
        · subst z; exact del1_same
        · rw [del1_ne z]; exact h1
    cases em : m (ρ.set i (.val d)) κ with
    | ok x2 fr κ' =>
      rw [em] at o
      dsimp only at o
      split at o
      · rename_i hf
        intro G I v s k e fresh
        obtain ⟨s2, k2, gn⟩ := back s k
        refine o (del1 G a) I v s2 k2 ?_ fresh
        cases fr with
        | false => exact Rep.del gn _ _ hf e
        | true =>
          obtain ⟨b, rfl, ob⟩ := e
          have nb : b ≠ a := fun z => by
            subst z
            have := fresh rfl b rfl
            rw [hu] at this; cases this
          refine ⟨b, rfl, ⟨by rw [del1_ne nb]; exact ob.nF, ob.nc, ?_⟩⟩
          have qq := ob.at_
          cases x2 <;> try exact qq.elim
          · obtain ⟨vs, h, rr⟩ := qq; exact ⟨vs, h, RepL.del gn _ _ hf rr⟩
          · obtain ⟨vs, h, rr⟩ := qq; exact ⟨vs, h, RepK.del gn _ _ hf rr⟩
          · obtain ⟨vs, h, rr⟩ := qq; exact ⟨vs, h, RepT.del gn _ _ hf rr⟩
      · exact o.elim
    | exc k x2 κ' =>
      rw [em] at o
      dsimp only at o
      split at o
      · rename_i hf
        intro G I dd s k' e
        obtain ⟨s2, k2, gn⟩ := back s k'
        refine o (del1 G a) I dd s2 k2 ?_
        unfold ExcAt at e ⊢
        split
        · rename_i q; rw [q] at e; exact e
        · rename_i f q
          rw [q] at e
          obtain ⟨b, w, e1, e2, e3⟩ := e
          exact ⟨b, w, e1, e2, Rep.del gn _ _ hf e3⟩
      · exact o.elim
    | bad => rw [em] at o; exact o
  · exact ⟨c, F0, H0, F, ρ, κ, r, o⟩
theorem st_lend (h : SnT X fa cl W x m) : SnT X fa cl W x (cLend i m) := by
  refine PT.imp (fun σ H Q ⟨c, F0, H0, F, ρ, κ, r, o⟩ => ?_) h
  unfold cLend at o
  split at o
  · rename_i d q
    obtain ⟨a, hs, ow, h0⟩ := r.owns i d q
    obtain ⟨u, hu, nt, _⟩ := ow.obj
    obtain ⟨F', s', sb, rd, oth⟩ := ow.freeze r.stp h0
    have hl : i < ρ.length := (List.getElem?_eq_some_iff.mp q).1
    have rel' : RelS X.K fa c F0 H0 F' (ρ.set i (.val d)) κ σ H := by
      refine ⟨s', ⟨r.kap.1, fun b hb => ?_⟩, by rw [List.length_set]; exact r.len, fun j e qq => ?_, fun j e qq => ?_, fun j l e f b hjl q1 q2 q3 => ?_, r.tab⟩
      · obtain ⟨h1, h2⟩ := r.kap.2 b hb
        exact ⟨(oth b fun z => ow.nc (by rw [← z]; exact hb)).trans h1, h2⟩
      · by_cases hj : i = j
        · subst hj
          rw [List.getElem?_set_self hl] at qq; cases qq
          exact ⟨_, hs, rd⟩
        · rw [List.getElem?_set_ne hj] at qq
          obtain ⟨w, h1, h2⟩ := r.vals j e qq
          exact ⟨w, h1, h2.sub sb⟩
      · by_cases hj : i = j
        · subst hj
          rw [List.getElem?_set_self hl] at qq; cases qq
        · rw [List.getElem?_set_ne hj] at qq
          obtain ⟨b, k1, k2, k3⟩ := r.owns j e qq
          have nb : b ≠ a := fun z => by subst z; exact r.inj i j d e b hj q qq hs k1
          refine ⟨b, k1, ⟨(oth b nb).trans k2.nF, k2.nc, ?_⟩, k3⟩
          have qq := k2.at_
          cases e <;> try exact qq.elim
          · obtain ⟨vs, h, rr⟩ := qq; exact ⟨vs, h, rr.sub sb⟩
          · obtain ⟨vs, h, rr⟩ := qq; exact ⟨vs, h, rr.sub sb⟩
          · obtain ⟨vs, h, rr⟩ := qq; exact ⟨vs, h, rr.sub sb⟩
      · have hj : i ≠ j := fun z => by subst z; rw [List.getElem?_set_self hl] at q1; cases q1
        have hj2 : i ≠ l := fun z => by subst z; rw [List.getElem?_set_self hl] at q2; cases q2
        rw [List.getElem?_set_ne hj] at q1
        rw [List.getElem?_set_ne hj2] at q2
        exact r.inj j l e f b hjl q1 q2 q3
    refine ⟨c, F0, H0, F', ρ.set i (.val d), κ, rel', ?_⟩
    -- what comes back from F' to F
    have aF' : ∀ o, F' a = some o → NotTup o := fun o e => by
      have e2 := s'.inH _ _ e
      have qq := ow.at_
      cases d <;> try exact qq.elim
      · obtain ⟨vs, h, _⟩ := qq; rw [h] at e2; cases e2; trivial
      · obtain ⟨vs, h, _⟩ := qq; rw [h] at e2; cases e2; trivial
      · obtain ⟨vs, h, _⟩ := qq; rw [h] at e2; cases e2; trivial
    have back : ∀ {G I : Hp} {κ' : Kp}, Stp X.K c F' H G I → Kap c κ' G I → Stp X.K c F H (del1 G a) I ∧ Kap c κ' (del1 G a) I ∧ ∀ o, G a = some o → NotTup o := fun {G I κ'} s k => by
      have gn : ∀ o, G a = some o → NotTup o := fun o e => by
        have e2 := s.inH _ _ e
        rw [s.keep a u hu ow.nc nt] at e2
        cases e2
        have qq := ow.at_
        cases d <;> try exact qq.elim
        · obtain ⟨vs, h, _⟩ := qq; rw [hu] at h; cases h; trivial
        · obtain ⟨vs, h, _⟩ := qq; rw [hu] at h; cases h; trivial
        · obtain ⟨vs, h, _⟩ := qq; rw [hu] at h; cases h; trivial
      have nb : ∀ b o, F b = some o → b ≠ a := fun b o e z => by subst z; rw [ow.nF] at e; cases e
      refine ⟨⟨⟨fun b vs e => ?_, fun b vs e => ?_, fun b w p e => ?_, fun b vs e => ?_, fun b vs e => ?_, fun b o u e => ?_⟩, fun b o e => ?_, fun b o e => ?_, s.keep, s.dom, s.tab⟩, ⟨k.1, fun b hb => ?_⟩, gn⟩
      · rw [del1_ne (nb b _ e)]; exact s.sub.l b vs (sb.l b vs e)
      · rw [del1_ne (nb b _ e)]; exact s.sub.t b vs (sb.t b vs e)
      · have nba : b ≠ a := by
          rcases e with e | ⟨o, e⟩
          · exact nb b _ e
          · exact nb b _ e
        have := s.sub.r b w p (sb.r b w p e)
        rcases this with e | ⟨o, e⟩
        · exact .inl (by rw [del1_ne nba]; exact e)
        · exact .inr ⟨o, by rw [del1_ne nba]; exact e⟩
      · rw [del1_ne (nb b _ e)]; exact s.sub.k b vs (sb.k b vs e)
      · rw [del1_ne (nb b _ e)]; exact s.sub.q b vs (sb.q b vs e)
      · rw [del1_ne (nb b _ e)]; exact s.sub.z b o u (sb.z b o u e)
      · have nba : b ≠ a := fun z => by subst z; rw [del1_same] at e; cases e
        rw [del1_ne nba] at e
        exact s.inH b o e
      · have nba : b ≠ a := fun z => by subst z; rw [del1_same] at e; cases e
        rw [del1_ne nba] at e
        rcases s.new b o e with z | z
        · rw [oth b nba] at z; exact .inl z
        · exact .inr z
      · obtain ⟨h1, h2⟩ := k.2 b hb
        refine ⟨?_, h2⟩
        by_cases z : b = a
        · subst z; exact del1_same
        · rw [del1_ne z]; exact h1
    cases em : m (ρ.set i (.val d)) κ with
    | ok x2 fr κ' =>
      rw [em] at o
      dsimp only at o
      split at o
      · rename_i hf
        obtain ⟨kb, eb, o⟩ := o
        exact ⟨kb, eb, fun G I s k => o (del1 G a) I (back s k).1 (back s k).2.1⟩
      · exact o.elim
    | exc k x2 κ' =>
      rw [em] at o
      dsimp only at o
      split at o
      · rename_i hf
        intro G I dd s k' e
        obtain ⟨s2, k2, gn⟩ := back s k'
        refine o (del1 G a) I dd s2 k2 ?_
        unfold ExcAt at e ⊢
        split
        · rename_i q; rw [q] at e; exact e
        · rename_i f q
          rw [q] at e
          obtain ⟨b, w, e1, e2, e3⟩ := e
          exact ⟨b, w, e1, e2, Rep.del gn _ _ hf e3⟩
      · exact o.elim
    | bad => rw [em] at o; exact o
  · exact ⟨c, F0, H0, F, ρ, κ, r, o⟩
/-- an owned thing becomes a value that stays: no statement of the text -/
def cFrz (i : Nat) : SmS := fun ρ κ => match ρ[i]? with
  | some (.own d) => .next (ρ.set i (.val d)) κ
  | _ => .next ρ κ
theorem sb_frz {sts : List Stmt} {b : SmS} (h : SnB X fa cl W sts b) : SnB X fa cl W sts (cSeq (cFrz i) b) := by
  refine PSs.imp (fun D σ H ⟨c, F0, H0, F, ρ, κ, r, o⟩ => ?_) h
  unfold cSeq cFrz at o
  cases q : ρ[i]? with
  | none => rw [q] at o; exact ⟨c, F0, H0, F, ρ, κ, r, o⟩
  | some s =>
    rw [q] at o
    cases s with
    | no => exact ⟨c, F0, H0, F, ρ, κ, r, o⟩
    | val d => exact ⟨c, F0, H0, F, ρ, κ, r, o⟩
    | own d =>
      obtain ⟨a, hs, ow, h0⟩ := r.owns i d q
      -- as if it were stored anew, as a value that stays
      have hl : i < ρ.length := (List.getElem?_eq_some_iff.mp q).1
      obtain ⟨F', s', sb, rd, oth⟩ := ow.freeze r.stp h0
      refine ⟨c, F0, H0, F', ρ.set i (.val d), κ, ⟨s', ⟨r.kap.1, fun b hb => ?_⟩, by rw [List.length_set]; exact r.len, fun j e qq => ?_, fun j e qq => ?_, fun j l e f b hjl q1 q2 q3 => ?_, r.tab⟩, OutS.sub sb o⟩
      · obtain ⟨h1, h2⟩ := r.kap.2 b hb
        exact ⟨(oth b fun z => ow.nc (by rw [← z]; exact hb)).trans h1, h2⟩
      · by_cases hj : i = j
        · subst hj
          rw [List.getElem?_set_self hl] at qq; cases qq
          exact ⟨_, hs, rd⟩
        · rw [List.getElem?_set_ne hj] at qq
          obtain ⟨w, h1, h2⟩ := r.vals j e qq
          exact ⟨w, h1, h2.sub sb⟩
      · by_cases hj : i = j
        · subst hj
          rw [List.getElem?_set_self hl] at qq; cases qq
        · rw [List.getElem?_set_ne hj] at qq
          obtain ⟨b, k1, k2, k3⟩ := r.owns j e qq
          have nb : b ≠ a := fun z => by subst z; exact r.inj i j d e b hj q qq hs k1
          refine ⟨b, k1, ⟨(oth b nb).trans k2.nF, k2.nc, ?_⟩, k3⟩
          have qq := k2.at_
          cases e <;> try exact qq.elim
          · obtain ⟨vs, h, rr⟩ := qq; exact ⟨vs, h, rr.sub sb⟩
          · obtain ⟨vs, h, rr⟩ := qq; exact ⟨vs, h, rr.sub sb⟩
          · obtain ⟨vs, h, rr⟩ := qq; exact ⟨vs, h, rr.sub sb⟩
      · have hj : i ≠ j := fun z => by subst z; rw [List.getElem?_set_self hl] at q1; cases q1
        have hj2 : i ≠ l := fun z => by subst z; rw [List.getElem?_set_self hl] at q2; cases q2
        rw [List.getElem?_set_ne hj] at q1
        rw [List.getElem?_set_ne hj2] at q2
        exact r.inj j l e f b hjl q1 q2 q3
end
/-! ## a def -/
def fnSem (n nl : Nat) (b : SmS) : List D → Kp → R := fun ds κ => if ds.length = n then (match b (ds.map .val ++ List.replicate (nl - n) .no) κ with
  | .ret d fr κ => .ok d fr κ
  | .next _ κ => .ok .non false κ
  | .exc k d κ => .exc k d κ
  | _ => .bad) else .bad
theorem start_rel {K : PySem.W.Frag} {fa : Nat → Option Addr} {c : Option Addr} {F H : Hp} {κ : Kp} {ds : List D} {vs : List V} {N : List Str} (hF : ∀ a o, F a = some o → H a = some o) (k : Kap c κ F H) (r : RepL K fa c F ds vs) (tb : LamX.Tabs (tabsOf K) H) :
    RelS K fa c F H F (ds.map Slot.val ++ List.replicate (N.length - ds.length) .no) κ (L2.start N vs) H := by
  have hv : ∀ (i : Nat) (s : Slot), (ds.map Slot.val ++ List.replicate (N.length - ds.length) Slot.no)[i]? = some s → s ≠ .no → ∃ d, ds[i]? = some d ∧ s = .val d := fun i s e n => by
    by_cases hi : i < ds.length
    · rw [List.getElem?_append_left (by simpa using hi), List.getElem?_map] at e
      cases q : ds[i]? with
      | none => rw [q] at e; cases e
      | some d => rw [q] at e; cases e; exact ⟨d, rfl, rfl⟩
    · rw [List.getElem?_append_right (by simpa using hi), List.getElem?_replicate] at e
      split at e
      · cases e; exact absurd rfl n
      · cases e
  refine ⟨Stp.refl hF, k, ?_, fun i d e => ?_, fun i d e => ?_, fun i j d e a _ q1 _ _ => ?_, tb⟩
  · unfold L2.start
    rw [List.length_append, List.length_append, List.length_map, List.length_map, List.length_replicate, List.length_replicate, r.length]
  · obtain ⟨d', h1, h2⟩ := hv i _ e (by simp)
    cases h2
    obtain ⟨v, h3, h4⟩ := r.get h1
    refine ⟨v, ?_, h4⟩
    unfold L2.start
    rw [List.getElem?_append_left (by rw [List.length_map]; exact (List.getElem?_eq_some_iff.mp h3).1), List.getElem?_map, h3]
    rfl
  · obtain ⟨d', h1, h2⟩ := hv i _ e (by simp)
    cases h2
  · obtain ⟨d', h1, h2⟩ := hv i _ q1 (by simp)
    cases h2
theorem fn_sound {P : Program} {w : World} {K : PySem.W.Frag} {mg : Str → Option Value} {base : Heap} {k : Nat} {f : Addr} {name qual : Str} {params : Arguments} {body : List Stmt} {scope : Scope} {dV kV doc pm cdv ct oc : Value} {an od : Option Addr}
    {osl : Array (Option Value)} {N ps : List Str} {fa : Nat → Option Addr} {cl : Nat → ClsI} {m : SmS} (lk : K.lookup f = some ⟨oc, od, .func (PySem.W.fnOf name qual params body scope dV kV doc pm an cdv ct), osl⟩) (hcd : PySem.W.codeIn K cdv qual = true) (S : FnScope N ps scope)
    (hb : ∀ (A : Around) (outer : List Env) (s : Shared) (H : Hp) (E : XK), Room k (A.deeper (envOfC qual scope s.heap.objs.size f cdv)) → A.guards = some [] → SnB (cxOf (L2.CX P w) P w K mg base N qual scope f cdv A outer s H E) fa cl (fun cls d _ H => E cls d H) body m) :
    FnG P w K mg base (k + 1) f (PySem.W.fnOf name qual params body scope dV kV doc pm an cdv ct) ps (spF K fa cl (fnSem ps.length N.length m)) := by
  refine fnG_of lk hcd S (fun vs H Q E ⟨c, F, κ, ds, hF, kap, rl, tb, o⟩ => ?_) (fun A outer s H vs Q E hr gd ⟨c, F, κ, ds, hF, kap, rl, tb, o⟩ => ?_)
  · unfold fnSem at o
    split at o
    · rename_i h; rw [← rl.length, h]
    · exact o.elim
  · unfold fnSem at o
    split at o
    · rename_i h
      rw [← h] at o
      refine ⟨_, hb A outer s H E hr gd, c, F, H, F, _, κ, start_rel hF kap rl tb, ?_⟩
      cases em : m (ds.map .val ++ List.replicate (N.length - ds.length) .no) κ with
      | ret d fr κ' => rw [em] at o; exact o
      | next ρ' κ' =>
        rw [em] at o
        exact fun F' σ' H' _ r' => o F' H' .non r'.stp r'.kap .non (fun q => nomatch q)
      | exc k d κ' =>
        rw [em] at o
        exact fun _ F' H' dd s' k' e => o F' H' dd s' k' e
      | brk ρ' κ' => rw [em] at o; exact o.elim
      | cont ρ' κ' => rw [em] at o; exact o.elim
      | bad => rw [em] at o; exact o.elim
    · exact o.elim
/-! ## a list of three ints is lent to the draws -/
mutual
def D.nc : D → Bool
  | .cro => false
  | .tup xs | .lst xs | .scr xs => ncL xs
  | .dk kvs => ncK kvs
  | .dt kvs => ncT kvs
  | .fdk kvs => ncK kvs
  | .fdt kvs => ncT kvs
  | _ => true
def ncL : List D → Bool
  | [] => true
  | d :: r => d.nc && ncL r
def ncK : List (Key × D) → Bool
  | [] => true
  | (_, d) :: r => d.nc && ncK r
def ncT : List (List Key × D) → Bool
  | [] => true
  | (_, d) :: r => d.nc && ncT r
end
def Slot.nc : Slot → Bool
  | .no => true
  | .val d => d.nc
  | .own d => d.nc
def kOff : Kp := ⟨0, 0, 0, false⟩
def backC (i : Nat) (ρ : Rho) (κ : Kp) (g : Rho → Kp → RS) : RS := match ρ[i]? with
  | some (.val .cro) => if (ρ.set i (.own (.lst [.int κ.a, .int κ.b, .int κ.c]))).all Slot.nc then g (ρ.set i (.own (.lst [.int κ.a, .int κ.b, .int κ.c]))) kOff else .bad
  | _ => .bad
def cLendC (i : Nat) (m : SmS) : SmS := fun ρ κ => if κ.on then .bad else match ρ[i]? with
  | some (.own (.lst [.int a, .int b, .int c])) => (match m (ρ.set i (.val .cro)) ⟨a, b, c, true⟩ with
    | .next ρ κ => backC i ρ κ .next
    | .brk ρ κ => backC i ρ κ .brk
    | .cont ρ κ => backC i ρ κ .cont
    | .ret d false _ => if d.nc then .ret d false kOff else .bad
    | _ => .bad)
  | _ => .bad
section
variable {K : PySem.W.Frag} {fa : Nat → Option Addr} {c : Option Addr} {F F0 H0 H : Hp}
mutual
theorem Rep.cup : ∀ {d : D} {v : V}, Rep K fa none F d v → Rep K fa c F d v
  | _, _, .non => .non
  | _, _, .bl b => .bl b
  | _, _, .int i => .int i
  | _, _, .str x => .str x
  | _, _, .ty n => .ty n
  | _, _, .fn h => .fn h
  | _, _, .cro h => nomatch h
  | _, _, .tup h t => .tup h (RepL.cup t)
  | _, _, .lst h t => .lst h (RepL.cup t)
  | _, _, .scr h t => .scr h (RepL.cup t)
  | _, _, .dk h t => .dk h (RepK.cup t)
  | _, _, .dt h t => .dt h (RepT.cup t)
  | _, _, .fdk h t => .fdk h (RepK.cup t)
  | _, _, .nd h t => .nd h t
  | _, _, .fdt h g k l t => .fdt h g k l (RepT.cup t)
theorem RepL.cup : ∀ {d : List D} {v : List V}, RepL K fa none F d v → RepL K fa c F d v
  | _, _, .nil => .nil
  | _, _, .cons h t => .cons (Rep.cup h) (RepL.cup t)
theorem RepK.cup : ∀ {d : List (Key × D)} {v : List (Key × V)}, RepK K fa none F d v → RepK K fa c F d v
  | _, _, .nil => .nil
  | _, _, .cons h t => .cons (Rep.cup h) (RepK.cup t)
theorem RepT.cup : ∀ {d : List (List Key × D)} {v : List (List Key × V)}, RepT K fa none F d v → RepT K fa c F d v
  | _, _, .nil => .nil
  | _, _, .cons h t => .cons (Rep.cup h) (RepT.cup t)
end
mutual
theorem Rep.cdn : ∀ (d : D) (v : V), d.nc = true → Rep K fa c F d v → Rep K fa none F d v
  | .non, v, _, r => by cases r; exact .non
  | .bl b, v, _, r => by cases r; exact .bl b
  | .int b, v, _, r => by cases r; exact .int b
  | .str b, v, _, r => by cases r; exact .str b
  | .ty b, v, _, r => by cases r; exact .ty b
  | .fn b, v, _, r => by
    cases r with
    | fn h => exact .fn h
  | .cro, v, e, r => Bool.noConfusion e
  | .tup xs, v, e, r => by
    cases r with
    | tup h t => exact .tup h (RepL.cdn xs _ e t)
  | .lst xs, v, e, r => by
    cases r with
    | lst h t => exact .lst h (RepL.cdn xs _ e t)
  | .scr xs, v, e, r => by
    cases r with
    | scr h t => exact .scr h (RepL.cdn xs _ e t)
  | .dk xs, v, e, r => by
    cases r with
    | dk h t => exact .dk h (RepK.cdn xs _ e t)
  | .dt xs, v, e, r => by
    cases r with
    | dt h t => exact .dt h (RepT.cdn xs _ e t)
  | .fdk xs, v, e, r => by
    cases r with
    | fdk h t => exact .fdk h (RepK.cdn xs _ e t)
  | .nd, v, e, r => by
    cases r with
    | nd h t => exact .nd h t
  | .fdt xs, v, e, r => by
    cases r with
    | fdt h g k l t => exact .fdt h g k l (RepT.cdn xs _ e t)
theorem RepL.cdn : ∀ (d : List D) (v : List V), ncL d = true → RepL K fa c F d v → RepL K fa none F d v
  | [], v, _, r => by cases r; exact .nil
  | x :: xs, v, e, r => by
    unfold ncL at e
    obtain ⟨e1, e2⟩ := Bool.and_eq_true_iff.mp e
    cases r with
    | cons h t => exact .cons (Rep.cdn x _ e1 h) (RepL.cdn xs _ e2 t)
theorem RepK.cdn : ∀ (d : List (Key × D)) (v : List (Key × V)), ncK d = true → RepK K fa c F d v → RepK K fa none F d v
  | [], v, _, r => by cases r; exact .nil
  | (k, x) :: xs, v, e, r => by
    unfold ncK at e
    obtain ⟨e1, e2⟩ := Bool.and_eq_true_iff.mp e
    cases r with
    | cons h t => exact .cons (Rep.cdn x _ e1 h) (RepK.cdn xs _ e2 t)
theorem RepT.cdn : ∀ (d : List (List Key × D)) (v : List (List Key × V)), ncT d = true → RepT K fa c F d v → RepT K fa none F d v
  | [], v, _, r => by cases r; exact .nil
  | (k, x) :: xs, v, e, r => by
    unfold ncT at e
    obtain ⟨e1, e2⟩ := Bool.and_eq_true_iff.mp e
    cases r with
    | cons h t => exact .cons (Rep.cdn x _ e1 h) (RepT.cdn xs _ e2 t)
end
theorem OwnD.cup {a : Addr} {d : D} (o : OwnD K fa none F H a d) : OwnD K fa c F H a d := by
  cases d <;> try exact o
  · obtain ⟨vs, h, r⟩ := o; exact ⟨vs, h, r.cup⟩
  · obtain ⟨vs, h, r⟩ := o; exact ⟨vs, h, r.cup⟩
  · obtain ⟨vs, h, r⟩ := o; exact ⟨vs, h, r.cup⟩
theorem OwnD.cdn {a : Addr} {d : D} (e : d.nc = true) (o : OwnD K fa c F H a d) : OwnD K fa none F H a d := by
  cases d <;> try exact o
  · obtain ⟨vs, h, r⟩ := o; exact ⟨vs, h, RepL.cdn _ _ e r⟩
  · obtain ⟨vs, h, r⟩ := o; exact ⟨vs, h, RepK.cdn _ _ e r⟩
  · obtain ⟨vs, h, r⟩ := o; exact ⟨vs, h, RepT.cdn _ _ e r⟩
theorem Stp.cup {F1 H1 : Hp} (s : Stp K none F H F1 H1) : Stp K c F H F1 H1 := ⟨s.sub, s.inH, s.new, fun a o e _ t => s.keep a o e (by simp) t, s.dom, s.tab⟩
theorem Stp.cdn {a : Addr} {F1 H1 : Hp} (h0 : H a = none) (s : Stp K (some a) F H F1 H1) : Stp K none F H F1 H1 :=
  ⟨s.sub, s.inH, s.new, fun b o e _ t => s.keep b o e (fun z => by cases z; rw [h0] at e; cases e) t, s.dom, s.tab⟩
theorem all_nc {ρ : Rho} {i : Nat} {s : Slot} (h : ρ.all Slot.nc = true) (e : ρ[i]? = some s) : s.nc = true := List.all_eq_true.mp h s (List.mem_of_getElem? e)
theorem RelS.backC {ρ : Rho} {κ : Kp} {σ : L2.St} {a : Addr} {i : Nat} (r : RelS K fa (some a) F0 H0 F ρ κ σ H) (h0 : H0 a = none) (q : ρ[i]? = some (.val .cro)) (e : (ρ.set i (.own (.lst [.int κ.a, .int κ.b, .int κ.c]))).all Slot.nc = true) :
    RelS K fa none F0 H0 F (ρ.set i (.own (.lst [.int κ.a, .int κ.b, .int κ.c]))) kOff σ H := by
  have hl : i < ρ.length := (List.getElem?_eq_some_iff.mp q).1
  obtain ⟨v, hs, rv⟩ := r.vals i _ q
  have hs : σ[i]? = some (some (.ref a)) := by
    cases rv with
    | cro h => cases h; exact hs
  obtain ⟨hF, hH⟩ := r.kap.2 a rfl
  refine ⟨r.stp.cdn h0, ⟨rfl, fun b hb => nomatch hb⟩, by rw [List.length_set]; exact r.len, fun j d qq => ?_, fun j d qq => ?_, fun j l d e2 b hjl q1 q2 q3 => ?_, r.tab⟩
  · by_cases hj : i = j
    · subst hj; rw [List.getElem?_set_self hl] at qq; cases qq
    · have hn := all_nc e qq
      rw [List.getElem?_set_ne hj] at qq
      obtain ⟨w, h1, h2⟩ := r.vals j d qq
      exact ⟨w, h1, Rep.cdn _ _ hn h2⟩
  · by_cases hj : i = j
    · subst hj
      rw [List.getElem?_set_self hl] at qq; cases qq
      exact ⟨a, hs, ⟨hF, by simp, _, hH, .cons (.int _) (.cons (.int _) (.cons (.int _) .nil))⟩, h0⟩
    · have hn := all_nc e qq
      rw [List.getElem?_set_ne hj] at qq
      obtain ⟨b, k1, k2, k3⟩ := r.owns j d qq
      exact ⟨b, k1, ⟨k2.nF, by simp, OwnD.cdn hn k2.at_⟩, k3⟩
  · by_cases hj : i = j
    · subst hj
      rw [hs] at q3
      cases q3
      rw [List.getElem?_set_ne hjl] at q2
      obtain ⟨b, k1, k2, _⟩ := r.owns l e2 q2
      intro z
      rw [k1] at z; cases z
      exact k2.nc rfl
    · rw [List.getElem?_set_ne hj] at q1
      by_cases hl2 : i = l
      · subst hl2
        obtain ⟨b', k1, k2, _⟩ := r.owns j d q1
        rw [k1] at q3; cases q3
        intro z
        rw [hs] at z; cases z
        exact k2.nc rfl
      · rw [List.getElem?_set_ne hl2] at q2
        exact r.inj j l d e2 b hjl q1 q2 q3
end
section
variable {X : Cx} {fa : Nat → Option Addr} {cl : Nat → ClsI} {W : WX} {st : Stmt} {m : SmS} {i : Nat}
theorem backC_at {K : PySem.W.Frag} {c : Option Addr} {F0 H0 F : Hp} {E : Ends} {ρ : Rho} {κ : Kp} {g : Rho → Kp → RS} (o : OutS K fa cl W c F0 H0 F E (backC i ρ κ g)) : ρ[i]? = some (.val .cro) ∧ (ρ.set i (.own (.lst [.int κ.a, .int κ.b, .int κ.c]))).all Slot.nc = true ∧
    OutS K fa cl W c F0 H0 F E (g (ρ.set i (.own (.lst [.int κ.a, .int κ.b, .int κ.c]))) kOff) := by
  unfold backC at o
  split at o
  · rename_i q
    split at o
    · rename_i h; exact ⟨q, h, o⟩
    · exact o.elim
  · exact o.elim
theorem ss_lendC (h : SnS X fa cl W st m) : SnS X fa cl W st (cLendC i m) := by
  refine PS.imp (fun D σ H ⟨c, F0, H0, F, ρ, κ, r, o⟩ => ?_) h
  unfold cLendC at o
  split at o
  · exact o.elim
  · rename_i hon
    have hc : c = none := by
      have := r.kap.1
      cases c with
      | none => rfl
      | some a => rw [this] at hon; exact absurd rfl hon
    subst hc
    split at o
    · rename_i k1 k2 k3 q
      obtain ⟨a, hs, ow, h0⟩ := r.owns i _ q
      obtain ⟨vs, hH, rl⟩ := ow.at_
      have hl : i < ρ.length := (List.getElem?_eq_some_iff.mp q).1
      have ev : vs = [.int k1, .int k2, .int k3] := by
        cases rl with
        | cons h t =>
          cases h
          cases t with
          | cons h t =>
            cases h
            cases t with
            | cons h t => cases h; cases t; rfl
      subst ev
      have rel : RelS X.K fa (some a) F0 H0 F (ρ.set i (.val .cro)) ⟨k1, k2, k3, true⟩ σ H := by
        refine ⟨r.stp.cup, ⟨rfl, fun b hb => by cases hb; exact ⟨ow.nF, hH⟩⟩, by rw [List.length_set]; exact r.len, fun j d qq => ?_, fun j d qq => ?_, fun j l d e b hjl q1 q2 q3 => ?_, r.tab⟩
        · by_cases hj : i = j
          · subst hj
            rw [List.getElem?_set_self hl] at qq; cases qq
            exact ⟨_, hs, .cro rfl⟩
          · rw [List.getElem?_set_ne hj] at qq
            obtain ⟨w, h1, h2⟩ := r.vals j d qq
            exact ⟨w, h1, h2.cup⟩
        · by_cases hj : i = j
          · subst hj; rw [List.getElem?_set_self hl] at qq; cases qq
          · rw [List.getElem?_set_ne hj] at qq
            obtain ⟨b, g1, g2, g3⟩ := r.owns j d qq
            refine ⟨b, g1, ⟨g2.nF, fun z => ?_, OwnD.cup g2.at_⟩, g3⟩
            cases z
            exact r.inj i j _ d a hj q qq hs g1
        · have hj : i ≠ j := fun z => by subst z; rw [List.getElem?_set_self hl] at q1; cases q1
          have hj2 : i ≠ l := fun z => by subst z; rw [List.getElem?_set_self hl] at q2; cases q2
          rw [List.getElem?_set_ne hj] at q1
          rw [List.getElem?_set_ne hj2] at q2
          exact r.inj j l d e b hjl q1 q2 q3
      refine ⟨some a, F0, H0, F, _, _, rel, ?_⟩
      cases em : m (ρ.set i (.val .cro)) ⟨k1, k2, k3, true⟩ with
      | next ρ1 κ1 =>
        rw [em] at o
        obtain ⟨b1, b2, o⟩ := backC_at o
        exact fun F' σ' H' sb r' => o F' σ' H' sb (r'.backC h0 b1 b2)
      | brk ρ1 κ1 =>
        rw [em] at o
        obtain ⟨b1, b2, o⟩ := backC_at o
        exact fun F' σ' H' sb r' => o F' σ' H' sb (r'.backC h0 b1 b2)
      | cont ρ1 κ1 =>
        rw [em] at o
        obtain ⟨b1, b2, o⟩ := backC_at o
        exact fun F' σ' H' sb r' => o F' σ' H' sb (r'.backC h0 b1 b2)
      | ret d fr κ1 =>
        rw [em] at o
        cases fr with
        | true => exact o.elim
        | false =>
          dsimp only at o
          split at o
          · rename_i hn
            exact fun F' H' v s k e fresh => o F' H' v (s.cdn h0) ⟨rfl, fun b hb => nomatch hb⟩ (Rep.cdn _ _ hn e) fun q => nomatch q
          · exact o.elim
      | exc k d κ1 => rw [em] at o; exact o.elim
      | bad => rw [em] at o; exact o.elim
    · exact o.elim
end
/-! ## t[::-1] of a tuple -/
section
variable {prog : Program} {w : World} {A : Around} {E : Value → Shared → Prop} {s : Shared}
theorem adj_rev (n : Nat) : Builtin.Slice.sliceAdjust none none (-1) (n : Int) = ((n : Int) - 1, -1) := rfl
theorem places_rev (n : Nat) : Builtin.Slice.slicePlaces ((n : Int) - 1) (-1) (-1) = n := by
  unfold Builtin.Slice.slicePlaces
  rw [if_neg (by decide)]
  by_cases h : n = 0
  · subst h; decide
  · rw [if_pos (by omega)]
    have : ((n : Int) - 1 - -1 - 1) / (- -1) + 1 = n := by rw [show (- -1 : Int) = 1 from rfl, Int.ediv_one]; omega
    rw [this]; omega
theorem applied_rev {sl : Addr} {vs : Value} {n : Nat} {Q : Int × Int × Nat → Shared → Prop} (hs : s.heap.IsSliceOf sl .none .none vs) (ps : IsPart vs (some (-1)))
    (h : Q ((n : Int) - 1, -1, n) s) : wpAny (model prog w) A (Builtin.Slice.sliceApplied (.ref sl) (pure (n : Int))) Q E s := by
  obtain ⟨os, hos, hcs, hds⟩ := id hs
  unfold Builtin.Slice.sliceApplied Builtin.Slice.sliceFields
  refine wpAny_bind (wpAny_bind (wpAny_field hos hds (x := .none) rfl (wpAny_bind (wpAny_field hos hds (x := .none) rfl (wpAny_bind (wpAny_field hos hds (x := vs) rfl (wpAny_pure ?_)))))))
  refine wpAny_bind (HT.slicePart_ ps ?_)
  show wpAny _ _ (if ((-1 : Int) == 0) = true then _ else _) _ _ s
  rw [if_neg (by decide)]
  refine wpAny_bind (slicePart_none (wpAny_bind (slicePart_none (wpAny_bind (wpAny_pure ?_)))))
  show wpAny _ _ (match Builtin.Slice.sliceAdjust none none (-1) (n : Int) with | (lo, hi) => pure (lo, (-1 : Int), Builtin.Slice.slicePlaces lo hi (-1))) _ _ s
  rw [adj_rev]
  show wpAny _ _ (pure ((n : Int) - 1, (-1 : Int), Builtin.Slice.slicePlaces ((n : Int) - 1) (-1) (-1))) _ _ s
  rw [places_rev]
  exact wpAny_pure h
theorem fm_congr {α β : Type} {f g : α → Option β} : ∀ {l : List α}, (∀ x ∈ l, f x = g x) → l.filterMap f = l.filterMap g
  | [], _ => rfl
  | x :: l, h => by
    rw [List.filterMap_cons, List.filterMap_cons, h x List.mem_cons_self, fm_congr (l := l) fun y hy => h y (List.mem_cons_of_mem _ hy)]
theorem pick_rev (xs : Array Value) : ((List.range xs.size).filterMap fun (m : Nat) => xs[((xs.size : Int) - 1 + (m : Int) * (-1)).toNat]?).toArray = xs.toList.reverse.toArray := by
  have e : ∀ m, m ∈ List.range xs.size → xs[((xs.size : Int) - 1 + (m : Int) * (-1)).toNat]? = xs.toList.reverse[m]? := by
    intro m hm
    rw [List.mem_range] at hm
    have h1 : ((xs.size : Int) - 1 + (m : Int) * (-1)).toNat = xs.size - 1 - m := by omega
    rw [h1, List.getElem?_reverse (by simpa using hm), Array.length_toList, Array.getElem?_toList]
  rw [fm_congr e]
  congr 1
  apply List.ext_getElem?
  intro i
  have key : ∀ (l : List Value) (k : Nat), (List.range' k (l.length - k)).filterMap (fun m => l[m]?) = l.drop k := by
    intro l k
    induction h : l.length - k generalizing k with
    | zero => rw [List.drop_eq_nil_of_le (by omega)]; rfl
    | succ d ih =>
      have hk : k < l.length := by omega
      rw [List.range'_succ, List.filterMap_cons, List.getElem?_eq_getElem hk]
      show l[k] :: _ = _
      rw [ih (k + 1) (by omega), List.drop_eq_getElem_cons hk]
  have := key xs.toList.reverse 0
  rw [List.length_reverse, Array.length_toList, Nat.sub_zero, ← List.range_eq_range', List.drop_zero] at this
  rw [this]
theorem getItem_tuple_rev {t sl : Addr} {items : Array Value} {vs : Value} {Q : Value → Shared → Prop} (ht : IsTup s.heap t items) (hs : s.heap.IsSliceOf sl .none .none vs) (ps : IsPart vs (some (-1)))
    (h : Q (.ref s.heap.objs.size) { s with heap := s.heap.push { cls := .type "tuple", data := .seq items.toList.reverse.toArray } })
    (hsz : items.size ≤ sizeLine) : wpAny (model prog w) A (getItem (.ref t) (.ref sl)) Q E s := by
  have htake : sizeOk (.seq items.toList.reverse.toArray) := by
    show items.toList.reverse.toArray.size ≤ sizeLine
    rw [List.size_toArray, List.length_reverse, Array.length_toList]
    exact hsz
  obtain ⟨os, hos, hcs, hds⟩ := id hs
  have hTs : s.TypeIs (.ref sl) "slice" := ⟨os, hos, hcs⟩
  unfold getItem
  try with_reducible refine wpAny_holding ?_
  first | refine wpAny_bind (wpAny_pure ?_) | skip
  refine wpAny_bind (wpAny_sequenceKey ht.typeIs (by decide) ?_)
  refine wpAny_bind (wpAny_callSpecial?_slot (name := Str.ofString "__getitem__") ht.typeIs PyProof.Rows.slot_tuple_getitem
    (wpAny_call_entry PyProof.Rows.slot_tuple_getitem ht.typeIs entry_tuple_getitem ?_ (args_tuple_getitem _ _)))
  show wpAny _ _ (Builtin.Tuple.tupleItemsOf (.ref t) >>= _) _ _ s
  refine wpAny_bind (tupleItemsOf_ ht ?_)
  refine wpAny_bind (wpAny_typeOf hTs ?_)
  rw [if_pos (by decide)]
  refine wpAny_bind (applied_rev hs ps ?_)
  show wpAny _ _ (if (((items.size : Int) - 1) == 0 && (-1 : Int) == 1 && items.size == items.size) = true then _ else _) _ _ s
  rw [if_neg (by simp), pick_rev]
  first
    | exact wpAny_bind (m := Builtin.Tuple.tupleExact _) (wpAny_newObj_type (wpAny_pure ⟨_, rfl, wpAny_pure h⟩) htake)
    | exact wpAny_bind (m := Builtin.Tuple.tupleExact _) (wpAny_newObj_type (wpAny_bind (wpAny_pure (wpAny_pure ⟨_, rfl, wpAny_pure h⟩))) htake)
    | exact wpAny_bind (wpAny_bind (m := Builtin.Tuple.tupleExact _) (wpAny_newObj_type (wpAny_pure (wpAny_pure ⟨_, rfl, wpAny_pure h⟩)) htake))
    | exact wpAny_bind (wpAny_bind (m := Builtin.Tuple.tupleExact _) (wpAny_newObj_type (wpAny_pure ⟨_, rfl, wpAny_pure h⟩) htake))
end
def tRevTup (K : PySem.W.Frag) (te : TE) : TE := fun σ H Q => te σ H fun x H1 => ∃ a xs, x = .ref a ∧ SqT K H1 a xs ∧ ∀ p, H1 p = none → Q (.ref p) (upd H1 p (.tup xs.reverse))
section
variable {X : Cx} {fa : Nat → Option Addr} {cl : Nat → ClsI} {W : WX} {x : Expr} {a : SmE}
theorem pe_revT {e : Expr} {te : TE} {k : Nat} {p1 p2 p3 pos : Pos} (he : PE X e te) : PE X (.Subscript e (.Slice none none (some (.UnaryOp .USub (.Constant (.int 1) k p1) p2)) p3) pos) (tRevTup X.K te) := by
  refine ⟨fun pins s σ H Q I h => Subscript_ (thn (he.run pins s σ H _ I h) fun v s1 ⟨x, H1, I1, r1, b, xs, ex, hx, q⟩ => ?_)⟩
  subst ex
  cases r1
  have hst : PO X (some (.UnaryOp .USub (.Constant (.int 1) k p1) p2)) (tPart (tUn (rU fun i => .int (-i)) (tC (.int 1)))) := po_some (pe_un un_neg pe_int)
  refine wpAny_Slice (thn (po_none.run pins s1 σ H1 (fun o H2 => o = none ∧ H2 = H1) I1 ⟨rfl, rfl⟩) fun vl s2 ⟨l, H2, I2, pl, z1⟩ => ?_)
  obtain ⟨el, e2⟩ := z1
  subst el e2
  refine thn (po_none.run pins s2 σ H2 (fun o H3 => o = none ∧ H3 = H2) I2 ⟨rfl, rfl⟩) fun vu s3 ⟨u, H3, I3, pu, z2⟩ => ?_
  obtain ⟨eu, e3⟩ := z2
  subst eu e3
  refine thn (hst.run pins s3 σ H3 (fun o H4 => o = some (-1) ∧ H4 = H3) I3 ⟨1, rfl, -1, rfl, rfl, rfl⟩) fun vs s4 ⟨o, H4, I4, ps, z3⟩ => ?_
  obtain ⟨eo, e4⟩ := z3
  subst eo e4
  cases pl
  cases pu
  have I5 : Inv X pins σ H4 { s4 with heap := s4.heap.push { cls := .type "slice", data := .fields #[.none, .none, vs] } } := I4.kept (t' := s4.toks) fun b ob q => Heap.get?_push_of_some _ q
  obtain ⟨its, r, ht, hz⟩ := I5.tuple hx
  have hl := r.length
  show wpAny (model X.prog X.w) X.A (subscriptTail e (.Slice none none (some (.UnaryOp .USub (.Constant (.int 1) k p1) p2)) p3) (.ref b) (.ref s4.heap.objs.size)) (EP X pins σ Q) X.xe _
  refine tail_any (ops := [.ref b, .ref s4.heap.objs.size]) ht.typeIs (PyProof.Rows.slot_tuple_getitem.lookup) ?_ (by with_unfolding_all rfl)
  refine getItem_tuple_rev ht (Heap.IsSliceOf.new _ .none .none vs) ps ?_ (by rw [List.size_toArray, ← hl]; exact hz)
  refine ⟨.ref _, _, I5.laid (t' := s4.toks) (o := .tup xs.reverse) (fun b ob q => Heap.get?_push_of_some _ q) (Nat.le_refl _) ?_, rfl, q _ (I5.hok.fresh (Nat.le_refl _))⟩
  exact ⟨by rw [List.length_reverse]; exact hz, _, r.reverse, IsTup.new _ _⟩
end
/-! ## more of the language -/
def fRev : D → O1
  | .tup xs => some (.tup xs.reverse, false)
  | .lst xs => some (.lst xs.reverse, true)
  | _ => none
def cNew : SmE := fun _ κ => .ok (.dk []) true κ
def boolStr (b : Bool) : Str := if b then "True" else "False"
def gRepr : List D → O1
  | [.bl b] => some (.str (boolStr b), false)
  | [.int i] => if i.natAbs < 2 ^ 1900 then some (.str (toString i), false) else none
  | _ => none
def insI (x : Int) : List Int → List Int
  | [] => [x]
  | y :: r => if x ≤ y then x :: y :: r else y :: insI x r
def isort : List Int → List Int
  | [] => []
  | x :: r => insI x (isort r)
theorem insI_perm (x : Int) : ∀ l, (insI x l).Perm (x :: l)
  | [] => .refl _
  | y :: r => by
    unfold insI
    split
    · exact .refl _
    · exact ((insI_perm x r).cons y).trans (.swap x y r)
theorem isort_perm : ∀ l, (isort l).Perm l
  | [] => .refl _
  | x :: r => (insI_perm x _).trans ((isort_perm r).cons x)
theorem insI_srt (x : Int) : ∀ l, l.Pairwise (· ≤ ·) → (insI x l).Pairwise (· ≤ ·)
  | [], _ => by simp [insI]
  | y :: r, h => by
    have h' := List.pairwise_cons.mp h
    unfold insI
    split
    · rename_i q
      refine List.pairwise_cons.mpr ⟨fun z hz => ?_, h⟩
      rcases List.mem_cons.mp hz with e | e
      · rw [e]; exact q
      · exact Int.le_trans q (h'.1 z e)
    · rename_i q
      refine List.pairwise_cons.mpr ⟨fun z hz => ?_, insI_srt x r h'.2⟩
      rcases List.mem_cons.mp ((insI_perm x r).mem_iff.mp hz) with e | e
      · rw [e]; omega
      · exact h'.1 z e
theorem isort_srt : ∀ l, (isort l).Pairwise (· ≤ ·)
  | [] => .nil
  | x :: r => insI_srt x _ (isort_srt r)
theorem srt_uniq : ∀ (a b : List Int), a.Perm b → a.Pairwise (· ≤ ·) → b.Pairwise (· ≤ ·) → a = b
  | [], b, h, _, _ => h.nil_eq
  | x :: a, [], h, _, _ => absurd h.symm.nil_eq (by simp)
  | x :: a, y :: b, h, h1, h2 => by
    have p1 := List.pairwise_cons.mp h1
    have p2 := List.pairwise_cons.mp h2
    have e : x = y := by
      have m1 : x ∈ y :: b := h.mem_iff.mp List.mem_cons_self
      have m2 : y ∈ x :: a := h.mem_iff.mpr List.mem_cons_self
      rcases List.mem_cons.mp m1 with z | z
      · exact z
      · rcases List.mem_cons.mp m2 with z2 | z2
        · exact z2.symm
        · have := p1.1 y z2
          have := p2.1 x z
          omega
    subst e
    rw [srt_uniq a b (h.cons_inv) p1.2 p2.2]
def keyInts : List (Key × D) → Option (List Int)
  | [] => some []
  | (.inl i, _) :: r => (keyInts r).map (i :: ·)
  | _ => none
theorem repK_kint {K : PySem.W.Frag} {fa : Nat → Option Addr} {c : Option Addr} {F : Hp} : ∀ {kvs : List (Key × D)} {ks : List (Key × V)} {ns : List Int}, RepK K fa c F kvs ks → keyInts kvs = some ns → ks.map (·.1) = ns.map Sum.inl ∧ ns.length = kvs.length
  | _, _, ns, .nil, e => by cases e; exact ⟨rfl, rfl⟩
  | _, _, ns, .cons (k := k) h t, e => by
    unfold keyInts at e
    split at e
    · rename_i q; cases q
    · rename_i i d r q
      cases q
      obtain ⟨ms, em, e⟩ := Option.map_eq_some_iff.mp e
      subst e
      obtain ⟨h1, h2⟩ := repK_kint t em
      exact ⟨by rw [List.map_cons, List.map_cons, h1], by rw [List.length_cons, List.length_cons, h2]⟩
    · cases e
/-! pairs of ints, by both -/
def insP (x : Int × Int) : List (Int × Int) → List (Int × Int)
  | [] => [x]
  | y :: r => if SrtO.lexB y x = true then y :: insP x r else x :: y :: r
def psort : List (Int × Int) → List (Int × Int)
  | [] => []
  | x :: r => insP x (psort r)
def PSrt (l : List (Int × Int)) : Prop := l.Pairwise fun a b => SrtO.lexB b a = false
theorem lexB_asym {a b : Int × Int} (h : SrtO.lexB a b = true) : SrtO.lexB b a = false := by
  cases e : SrtO.lexB b a with
  | false => rfl
  | true =>
    rw [SrtO.lexB_iff] at h e
    omega
theorem lexB_tr {a b c : Int × Int} (h : SrtO.lexB b a = false) (h2 : SrtO.lexB c b = false) : SrtO.lexB c a = false := by
  cases e : SrtO.lexB c a with
  | false => rfl
  | true =>
    have h1 : ¬ SrtO.lexB b a = true := by rw [h]; simp
    have h3 : ¬ SrtO.lexB c b = true := by rw [h2]; simp
    rw [SrtO.lexB_iff] at h1 h3 e
    omega
theorem lexB_eq {a b : Int × Int} (h : SrtO.lexB b a = false) (h2 : SrtO.lexB a b = false) : a = b := by
  have h1 : ¬ SrtO.lexB b a = true := by rw [h]; simp
  have h3 : ¬ SrtO.lexB a b = true := by rw [h2]; simp
  rw [SrtO.lexB_iff] at h1 h3
  obtain ⟨a1, a2⟩ := a
  obtain ⟨b1, b2⟩ := b
  simp only at h1 h3
  have e1 : a1 = b1 := by omega
  have e2 : a2 = b2 := by omega
  rw [e1, e2]
theorem insP_perm (x : Int × Int) : ∀ l, (insP x l).Perm (x :: l)
  | [] => .refl _
  | y :: r => by
    unfold insP
    split
    · exact ((insP_perm x r).cons y).trans (.swap _ _ _)
    · exact .refl _
theorem psort_perm : ∀ l, (psort l).Perm l
  | [] => .refl _
  | x :: r => (insP_perm x _).trans ((psort_perm r).cons x)
theorem insP_srt (x : Int × Int) : ∀ l, PSrt l → PSrt (insP x l)
  | [], _ => by unfold insP PSrt; simp
  | y :: r, h => by
    have h' := List.pairwise_cons.mp h
    unfold insP
    split
    · rename_i q
      refine List.pairwise_cons.mpr ⟨fun z hz => ?_, insP_srt x r h'.2⟩
      rcases List.mem_cons.mp ((insP_perm x r).mem_iff.mp hz) with e | e
      · subst e; exact lexB_asym q
      · exact h'.1 z e
    · rename_i q
      have q' : SrtO.lexB y x = false := by simpa using q
      refine List.pairwise_cons.mpr ⟨fun z hz => ?_, h⟩
      rcases List.mem_cons.mp hz with e | e
      · subst e; exact q'
      · exact lexB_tr q' (h'.1 z e)
theorem psort_srt : ∀ l, PSrt (psort l)
  | [] => .nil
  | x :: r => insP_srt x _ (psort_srt r)
theorem psrt_uniq : ∀ (a b : List (Int × Int)), a.Perm b → PSrt a → PSrt b → a = b
  | [], b, h, _, _ => h.nil_eq
  | x :: a, [], h, _, _ => absurd h.symm.nil_eq (by simp)
  | x :: a, y :: b, h, h1, h2 => by
    have p1 := List.pairwise_cons.mp h1
    have p2 := List.pairwise_cons.mp h2
    have e : x = y := by
      rcases List.mem_cons.mp (h.mem_iff.mp List.mem_cons_self) with e | e
      · exact e
      · rcases List.mem_cons.mp (h.mem_iff.mpr List.mem_cons_self) with e' | e'
        · exact e'.symm
        · exact lexB_eq (p1.1 y e') (p2.1 x e)
    subst e
    rw [psrt_uniq a b h.cons_inv p1.2 p2.2]
def pairD (p : Int × Int) : D := .tup [.int p.1, .int p.2]
def asPairs : List D → Option (List (Int × Int))
  | [] => some []
  | .tup [.int a, .int b] :: r => (asPairs r).map ((a, b) :: ·)
  | _ => none
theorem asPairs_eq : ∀ {xs : List D} {ps : List (Int × Int)}, asPairs xs = some ps → xs = ps.map pairD := by
  intro xs
  induction xs with
  | nil => intro ps h; cases h; rfl
  | cons x r ih =>
    intro ps h
    unfold asPairs at h
    split at h
    · rename_i q; cases q
    · rename_i q
      cases q
      obtain ⟨qs, e, h⟩ := Option.map_eq_some_iff.mp h
      subst h
      rw [ih e]; rfl
    · cases h
def gSorted : List D → O1
  | [.lst xs] => (match asInts xs with
    | some ns => some (.lst ((isort ns).map .int), true)
    | none => (match asPairs xs with
      | some ps => some (.lst ((psort ps).map pairD), true)
      | none => (match xs with
        | [x] => some (.lst [x], true)
        | _ => none)))
  | [.dk kvs] => if kvs.length ≤ LIM then (keyInts kvs).map fun ns => (.lst ((isort ns).map .int), true) else none
  | _ => none
section
variable {X : Cx} {fa : Nat → Option Addr} {cl : Nat → ClsI} {W : WX} {x : Expr} {a : SmE} {pos : Pos}
theorem PE.or {x : Expr} {t t' : TE} (h : PE X x t) (h' : PE X x t') : PE X x (fun σ H Q => t σ H Q ∨ t' σ H Q) := ⟨fun pins s σ H Q I q => q.elim (h.run pins s σ H Q I) (h'.run pins s σ H Q I)⟩
theorem finK {c : Option Addr} {K : PySem.W.Frag} {F H : Hp} {κ : Kp} {Q : VK} {ds : List (Key × D)} {vs : List (Key × V)} (hF : ∀ a o, F a = some o → H a = some o) (k : Kap c κ F H)
    (o : ∀ F' H' v, Stp K c F H F' H' → Kap c κ F' H' → RepF K fa c F' H' true (.dk ds) v → (true = true → ∀ a, v = .ref a → H a = none) → Q v H') (r : RepK K fa c F ds vs) : ∀ p, H p = none → Q (.ref p) (upd H p (.dK vs)) := fun p hp => by
  have hF1 : F p = none := by
    cases q : F p with
    | none => rfl
    | some u => rw [hF _ _ q] at hp; cases hp
  have hcp : c ≠ some p := fun q => by
    obtain ⟨_, h2⟩ := k.2 p q
    rw [hp] at h2; cases h2
  exact o F (upd H p (.dK vs)) (.ref p) (Stp.laid0 hF hp) (k.laid0 hp) ⟨p, rfl, ⟨hF1, hcp, vs, upd_same, r⟩⟩ (fun _ a ea => by cases ea; exact hp)
theorem sn_new : SnE X fa cl W (.Dict [] [] pos) cNew := by
  refine PE.imp (fun σ H Q ⟨c, F0, H0, F, ρ, κ, r, o⟩ => ?_) pe_dnewK
  exact finK r.inH r.kap o .nil
theorem repL_rev {K : PySem.W.Frag} {c : Option Addr} {F : Hp} : ∀ {ds : List D} {vs : List V}, RepL K fa c F ds vs → RepL K fa c F ds.reverse vs.reverse
  | _, _, .nil => .nil
  | _, _, .cons h t => by
    rw [List.reverse_cons, List.reverse_cons]
    exact (repL_rev t).append (.cons h .nil)
theorem sn_rev {k : Nat} {p1 p2 p3 : Pos} (ha : SnE X fa cl W x a) : SnE X fa cl W (.Subscript x (.Slice none none (some (.UnaryOp .USub (.Constant (.int 1) k p1) p2)) p3) pos) (cUn fRev a) := by
  refine PE.imp (fun σ H Q ⟨c, F0, H0, F, ρ, κ, r, o⟩ => ?_) (PE.or (pe_revL ha) (pe_revT ha))
  unfold cUn at o
  cases ea : a ρ κ with
  | exc k2 d2 κ2 => rw [ea] at o; exact .inl ⟨c, F0, H0, F, ρ, κ, r, by rw [ea]; exact o⟩
  | bad => rw [ea] at o; exact o.elim
  | ok d fr κ1 =>
    rw [ea] at o
    have o : Out X.K fa cl W c σ F H Q (lift (fRev d) κ1) := o
    cases d <;> try exact o.elim
    · right
      refine ⟨c, F0, H0, F, ρ, κ, r, ?_⟩
      rw [ea]
      intro F1 H1 v s1 k1 e fresh
      obtain ⟨F2, s2, k2, _, e2⟩ := e.still s1 k1 fresh
      cases e2 with
      | tup h t => exact ⟨_, _, rfl, SqT.of (s2.inH _ _ h), finT s2.inH k2 (Out.step s2 o) (repL_rev t)⟩
    · left
      refine ⟨c, F0, H0, F, ρ, κ, r, ?_⟩
      rw [ea]
      intro F1 H1 v s1 k1 e fresh
      obtain ⟨F2, s2, k2, _, e2⟩ := e.still s1 k1 fresh
      cases e2 with
      | lst h t => exact ⟨_, _, rfl, SqL.of (s2.inH _ _ h), finL s2.inH k2 (Out.step s2 o) (repL_rev t)⟩
theorem bi_repr : CallR X (.builtin "repr") (rAp X.K fa gRepr) := by
  intro pins s σ H xs us Q I r h
  obtain ⟨c, F, κ, ds, d, fr, hF, k, rl, e, q⟩ := h
  unfold gRepr at e
  split at e
  · rename_i b
    cases e
    obtain ⟨v, rfl, rv⟩ := repL1 rl
    cases rv
    obtain ⟨u, rfl, ru⟩ := vals1 r
    cases ru
    refine PySem.P.repr_of_bool ⟨.str (boolStr b), H, I.tok _, ?_, fin0 hF k q (.str _)⟩
    cases b <;> exact ⟨_, rfl⟩
  · rename_i i
    split at e
    · rename_i hi
      cases e
      obtain ⟨v, rfl, rv⟩ := repL1 rl
      cases rv
      exact SkE.call_repr_int pins s σ H _ us Q I r ⟨i, rfl, PySem.Flt.log2_lt_of (by decide) (Nat.lt_of_lt_of_le hi (Nat.pow_le_pow_right (by decide) (by decide))), fin0 hF k q (.str _)⟩
    · cases e
  · cases e
theorem repL_ofInts {K : PySem.W.Frag} {c : Option Addr} {F : Hp} : ∀ ns : List Int, RepL K fa c F (ns.map .int) (ns.map V.int)
  | [] => .nil
  | i :: r => .cons (.int i) (repL_ofInts r)
theorem sortedD_any (hcalm : X.calm = true) : CallR X (.builtin "sorted") (fun xs H Q => ∃ (a : Addr) (kvs : List (Key × V)) (ks : List Int), xs = [.ref a] ∧ Rd H a (.dK kvs) ∧ kvs.map (·.1) = ks.map Sum.inl ∧ ks.length ≤ sizeLine ∧
    ∀ (ys : List Int) (p : Addr), ys.Perm ks → ys.Pairwise (· ≤ ·) → H p = none → Q (.ref p) (upd H p (.lst (ys.map V.int)))) := by
  intro pins s σ H xs us Q I r q
  obtain ⟨a, kvs, ks, ex, hd, hks, hline, q⟩ := q
  subst ex
  obtain ⟨u, eu, rx⟩ := vals1 r
  subst eu
  cases rx
  obtain ⟨z, lo, vs, rel, dd⟩ := dk_rd I.hok hd
  obtain ⟨ep, hat⟩ := dd.dictAt
  have hkeys : vs.map (·.1) = ks.map Sum.inl := rel.keys.symm.trans hks
  have hl : vs.length = ks.length := by
    have e := congrArg List.length hkeys
    rw [List.length_map, List.length_map] at e
    exact e
  have h16 : vs.length ≤ sizeLine := by rw [hl]; exact hline
  refine Calls.call_function_entry PyProof.Rows.kind_sorted PyProof.Rows.plain_sorted PyProof.Rows.entry_sorted (PyProof.Rows.args_sorted1 _) ?_
  unfold Builtin.«sorted»
  refine wpAny_bind (m := checkCount "sorted" 1 1 _) (wpAny_pure ?_)
  refine wpAny_bind (PySem.W.kdu_collect (A := X.A.in1) (PySem.W.kdl_dict (knd := mixKind X.prog X.w) (kvs := vs) (ep := ep) lo) (I.ok.hd hcalm) hat h16 fun h' tk acc hk hacc => ?_)
  have hal : acc.toList.length = ks.length := by rw [Array.length_toList, hacc.1, hl]
  have hS : IntsAre acc.toList ks := ints_each hal fun j v e => by
    obtain ⟨k, x, e1, e2⟩ := hacc.2 j v (by rw [← Array.getElem?_toList]; exact e)
    have e3 : (vs.map (·.1))[j]? = some k := by rw [List.getElem?_map, e1]; rfl
    rw [hkeys, List.getElem?_map] at e3
    cases e4 : ks[j]? with
    | none => rw [e4] at e3; cases e3
    | some y =>
      rw [e4] at e3
      have e5 : Sum.inl y = k := Option.some.inj e3
      subst e5
      rcases keyIs_shape (show keyIs (Sum.inl y) v = true from e2) with ⟨i, t, ek, ev⟩ | ⟨z, t, ek, ev⟩
      · cases ek
        exact ⟨y, t, rfl, ev⟩
      · cases ek
  have I1 : Inv X pins σ H { s with heap := h', toks := tk } := I.kept hk
  refine wpAny_bind (wpAny_newList ?_ (by rw [hal]; exact hline))
  have hoL : (h'.push (seqObj "list" acc.toList.toArray 0)).get? h'.objs.size = some (seqObj "list" acc.toList.toArray 0) := Heap.get?_push_size _ rfl
  show wpAny _ _ _ _ _ { s with heap := h'.push (seqObj "list" acc.toList.toArray 0), toks := tk }
  refine wpAny_bind (wpAny_holding (wpAny_call_entry PyProof.Rows.slot_list_sort ⟨_, hoL, rfl⟩ PyProof.Rows.entry_list_sort
    (SrtO.list_sort_ord (s := { s with heap := h'.push (seqObj "list" acc.toList.toArray 0), toks := tk }) SrtO.swo_int hoL (by rw [hal]; exact hline) (fun h2 => SrtO.ints_sortable hS h2) fun out h1 h2 => ⟨_, rfl, ?_⟩) (PyProof.Rows.args_list_sort _)))
  obtain ⟨g1, g2, g3⟩ := SrtO.ints_out hS h1 h2
  obtain ⟨e', he'⟩ := PyProof.Rows.sortedHeap_at (vs := acc.toList) (out := out.toArray) hoL
  have hlen : ((out.map SrtO.iv).map V.int).length ≤ sizeLine := by
    rw [List.length_map, g2.length_eq]; exact hline
  refine wpAny_pure ⟨_, rfl, .ref h'.objs.size, upd H h'.objs.size (.lst ((out.map SrtO.iv).map V.int)), I1.laid (t' := tk) (fun b u e => ?_) (Nat.le_refl _)
    (show ObjOk X.prog X.w _ _ _ (.lst ((out.map SrtO.iv).map V.int)) from ⟨hlen, out, e', vals_of_ints g1, he'⟩), rfl, q _ _ g2 g3 (I1.hok.fresh (Nat.le_refl _))⟩
  have hb : b < h'.objs.size := Heap.lt_size e
  rw [PyProof.Rows.sortedHeap_old (Nat.ne_of_lt hb) (by rw [size_push']; exact Nat.lt_succ_of_lt hb)]
  exact Heap.get?_push_of_some _ e
theorem cr_sorted1 : CallR X (.builtin "sorted") (fun vs H Q => ∃ (a : Addr) (x : V), vs = [V.ref a] ∧ SqL X.K H a [x] ∧ ∀ p, H p = none → Q (.ref p) (upd H p (.lst [x]))) := by
  intro pins s σ H vs us Q I r h
  obtain ⟨a, x, rfl, hs, q⟩ := h
  obtain ⟨its, rv, hl, hz⟩ := I.list hs
  rw [Vals.ref1 r]
  obtain ⟨u, rfl, ru⟩ := vals1 rv
  refine SrtO.sorted_ord SrtO.swo_int hl.isList (by rw [← rv.length]; exact hz) (fun h2 h₁ a' _ _ => absurd h2 (by simp)) fun out h1 h2 => ?_
  have ho : out = [u] := List.perm_singleton.mp h2.perm
  subst ho
  obtain ⟨ep, he'⟩ := PyProof.Rows.sortedAll_at s.heap [u] [u].toArray
  exact ⟨.ref _, upd H (s.heap.objs.size + 1) (.lst [x]), I.laid (t' := s.toks) (fun _ _ => PyProof.Rows.sortedAll_old) (Nat.le_succ _) ⟨hz, [u], ep, rv, he'⟩, rfl, q _ (I.hok.fresh (Nat.le_succ _))⟩
theorem cr_sortedP : CallR X (.builtin "sorted") (fun vs H Q => ∃ (a : Addr) (ys : List V) (k : V → Int × Int), vs = [V.ref a] ∧ SqL X.K H a ys ∧ (∀ y ∈ ys, ∃ t, y = V.ref t ∧ H t = some (.tup [.int (k y).1, .int (k y).2])) ∧
    ∀ zs p, SrtO.Srtd (ltP k) zs → SrtO.Stb (ltP k) zs ys → H p = none → Q (.ref p) (upd H p (.lst zs))) := by
  intro pins s σ H vs us Q I r h
  obtain ⟨a, ys, k, rfl, hs, hx, q⟩ := h
  obtain ⟨its, rv, hl, hz⟩ := I.list hs
  rw [Vals.ref1 r]
  obtain ⟨e1, e2⟩ := refs_back rv fun x m => by
    obtain ⟨t, e, _⟩ := hx x m
    exact ⟨t, e⟩
  have hp : ∀ v ∈ its, Srt.IsPair s.heap v (k (backV v)).1 (k (backV v)).2 := fun v hv => by
    obtain ⟨t, rfl⟩ := e2 v hv
    have hm : V.ref t ∈ ys := by rw [e1]; exact List.mem_map.mpr ⟨_, hv, rfl⟩
    obtain ⟨t', e, ht⟩ := hx _ hm
    cases e
    obtain ⟨_, its2, r2, o, ho, hc, n, hd⟩ := I.hok _ _ ht
    obtain ⟨u1, u2, rfl, ri, rj⟩ := vals2 r2
    obtain ⟨t1, rfl⟩ := ri
    obtain ⟨t2, rfl⟩ := rj
    exact ⟨t, o, t1, t2, n, rfl, ho, hc, hd⟩
  refine SrtO.sorted_pairsO (k := fun u => k (backV u)) hl.isList (by rw [← rv.length]; exact hz) hp fun h' d out h1 h2 hk hd he' => ?_
  obtain ⟨ep, he'⟩ := he'
  have h3 : ∀ u ∈ out, ∃ a, u = Value.ref a := fun u hu => e2 u (h2.perm.mem_iff.mp hu)
  have hb : SrtO.Stb (ltP k) (out.map backV) ys := by
    rw [e1]
    exact SrtO.Stb.map (ltP_swo k) backV h2
  have hlen : (out.map backV).length ≤ sizeLine := by
    rw [hb.len]
    exact hz
  exact ⟨.ref d, upd H d (.lst (out.map backV)), I.laid (t' := s.toks) hk hd ⟨hlen, out, ep, vals_back h3, he'⟩, rfl, q _ d (SrtO.srtd_map h1) hb (I.hok.fresh hd)⟩
def kOf (H : Hp) : V → Int × Int
  | .ref t => (match H t with
    | some (.tup [.int a, .int b]) => (a, b)
    | _ => (0, 0))
  | _ => (0, 0)
theorem repPairs {K : PySem.W.Frag} {c : Option Addr} {F H : Hp} (hF : ∀ a o, F a = some o → H a = some o) : ∀ {ps : List (Int × Int)} {vs : List V}, RepL K fa c F (ps.map pairD) vs → vs.map (kOf H) = ps ∧ ∀ v ∈ vs, (∃ t, v = .ref t ∧ H t = some (.tup [.int (kOf H v).1, .int (kOf H v).2])) ∧ Rep K fa c F (pairD (kOf H v)) v
  | [], _, r => by cases r; exact ⟨rfl, fun v h => nomatch h⟩
  | p :: ps, _, r => by
    cases r with
    | cons h t =>
      obtain ⟨h1, h2⟩ := repPairs hF t
      have hh := h
      cases h with
      | tup hq tq =>
      cases tq with
      | cons ta tb =>
      cases ta
      cases tb with
      | cons tb tc =>
      cases tb
      cases tc
      rename_i a
      have hk : kOf H (.ref a) = p := by
        have e := hF _ _ hq
        show (match H a with | some (.tup [.int a, .int b]) => (a, b) | _ => (0, 0)) = p
        rw [e]
      refine ⟨by rw [List.map_cons, h1, hk], fun v hv => ?_⟩
      rcases List.mem_cons.mp hv with e | e
      · subst e
        rw [hk]
        exact ⟨⟨_, rfl, hF _ _ hq⟩, hh⟩
      · exact h2 v e
theorem repPerm {K : PySem.W.Frag} {c : Option Addr} {F : Hp} {k : V → Int × Int} : ∀ {zs : List V}, (∀ z ∈ zs, Rep K fa c F (pairD (k z)) z) → RepL K fa c F ((zs.map k).map pairD) zs
  | [], _ => .nil
  | z :: zs, h => .cons (h z List.mem_cons_self) (repPerm fun x hx => h x (List.mem_cons_of_mem _ hx))
theorem bi_sorted (hcalm : X.calm = true) : CallR X (.builtin "sorted") (rAp X.K fa gSorted) := by
  intro pins s σ H xs us Q I r h
  obtain ⟨c, F, κ, ds, d, fr, hF, k, rl, e, q⟩ := h
  unfold gSorted at e
  split at e
  · rename_i ys
    cases en : asInts ys with
    | none =>
      rw [en] at e
      dsimp only at e
      split at e
      · rename_i ps eps
        cases e
        obtain ⟨v, rfl, rv⟩ := repL1 rl
        cases rv with
        | lst h t =>
        rename_i a vs
        rw [asPairs_eq eps] at t
        obtain ⟨g1, g2⟩ := repPairs hF t
        refine cr_sortedP pins s σ H _ us Q I r ⟨_, _, kOf H, rfl, SqL.of (hF _ _ h), fun y hy => (g2 y hy).1, fun zs p h1 h2 hp => ?_⟩
        have hz : zs.map (kOf H) = psort ps := by
          refine psrt_uniq _ _ ?_ ?_ (psort_srt ps)
          · have := h2.perm.map (kOf H)
            rw [g1] at this
            exact this.trans (psort_perm ps).symm
          · exact List.pairwise_map.mpr (h1.imp fun {x y} h => h)
        have rz := repPerm (fun z hz => (g2 z (h2.perm.mem_iff.mp hz)).2)
        rw [hz] at rz
        exact finL hF k q rz p hp
      split at e
      · cases e
        obtain ⟨v, rfl, rv⟩ := repL1 rl
        cases rv with
        | lst h t =>
          cases t with
          | cons tx tn =>
          cases tn
          exact cr_sorted1 pins s σ H _ us Q I r ⟨_, _, rfl, SqL.of (hF _ _ h), fun p hp => finL hF k q (.cons tx .nil) p hp⟩
      · cases e
    | some ns =>
      rw [en] at e
      cases e
      obtain ⟨v, rfl, rv⟩ := repL1 rl
      cases rv with
      | lst h t =>
        have hv := repL_ints t en
        subst hv
        refine cr_sortedI pins s σ H _ us Q I r ⟨_, ns, rfl, SqL.of (hF _ _ h), fun ns' p h1 h2 h3 => ?_⟩
        rw [srt_uniq ns' (isort ns) (h1.trans (isort_perm ns).symm) h2 (isort_srt ns)]
        exact finL hF k q (repL_ofInts _) p h3
  · rename_i kvs
    split at e
    · rename_i hlen
      cases en : keyInts kvs with
      | none => rw [en] at e; cases e
      | some ns =>
        rw [en] at e
        cases e
        obtain ⟨v, rfl, rv⟩ := repL1 rl
        cases rv with
        | dk h t =>
          obtain ⟨hk1, hk2⟩ := repK_kint t en
          refine sortedD_any hcalm pins s σ H _ us Q I r ⟨_, _, ns, rfl, Rd.of (hF _ _ h), hk1, by rw [hk2]; exact Nat.le_trans hlen lim_le, fun ns' p h1 h2 h3 => ?_⟩
          rw [srt_uniq ns' (isort ns) (h1.trans (isort_perm ns).symm) h2 (isort_srt ns)]
          exact finL hF k q (repL_ofInts _) p h3
    · cases e
  · cases e
end
/-! ## a dict just made is walked by its keys -/
section
variable {X : Cx} {tg e : Expr} {td : TE}
theorem pi_keysF (he : PE X e td) : PI X tg e (fun σ H R => td σ H fun x H1 => ∃ d kvs, x = .ref d ∧ H1 d = some (.dK kvs) ∧ ∀ o, R (Itk d o kvs) (upd H1 d (.frz o (.dK kvs)))) := by
  refine ⟨fun pins s σ H R I h => ?_⟩
  refine thn (he.run pins s σ H _ I h) fun u s1 ⟨x, H1, I1, rx, d, kvs, ex, hd, q⟩ => ?_
  subst ex
  obtain rfl : u = Value.ref d := rx
  obtain ⟨od, I2⟩ := I1.lock hd trivial
  have hd2 : upd H1 d (.frz od (.dK kvs)) d = some (.frz od (.dK kvs)) := upd_same
  obtain ⟨hs, hgd, hx, es, ep, vs, hdt, hsz, kv, hm⟩ := I2.frzK hd2
  refine iter_keys hs hgd hx hdt (pi_one (tk := s1.toks) I2 _ (turn_keys _ hdt) ⟨_, Heap.get?_push_size _ rfl, rfl, ?_⟩ (q od))
  rw [hsz] <;> rfl
end
def cItF (a : SmE) : SmL := fun ρ κ => match a ρ κ with
  | .ok (.dk kvs) true κ => .ok (kvs.map fun kv => keyD kv.1) κ
  | .ok _ _ _ => .bad
  | .exc k d κ => .exc k d κ
  | .bad => .bad
section
variable {X : Cx} {fa : Nat → Option Addr} {cl : Nat → ClsI} {W : WX} {x tg : Expr} {a : SmE}
theorem si_keysF (ha : SnE X fa cl W x a) : SnI X fa cl W tg x (cItF a) := by
  refine PI.imp (fun σ H R ⟨c, F0, H0, F, ρ, κ, r, o⟩ => ?_) (pi_keysF ha)
  refine ⟨c, F0, H0, F, ρ, κ, r, ?_⟩
  unfold cItF at o
  cases ea : a ρ κ with
  | ok d fr κ1 =>
    rw [ea] at o
    cases d <;> try exact o.elim
    rename_i kvs
    cases fr with
    | false => exact o.elim
    | true =>
      intro F' H' v s k e fresh
      obtain ⟨ad, rfl, ow⟩ := e
      obtain ⟨ks, hH, rk⟩ := ow.at_
      have hn : H ad = none := fresh rfl ad rfl
      refine ⟨ad, ks, rfl, hH, fun od => ?_⟩
      have hF' : ∀ b o, F' b = some o → b ≠ ad := fun b o e z => by rw [z, ow.nF] at e; cases e
      have s2 : Stp X.K c F H (upd F' ad (.frz od (.dK ks))) (upd H' ad (.frz od (.dK ks))) := by
        refine ⟨s.sub.trans (Sub.of fun b w e => by rw [upd_ne (hF' b w e)]; exact e), fun b w e => ?_, fun b w e => ?_, fun b w e n t => ?_, fun b w e => ?_, fun h => tab_plain hH nk_dK _ (s.tab h)⟩
        · by_cases hb : b = ad
          · subst hb; rw [upd_same] at e ⊢; exact e
          · rw [upd_ne hb] at e ⊢; exact s.inH b w e
        · by_cases hb : b = ad
          · subst hb; exact .inr hn
          · rw [upd_ne hb] at e; exact s.new b w e
        · have hb : b ≠ ad := fun z => by rw [z, hn] at e; cases e
          rw [upd_ne hb]; exact s.keep b w e n t
        · have hb : b ≠ ad := fun z => by rw [z, hn] at e; cases e
          rw [upd_ne hb]; exact s.dom b w e
      have k2 : Kap c κ1 (upd F' ad (.frz od (.dK ks))) (upd H' ad (.frz od (.dK ks))) := ⟨k.1, fun b hb => by
        obtain ⟨h1, h2⟩ := k.2 b hb
        have : b ≠ ad := fun z => ow.nc (by rw [← z]; exact hb)
        rw [upd_ne this, upd_ne this]
        exact ⟨h1, h2⟩⟩
      refine o _ _ _ s2 k2 fun G I κ3 i sb hG k3 => ?_
      have hz : I ad = some (.frz od (.dK ks)) := hG _ _ (sb.z _ _ _ upd_same)
      have rl : RepL X.K fa c G (kvs.map fun kv => keyD kv.1) (ks.map fun kv => kV kv.1) := repK_keys rk
      refine ⟨fun d ed => ?_, fun ed => ?_⟩
      · obtain ⟨w, hw, rw'⟩ := rl.get ed
        rw [List.getElem?_map] at hw
        obtain ⟨kv, hkv, ew⟩ := Option.map_eq_some_iff.mp hw
        refine ⟨⟨hz, (List.getElem?_eq_some_iff.mp hkv).1⟩, fun y I' ⟨e1, k', v', e3, e4⟩ => ?_⟩
        subst e1
        rw [hkv] at e3
        cases e3
        rw [e4, ew]
        exact ⟨G, Stp.refl hG, k3, rw'⟩
      · refine ⟨hz, ?_⟩
        have := rl.none_of ed
        rwa [List.length_map] at this
  | exc k d κ => rw [ea] at o; exact o
  | bad => rw [ea] at o; exact o
end
/-! ## dicts compared: flat values -/
def sameK (ks ls : List (Key × V)) : Bool := ks.all fun p => match valV ls p.1 with | some v => eqV p.2 v | none => false
theorem hits_gen {A : Around} {s : Shared} {ls : List (Key × V)} {vb : List (Key × Value)} (rb : KV ls vb) (hl : ∀ p ∈ ls, flatV p.2 = true) {ks : List (Key × V)} {va : List (Key × Value)} (ra : KV ks va) :
    (∀ p ∈ ks, flatV p.2 = true) → PySem.W.KeqHits A s vb va (sameK ks ls) := by
  unfold KV at ra
  induction ra with
  | nil => intro _; exact .nil
  | @cons p q ps qs h t ih =>
    intro hp
    obtain ⟨h1, h2⟩ := h
    obtain ⟨k, v⟩ := q
    have h1' : p.1 = k := h1
    have f := hp p List.mem_cons_self
    have ih := ih fun p' hm => hp p' (List.mem_cons_of_mem _ hm)
    cases e : valV ls p.1 with
    | none =>
      have rr : RelO (none : Option V) (valueAt vb p.1) := by rw [← e]; exact rb.val p.1
      have hn : valueAt vb k = none := by
        rw [← h1']
        cases q : valueAt vb p.1 with
        | none => rfl
        | some y => rw [q] at rr; exact rr.elim
      have : sameK (p :: ps) ls = false := by unfold sameK; rw [List.all_cons, e]; rfl
      rw [this]
      exact .miss hn
    | some w =>
      have rr : RelO (some w) (valueAt vb p.1) := by rw [← e]; exact rb.val p.1
      obtain ⟨y, hy, ry⟩ := rr.some_of
      rw [h1'] at hy
      have fw : flatV w = true := by
        unfold valV at e
        obtain ⟨kv, hf, rfl⟩ := Option.map_eq_some_iff.mp e
        exact hl kv (List.mem_of_find?_eq_some hf)
      have : sameK (p :: ps) ls = (eqV p.2 w && sameK ps ls) := by unfold sameK; rw [List.all_cons, e]
      rw [this]
      exact .hit hy (eqAt_V h2 ry f fw) ih
section
variable {X : Cx}
theorem op_eq_dictG (hu : X.A.units < cLine) : OpR X (compareOp .Eq) (fun x y H Q => ∃ a b ks ls, x = .ref a ∧ y = .ref b ∧ H a = some (.dK ks) ∧ H b = some (.dK ls) ∧ (∀ p ∈ ks, flatV p.2 = true) ∧ (∀ p ∈ ls, flatV p.2 = true) ∧ Q (.bl (decide (ks.length = ls.length) && sameK ks ls)) H) := by
  intro pins s σ H x y v u Q I rx ry h
  obtain ⟨a, b, ks, ls, rfl, rfl, ea, eb, h1, h2, q⟩ := h
  obtain rfl : v = Value.ref a := rx
  obtain rfl : u = Value.ref b := ry
  obtain ⟨_, ya, va, ra, da⟩ := (show ObjOk X.prog X.w H s.heap a (.dK ks) from I.hok a _ ea)
  obtain ⟨_, yb, vb, rb, db⟩ := (show ObjOk X.prog X.w H s.heap b (.dK ls) from I.hok b _ eb)
  have hl : (va.length == vb.length) = decide (ks.length = ls.length) := by rw [← ra.length, ← rb.length]; rfl
  exact PySem.W.keq_eq (knd := mixKind X.prog X.w) (r := sameK ks ls) ya yb da db hu (fun _ => hits_gen rb h2 ra h1) (fin_bl I q (by rw [hl]))
theorem op_ne_dictG (hu : X.A.units < cLine) : OpR X (compareOp .NotEq) (fun x y H Q => ∃ a b ks ls, x = .ref a ∧ y = .ref b ∧ H a = some (.dK ks) ∧ H b = some (.dK ls) ∧ (∀ p ∈ ks, flatV p.2 = true) ∧ (∀ p ∈ ls, flatV p.2 = true) ∧ Q (.bl (!(decide (ks.length = ls.length) && sameK ks ls))) H) := by
  intro pins s σ H x y v u Q I rx ry h
  obtain ⟨a, b, ks, ls, rfl, rfl, ea, eb, h1, h2, q⟩ := h
  obtain rfl : v = Value.ref a := rx
  obtain rfl : u = Value.ref b := ry
  obtain ⟨_, ya, va, ra, da⟩ := (show ObjOk X.prog X.w H s.heap a (.dK ks) from I.hok a _ ea)
  obtain ⟨_, yb, vb, rb, db⟩ := (show ObjOk X.prog X.w H s.heap b (.dK ls) from I.hok b _ eb)
  have hl : (va.length == vb.length) = decide (ks.length = ls.length) := by rw [← ra.length, ← rb.length]; rfl
  exact PySem.W.keq_ne (knd := mixKind X.prog X.w) (r := sameK ks ls) ya yb da db hu (fun _ => hits_gen rb h2 ra h1) (fin_bl I q (by rw [hl]))
end
/-- dicts of flat values -/
def eqvK (xs ys : List (Key × D)) : Bool := decide (xs.length = ys.length) && xs.all fun p => match dgetE ys p.1 with | some v => p.2.eqv v | none => false
def flK (xs : List (Key × D)) : Bool := xs.all fun p => p.2.fl0
section
variable {K : PySem.W.Frag} {fa : Nat → Option Addr} {c : Option Addr} {F : Hp}
theorem flK_rep : ∀ {xs : List (Key × D)} {ks : List (Key × V)}, RepK K fa c F xs ks → flK xs = true → ∀ p ∈ ks, flatV p.2 = true
  | _, _, .nil, _, p, hp => by cases hp
  | _, _, .cons h t, e, p, hp => by
    unfold flK at e
    rw [List.all_cons, Bool.and_eq_true] at e
    rcases List.mem_cons.mp hp with rfl | hp
    · exact fl0_rep h e.1
    · exact flK_rep t e.2 p hp
theorem repK_len : ∀ {xs : List (Key × D)} {ks : List (Key × V)}, RepK K fa c F xs ks → ks.length = xs.length
  | _, _, .nil => rfl
  | _, _, .cons _ t => by rw [List.length_cons, List.length_cons, repK_len t]
theorem flK_get {ys : List (Key × D)} (h : flK ys = true) {k : Key} {d : D} (e : dgetE ys k = some d) : d.fl0 = true := by
  unfold dgetE at e
  obtain ⟨kv, hf, rfl⟩ := Option.map_eq_some_iff.mp e
  exact (List.all_eq_true.mp h) kv (List.mem_of_find?_eq_some hf)
theorem sameK_rep {ys : List (Key × D)} {ls : List (Key × V)} (ry : RepK K fa c F ys ls) (hy : flK ys = true) : ∀ {xs : List (Key × D)} {ks : List (Key × V)}, RepK K fa c F xs ks → flK xs = true →
    sameK ks ls = xs.all fun p => match dgetE ys p.1 with | some v => p.2.eqv v | none => false
  | _, _, .nil, _ => rfl
  | _, _, .cons (k := k) (d := d) (v := v) h t, e => by
    unfold flK at e
    rw [List.all_cons, Bool.and_eq_true] at e
    have ih := sameK_rep ry hy t e.2
    unfold sameK at ih ⊢
    rw [List.all_cons, List.all_cons, ih]
    congr 1
    obtain ⟨h1, h2⟩ := repK_look k ry
    cases q : dgetE ys k with
    | none => rw [h2 q]
    | some w =>
      obtain ⟨u, hu, ru⟩ := h1 w q
      rw [hu]
      exact fl0_eqv h ru e.1 (flK_get hy q)
end
/-! ## a dict by a comprehension -/
def dcRun (tg : Tg) (t ek ev : SmE) : List D → List (Key × D) → Rho → Kp → Option (List (Key × D) × Kp)
  | [], acc, _, κ => some (acc, κ)
  | d :: ds, acc, ρ, κ => match tg d ρ with
    | none => none
    | some ρ1 => match t ρ1 κ with
      | .ok b _ κ => match truth b with
        | some true => match ek ρ1 κ with
          | .ok y false κ => match asKey y with
            | some k => match ev ρ1 κ with
              | .ok z _ κ => dcRun tg t ek ev ds (dputE acc k z) ρ κ
              | _ => none
            | none => none
          | _ => none
        | some false => dcRun tg t ek ev ds acc ρ κ
        | none => none
      | _ => none
def cDc (it : SmL) (tg : Tg) (t ek ev : SmE) (vs : List Nat) : SmE := fun ρ κ => match it ρ κ with
  | .ok ds κ => if ds.length ≤ LIM then (match dcRun tg t ek ev ds [] (wipeR ρ vs) κ with
    | some (kvs, κ) => .ok (.dk kvs) true κ
    | none => .bad) else .bad
  | .exc k d κ => .exc k d κ
  | .bad => .bad
section
variable {X : Cx} {fa : Nat → Option Addr} {cl : Nat → ClsI} {W : WX}
theorem tE_dc {it : SmL} {tg : Tg} {t ek ev : SmE} {ts vs : List Nat} {σ : L2.St} {H : Hp} {Q : VK} (hs : ∀ j ∈ ts, j ∈ vs) (h : tE X fa cl W (cDc it tg t ek ev vs) σ H Q) :
    tDc (tI X fa cl W it) (tG X fa ts tg) (tT X fa cl WF t) (tE X fa cl WF ek) (tE X fa cl WF ev) vs σ H Q := by
  obtain ⟨c, F0, H0, F, ρ, κ, r, o⟩ := h
  refine ⟨c, F0, H0, F, ρ, κ, r, ?_⟩
  unfold cDc at o
  cases ei : it ρ κ with
  | exc k d κ => rw [ei] at o; exact o
  | bad => rw [ei] at o; exact o
  | ok ds κ1 =>
    rw [ei] at o
    dsimp only at o
    by_cases hz : ds.length ≤ LIM
    case neg => rw [if_neg hz] at o; exact o.elim
    rw [if_pos hz] at o
    cases er : dcRun tg t ek ev ds [] (wipeR ρ vs) κ1 with
    | none => rw [er] at o; exact o.elim
    | some p =>
      obtain ⟨all, κf⟩ := p
      rw [er] at o
      dsimp only at o
      intro F1 H1 J s1 k1 Y D hD
      have cD : c ≠ some D := fun q => by
        obtain ⟨_, h2⟩ := k1.2 D q
        rw [hD] at h2; cases h2
      have F1D : F1 D = none := by
        cases q : F1 D with
        | none => rfl
        | some u => rw [s1.inH _ _ q] at hD; cases hD
      refine ⟨fun i m Hc => m + i = ds.length ∧ ∃ Fc κc acc ws, Stp X.K c F1 H1 Fc Hc ∧ Kap c κc Fc Hc ∧ Fc D = none ∧ Hc D = some (.dK ws) ∧ RepK X.K fa c Fc acc ws ∧ acc.length ≤ i ∧ dcRun tg t ek ev (ds.drop i) acc (wipeR ρ vs) κc = some (all, κf),
        ⟨ds.length, by omega, F1, κ1, [], [], Stp.laid0 s1.inH hD, k1.laid0 hD, F1D, upd_same, .nil, Nat.le_refl _, er⟩, ?_⟩
      rintro i m Hc ⟨hm, Fc, κc, acc, ws, sc, kc, FcD, HcD, ra, hal, run⟩
      obtain ⟨Y1, Y2⟩ := Y Fc Hc κc i sc.sub sc.inH kc
      cases ed : ds[i]? with
      | none =>
        refine .inl ⟨Y2 ed, ?_⟩
        have hlen := List.getElem?_eq_none_iff.mp ed
        rw [List.drop_eq_nil_of_le hlen] at run
        cases run
        refine o Fc Hc (.ref D) (s1.trans sc) kc ⟨D, rfl, ⟨FcD, cD, ws, HcD, ra⟩⟩ fun _ a ea => ?_
        cases ea
        cases q : H D with
        | none => rfl
        | some u =>
          obtain ⟨u', e'⟩ := s1.dom D u q
          rw [hD] at e'; cases e'
      | some d =>
        obtain ⟨go, yld⟩ := Y1 d ed
        have hi : i < ds.length := (List.getElem?_eq_some_iff.mp ed).1
        have edrop : ds.drop i = d :: ds.drop (i + 1) := by
          rw [List.drop_eq_getElem_cons hi]
          congr 1
          rw [List.getElem?_eq_getElem hi] at ed
          exact Option.some.inj ed
        rw [edrop] at run
        unfold dcRun at run
        refine .inr ⟨go, _, fun H' n => ⟨m - 1, by omega, n⟩, fun x H' yx => ?_⟩
        obtain ⟨F2, s2, k2, rx⟩ := yld x H' yx
        have s2' := sc.trans s2
        have H'D : H' D = some (.dK ws) := s2.keep D _ HcD cD trivial
        have F2D : F2 D = none := by
          cases q : F2 D with
          | none => rfl
          | some u =>
            rcases s2.new D u q with z | z
            · exact absurd FcD z
            · rw [HcD] at z; cases z
        cases etg : tg d (wipeR ρ vs) with
        | none => rw [etg] at run; cases run
        | some ρ1 =>
          rw [etg] at run
          dsimp only at run
          have rel2 : RelS X.K fa c F0 H0 F2 (wipeR ρ vs) κc (L2.wipe σ vs) H' := r.wipe.step (s1.trans s2') k2
          refine ⟨c, F0, H0, F2, wipeR ρ vs, κc, d, ρ1, rel2, rx, etg, fun σ2 r2 sb => ⟨wipe_same sb hs, c, F0, H0, F2, ρ1, κc, r2, ?_⟩⟩
          cases et : t ρ1 κc with
          | exc k d κ => rw [et] at run; cases run
          | bad => rw [et] at run; cases run
          | ok b _ κ2 =>
            rw [et] at run
            dsimp only at run
            cases eb : truth b with
            | none => rw [eb] at run; cases run
            | some bb =>
              rw [eb] at run
              refine ⟨bb, eb, fun F3 H3 s3 k3 => ?_⟩
              have s3' := s2'.trans s3
              have H3D : H3 D = some (.dK ws) := s3.keep D _ H'D cD trivial
              have F3D : F3 D = none := by
                cases q : F3 D with
                | none => rfl
                | some u =>
                  rcases s3.new D u q with z | z
                  · exact absurd F2D z
                  · rw [H'D] at z; cases z
              cases bb with
              | false =>
                show if (false = true) then _ else _
                rw [if_neg (by simp)]
                exact ⟨by omega, F3, κ2, acc, ws, s3', k3, F3D, H3D, RepK.sub (s2.trans s3).sub ra, by omega, run⟩
              | true =>
                show if (true = true) then _ else _
                rw [if_pos rfl]
                refine ⟨c, F0, H0, F3, ρ1, κ2, r2.step s3 k3, ?_⟩
                dsimp only at run
                cases ee : ek ρ1 κ2 with
                | exc k d κ => rw [ee] at run; cases run
                | bad => rw [ee] at run; cases run
                | ok y fr κ3 =>
                  rw [ee] at run
                  cases fr with
                  | true => cases run
                  | false =>
                  dsimp only at run
                  intro F4 H4 v s4 k4 e4 _
                  cases eq : asKey y with
                  | none => rw [eq] at run; cases run
                  | some k =>
                  rw [eq] at run
                  dsimp only at run
                  have hv : v = kV k := asKey_rep e4 eq
                  refine ⟨c, F0, H0, F4, ρ1, κ3, (r2.step s3 k3).step s4 k4, ?_⟩
                  have s4' := s3'.trans s4
                  have H4D : H4 D = some (.dK ws) := s4.keep D _ H3D cD trivial
                  have F4D : F4 D = none := by
                    cases q : F4 D with
                    | none => rfl
                    | some u =>
                      rcases s4.new D u q with z | z
                      · exact absurd F3D z
                      · rw [H3D] at z; cases z
                  cases ez : ev ρ1 κ3 with
                  | exc k d κ => rw [ez] at run; cases run
                  | bad => rw [ez] at run; cases run
                  | ok z2 fr κ4 =>
                    rw [ez] at run
                    dsimp only at run
                    intro G5 H5 w s5 k5 e5 fresh
                    obtain ⟨F5, s5, k5, _, e5⟩ := e5.still s5 k5 fresh
                    have s5' := s4'.trans s5
                    have H5D : H5 D = some (.dK ws) := s5.keep D _ H4D cD trivial
                    have F5D : F5 D = none := by
                      cases q : F5 D with
                      | none => rfl
                      | some u =>
                        rcases s5.new D u q with z | z
                        · exact absurd F4D z
                        · rw [H4D] at z; cases z
                    have hlen : ws.length = acc.length := repK_len ra
                    have hwl : ws.length < sizeLine := by
                      rw [hlen]
                      have := sizeLine_eq
                      unfold LIM at hz
                      omega
                    have ra5 := RepK.sub (((s2.trans s3).trans s4).trans s5).sub ra
                    obtain ⟨p1, p2⟩ := repK_put e5 k ra5
                    have ne : ∀ a o, F5 a = some o → a ≠ D := fun a o q z => by subst z; rw [F5D] at q; cases q
                    refine ⟨ws, k, hv, H5D, hwl, ⟨by omega, F5, κ4, dputE acc k z2, putK ws k w, ⟨s5'.sub, fun a o q => by rw [upd_ne (ne a o q)]; exact s5'.inH a o q, s5'.new, fun a o q n nt => ?_, fun a o q => ?_, fun h => tab_plain H5D nk_dK _ (s5'.tab h)⟩, ⟨k5.1, fun a q => ?_⟩, F5D, upd_same, p1, by omega, run⟩⟩
                    · rw [upd_ne (fun z => by subst z; rw [hD] at q; cases q)]
                      exact s5'.keep a o q n nt
                    · rw [upd_ne (fun z => by subst z; rw [hD] at q; cases q)]
                      exact s5'.dom a o q
                    · obtain ⟨h1, h2⟩ := k5.2 a q
                      refine ⟨h1, ?_⟩
                      rw [upd_ne (fun z => cD (by rw [← z]; exact q))]
                      exact h2
end
/-! ## {k: v} -/
def cDd1 (a b : SmE) : SmE := fun ρ κ => match a ρ κ with
  | .ok y false κ => (match asKey y with
    | some k => (b ρ κ).bind fun z κ => .ok (.dk [(k, z)]) true κ
    | none => .bad)
  | .ok _ _ _ => .bad
  | .exc k d κ => .exc k d κ
  | .bad => .bad
section
variable {X : Cx} {fa : Nat → Option Addr} {cl : Nat → ClsI} {W : WX} {x y : Expr} {a b : SmE} {pos : Pos}
theorem sn_dd1 (ha : SnE X fa cl W x a) (hb : SnE X fa cl W y b) : SnE X fa cl W (.Dict [some x] [y] pos) (cDd1 a b) := by
  refine PE.imp (fun σ H Q ⟨c, F0, H0, F, ρ, κ, r, o⟩ => ?_) (pe_disp (pps_cons ha hb pps_nil) rfl rfl (by simp) (by simp))
  intro p hp
  have hcp : c ≠ some p := fun q => by
    obtain ⟨_, h2⟩ := r.kap.2 p q
    rw [hp] at h2; cases h2
  have hF1 : F p = none := by
    cases q : F p with
    | none => rfl
    | some u => rw [r.inH _ _ q] at hp; cases hp
  have sl : Stp X.K c F H F (upd H p (.dK [])) := Stp.laid0 r.inH hp
  have kl : Kap c κ F (upd H p (.dK [])) := r.kap.laid0 hp
  have o1 := o
  unfold cDd1 at o1
  refine ⟨c, F0, H0, F, ρ, κ, r.step sl kl, ?_⟩
  cases ea : a ρ κ with
  | exc k d κ1 => rw [ea] at o1; exact OutX.step sl o1
  | bad => rw [ea] at o1; exact o1.elim
  | ok yk fr κ1 =>
    rw [ea] at o1
    cases fr with
    | true => exact o1.elim
    | false =>
    dsimp only at o1
    cases eq : asKey yk with
    | none => rw [eq] at o1; exact o1.elim
    | some k =>
    rw [eq] at o1
    dsimp only at o1
    intro F1 H1 v s1 k1 e1 _
    have hv : v = kV k := asKey_rep e1 eq
    have s1' := sl.trans s1
    refine ⟨c, F0, H0, F1, ρ, κ1, r.step s1' k1, ?_⟩
    cases eb : b ρ κ1 with
    | exc k d κ2 => rw [eb] at o1; exact OutX.step s1' o1
    | bad => rw [eb] at o1; exact o1.elim
    | ok z fr κ2 =>
    rw [eb] at o1
    intro G2 H2 w s2 k2 e2 fresh2
    obtain ⟨F2, s2, k2, _, r2⟩ := e2.still s2 k2 fresh2
    have s2' := s1'.trans s2
    have Hp1 : H1 p = some (.dK []) := s1.keep p _ upd_same hcp trivial
    have Hp2 : H2 p = some (.dK []) := s2.keep p _ Hp1 hcp trivial
    have F1p : F1 p = none := by
      cases q1 : F1 p with
      | none => rfl
      | some u1 =>
        rcases s1.new p u1 q1 with z3 | z3
        · exact absurd hF1 z3
        · rw [upd_same] at z3; cases z3
    have F2p : F2 p = none := by
      cases q : F2 p with
      | none => rfl
      | some u =>
        rcases s2.new p u q with z1 | z1
        · exact absurd F1p z1
        · rw [Hp1] at z1; cases z1
    refine ⟨Hp2, [(k, w)], by rw [hv]; rfl, by simp, ?_⟩
    have ne : ∀ a o, F2 a = some o → a ≠ p := fun a o q z => by subst z; rw [F2p] at q; cases q
    have ow : Own X.K fa c F2 (upd H2 p (.dK [(k, w)])) p (.dk [(k, z)]) := ⟨F2p, hcp, [(k, w)], upd_same, .cons r2 .nil⟩
    have sfin : Stp X.K c F H F2 (upd H2 p (.dK [(k, w)])) := by
      refine ⟨s2'.sub, fun a o q => by rw [upd_ne (ne a o q)]; exact s2'.inH a o q, fun a o q => ?_, fun a o q n nt => ?_, fun a o q => ?_, fun h => tab_plain Hp2 nk_dK _ (s2'.tab h)⟩
      · have hne := ne a o q
        rcases s2.new a o q with z1 | z1
        · cases q1 : F1 a with
          | none => exact absurd q1 z1
          | some u1 =>
            rcases s1.new a u1 q1 with z3 | z3
            · exact .inl z3
            · rw [upd_ne hne] at z3; exact .inr z3
        · cases q1 : H a with
          | none => exact .inr rfl
          | some u1 =>
            obtain ⟨u2, hu2⟩ := s1'.dom a u1 q1
            rw [hu2] at z1; cases z1
      · rw [upd_ne (fun z => by subst z; rw [hp] at q; cases q)]
        exact s2'.keep a o q n nt
      · rw [upd_ne (fun z => by subst z; rw [hp] at q; cases q)]
        exact s2'.dom a o q
    have kfin : Kap c κ2 F2 (upd H2 p (.dK [(k, w)])) := ⟨k2.1, fun a q => by
      obtain ⟨h1, h2⟩ := k2.2 a q
      refine ⟨h1, ?_⟩
      rw [upd_ne (fun z => hcp (by rw [← z]; exact q))]
      exact h2⟩
    exact o1 F2 _ (.ref p) sfin kfin ⟨p, rfl, ow⟩ (fun _ a ea => by cases ea; exact hp)
end
/-! ## a dict that stays is locked while a comprehension walks it -/
mutual
def D.noK : D → Bool
  | .non | .bl _ | .int _ | .str _ | .ty _ | .fn _ | .cro => true
  | .tup xs | .lst xs => noKL xs
  | _ => false
def noKL : List D → Bool
  | [] => true
  | d :: r => d.noK && noKL r
end
def noKK : List (Key × D) → Bool
  | [] => true
  | p :: r => p.2.noK && noKK r
def Slot.lk : Slot → Slot
  | .val d => if d.noK then .val d else .no
  | _ => .no
def lkR (ρ : Rho) (i : Nat) (kvs : List (Key × D)) : Rho := (ρ.map Slot.lk).set i (.val (.fdk kvs))
def cLk (i : Nat) (m : SmE) : SmE := fun ρ κ => match ρ[i]? with
  | some (.val (.dk kvs)) => if noKK kvs then (match m (lkR ρ i kvs) κ with
    | .ok x fr κ => if x.noK then .ok x fr κ else .bad
    | _ => .bad) else .bad
  | _ => .bad
def cItK (a : SmE) : SmL := fun ρ κ => match a ρ κ with
  | .ok (.fdk kvs) false κ => .ok (kvs.map fun kv => keyD kv.1) κ
  | .ok _ _ _ => .bad
  | .exc k d κ => .exc k d κ
  | .bad => .bad
/-- G is F but at d, where neither is a list or a tuple -/
structure But (d : Addr) (F G : Hp) : Prop where
  eq : ∀ a, a ≠ d → G a = F a
  no : ∀ vs, F d ≠ some (.lst vs) ∧ F d ≠ some (.tup vs)
section
variable {K : PySem.W.Frag} {fa : Nat → Option Addr} {c : Option Addr} {F G : Hp} {d : Addr}
mutual
theorem Rep.but (b : But d F G) : ∀ {x : D} {v : V}, x.noK = true → Rep K fa c F x v → Rep K fa c G x v
  | _, _, _, .non => .non
  | _, _, _, .bl b => .bl b
  | _, _, _, .int i => .int i
  | _, _, _, .str s => .str s
  | _, _, _, .ty n => .ty n
  | _, _, _, .fn h => .fn h
  | _, _, _, .cro h => .cro h
  | _, _, e, .tup h t => .tup (by rw [b.eq _ (fun z => by subst z; exact (b.no _).2 h)]; exact h) (RepL.but b e t)
  | _, _, e, .lst h t => .lst (by rw [b.eq _ (fun z => by subst z; exact (b.no _).1 h)]; exact h) (RepL.but b e t)
  | _, _, e, .scr _ _ => Bool.noConfusion e
  | _, _, e, .dk _ _ => Bool.noConfusion e
  | _, _, e, .dt _ _ => Bool.noConfusion e
  | _, _, e, .fdk _ _ => Bool.noConfusion e
  | _, _, e, .nd _ _ => Bool.noConfusion e
  | _, _, e, .fdt _ _ _ _ _ => Bool.noConfusion e
theorem RepL.but (b : But d F G) : ∀ {x : List D} {v : List V}, noKL x = true → RepL K fa c F x v → RepL K fa c G x v
  | _, _, _, .nil => .nil
  | _, _, e, .cons h t => by
    unfold noKL at e
    obtain ⟨e1, e2⟩ := Bool.and_eq_true_iff.mp e
    exact .cons (Rep.but b e1 h) (RepL.but b e2 t)
end
theorem RepK.but (b : But d F G) : ∀ {x : List (Key × D)} {v : List (Key × V)}, noKK x = true → RepK K fa c F x v → RepK K fa c G x v
  | _, _, _, .nil => .nil
  | _, _, e, .cons h t => by
    unfold noKK at e
    obtain ⟨e1, e2⟩ := Bool.and_eq_true_iff.mp e
    exact .cons (Rep.but b e1 h) (RepK.but b e2 t)
end
section
variable {X : Cx} {fa : Nat → Option Addr} {cl : Nat → ClsI} {W : WX} {x tg : Expr} {m : SmE} {i : Nat}
theorem sn_lk (h : SnE X fa cl W x m) : SnE X fa cl W x (cLk i m) := by
  refine PE.imp (fun σ H Q ⟨c, F0, H0, F, ρ, κ, r, o⟩ => ?_) (pe_lock h)
  unfold cLk at o
  split at o
  case h_2 => exact o.elim
  rename_i kvs q
  split at o
  case isFalse => exact o.elim
  rename_i hk
  obtain ⟨v, hs, rv⟩ := r.vals i _ q
  cases rv with
  | dk hF hr =>
  rename_i d ks
  have hH : H d = some (.dK ks) := r.inH _ _ hF
  have hl : i < ρ.length := (List.getElem?_eq_some_iff.mp q).1
  refine ⟨d, _, hH, trivial, fun od => ?_⟩
  have cd : ∀ b, c = some b → b ≠ d := fun b hb z => by
    obtain ⟨h1, _⟩ := r.kap.2 b hb
    rw [z, hF] at h1; cases h1
  have bt : But d F (upd F d (.frz od (.dK ks))) := ⟨fun a n => upd_ne n, fun vs => by rw [hF]; exact ⟨(by intro z; cases z), (by intro z; cases z)⟩⟩
  have inH1 : ∀ a o, upd F d (.frz od (.dK ks)) a = some o → upd H d (.frz od (.dK ks)) a = some o := fun a o e => by
    by_cases ha : a = d
    · subst ha; rw [upd_same] at e ⊢; exact e
    · rw [upd_ne ha] at e ⊢; exact r.inH a o e
  have rel : RelS X.K fa c (upd F d (.frz od (.dK ks))) (upd H d (.frz od (.dK ks))) (upd F d (.frz od (.dK ks))) (lkR ρ i kvs) κ σ (upd H d (.frz od (.dK ks))) := by
    refine ⟨Stp.refl inH1, ⟨r.kap.1, fun b hb => ?_⟩, ?_, fun j e qq => ?_, fun j e qq => ?_, fun j l e f a hjl q1 => ?_, tab_plain hH nk_dK _ r.tab⟩
    · obtain ⟨h1, h2⟩ := r.kap.2 b hb
      rw [upd_ne (cd b hb), upd_ne (cd b hb)]
      exact ⟨h1, h2⟩
    · unfold lkR; rw [List.length_set, List.length_map]; exact r.len
    · unfold lkR at qq
      by_cases hj : i = j
      · subst hj
        rw [List.getElem?_set_self (by rw [List.length_map]; exact hl)] at qq; cases qq
        exact ⟨_, hs, .fdk upd_same (RepK.but bt hk hr)⟩
      · rw [List.getElem?_set_ne hj, List.getElem?_map] at qq
        obtain ⟨sl, h1, h2⟩ := Option.map_eq_some_iff.mp qq
        cases sl with
        | no => cases h2
        | own z => cases h2
        | val z =>
          unfold Slot.lk at h2
          dsimp only at h2
          split at h2
          · cases h2
            rename_i hn
            obtain ⟨w, h3, h4⟩ := r.vals j _ h1
            exact ⟨w, h3, Rep.but bt hn h4⟩
          · cases h2
    · exfalso
      unfold lkR at qq
      by_cases hj : i = j
      · subst hj
        rw [List.getElem?_set_self (by rw [List.length_map]; exact hl)] at qq; cases qq
      · rw [List.getElem?_set_ne hj, List.getElem?_map] at qq
        obtain ⟨sl, h1, h2⟩ := Option.map_eq_some_iff.mp qq
        cases sl <;> (unfold Slot.lk at h2; dsimp only at h2; first | (cases h2; done) | (split at h2 <;> cases h2))
    · exfalso
      unfold lkR at q1
      by_cases hj : i = j
      · subst hj
        rw [List.getElem?_set_self (by rw [List.length_map]; exact hl)] at q1; cases q1
      · rw [List.getElem?_set_ne hj, List.getElem?_map] at q1
        obtain ⟨sl, h1, h2⟩ := Option.map_eq_some_iff.mp q1
        cases sl <;> (unfold Slot.lk at h2; dsimp only at h2; first | (cases h2; done) | (split at h2 <;> cases h2))
  refine ⟨c, _, _, _, lkR ρ i kvs, κ, rel, ?_⟩
  cases em : m (lkR ρ i kvs) κ with
  | exc k x2 κ' => rw [em] at o; exact o.elim
  | bad => rw [em] at o; exact o.elim
  | ok x2 fr κ' =>
    rw [em] at o
    dsimp only at o
    split at o
    case isFalse => exact o.elim
    rename_i hn
    intro F' H' w s k e fresh
    have H'd : H' d = some (.frz od (.dK ks)) := s.keep d _ upd_same (fun z => cd d z rfl) trivial
    have F'd : F' d = some (.frz od (.dK ks)) := s.sub.z d od _ upd_same
    refine ⟨H'd, ?_⟩
    have bt2 : But d F' (upd F' d (.dK ks)) := ⟨fun a n => upd_ne n, fun vs => by rw [F'd]; exact ⟨(by intro z; cases z), (by intro z; cases z)⟩⟩
    have s2 : Stp X.K c F H (upd F' d (.dK ks)) (upd H' d (.dK ks)) := by
      refine ⟨⟨fun a vs e => ?_, fun a vs e => ?_, fun a u p e => ?_, fun a vs e => ?_, fun a vs e => ?_, fun a o u e => ?_⟩, fun a o e => ?_, fun a o e => ?_, fun a o e n nt => ?_, fun a o e => ?_, fun h => tab_plain H'd nk_frz _ (s.tab (tab_plain hH nk_dK _ h))⟩
      · have ha : a ≠ d := fun z => by rw [z, hF] at e; cases e
        rw [upd_ne ha]; exact s.sub.l a vs (by rw [upd_ne ha]; exact e)
      · have ha : a ≠ d := fun z => by rw [z, hF] at e; cases e
        rw [upd_ne ha]; exact s.sub.t a vs (by rw [upd_ne ha]; exact e)
      · by_cases ha : a = d
        · subst ha
          rcases e with e | ⟨o, e⟩
          · rw [hF] at e; cases e; exact .inl upd_same
          · rw [hF] at e; cases e
        · have e' : Rd (upd F d (.frz od (.dK ks))) a u := by
            rcases e with e | ⟨o, e⟩
            · exact .inl (by rw [upd_ne ha]; exact e)
            · exact .inr ⟨o, by rw [upd_ne ha]; exact e⟩
          rcases s.sub.r a u p e' with e | ⟨o, e⟩
          · exact .inl (by rw [upd_ne ha]; exact e)
          · exact .inr ⟨o, by rw [upd_ne ha]; exact e⟩
      · by_cases ha : a = d
        · subst ha; rw [hF] at e; cases e; exact upd_same
        · rw [upd_ne ha]; exact s.sub.k a vs (by rw [upd_ne ha]; exact e)
      · have ha : a ≠ d := fun z => by rw [z, hF] at e; cases e
        rw [upd_ne ha]; exact s.sub.q a vs (by rw [upd_ne ha]; exact e)
      · have ha : a ≠ d := fun z => by rw [z, hF] at e; cases e
        rw [upd_ne ha]; exact s.sub.z a o u (by rw [upd_ne ha]; exact e)
      · by_cases ha : a = d
        · subst ha; rw [upd_same] at e ⊢; exact e
        · rw [upd_ne ha] at e ⊢; exact s.inH a o e
      · by_cases ha : a = d
        · subst ha; exact .inl (by rw [hF]; simp)
        · rw [upd_ne ha] at e
          rcases s.new a o e with z | z
          · rw [upd_ne ha] at z; exact .inl z
          · rw [upd_ne ha] at z; exact .inr z
      · by_cases ha : a = d
        · subst ha; rw [hH] at e; cases e; exact upd_same
        · rw [upd_ne ha]; exact s.keep a o (by rw [upd_ne ha]; exact e) n nt
      · by_cases ha : a = d
        · subst ha; exact ⟨_, upd_same⟩
        · rw [upd_ne ha]; exact s.dom a o (by rw [upd_ne ha]; exact e)
    have k2 : Kap c κ' (upd F' d (.dK ks)) (upd H' d (.dK ks)) := ⟨k.1, fun b hb => by
      obtain ⟨h1, h2⟩ := k.2 b hb
      rw [upd_ne (cd b hb), upd_ne (cd b hb)]
      exact ⟨h1, h2⟩⟩
    refine o _ _ w s2 k2 ?_ (fun hf a ea => ?_)
    · cases fr with
      | false => exact Rep.but bt2 hn e
      | true =>
        obtain ⟨a, rfl, ow⟩ := e
        have ha : a ≠ d := fun z => by
          have := ow.nF
          rw [z, F'd] at this; cases this
        refine ⟨a, rfl, ⟨by rw [upd_ne ha]; exact ow.nF, ow.nc, ?_⟩⟩
        have qq := ow.at_
        cases x2 <;> try exact qq.elim
        · obtain ⟨vs, h1, h2⟩ := qq
          exact ⟨vs, by rw [upd_ne ha]; exact h1, RepL.but bt2 hn h2⟩
        · exact Bool.noConfusion hn
        · exact Bool.noConfusion hn
    · have hz := fresh hf a ea
      by_cases ha : a = d
      · subst ha; rw [upd_same] at hz; cases hz
      · rw [upd_ne ha] at hz; exact hz
theorem si_fdk {a : SmE} (ha : SnE X fa cl W x a) : SnI X fa cl W tg x (cItK a) := by
  refine PI.imp (fun σ H R ⟨c, F0, H0, F, ρ, κ, r, o⟩ => ?_) (pi_keys ha)
  refine ⟨c, F0, H0, F, ρ, κ, r, ?_⟩
  unfold cItK at o
  cases ea : a ρ κ with
  | exc k d κ => rw [ea] at o; exact o
  | bad => rw [ea] at o; exact o.elim
  | ok d fr κ1 =>
    rw [ea] at o
    cases d <;> try exact o.elim
    rename_i kvs
    cases fr with
    | true => exact o.elim
    | false =>
      intro F' H' v s k e fresh
      cases e with
      | fdk hF hr =>
      rename_i ad od ks
      refine ⟨ad, od, rfl, .inl ⟨ks, s.inH _ _ hF, ?_⟩⟩
      refine o _ _ _ s k fun G I κ3 j sb hG k3 => ?_
      have hz : I ad = some (.frz od (.dK ks)) := hG _ _ (sb.z _ _ _ hF)
      have rl : RepL X.K fa c G (kvs.map fun kv => keyD kv.1) (ks.map fun kv => kV kv.1) := repK_keys hr
      refine ⟨fun d ed => ?_, fun ed => ?_⟩
      · obtain ⟨w, hw, rw'⟩ := rl.get ed
        rw [List.getElem?_map] at hw
        obtain ⟨kv, hkv, ew⟩ := Option.map_eq_some_iff.mp hw
        refine ⟨⟨hz, (List.getElem?_eq_some_iff.mp hkv).1⟩, fun y I' ⟨e1, k', v', e3, e4⟩ => ?_⟩
        subst e1
        rw [hkv] at e3
        cases e3
        rw [e4, ew]
        exact ⟨G, Stp.refl hG, k3, rw'⟩
      · refine ⟨hz, ?_⟩
        have := rl.none_of ed
        rwa [List.length_map] at this
end
/-! ## {k: v, ..} -/
def ddRun : List (SmE × SmE) → Rho → Kp → Option (List (Key × D) × Kp)
  | [], _, κ => some ([], κ)
  | (a, b) :: r, ρ, κ => match a ρ κ with
    | .ok y false κ => (match asKey y with
      | some k => (match b ρ κ with
        | .ok z _ κ => (ddRun r ρ κ).map fun q => ((k, z) :: q.1, q.2)
        | _ => none)
      | none => none)
    | _ => none
def mergeD (acc more : List (Key × D)) : List (Key × D) := more.foldl (fun acc kv => dputE acc kv.1 kv.2) acc
def cDdn (ps : List (SmE × SmE)) : SmE := fun ρ κ => match ddRun ps ρ κ with
  | some (kvs, κ) => .ok (.dk (mergeD [] kvs)) true κ
  | none => .bad
section
variable {X : Cx} {fa : Nat → Option Addr} {cl : Nat → ClsI} {W : WX} {pos : Pos}
def tPs (X : Cx) (fa : Nat → Option Addr) (cl : Nat → ClsI) (W : WX) (ps : List (SmE × SmE)) : List (TE × TE) := ps.map fun q => (tE X fa cl W q.1, tE X fa cl W q.2)
theorem pairs_run {c : Option Addr} {F0 H0 : Hp} {ρ : Rho} {σ : L2.St} : ∀ (ps : List (SmE × SmE)) {F H : Hp} {κ κ' : Kp} {kvs : List (Key × D)} (Q : List (V × V) → Hp → Prop), RelS X.K fa c F0 H0 F ρ κ σ H → ddRun ps ρ κ = some (kvs, κ') →
    (∀ F' H' ks, Stp X.K c F H F' H' → Kap c κ' F' H' → RepK X.K fa c F' kvs ks → Q (ks.map fun kv => (kV kv.1, kv.2)) H') → tPairs (tPs X fa cl W ps) σ H Q
  | [], F, H, κ, κ', kvs, Q, r, e, hQ => by
    unfold ddRun at e
    cases e
    exact hQ F H [] (Stp.refl r.stp.inH) r.kap .nil
  | (a, b) :: ps, F, H, κ, κ', kvs, Q, r, e, hQ => by
    unfold ddRun at e
    refine ⟨c, F0, H0, F, ρ, κ, r, ?_⟩
    show Out X.K fa cl W c σ F H _ (a ρ κ)
    cases ea : a ρ κ with
    | exc k d κ1 => rw [ea] at e; cases e
    | bad => rw [ea] at e; cases e
    | ok yk fr κ1 =>
      rw [ea] at e
      cases fr with
      | true => cases e
      | false =>
      dsimp only at e
      cases eq : asKey yk with
      | none => rw [eq] at e; cases e
      | some k =>
      rw [eq] at e
      dsimp only at e
      intro F1 H1 v s1 k1 e1 _
      have hv : v = kV k := asKey_rep e1 eq
      refine ⟨c, F0, H0, F1, ρ, κ1, r.step s1 k1, ?_⟩
      show Out X.K fa cl W c σ F1 H1 _ (b ρ κ1)
      cases eb : b ρ κ1 with
      | exc k d κ2 => rw [eb] at e; cases e
      | bad => rw [eb] at e; cases e
      | ok z fr κ2 =>
      rw [eb] at e
      dsimp only at e
      obtain ⟨q, eq2, e⟩ := Option.map_eq_some_iff.mp e
      obtain ⟨rest, κ3⟩ := q
      cases e
      intro G2 H2 w s2 k2 e2 fresh2
      obtain ⟨F2, s2, k2, _, r2⟩ := e2.still s2 k2 fresh2
      refine pairs_run ps (fun ps H3 => Q ((v, w) :: ps) H3) ((r.step s1 k1).step s2 k2) eq2 ?_
      intro F' H' ks s3 k3 rk
      have := hQ F' H' ((k, w) :: ks) ((s1.trans s2).trans s3) k3 (.cons (r2.sub s3.sub) rk)
      rw [List.map_cons] at this
      rw [hv]
      exact this
theorem repK_merge {K : PySem.W.Frag} {c : Option Addr} {F : Hp} : ∀ {kvs : List (Key × D)} {ks : List (Key × V)} {acc : List (Key × D)} {accs : List (Key × V)}, RepK K fa c F kvs ks → RepK K fa c F acc accs → RepK K fa c F (mergeD acc kvs) (mergeK accs ks)
  | _, _, _, _, .nil, ra => ra
  | _, _, acc, accs, .cons (k := k) (d := d) (v := v) h t, ra => by
    have := repK_merge t (repK_put h k ra).1
    exact this
theorem sn_ddn {keys : List (Option Expr)} {values : List Expr} {ps : List (SmE × SmE)} (h : PPs X pos keys values (tPs X fa cl W ps)) (hall : keys.all (·.isSome) = true) (hl : keys.length = values.length) (h0 : keys ≠ []) (h15 : keys.length ≤ 15) (hps : ps.length ≤ 15) :
    SnE X fa cl W (.Dict keys values pos) (cDdn ps) := by
  refine PE.imp (fun σ H Q ⟨c, F0, H0, F, ρ, κ, r, o⟩ => ?_) (pe_disp h hall hl h0 h15)
  intro p hp
  have hcp : c ≠ some p := fun q => by
    obtain ⟨_, h2⟩ := r.kap.2 p q
    rw [hp] at h2; cases h2
  have hF1 : F p = none := by
    cases q : F p with
    | none => rfl
    | some u => rw [r.inH _ _ q] at hp; cases hp
  have sl : Stp X.K c F H F (upd H p (.dK [])) := Stp.laid0 r.inH hp
  have kl : Kap c κ F (upd H p (.dK [])) := r.kap.laid0 hp
  unfold cDdn at o
  cases er : ddRun ps ρ κ with
  | none => rw [er] at o; exact o.elim
  | some q =>
  obtain ⟨kvs, κ'⟩ := q
  rw [er] at o
  have hlen : ∀ (ps : List (SmE × SmE)) {κ κ' : Kp} {kvs : List (Key × D)}, ddRun ps ρ κ = some (kvs, κ') → kvs.length = ps.length := by
    intro ps
    induction ps with
    | nil => intro κ κ' kvs e; cases e; rfl
    | cons ab ps ih =>
      obtain ⟨a, b⟩ := ab
      intro κ κ' kvs e
      unfold ddRun at e
      split at e
      · split at e
        · split at e
          · obtain ⟨q, e1, e2⟩ := Option.map_eq_some_iff.mp e
            cases e2
            rw [List.length_cons, List.length_cons, ih e1]
          · cases e
        · cases e
      · cases e
  refine pairs_run ps _ (r.step sl kl) er ?_
  intro F2 H2 ks s2 k2 rk
  have Hp2 : H2 p = some (.dK []) := s2.keep p _ upd_same hcp trivial
  have F2p : F2 p = none := by
    cases q : F2 p with
    | none => rfl
    | some u =>
      rcases s2.new p u q with z1 | z1
      · exact absurd hF1 z1
      · rw [upd_same] at z1; cases z1
  refine ⟨Hp2, ks, rfl, by rw [repK_len rk, hlen ps er]; exact hps, ?_⟩
  have ne : ∀ a o, F2 a = some o → a ≠ p := fun a o q z => by subst z; rw [F2p] at q; cases q
  have ow : Own X.K fa c F2 (upd H2 p (.dK (mergeK [] ks))) p (.dk (mergeD [] kvs)) := ⟨F2p, hcp, mergeK [] ks, upd_same, repK_merge rk .nil⟩
  have sfin : Stp X.K c F H F2 (upd H2 p (.dK (mergeK [] ks))) := by
    refine ⟨s2.sub, fun a o q => by rw [upd_ne (ne a o q)]; exact s2.inH a o q, fun a o q => ?_, fun a o q n nt => ?_, fun a o q => ?_, fun h => tab_plain Hp2 nk_dK _ (s2.tab (tab_new hp _ h))⟩
    · have hne := ne a o q
      rcases s2.new a o q with z1 | z1
      · exact .inl z1
      · rw [upd_ne hne] at z1; exact .inr z1
    · have hne : a ≠ p := fun z => by subst z; rw [hp] at q; cases q
      rw [upd_ne hne]
      exact s2.keep a o (by rw [upd_ne hne]; exact q) n nt
    · have hne : a ≠ p := fun z => by subst z; rw [hp] at q; cases q
      rw [upd_ne hne]
      exact s2.dom a o (by rw [upd_ne hne]; exact q)
  have kfin : Kap c κ' F2 (upd H2 p (.dK (mergeK [] ks))) := ⟨k2.1, fun a q => by
    obtain ⟨h1, h2⟩ := k2.2 a q
    refine ⟨h1, ?_⟩
    rw [upd_ne (fun z => hcp (by rw [← z]; exact q))]
    exact h2⟩
  exact o F2 _ (.ref p) sfin kfin ⟨p, rfl, ow⟩ (fun _ a ea => by cases ea; exact hp)
end
/-! ## lists and dicts that are equal -/
def D.deq : Nat → D → D → Bool
  | 0, _, _ => false
  | n + 1, x, y => match x, y with
    | .non, .non => true
    | .bl a, .bl b => a == b
    | .int a, .int b => a == b
    | .str a, .str b => a == b
    | .lst xs, .lst ys => decide (xs.length = ys.length) && (xs.zip ys).all fun p => D.deq n p.1 p.2
    | .dk xs, .dk ys => decide (xs.length = ys.length) && xs.all fun p => match dgetE ys p.1 with | some v => D.deq n p.2 v | none => false
    | _, _ => false
def fEqL (x y : D) : O1 := match x, y with
  | .lst xs, .lst ys => if D.deq 50 (.lst xs) (.lst ys) then some (.bl true, false) else none
  | _, _ => none
section
variable {K : PySem.W.Frag} {fa : Nat → Option Addr} {c : Option Addr} {F H : Hp}
theorem paired_of {E : V → V → Prop} {n : Nat} (ih : ∀ (x y : D) (v u : V), D.deq n x y = true → Rep K fa c F x v → Rep K fa c F y u → E v u) : ∀ {xs ys : List D} {vs us : List V}, RepL K fa c F xs vs → RepL K fa c F ys us → xs.length = ys.length → ((xs.zip ys).all fun p => D.deq n p.1 p.2) = true → Paired E vs us
  | _, _, _, _, .nil, .nil, _, _ => .nil
  | _, _, _, _, .cons h t, .cons h2 t2, hl, e => by
    rw [List.zip_cons_cons, List.all_cons, Bool.and_eq_true] at e
    exact .cons (ih _ _ _ _ e.1 h h2) (paired_of ih t t2 (by simpa using hl) e.2)
theorem deqK {E : V → V → Prop} {n : Nat} (ih : ∀ (x y : D) (v u : V), D.deq n x y = true → Rep K fa c F x v → Rep K fa c F y u → E v u) {ys : List (Key × D)} {ls : List (Key × V)} (ry : RepK K fa c F ys ls) : ∀ {xs : List (Key × D)} {ks : List (Key × V)}, RepK K fa c F xs ks →
    (xs.all fun p => match dgetE ys p.1 with | some v => D.deq n p.2 v | none => false) = true → ∀ p ∈ ks, ∃ u, valV ls p.1 = some u ∧ E p.2 u
  | _, _, .nil, _, p, hp => absurd hp List.not_mem_nil
  | _, _, .cons (k := k) (d := d) (v := v) h t, e, p, hp => by
    rw [List.all_cons, Bool.and_eq_true] at e
    rcases List.mem_cons.mp hp with rfl | hp
    · obtain ⟨h1, _⟩ := repK_look k ry
      have e1 := e.1
      dsimp only at e1
      cases q : dgetE ys k with
      | none => rw [q] at e1; cases e1
      | some w =>
        rw [q] at e1
        obtain ⟨u, hu, ru⟩ := h1 w q
        exact ⟨u, hu, ih _ _ _ _ e1 h ru⟩
    · exact deqK ih ry t e.2 p hp
theorem deq_run (hF : ∀ a o, F a = some o → H a = some o) : ∀ (n : Nat) (x y : D) (v u : V), D.deq n x y = true → Rep K fa c F x v → Rep K fa c F y u → EqV K H n v u
  | 0, _, _, _, _, e, _, _ => by cases e
  | n + 1, x, y, v, u, e, rx, ry => by
    have ih := deq_run hF n
    unfold D.deq at e
    split at e
    · cases rx; cases ry; exact .inl ⟨rfl, rfl⟩
    · cases rx; cases ry; rw [beq_iff_eq] at e; subst e; exact .inl ⟨rfl, rfl⟩
    · cases rx; cases ry; rw [beq_iff_eq] at e; subst e; exact .inl ⟨rfl, rfl⟩
    · cases rx; cases ry; rw [beq_iff_eq] at e; subst e; exact .inl ⟨rfl, rfl⟩
    · rw [Bool.and_eq_true, decide_eq_true_eq] at e
      cases rx with
      | lst h1 t1 =>
      cases ry with
      | lst h2 t2 =>
      exact .inr (.inr (.inl ⟨_, _, _, _, rfl, rfl, SqL.of (hF _ _ h1), SqL.of (hF _ _ h2), paired_of ih t1 t2 e.1 e.2⟩))
    · rw [Bool.and_eq_true, decide_eq_true_eq] at e
      cases rx with
      | dk h1 t1 =>
      cases ry with
      | dk h2 t2 =>
      exact .inr (.inr (.inr ⟨_, _, _, _, rfl, rfl, hF _ _ h1, hF _ _ h2, by rw [repK_len t1, repK_len t2]; exact e.1, deqK ih t2 t1 e.2⟩))
    · cases e
end
/-! own exceptions over any built-in base, with an __init__ that stores its one argument -/
/-- what is known of the built-in base -/
structure BaseX (B newId initId : String) (bmB : List Value) : Prop where
  f : ExcBaseFacts B newId initId bmB
  p : ∀ self : Value, refuseLoop self "__setattr__" bmB = pure ()
  o : bmB.contains (.type "object") = true
theorem baseX_IndexError : BaseX "IndexError" "IndexError.__new__" "IndexError.__init__" [.type "IndexError", .type "LookupError", .type "Exception", .type "BaseException", .type "object"] := ⟨F.excBase_IndexError, F.store_IndexError.passes, by decide +kernel⟩
theorem baseX_OverflowError : BaseX "OverflowError" "OverflowError.__new__" "OverflowError.__init__" [.type "OverflowError", .type "ArithmeticError", .type "Exception", .type "BaseException", .type "object"] := ⟨F.excBase_OverflowError, F.store_OverflowError.passes, by decide +kernel⟩
/-- what the written part says of such a class -/
structure OxG (K : PySem.W.Frag) (C : Addr) (newId : String) (bmB : List Value) : Prop where
  cls : ∃ nm q N bs bm sn sub ab col dd k0 k1 k2 k3 k5, K.lookup C = some (excClassObj nm q C N bs bm true sn sub ab col dd k0 k1 k2 k3 k5 newId) ∧ PySem.W.excTail bmB bm = true
  sa : PySem.W.findIn K (.ref C) "__setattr__" = some (some (.builtin "object.__setattr__"))
  exC : PySem.W.subIn K (.ref C) (.type "BaseException") = some true
  tyC : PySem.W.typeIn K (.ref C) = some (.type "type")
  kC : PySem.W.keepIn K (.ref C) = true
section
open PySem.W PySem.Calls PySem.HandSPX Builtin Builtin.ObjectAttr
theorem osaG {prog : Program} {w : World} {A : Around} {R : Result → Shared → Prop} {hp : Heap} {g : Array GenState} {d : Drawn} {t : Nat} {os : OsState} {K : W.Frag} {name : Str} {tk : Tok} {v : Value} {x C : Addr} {fv : Array Value} {cd : ClassData}
    {B newId initId : String} {bmB : List Value} (BX : BaseX B newId initId bmB)
    (X : K.In hp) (hx : hp.get? x = some { cls := .ref C, data := .fields fv }) (hcd : W.clsIn K C = some cd) (hm : W.excTail bmB cd.mro = true) (hne : cd.mro.isEmpty = false) (hh : cd.hasDict = true) (ha : W.findIn K (.ref C) name = some none)
    (hq : ∀ h' tk' dx, (∀ b o, b ≠ x → hp.get? b = some o → h'.get? b = some o) → hp.objs.size ≤ dx → dx ≠ x → h'.get? x = some { cls := .ref C, dict := some dx, data := .fields fv } →
      h'.Ns1 dx (fun y => if y = name then some v else none) → R (.ok (.ret .none)) ⟨h', g, d, tk', os⟩) :
    codeAny (model prog w) A (.call (.builtin "object.__setattr__") ⟨[.ref x, .str name tk, v], []⟩) R ⟨hp, g, d, t, os⟩ := by
  have I : W.InstAt hp x { cls := .ref C, data := .fields fv } C none := ⟨hx, rfl, rfl, trivial⟩
  have SF := F.store_object
  have hob : cd.mro.contains (.type "object") = true := (W.excTail_contains "object" _ hm).trans BX.o
  have hxs : x ≠ hp.objs.size := Nat.ne_of_lt (Heap.lt_size hx)
  have sub : W.Looks (model prog w) hp (isInstance (.ref x) (.type "object")) true := I.type.andThen (W.looks_mroIn X (by unfold W.mroIn; rw [hcd, Option.bind_some, if_neg (by rw [hne]; decide), hob]))
  refine codeAny_call_builtin SF.slot.plain SF.entry (@W.check_slot (model prog w) _ _ ⟨hp, g, d, t, os⟩ "object.__setattr__" "object" "__setattr__" (.ref x) [.str name tk, v] [] _ SF.kind SF.split sub (SF.args (.ref x) (.str name tk) v) ?_)
  have hmr : W.Looks (model prog w) hp (mroOf (.ref C)) cd.mro := (W.looks_clsIn X hcd).andThen .now
  have L3 : W.Looks (model prog w) hp (storeTaker? none) none := .now
  have hcls : W.Looks (model prog w) hp (classData C) cd := W.looks_clsIn X hcd
  rw [W.osa_eq, refuse_eq]
  refine wpAny_bind (wpAny_bind (I.type.at (wpAny_bind (hmr.at ?_))))
  rw [W.excTail_pass _ (BX.p _) _ hm]
  refine wpAny_pure (wpAny_bind (I.type.at (wpAny_bind ((W.looks_findIn X ha).at (wpAny_bind (L3.at ?_))))))
  show wpAny _ _ (storeInOwnDict (.ref x) (.ref C) (.str name tk) name v false) _ _ _
  obtain ⟨nm, bs, mro, ns, qn, hd, sn, sb, ab, col, del⟩ := cd
  dsimp only at hh
  subst hh
  unfold storeInOwnDict ownDictForStores
  repeat (first | with_reducible refine store_in_new ?_ ?_ | with_reducible refine wpAny_loadPart_at hx ?_ | with_reducible refine hcls.at ?_ | wp_step)
  · exact ⟨_, #[], _, (Heap.get?_update_ne _ _ _ _ hxs.symm).trans (Heap.get?_push_at rfl rfl), rfl, fun e he => absurd he (by simp), fun _ => rfl⟩
  · intro h' tk' hn' hs
    have hx₁ : (hp.push { cls := .type "dict", data := .dict #[] }).get? x = some { cls := .ref C, data := .fields fv } := Heap.get?_push_of_some _ hx
    refine hq h' tk' hp.objs.size (fun b o hb ho => ?_) (Nat.le_refl _) hxs.symm ?_ hn'
    · exact (hs.2 b (Nat.ne_of_lt (Heap.lt_size ho))).trans ((Heap.get?_update_ne _ _ _ _ hb).trans (Heap.get?_push_of_some _ ho))
    · exact (hs.2 x hxs).trans (Heap.get?_update_self _ hx₁ rfl)
end
section
variable {X : Cx} {pins : List (Addr × Obj)} {σ : L2.St} {H : Hp} {s : Shared} {a C dx : Addr} {f : Str} {y : V} {u : Value} {E : Value → Shared → Prop} {A : Around} {B newId initId : String} {bmB : List Value}
theorem ostG {Q : Unit → Shared → Prop} (BX : BaseX B newId initId bmB) (T : OxG X.K C newId bmB) (I : Inv X pins σ H s) (e : H a = some (exo a C none)) (hno : PySem.W.findIn X.K (.ref C) f = some none) (ry : RelV y u)
    (h : ∀ dx s', H dx = none → dx ≠ a → Inv X pins σ (upd (upd H dx (exd dx [(f, y)])) a (exo a C (some dx))) s' → Q () s') : wpAny (model X.prog X.w) A (setAttr (.ref a) f u) Q E s := by
  obtain ⟨nm, q, N, bs, bm, sn, sub, ab, col, dd, k0, k1, k2, k3, k5, hC, hbm⟩ := T.cls
  have hcl : PySem.W.clsIn X.K C = some { name := nm, bases := bs, mro := .ref C :: bm, ns := N, qualname := q, hasDict := true, slotNames := sn, subclasses := sub, abstract := ab, collection := col, hasDel := false } := by unfold PySem.W.clsIn; rw [hC] <;> rfl
  obtain ⟨t1, ho⟩ := exo_at I.hok e
  obtain ⟨hp, g, d, t, os⟩ := s
  refine PySem.W.set_plain I.kIn (ox := { cls := .ref C, dict := none, data := .fields #[.ref t1, .none, .none, .none, .bool false, .none] }) (od := none) ⟨ho, rfl, rfl, trivial⟩ T.sa ?_
  refine osaG BX I.kIn ho hcl (show PySem.W.excTail bmB (.ref C :: bm) = true from hbm) rfl rfl hno (fun h' tk' dx k dn dne hx hn => ?_)
  have hnd : H dx = none := I.hok.fresh dn
  have nd : ∀ {b : Addr} {o : Obj}, hp.get? b = some o → b ≠ dx := fun {b o} q => Nat.ne_of_lt (Nat.lt_of_lt_of_le (Heap.lt_size q) dn)
  have na : ∀ {b : Addr}, H b = none → b ≠ a := fun {b} n z => by
    rw [z, e] at n
    cases n
  have Un1 : Un X.fs [] H (upd (upd H dx (exd dx [(f, y)])) a (exo a C (some dx))) hp h' := {
    keep := fun b o q n _ _ => k b o (na n) q
    slot := fun b o q n _ _ => ⟨o.slots, k b o (na n) q⟩
    free := fun b o q n _ => by rw [upd_ne (na n), upd_ne (nd q)]; exact n
    there := fun b o q _ => by
      by_cases hb : b = a
      · exact ⟨_, by rw [hb]; exact hx⟩
      · exact ⟨o, k b o hb q⟩
    tups := fun b xs q => by rw [upd_ne (at_ne e q exo_tup), upd_ne (ne_of_none q hnd)]; exact q
    frzs := fun b o v q => by rw [upd_ne (at_ne e q exo_frz), upd_ne (ne_of_none q hnd)]; exact q
    tbls := fun b ps q => ⟨#[], by rw [upd_ne (at_ne e q exo_tbl), upd_ne (ne_of_none q hnd), q]; simp⟩ }
  refine h dx _ hnd dne (I.un (t' := tk') Un1 fun b o q => ?_)
  by_cases hb : b = a
  · subst hb
    rw [upd_same] at q
    cases q
    exact exo_ok hx
  · rw [upd_ne hb] at q
    by_cases hd : b = dx
    · subst hd
      rw [upd_same] at q
      cases q
      exact exd_ok hn (relO_put (fs := []) ry fun g => True.intro)
    · rw [upd_ne hd] at q
      exact (I.hok b o q).stay (fun c v hc z => k c v (by
          rcases hc with hc | hc
          · rw [hc]
            exact hb
          · exact at_ne e hc exo_own) z)
        (fun c hc => by rw [upd_ne (at_ne e hc exo_own), upd_ne (ne_of_none hc hnd)]; exact hc) (fun c xs hc => by rw [upd_ne (at_ne e hc exo_tup), upd_ne (ne_of_none hc hnd)]; exact hc)
end
/-- self.f = e -/
theorem ps_ostG {X : Cx} {o e : Expr} {to te : TE} {f : Str} {p' pos : Pos} {B newId initId : String} {bmB : List Value} (BX : BaseX B newId initId bmB) (ho : PE X o to) (he : PE X e te) (hs : swapsWith e (some (.Attribute o f p')) pos.line X.env = pure false := by rfl) :
    PS X (.Assign [.Attribute o f p'] e pos) (fun D σ H => te σ H fun y H1 => to σ H1 fun x H2 => ∃ a C : Addr, x = .ref a ∧ OxG X.K C newId bmB ∧ PySem.W.findIn X.K (.ref C) f = some none ∧
      H2 a = some (exo a C none) ∧ ∀ dx, H2 dx = none → dx ≠ a → D.nx σ (upd (upd H2 dx (exd dx [(f, y)])) a (exo a C (some dx)))) := by
  refine ⟨fun pins s σ H D I h => ?_⟩
  refine plainObj_wpAny_Assign_Attribute (thn (he.run pins s σ H _ I h) fun v s1 ⟨y, H1, I1, r1, q1⟩ => thn (ho.run pins s1 σ H1 _ I1 q1) fun u s2 ⟨x, H2, I2, r2, a, C, ex, T, hno, ea, q⟩ => ?_) hs
  subst ex
  obtain rfl : u = Value.ref a := r2
  exact ostG BX T I2 ea hno r1 fun dx s' n ne J => ⟨σ, _, J, q dx n ne⟩
/-- the promise of __init__ -/
def spI (K : PySem.W.Frag) (f : Str) (newId : String) (bmB : List Value) : Sp := fun vs H Q E => ∃ (a C : Addr) (y : V), vs = [.ref a, y] ∧ OxG K C newId bmB ∧ PySem.W.findIn K (.ref C) f = some none ∧ H a = some (exo a C none) ∧ ∀ dx, H dx = none → dx ≠ a → Q .non (upd (upd H dx (exd dx [(f, y)])) a (exo a C (some dx)))
theorem init_fn {CX : CXT} {P : Program} {w : World} {K : PySem.W.Frag} {mg : Str → Option Value} {base : Heap} {k : Nat} {fI : Addr} {name qual : Str} {params : Arguments} {scope : Scope} {dV kV doc pm cdv ct oc : Value} {an od : Option Addr}
    {osl : Array (Option Value)} {sn vn f : Str} {p1 p2 p3 p4 : Pos} {B newId initId : String} {bmB : List Value} (BX : BaseX B newId initId bmB)
    (lk : K.lookup fI = some ⟨oc, od, .func (PySem.W.fnOf name qual params [.Assign [.Attribute (.Name sn p1) f p2] (.Name vn p3) p4] scope dV kV doc pm an cdv ct), osl⟩) (hcd : PySem.W.codeIn K cdv qual = true) (S : FnScope [sn, vn] [sn, vn] scope)
    (v1 : Vis scope sn) (v2 : Vis scope vn) (d1 : (sn == ("__debug__" : Str)) = false) (d2 : (vn == ("__debug__" : Str)) = false) (e1 : (sn == ("__classdict__" : Str)) = false) (e2 : (vn == ("__classdict__" : Str)) = false) :
    FnOk P w K mg base CX (k + 1) fI (PySem.W.fnOf name qual params [.Assign [.Attribute (.Name sn p1) f p2] (.Name vn p3) p4] scope dV kV doc pm an cdv ct) [sn, vn] (spI K f newId bmB) := by
  refine fn_of lk hcd S (fun vs H Q E ⟨a, C, y, e, _⟩ => by rw [e]; rfl) (fun A outer s H vs Q E hr ⟨a, C, y, e, T, hno, ea, q⟩ => ?_)
  subst e
  refine ⟨_, pss_one (ps_ostG (pos := p4) BX (pe_var (pos := p1) (i := 0) rfl v1 d1 e1) (pe_var (pos := p3) (i := 1) rfl v2 d2 e2)), ?_⟩
  exact ⟨y, rfl, .ref a, rfl, a, C, rfl, T, hno, ea, q⟩
/-- C(e), C's own __init__ storing e as f -/
theorem pmk_fld {CX : CXT} {X : Cx} {x f : Str} {C fI : Addr} {k : Nat} {fd : FuncData} {ps : List Str} {e : Expr} {te : TE} {p pos : Pos} {B newId initId : String} {bmB : List Value} (BX : BaseX B newId initId bmB) (T : OxG X.K C newId bmB) (hno : PySem.W.findIn X.K (.ref C) f = some none)
    (iC : PySem.W.findIn X.K (.ref C) "__init__" = some (some (.ref fI))) (tI : PySem.W.typeIn X.K (.ref fI) = some (.type "function"))
    (F1 : FnOk X.prog X.w X.K X.mg X.base CX k fI fd ps (spI X.K f newId bmB)) (hps : ps.length = 2) (hr : Room (k + 1) X.A) (hb : Binds X.K fd ps []) (hx : Passes CX X (fun _ _ _ => False)) (hg : Gl X x) (hm : X.mg x = some (.ref C)) (ha : PE X e te)
    (hdb : (x == ("__debug__" : Str)) = false) (he : starEach [e] X.env = (false, eval e X.env) :: starEach [] X.env) :
    PMk X (.Call (.Name x p) [e] [] pos) (fun σ H Q => te σ H fun v H1 => ∀ d, H1 d = none → Q (.ref C) (some d) (upd H1 d (.xd [(f, v)]))) := by
  intro pins s σ H Q I h
  obtain ⟨nm, q, N, bs, bm, sn, sub, ab, col, dd, k0, k1, k2, k3, k5, hC, hbm⟩ := T.cls
  refine wpAny_Call_Name_kw (ld_glob I hg hm ?_ hdb)
  refine PySem.W.callWith_K (h₀ := X.base) I.ok.mod.kin T.kC ?_ he (by rfl)
  rw [he]
  show wpAny _ _ (spliced ((false, eval e X.env) :: backTo pos (starEach [] X.env))) _ _ s
  refine Calls.spliced_cons (thn (ha.run pins s σ H _ I h) fun u s1 ⟨v, H1, I1, r1, q1⟩ => ?_)
  refine Calls.spliced_nil ⟨I1.kIn, ?_⟩
  show wpAny _ _ (call (.ref C) [u]) _ _ _
  obtain ⟨hp, g, dr, tk, os⟩ := s1
  have hsz : hp.objs.size ≤ hp.objs.size + 1 := Nat.le_succ _
  have hn : H1 (hp.objs.size + 1) = none := I1.hok.fresh hsz
  have kk : ∀ b o, hp.get? b = some o → ((hp.push (PySem.W.kdv_tup [u])).push (PySem.HandSPX.excO C hp.objs.size)).get? b = some o := fun b o e => Heap.get?_push_of_some _ (Heap.get?_push_of_some _ e)
  have hget : ((hp.push (PySem.W.kdv_tup [u])).push (PySem.HandSPX.excO C hp.objs.size)).get? (hp.objs.size + 1) = some (PySem.HandSPX.excO C hp.objs.size) := by heap_get
  have I2 : Inv X pins σ (upd H1 (hp.objs.size + 1) (exo (hp.objs.size + 1) C none)) ⟨(hp.push (PySem.W.kdv_tup [u])).push (PySem.HandSPX.excO C hp.objs.size), g, dr, tk, os⟩ :=
    I1.laid (t' := tk) (a := hp.objs.size + 1) (o := exo (hp.objs.size + 1) C none) (h' := (hp.push (PySem.W.kdv_tup [u])).push (PySem.HandSPX.excO C hp.objs.size)) kk hsz (exo_ok hget)
  have r2 : Vals [V.ref (hp.objs.size + 1), v] [Value.ref (hp.objs.size + 1), u] := .cons rfl (.cons r1 .nil)
  generalize ea : hp.objs.size + 1 = a at *
  have hq : spI X.K f newId bmB [V.ref a, v] (upd H1 a (exo a C none)) (fun z H2 => z = .non ∧ ∃ d : Addr, H2 a = some (exo a C (some d)) ∧ H2 d = some (exd d [(f, v)]) ∧ H1 d = none ∧ Q (.ref C) (some d) (upd (del H2 a) d (.xd [(f, v)]))) (fun _ _ _ => False) := by
    refine ⟨a, C, v, rfl, T, hno, upd_same, fun dx hdx hda => ⟨rfl, dx, upd_same, ?_, ?_, ?_⟩⟩
    · rw [upd_ne hda, upd_same]
    · rw [upd_ne hda] at hdx; exact hdx
    · have e1 : upd (del (upd (upd (upd H1 a (exo a C none)) dx (exd dx [(f, v)])) a (exo a C (some dx))) a) dx (.xd [(f, v)]) = upd H1 dx (.xd [(f, v)]) := by
        funext b
        by_cases h1 : b = dx
        · subst h1; rw [upd_same, upd_same]
        · rw [upd_ne h1, upd_ne h1]
          by_cases h2 : b = a
          · subst h2; rw [del_same, hn]
          · rw [del_ne h2, upd_ne h2, upd_ne h1, upd_ne h2]
      rw [e1]
      refine q1 dx ?_
      rw [upd_ne hda] at hdx; exact hdx
  refine wpAny_call (PySem.HandSPX.call_own BX.f (fun Y => PySem.W.excTail_contains Y bm hbm) (I1.kIn _ _ hC) (PySem.W.looks_findIn I1.kIn iC) (fun self => PySem.W.bind_fn I1.kIn self tI) (by show 1 ≤ sizeLine; rw [sizeLine_eq]; omega)
    (codeAny_mono (F1.run _ X.stack _ _ ⟨[Value.ref (hp.objs.size + 1), u], []⟩ [Value.ref (hp.objs.size + 1), u] _ _ (fun _ _ _ => False) (hr.make C [u] []) (I2.env0.make C [u] []) (by
      have := hb ⟨(hp.push (PySem.W.kdv_tup [u])).push (PySem.HandSPX.excO C hp.objs.size), g, dr, tk, os⟩ [Value.ref (hp.objs.size + 1), u] I2.kIn (by simp [hps])
      simpa using this) (by rw [ea]; exact r2) hq) fun r s' hq' => ?_))
  cases r with
  | error er => exact hx pins σ _ _ er s' I2 hq'
  | ok fl =>
    cases fl with
    | ret u' =>
      obtain ⟨v', H2, os2, bare2, un2, hok2, rv, ev, d, ea2, ed, hd1, q2⟩ := hq'
      subst ev
      obtain ⟨h2, g2, d2, t2, os'⟩ := s'
      rw [ea]
      refine ⟨rv, mk_end (raises_own T.exC T.tyC) I1 hsz kk un2 hok2 os2 bare2 ea2 ed hd1 q2⟩
    | next => exact False.elim hq'
    | brk => exact False.elim hq'
    | cont => exact False.elim hq'
/-! several except clauses, with and without a name -/
abbrev HTs := Addr → Value → Option Addr → TS
/-- the ends of a named clause's suite -/
def asD (D : Ends) (i : Nat) : Ends := { nx := fun σ' H' => D.nx (σ'.set i none) H', rt := D.rt, bk := fun σ' H' => D.bk (σ'.set i none) H', ct := fun σ' H' => D.ct (σ'.set i none) H' }
def hdG (D : Ends) (i : Option Nat) (ts : HTs) (a : Addr) (cls : Value) (d : Option Addr) (σ : L2.St) (H : Hp) : Prop := match i with
  | none => ts a cls d D σ H
  | some i => ts a cls d (asD D i) (σ.set i (some (.ref a))) H
/-- what the clauses wish of an exception of the body, one after the other -/
def wG (K : PySem.W.Frag) (Wout : WX) (D : Ends) : List (Value × Option Nat × HTs) → WX
  | [] => Wout
  | (c, i, ts) :: r => fun cls d σ H => ∃ b, PySem.W.exmOne K cls c = some b ∧ (b = true → ∀ a, H a = none → hdG D i ts a cls d σ H) ∧ (b = false → wG K Wout D r cls d σ H)
inductive HdsG (X : Cx) : List ExceptHandler → List (Value × Option Nat × HTs) → Prop
  | nil : HdsG X [] []
  | one {x : Str} {c : Value} {ts : HTs} {b₀ : Stmt} {suite : List Stmt} {np pos' : Pos} {hds : List ExceptHandler} {l : List (Value × Option Nat × HTs)} (hc : Names X x c)
      (hsu : ∀ (a : Addr) (oe : Obj) (cls : Value) (d : Option Addr) (pn : List (Addr × Obj)), Zc cls d oe → (∃ vs, oe.data = .fields vs) → PSs (X.suite a ((a, oe) :: pn)) (b₀ :: suite) (ts a cls d)) (r : HdsG X hds l) :
      HdsG X (.ExceptHandler (some (.Name x np)) none (b₀ :: suite) pos' :: hds) ((c, none, ts) :: l)
  | as_ {x n : Str} {c : Value} {i : Nat} {ts : HTs} {b₀ : Stmt} {suite : List Stmt} {np pos' : Pos} {hds : List ExceptHandler} {l : List (Value × Option Nat × HTs)} (hN : X.N.Nodup) (hi : X.N[i]? = some n) (hln : X.env.kindOf n = some .local) (hc : Names X x c)
      (hsu : ∀ (a : Addr) (oe : Obj) (cls : Value) (d : Option Addr) (pn : List (Addr × Obj)), Zc cls d oe → (∃ vs, oe.data = .fields vs) → PSs (X.suite a ((a, oe) :: pn)) (b₀ :: suite) (ts a cls d)) (r : HdsG X hds l) :
      HdsG X (.ExceptHandler (some (.Name x np)) (some n) (b₀ :: suite) pos' :: hds) ((c, some i, ts) :: l)
section
variable {X : Cx} {body : List Stmt} {h₀ : ExceptHandler} {hds : List ExceptHandler} {l : List (Value × Option Nat × HTs)} {pos : Pos} {tb : WX → TS} {Wout : WX}
theorem ps_try_g (hs : X.stack = X.env :: X.outer) (hf : X.env.frame = some X.env.locals) (tk : Takes X Wout)
    (hb : ∀ (W : WX) (pn : List (Addr × Obj)) (xe : Value → Shared → Prop), Takes (X.tr pn xe) W → PassesOwn (model X.prog X.w) X.A X.env xe → PSs (X.tr pn xe) body (tb W))
    (hh : HdsG X (h₀ :: hds) l) : PS X (.Try body (h₀ :: hds) [] [] pos) (fun D σ H => tb (wG X.K Wout D l) D σ H) := by
  refine ⟨fun pins s σ H D I h => ?_⟩
  have ok := I.ok
  have hfr : X.A.frames = some (X.env :: X.outer) := by rw [ok.frames, hs]
  refine wpAny_Try_except ?_
  refine wpAny_mono ((hb (wG X.K Wout D l) (X.pn ++ pins) (fun e s₁ => wpAny (model X.prog X.w) X.A (noteFrame e X.env) (fun _ s₂ => wpAny (model X.prog X.w) X.A (setFlight e none) (fun _ s₃ =>
    wpAny (model X.prog X.w) X.A (handleBy e X.env (h₀ :: hds)) (SP X pins D) X.xe s₃) X.xe s₂) X.xe s₁) (fun u s' xx => ?_) PassesOwn.looking).run [] s σ H D (I.toTry _) h) (fun f s1 hsp => ?_) (fun e s1 he => he)
  · obtain ⟨a, B, sI, pins', σ', H', cls, d, rfl, J', nb, up, sky, na, os, ag, w⟩ := xx
    have J : Inv X pins σ' H' sI := J'.ofTry ok
    have sky' : Sky B (X.env :: X.outer) a (Zc cls d) X.env.locals s'.heap := by rw [← hs]; exact sky
    show wpAny (model X.prog X.w) X.A (noteFrame (.ref a) X.env) _ _ _
    refine Sky.land Zc.steady hfr hf sky' fun h3 fl3 up3 => ?_
    have J3 : Inv X pins σ' H' { s' with heap := h3 } := J.landed nb fl3.1 (up.trans up3) os ag
    obtain ⟨oe3, vs3, he3, hz3, hd3⟩ := fl3.there
    have nfr : a ∉ frs (X.env :: X.outer) := fun hm => by
      obtain ⟨_, o', e', hnf⟩ := fl3.2.2.1.mem hm
      rw [he3] at e'; cases e'
      exact hnf _ hd3
    have nL : a ≠ X.env.locals := fun z => nfr (List.mem_filterMap.mpr ⟨X.env, List.mem_cons_self, by rw [hf, z]⟩)
    have nF : a ∉ X.fs := fun hm => by
      obtain ⟨e, he, q⟩ := List.mem_filterMap.mp hm
      exact nfr (List.mem_filterMap.mpr ⟨e, List.mem_cons_of_mem _ he, q⟩)
    have S3 := J3.suite he3 hd3 na nL nF
    have LT : PySem.W.Looks (model X.prog X.w) h3 (typeOf (.ref a)) cls := fun A Q E s k q => wpAny_typeOf_ref (k _ _ he3) (by rw [hz3.1]; exact q)
    have test : ∀ {x : Str} {c : Value} {np : Pos} {Q : Value → Shared → Prop} {E : Value → Shared → Prop}, Names X x c → Q c { s' with heap := h3 } → wpAny (model X.prog X.w) (X.A.mark (some (.ref a))) (eval (.Name x np) X.env) Q E { s' with heap := h3 } := fun {x c np Q E} hc q => by
      obtain ⟨hg, hdbg, hm | ⟨hm, hv, hnn⟩⟩ := hc
      · exact ld_glob (X := X.suite a ((a, oe3) :: (X.pn ++ pins))) S3 hg hm q hdbg
      · exact ld_blt (X := X.suite a ((a, oe3) :: (X.pn ++ pins))) S3 hg hm hv q hnn hdbg
    have go : ∀ {hds' : List ExceptHandler} {l' : List (Value × Option Nat × HTs)}, HdsG X hds' l' → wG X.K Wout D l' cls d σ' H' →
        wpAny (model X.prog X.w) X.A (handleBy (.ref a) X.env hds') (SP X pins D) X.xe { s' with heap := h3 } := by
      intro hds' l' hk
      induction hk with
      | nil =>
        intro w
        refine wpAny_handleBy_nil ?_
        obtain ⟨k1, k2, k3, oe, vs, T, oT, ts', he, hz, hd, h1, hr⟩ := id fl3
        unfold PySem.passOn
        refine wpAny_bind (wpAny_field he hd h1 ?_)
        rw [if_neg (show ¬ ((Value.ref T == Value.none) = true) from by simp)]
        have fin : wpAny (model X.prog X.w) X.A (setFlight (.ref a) X.env.frame) (fun _ s4 => wpAny (model X.prog X.w) X.A (throw (.ref a) : Sem Flow) (SP X pins D) X.xe s4) X.xe { s' with heap := h3 } := by
          rw [hf]
          refine HandSPX.setFlight_upZ fl3 fun h4 hh4 up4 => wpAny_throw (tk _ _ ?_)
          exact ⟨a, B, sI, pins, σ', H', cls, d, rfl, J, nb, (up.trans up3).trans up4, .inr (.inr (by rw [hs]; exact hh4)), na, os, ag, w⟩
        first
          | exact wpAny_bind (wpAny_pure (wpAny_bind fin))
          | exact wpAny_bind fin
      | @one x c ts b₀ suite np pos' hds2 l2 hc hsu r ih =>
        intro w
        obtain ⟨b, hb1, hyes, hno⟩ := w
        refine wpAny_handleBy_cons (codeAny_handlers_test ?_) (by intro q; cases q)
        have LM := PySem.W.exm_one (M := model X.prog X.w) (J3.kIn) LT hb1
        refine test hc (LM.here ?_)
        cases b with
        | true =>
          refine codeAny_handlers_suite ?_
          refine HandSPX.lands_againZ fl3 fun h4 fl4 up4 => ?_
          have J4 : Inv X pins σ' H' { s' with heap := h4 } := J.landed nb fl4.1 ((up.trans up3).trans up4) os ag
          obtain ⟨oe4, vs4, he4, hz4, hd4⟩ := fl4.there
          have S4 := J4.suite he4 hd4 na nL nF
          refine wpAny_mono ((hsu a oe4 cls d (X.pn ++ pins) hz4 ⟨_, hd4⟩).run [] _ _ H' _ S4 (hyes rfl a na)) (fun f s6 hsp => ?_) (fun _ _ z => False.elim z)
          cases f with
          | next =>
            obtain ⟨σ6, H6, S6, q6⟩ := hsp
            exact ⟨_, _, S6.unsuite ok, q6⟩
          | brk =>
            obtain ⟨σ6, H6, S6, q6⟩ := hsp
            exact ⟨_, _, S6.unsuite ok, q6⟩
          | cont =>
            obtain ⟨σ6, H6, S6, q6⟩ := hsp
            exact ⟨_, _, S6.unsuite ok, q6⟩
          | ret u =>
            obtain ⟨v6, σ6, H6, S6, r6, q6⟩ := hsp
            exact ⟨_, _, _, S6.unsuite ok, r6, q6⟩
        | false =>
          show wpAny _ X.A (handleBy (.ref a) X.env hds2) _ _ _
          exact ih (hno rfl)
      | @as_ x n c i ts b₀ suite np pos' hds2 l2 hN hi hln hc hsu r ih =>
        intro w
        obtain ⟨b, hb1, hyes, hno⟩ := w
        have hloc : Loc X.env.scope n := .inl hln
        refine wpAny_handleBy_cons (codeAny_handlers_test ?_) (by intro q; cases q)
        have LM := PySem.W.exm_one (M := model X.prog X.w) (J3.kIn) LT hb1
        refine test hc (LM.here ?_)
        cases b with
        | true =>
          refine codeAny_handlers_suite_as ?_
          refine HandSPX.lands_againZ fl3 fun h4 fl4 up4 => ?_
          have J4 : Inv X pins σ' H' { s' with heap := h4 } := J.landed nb fl4.1 ((up.trans up3).trans up4) os ag
          obtain ⟨oe4, vs4, he4, hz4, hd4⟩ := fl4.there
          have S4 := J4.suite he4 hd4 na nL nF
          refine store_ok (X := X.suite a ((a, oe4) :: (X.pn ++ pins))) (v := .ref a) S4 hN hi hloc rfl (fun s5 S5 => ?_) (.inr hln)
          refine wpAny_mono ((hsu a oe4 cls d (X.pn ++ pins) hz4 ⟨_, hd4⟩).run [] s5 _ H' _ S5 (hyes rfl a na)) (fun f s6 hsp => ?_) (fun _ _ z => False.elim z)
          have end_ : ∀ {σ6 : L2.St} {H6 : Hp} {Q : Shared → Prop}, Inv (X.suite a ((a, oe4) :: (X.pn ++ pins))) [] σ6 H6 s6 → (∀ s7, Inv X pins (σ6.set i none) H6 s7 → Q s7) →
              wpAny (model X.prog X.w) X.A (do bindName X.env n .none; unbindBehindTheSuite X.env n pos') (fun _ s7 => Q s7) X.xe s6 := fun {σ6 H6 Q} S6 hq => gone_ok (S6.unsuite ok) hN hi hln hq
          cases f with
          | next =>
            obtain ⟨σ6, H6, S6, q6⟩ := hsp
            exact end_ S6 fun s7 J7 => ⟨_, _, J7, q6⟩
          | brk =>
            obtain ⟨σ6, H6, S6, q6⟩ := hsp
            exact end_ S6 fun s7 J7 => ⟨_, _, J7, q6⟩
          | cont =>
            obtain ⟨σ6, H6, S6, q6⟩ := hsp
            exact end_ S6 fun s7 J7 => ⟨_, _, J7, q6⟩
          | ret u =>
            obtain ⟨v6, σ6, H6, S6, r6, q6⟩ := hsp
            exact end_ S6 fun s7 J7 => ⟨_, _, _, J7, r6, q6⟩
        | false =>
          show wpAny _ X.A (handleBy (.ref a) X.env hds2) _ _ _
          exact ih (hno rfl)
    exact go hh w
  · cases f with
    | next =>
      obtain ⟨σ', H', J', q⟩ := hsp
      exact wpAny_execs_nil ⟨σ', H', J'.ofTry ok, q⟩
    | brk =>
      obtain ⟨σ', H', J', q⟩ := hsp
      exact ⟨σ', H', J'.ofTry ok, q⟩
    | cont =>
      obtain ⟨σ', H', J', q⟩ := hsp
      exact ⟨σ', H', J'.ofTry ok, q⟩
    | ret u =>
      obtain ⟨v, σ', H', J', r, q⟩ := hsp
      exact ⟨v, σ', H', J'.ofTry ok, r, q⟩
end
/-! a lambda without parameters, made and handed on: no object goes -/
def Dom (H H' : Hp) : Prop := ∀ b o, H b = some o → ∃ o', H' b = some o'
theorem Dom.refl (H : Hp) : Dom H H := fun _ o e => ⟨o, e⟩
section
variable {X : Cx} {pins : List (Addr × Obj)} {σ : L2.St} {H : Hp} {s : Shared}
theorem lam_made {T : List (Addr × Str)} {c P : Addr} {pr : Arguments} {bd : Expr} {sc : Scope} {pos : Pos} {E Q : Value → Shared → Prop} (I : Inv X pins σ H s) (B : LamX.TabB X.base X.mg c P) (hcode : X.env.code = .ref c)
    (hm : (P, X.env.qual ++ "<lambda>") ∈ T) (hu : ∀ p ∈ T, p.1 = P → p.2 = X.env.qual ++ "<lambda>") (hT : LamX.Tabs T H) (hdef : defaultsOf pr X.env = ([], [])) (hfree : ∀ y ∈ sc.names, y.2 = .free → ∃ c, X.env.cells.lookup y.1 = some c)
    (h : ∀ (f c' : Addr) (pm ctv : Value) (H1 : Hp) (s' : Shared), Inv X pins σ H1 s' → LamX.ExtN H H1 → Dom H H1 → LamX.Tabs T H1 →
      s'.heap.get? f = some (PySem.W.kla_obj "<lambda>" (X.env.qual ++ "<lambda>") pr bd sc (cloFrom X.env.cells sc.names []) pm c' ctv) → H1 f = none → f ∉ frs X.stack → H1 c' = some (LamX.CodeO c' (X.env.qual ++ "<lambda>")) → Q (.ref f) s') :
    wpAny (model X.prog X.w) X.A (eval (.Lambda pr bd sc pos) X.env) Q E s := by
  obtain ⟨tbl, atP, tok, named⟩ := hT _ hm
  have lieP : s.heap.get? P = some { cls := .none, data := .fields tbl } := I.hok P _ atP
  have bltP : s.heap.BuiltinsAt X.mg P := B.bm.keeps I.bk
  have noFrame : ∀ f, s.heap.objs.size ≤ f → f ∉ frs X.stack := fun f hf z => (List.mem_cons.mp (I.stkSub _ z)).elim (fun e => Nat.lt_irrefl _ (Nat.lt_of_lt_of_le (e ▸ I.lt) hf)) (I.nofs hf)
  refine PySem.W.kla_eval hdef ?_
  cases found : codeAmong pos tbl.toList with
  | some cv =>
    obtain ⟨c', rfl, isC⟩ := named pos cv found
    refine PySem.W.kla_makeFunctionHit (mg := X.mg) (c := c) (P := P) (ps := tbl) (closure_ok hfree) I.ok.glob (I.mod.glob.keeps I.bk) hcode (B.code.keeps I.bk) lieP tok found bltP fun ctv hp tk grow big => ?_
    have J : Inv X pins σ H { s with heap := hp.push (PySem.W.kla_obj "<lambda>" (X.env.qual ++ "<lambda>") pr bd sc (cloFrom X.env.cells sc.names []) ((X.mg "__name__").getD .none) c' ctv), toks := tk } := I.kept fun b o e => Heap.get?_push_of_some _ (grow b o e)
    exact h hp.objs.size c' ((X.mg "__name__").getD .none) ctv H _ J (LamX.ExtN.refl H) (Dom.refl H) hT (Heap.get?_push_size _ rfl) (I.hok.fresh big) (noFrame _ big) isC
  | none =>
    refine PySem.W.kla_makeFunction (mg := X.mg) (c := c) (P := P) (ps := tbl) (closure_ok hfree) I.ok.glob (I.mod.glob.keeps I.bk) hcode (B.code.keeps I.bk) lieP tok found B.gP bltP fun c' ctv hp tk grow ge lt recd wr => ?_
    obtain ⟨c2, oc, vs, t, e2, hoc, hd, hv⟩ := recd
    cases e2
    have big : s.heap.objs.size ≤ hp.objs.size := Nat.le_of_lt (Nat.lt_of_le_of_lt ge lt)
    have newC : H c' = none := I.hok.fresh ge
    have nPc : P ≠ c' := ne_of_none atP newC
    have J := LamX.inv_table (t' := tk) (more := #[rawInt pos.line, rawInt pos.col, .ref c']) (h' := hp.push (PySem.W.kla_obj "<lambda>" (X.env.qual ++ "<lambda>") pr bd sc (cloFrom X.env.cells sc.names []) ((X.mg "__name__").getD .none) c' ctv)) I atP
      (fun b o hb e => Heap.get?_push_of_some _ (grow b o hb e)) (Heap.get?_push_of_some _ wr) ge ⟨oc, vs, t, Heap.get?_push_of_some _ hoc, hd, hv⟩
    have ext : LamX.ExtN H (upd (upd H P (.tbl (tbl ++ #[rawInt pos.line, rawInt pos.col, .ref c']))) c' (LamX.CodeO c' (X.env.qual ++ "<lambda>"))) := fun b o e n => by
      have nP : b ≠ P := fun z => n tbl (Option.some.inj (e.symm.trans (by rw [z]; exact atP)))
      rw [upd_ne (ne_of_none e newC), upd_ne nP]
      exact e
    have dom : Dom H (upd (upd H P (.tbl (tbl ++ #[rawInt pos.line, rawInt pos.col, .ref c']))) c' (LamX.CodeO c' (X.env.qual ++ "<lambda>"))) := fun b o e => by
      by_cases hb : b = P
      · subst hb; exact ⟨_, by rw [upd_ne nPc, upd_same]⟩
      · exact ⟨o, by rw [upd_ne (ne_of_none e newC), upd_ne hb]; exact e⟩
    have asList : (tbl ++ #[rawInt pos.line, rawInt pos.col, .ref c']).toList = tbl.toList ++ [rawInt pos.line, rawInt pos.col, .ref c'] := by simp
    refine h hp.objs.size c' ((X.mg "__name__").getD .none) ctv _ _ J ext dom (fun p hp' => ?_) (Heap.get?_push_size _ rfl) ?_ (noFrame _ big) upd_same
    · by_cases hb : p.1 = P
      · rw [hu p hp' hb, hb]
        refine ⟨_, by rw [upd_ne nPc, upd_same], by rw [asList]; exact PySem.TriplesOk_snoc _ _ _ _ tok, fun p' cv hcv => ?_⟩
        rw [asList] at hcv
        exact (LamX.among_app _ tok hcv).elim (fun z => let ⟨c0, q1, q2⟩ := named p' cv z; ⟨c0, q1, ext _ _ q2 LamX.codeO_ne⟩) (fun z => ⟨c', z, upd_same⟩)
      · obtain ⟨l', a1, a2, a3⟩ := hT p hp'
        exact ⟨l', by rw [upd_ne (ne_of_none a1 newC), upd_ne hb]; exact a1, a2, fun p' cv hcv => let ⟨c0, q1, q2⟩ := a3 p' cv hcv; ⟨c0, q1, ext _ _ q2 LamX.codeO_ne⟩⟩
    · rw [upd_ne (Nat.ne_of_gt lt), upd_ne (Nat.ne_of_gt (Nat.lt_of_lt_of_le (Heap.lt_size lieP) big))]
      exact I.hok.fresh big
end
section
variable {X : Cx} {pins : List (Addr × Obj)} {σ : L2.St} {H : Hp} {s : Shared}
/-- a(), in the def that got the lambda -/
theorem pe_actG {CXg : CXT} {Eg E : XK} {Ng : List Str} {qg a : Str} {sg sc : Scope} {g f c' : Addr} {cdg pm ctv : Value} {pr : Arguments} {bd : Expr} {k i : Nat} {pn : List (Addr × Obj)} {xe : Value → Shared → Prop} {W : WX} {tb : TE} {p1 p2 : Pos}
    (I : Inv X pins σ H s) (L : LamX.LamS X.env.scope sc) (hf : s.heap.get? f = some (PySem.W.kla_obj "<lambda>" (X.env.qual ++ "<lambda>") pr bd sc (cloFrom X.env.cells sc.names []) pm c' ctv)) (hfn : H f = none) (hfr : f ∉ frs X.stack)
    (hbind : bindArgs (PySem.W.kla_fn "<lambda>" (X.env.qual ++ "<lambda>") pr bd sc (cloFrom X.env.cells sc.names []) pm (.ref c') ctv) ⟨[], []⟩ = pure [])
    (tk : Takes ((cxOf CXg X.prog X.w X.K X.mg X.base Ng qg sg g cdg X.A X.stack s H Eg).tr pn xe) W) (hr : Room (k + 1) (X.A.deeper (envOfC qg sg s.heap.objs.size g cdg)))
    (hbody : ∀ (outer : List Env) (s2 : Shared) (H2 : Hp), Room k ((X.A.deeper (envOfC qg sg s.heap.objs.size g cdg)).deeper (LamX.lamEnv X sc s2.heap.objs.size f c')) → PE (LamX.lamCx X (X.A.deeper (envOfC qg sg s.heap.objs.size g cdg)) outer s2 H2 E sc f c') bd tb)
    (hN : Ng[i]? = some a) (hv : Vis sg a) (hd : (a == ("__debug__" : Str)) = false) (hcd : (a == ("__classdict__" : Str)) = false) :
    PE ((cxOf CXg X.prog X.w X.K X.mg X.base Ng qg sg g cdg X.A X.stack s H Eg).tr pn xe) (.Call (.Name a p1) [] [] p2)
      (fun σZ HZ Q => σZ[i]? = some (some (.ref f)) ∧ HZ c' = some (LamX.CodeO c' (X.env.qual ++ "<lambda>")) ∧ (∀ cls d H', E cls d H' → W cls d σZ H') ∧ tb σ HZ Q) := by
  refine ⟨fun pinsZ sZ σZ HZ Q IZ ⟨hs, hc, hW, ht⟩ => ?_⟩
  refine wpAny_Call_Name_kw (thn ((pe_var (pos := p1) (i := i) hN hv hd hcd).run pinsZ sZ σZ HZ (fun v H1 => v = .ref f ∧ H1 = HZ) IZ ⟨.ref f, hs, rfl, rfl⟩) fun u sA ⟨v, H1, IA, r1, ev, eH⟩ => ?_)
  subst ev eH
  obtain rfl : u = Value.ref f := r1
  have fThere := IA.base.keep f _ hf hfn hfr (fun z => nomatch (show f ∈ ([] : List Addr) from z))
  refine PySem.W.callWith_F0 ⟨_, _, _, _, fThere⟩ ?_
  have un : Un (frs X.stack) [] H H1 s.heap sA.heap := IA.base
  obtain ⟨⟨oc, vs, t, hoc, hdc, hvc⟩, _, _⟩ := IA.hok c' _ hc
  have ran : codeAny (model X.prog X.w) (X.A.deeper (envOfC qg sg s.heap.objs.size g cdg)) (.call (.ref f) ⟨[], []⟩) (CR (L2.CX X.prog X.w) (envOfC qg sg s.heap.objs.size g cdg :: X.stack) X.prog X.w H1 sA Q E) sA := by
    refine PySem.W.kla_callFunE hr.depth fThere rfl L.co L.gen rfl ⟨c', oc, vs, t, rfl, hoc, hdc, hvc⟩ ?_
    rw [hbind]
    refine wpAny_pure (wpAny_newFunctionEnv (fun y hy => (L.own y hy).2) (fun y hy => absurd hy (by simp)) (fun h₁ hns hsb => ⟨IA.nolimit.fresh _ hsb, ?_⟩) L.kind)
    show codeAny _ _ (.expr bd (LamX.lamEnv X sc sA.heap.objs.size f c')) _ _
    have J : Inv (LamX.lamCx X (X.A.deeper (envOfC qg sg s.heap.objs.size g cdg)) (envOfC qg sg s.heap.objs.size g cdg :: X.stack) sA H1 E sc f c') [] σ H1 { sA with heap := h₁, toks := sA.toks + ([] : List (Str × Value)).length } :=
      LamX.lam_start2 I L IA.env0 hr.hd un hns fun b o e => hsb.extBut b o (Nat.ne_of_lt (Heap.lt_size e)) (Heap.get?_push_of_some _ e)
    exact PySem.W.kla_codeExpr (wpAny_mono ((hbody _ sA H1 (hr.deeper _)).run [] _ _ H1 Q J ht) (fun v s' ⟨w', H', J', rv, q⟩ => ⟨w', H', J'.os, J'.bare, J'.base, J'.hok, rv, q⟩) fun e s' hq => hq)
  refine wpAny_call (codeAny_mono ran fun z s' hq => ?_)
  match z, hq with
  | .error e, hq => exact tk e s' (XE.of_call IA (fun cls d H' h => hW cls d H' h) hq)
  | .ok (.ret u), hq => exact IA.after hq
end
/-- the def that calls what it got: what it makes of the lambda's reading -/
def GivesG (X : Cx) (Ng : List Str) (x : Str) (sg : Scope) (g : Addr) (cdg : Value) (bg : List Stmt) (a : Str) (q : Str) (TT : (XK → Hp → VK → Prop) → Hp → VK → Prop) : Prop :=
  ∀ (f c' : Addr) (s : Shared) (H : Hp) (Q : VK) (tl : XK → Hp → VK → Prop),
    (∀ (W : WX) (pn : List (Addr × Obj)) (xe : Value → Shared → Prop) (E : XK) (p1 p2 : Pos), Takes ((cxOf C8.CX0 X.prog X.w X.K X.mg X.base Ng x sg g cdg X.A X.stack s H C8.E0).tr pn xe) W →
      PE ((cxOf C8.CX0 X.prog X.w X.K X.mg X.base Ng x sg g cdg X.A X.stack s H C8.E0).tr pn xe) (.Call (.Name a p1) [] [] p2) (fun σZ HZ Q => σZ[0]? = some (some (.ref f)) ∧ HZ c' = some (LamX.CodeO c' q) ∧ (∀ cls d H', E cls d H' → W cls d σZ H') ∧ tl E HZ Q)) →
    H c' = some (LamX.CodeO c' q) → TT tl H Q →
    ∃ t, PSs (cxOf C8.CX0 X.prog X.w X.K X.mg X.base Ng x sg g cdg X.A X.stack s H C8.E0).nox bg t ∧ t { nx := fun _ H' => Q .non H', rt := Q } (L2.start Ng [.ref f]) H
def tLamD (T : List (Addr × Str)) (TT : (XK → Hp → VK → Prop) → Hp → VK → Prop) (t : XK → TE) : TE := fun σ H Q => LamX.Tabs T H ∧ ∀ H1, LamX.ExtN H H1 → Dom H H1 → LamX.Tabs T H1 → TT (fun E H' Q' => t E σ H' Q') H1 Q
/-- x(lambda: body), where no repr is under way -/
theorem pe_lamG {X : Cx} {T : List (Addr × Str)} {TT : (XK → Hp → VK → Prop) → Hp → VK → Prop} {x a : Str} {g c P : Addr} {k : Nat} {pg : Arguments} {bg : List Stmt} {sg : Scope} {dV kV doc pm cdv ct oc : Value} {an od : Option Addr} {osl : Array (Option Value)} {Ng : List Str}
    {pr : Arguments} {bd : Expr} {sc : Scope} {t : XK → TE} {p lpos pos : Pos} (hg : Gl X x) (hm : X.mg x = some (.ref g)) (hk : PySem.W.keepIn X.K (.ref g) = true)
    (lk : X.K.lookup g = some ⟨oc, od, .func (PySem.W.fnOf x x pg bg sg dV kV doc pm an cdv ct), osl⟩) (hcg : PySem.W.codeIn X.K cdv x = true) (hb : L2.Binds X.K (PySem.W.fnOf x x pg bg sg dV kV doc pm an cdv ct) [a] []) (Sg : FnScope Ng [a] sg) (hNg : Ng[0]? = some a) (hva : Vis sg a)
    (hG : GivesG X Ng x sg g cdv bg a (X.env.qual ++ "<lambda>") TT) (B : LamX.TabB X.base X.mg c P) (hcode : X.env.code = .ref c) (hmT : (P, X.env.qual ++ "<lambda>") ∈ T) (hu : ∀ p ∈ T, p.1 = P → p.2 = X.env.qual ++ "<lambda>")
    (hr : Room (k + 2) X.A) (hgd : X.A.guards = some []) (L : LamX.LamS X.env.scope sc) (hdef : defaultsOf pr X.env = ([], [])) (hbind : ∀ (q : Str) (cl : List (Str × Addr)) (pm cv ctv : Value), bindArgs (PySem.W.kla_fn "<lambda>" q pr bd sc cl pm cv ctv) ⟨[], []⟩ = pure [])
    (hbody : ∀ (A : Around) (outer : List Env) (s : Shared) (H : Hp) (E : XK) (f c' : Addr), Room k (A.deeper (LamX.lamEnv X sc s.heap.objs.size f c')) → A.guards = some [] → PE (LamX.lamCx X A outer s H E sc f c') bd (t E))
    (hdb : (x == ("__debug__" : Str)) = false) (hd : (a == ("__debug__" : Str)) = false) (hcd : (a == ("__classdict__" : Str)) = false) :
    PE X (.Call (.Name x p) [.Lambda pr bd sc lpos] [] pos) (tLamD T TT t) := by
  refine ⟨fun pins s σ H Q I ⟨hT, h⟩ => wpAny_Call_Name_kw (ld_glob I hg hm (PySem.W.callWith_K (h₀ := X.base) I.ok.mod.kin hk ?_ (by rfl) (by rfl)) hdb)⟩
  show wpAny _ _ (spliced ((false, eval (.Lambda pr bd sc lpos) X.env) :: backTo pos (starEach [] X.env))) _ _ s
  refine Calls.spliced_cons (lam_made I B hcode hmT hu hT hdef (L.has I.ok) fun f c' pm' ctv H1 s' I1 eN dm T1 hf hfn hfr hco => Calls.spliced_nil ⟨I1.kIn, ?_⟩)
  have ran : codeAny (model X.prog X.w) X.A (.call (.ref g) ⟨[.ref f], []⟩) (CR C8.CX0 X.stack X.prog X.w H1 s' Q C8.E0) s' :=
    LamX.run_ofS (N := Ng) (ps := [a]) (us := [.ref f]) (vs := [.ref f]) lk hcg Sg hr I1.env0 (hb s' [.ref f] I1.kIn rfl) (.cons rfl .nil) rfl fun hr' => by
      obtain ⟨t', ht', hq'⟩ := hG f c' s' H1 Q (fun E H' Q' => t E σ H' Q') (fun W pn xe E p1 p2 tk => pe_actG (i := 0) I1 L hf hfn hfr (hbind _ _ _ _ _) tk hr' (fun outer s2 H2 hr2 => hbody _ outer s2 H2 E f c' hr2 hgd) hNg hva hd hcd) hco (h H1 eN dm T1)
      exact ⟨t', ht'.nox, hq'⟩
  refine wpAny_call (codeAny_mono ran fun z s2 hq => ?_)
  match z, hq with
  | .ok (.ret u), hq => exact I1.after hq
/-! repr of data, where no repr is under way -/
def fRep (d : D) : Option Str := if d.shp 59 && d.toPy.showable && decide (d.toPy.shown.length ≤ sizeLine) then some d.toPy.shown else match d with
  | .dk [] => some "{}"
  | _ => none
def rRep (K : PySem.W.Frag) (fa : Nat → Option Addr) : List V → Hp → VK → Prop := fun vs H Q => ∃ c F d v s, (∀ a o, F a = some o → H a = some o) ∧ vs = [v] ∧ Rep K fa c F d v ∧ fRep d = some s ∧ Q (.str s) H
theorem callR_repr {X : Cx} {fa : Nat → Option Addr} (hgd : X.A.guards = some []) (hu : X.A.units + 65 < cLine) : CallR X (.builtin "repr") (rRep X.K fa) := by
  intro pins s σ H xs us Q I rv ⟨c, F, d, v, t, hF, ev, rd, e, q⟩
  subst ev
  obtain ⟨u, rfl, ru⟩ := vals1 rv
  unfold fRep at e
  split at e
  · rename_i hs
    cases e
    rw [Bool.and_eq_true, Bool.and_eq_true, decide_eq_true_eq] at hs
    obtain ⟨⟨h1, h2⟩, h3⟩ := hs
    have hdp := Rep.dp hF d v 59 rd h1
    obtain ⟨as, rr⟩ := Dp.reads I _ _ _ hdp ru
    obtain ⟨o1, o2⟩ := D.shp_ok d 59 h1
    have hd := PyData.hasDict_of_canLay _ o1
    have fin : ∀ (h' : Heap) (tk' : Nat) (u : Tok), (∀ b o, s.heap.get? b = some o → h'.get? b = some o) → EP X pins σ Q (.str d.toPy.shown u) { s with heap := h', toks := tk' } := fun h' tk' u k => ⟨.str _, H, I.kept k, ⟨u, rfl⟩, q⟩
    cases d with
    | non => cases rd; cases ru; exact PySem.P.repr_of_none (fin s.heap _ _ fun _ _ e => e)
    | bl b => cases rd; cases ru; exact PySem.P.repr_of_bool (fin s.heap _ _ fun _ _ e => e)
    | int i => cases rd; obtain ⟨t, rfl⟩ := ru; exact PySem.P.repr_of_int (of_decide_eq_true h2) (fin s.heap _ _ fun _ _ e => e)
    | str x => cases rd; obtain ⟨t, rfl⟩ := ru; exact PySem.P.repr_of_str (fin s.heap _ _ fun _ _ e => e) h3
    | tup xs =>
      cases rd; cases ru
      exact repr_of_reads' rr h2 (PyData.noDict_hsm hd) hgd (by omega) (fun _ _ e => e) (fun h' u tk k => fin h' tk u k) h3
    | lst xs =>
      cases rd; cases ru
      exact repr_of_reads' rr h2 (PyData.noDict_hsm hd) hgd (by omega) (fun _ _ e => e) (fun h' u tk k => fin h' tk u k) h3
    | _ => cases h1
  · split at e
    · cases e
      cases rd with
      | dk hq t =>
        cases t
        cases ru
        have ok : ObjOk X.prog X.w H s.heap _ (.dK []) := I.hok _ _ (hF _ _ hq)
        obtain ⟨_, hsys, vs, kv, o, es, ep, h1, h2, h3, _, h5, _⟩ := ok
        cases kv
        have hes : es.toList = [] := by
          cases hh : es.toList with
          | nil => rfl
          | cons x l => rw [hh] at h5; cases h5
        have rr := Reads.dict (h := s.heap) (kvs := []) (as := []) (bs := []) h1 h2.1 h3 (by rw [hes]; exact .nil) (by rw [hes]; exact .nil)
        refine repr_of_reads' rr rfl (fun _ hm => ?_) hgd (by show X.A.units + (PyData.depth (.dict []) + 1) < cLine; unfold PyData.depth; have : PyData.depthKv [] = 0 := rfl; omega) (fun _ _ e => e) (fun h' u tk k => ⟨.str _, H, I.kept k, ⟨u, rfl⟩, q⟩) (by decide +kernel)
        rw [beq_eq_false_iff_ne] at hsys
        rcases List.mem_append.mp hm with hm | hm
        · exact hsys (List.mem_singleton.mp hm).symm
        · cases hm
    · cases e
def gRep : List D → O1
  | [d] => (fRep d).map fun s => (.str s, false)
  | _ => none
theorem bi_rep {X : Cx} {fa : Nat → Option Addr} (hgd : X.A.guards = some []) (hu : X.A.units + 65 < cLine) : CallR X (.builtin "repr") (rAp X.K fa gRep) := by
  intro pins s σ H xs us Q I r h
  obtain ⟨c, F, κ, ds, d, fr, hF, k, rl, e, q⟩ := h
  unfold gRep at e
  split at e
  · rename_i d0
    obtain ⟨t, et, e2⟩ := Option.map_eq_some_iff.mp e
    cases e2
    cases rl with
    | cons r1 rn =>
      cases rn
      exact callR_repr hgd hu pins s σ H _ us Q I r ⟨c, F, d0, _, t, hF, rfl, r1, et, fin0 hF k q (.str _)⟩
  · cases e
/-! raise; a def that tells how a call ends; calls of defs that slots hold -/
/-! ## raise -/
def cRaise (k : Nat) : SmS := fun _ κ => .exc k .non κ
def cRaise1 (k : Nat) (e : SmE) : SmS := fun ρ κ => (e ρ κ).st fun d fr κ => if fr then .bad else .exc k d κ
abbrev veB : List Value := [.type "ValueError", .type "Exception", .type "BaseException", .type "object"]
/-- a class of the text that may be raised -/
structure ClsP (X : Cx) (x : Str) (C : Addr) : Prop where
  g : X.mg x = some (.ref C)
  k : PySem.W.keepIn X.K (.ref C) = true
  q : PySem.W.excIn X.K C veB "ValueError.__new__" = true
  r : Raises X (.ref C)
structure ClsF (X : Cx) (x f : Str) (C : Addr) : Prop where
  g : X.mg x = some (.ref C)
  ex : ∃ (B newId initId : String) (bmB : List Value) (fI : Addr) (k : Nat) (fd : FuncData) (ps : List Str), BaseX B newId initId bmB ∧ OxG X.K C newId bmB ∧ PySem.W.findIn X.K (.ref C) f = some none ∧ PySem.W.findIn X.K (.ref C) "__init__" = some (some (.ref fI)) ∧
    PySem.W.typeIn X.K (.ref fI) = some (.type "function") ∧ FnOk X.prog X.w X.K X.mg X.base (L2.CX X.prog X.w) k fI fd ps (spI X.K f newId bmB) ∧ ps.length = 2 ∧ Room (k + 1) X.A ∧ Binds X.K fd ps []
section
variable {X : Cx} {fa : Nat → Option Addr} {cl : Nat → ClsI} {W : WX}
theorem ss_raise {x m : Str} {C : Addr} {k j : Nat} {p p2 pos pos' : Pos} (hc : X.calm = true) (tk : Takes X W) (hg : Gl X x) (P : ClsP X x C) (hcl : cl k = ⟨.ref C, none⟩) (hdb : (x == ("__debug__" : Str)) = false) :
    SnS X fa cl W (.Raise (some (.Call (.Name x p) [.Constant (.str m) j p2] [] pos)) none pos') (cRaise k) :=
  PS.imp (fun D σ H ⟨c, F0, H0, F, ρ, κ, r, o⟩ => by
    have o' := o σ F H none r.stp r.kap (by unfold ExcAt; rw [hcl])
    rw [hcl] at o'
    exact o') (ps_raise hc tk (pmk_own F.excBase_ValueError P.q P.g P.k P.r hg hdb))
theorem ss_raise1 {x f : Str} {C : Addr} {k : Nat} {e : Expr} {m : SmE} {p pos pos' : Pos} (hc : X.calm = true) (tk : Takes X W) (hg : Gl X x) (P : ClsF X x f C) (hcl : cl k = ⟨.ref C, some f⟩) (he : SnE X fa cl W e m) (hdb : (x == ("__debug__" : Str)) = false)
    (hs : starEach [e] X.env = (false, eval e X.env) :: starEach [] X.env) : SnS X fa cl W (.Raise (some (.Call (.Name x p) [e] [] pos)) none pos') (cRaise1 k m) := by
  obtain ⟨B, newId, initId, bmB, fI, n, fd, ps, b1, b2, b3, b4, b5, b6, b7, b8, b9⟩ := P.ex
  refine PS.imp (fun D σ H ⟨c, F0, H0, F, ρ, κ, r, o⟩ => ?_) (ps_raise hc tk (pmk_fld b1 b2 b3 b4 b5 b6 b7 b8 b9 passL hg P.g he hdb hs))
  refine ⟨c, F0, H0, F, ρ, κ, r, Out.st r o fun d fr κ1 F1 H1 v s k1 ef fresh o => fun dx hdx => ?_⟩
  cases fr with
  | true => exact o.elim
  | false =>
    have o' := o σ F1 (upd H1 dx (.xd [(f, v)])) (some dx) ((r.stp.trans s).trans (Stp.laid0 s.inH hdx)) (k1.laid0 hdx) (by unfold ExcAt; rw [hcl]; exact ⟨dx, v, rfl, upd_same, ef⟩)
    rw [hcl] at o'
    exact o'
/-! ## a call of the def that a slot holds -/
def cCallV (Γ : Nat → List D → Kp → R) (j : Nat) (m : SmL) : SmE := fun ρ κ => match ρ[j]? with
  | some (.val (.fn i)) => (m ρ κ).bind (Γ i)
  | _ => .bad
theorem sn_callV {Γ : Nat → List D → Kp → R} {x : Str} {j : Nat} {p pos : Pos} {e : Expr} {es : List Expr} {m : SmL} (hN : X.N[j]? = some x) (hv : Vis X.env.scope x) (hgd : X.A.guards = some []) (tk : Takes X W)
    (hF : ∀ i a, fa i = some a → ∃ k fd ps, FnG X.prog X.w X.K X.mg X.base k a fd ps (spF X.K fa cl (Γ i)) ∧ Room k X.A ∧ PySem.W.keepIn X.K (.ref a) = true ∧ Binds X.K fd ps [])
    (ha : SnL X fa cl W (e :: es) m) (hdb : (x == ("__debug__" : Str)) = false) (hcd : (x == ("__classdict__" : Str)) = false) (he : starEach (e :: es) X.env = (false, eval e X.env) :: starEach es X.env) (hpl : (backTo pos (starEach es X.env)).any (·.1) = false) :
    SnE X fa cl W (.Call (.Name x p) (e :: es) [] pos) (cCallV Γ j m) := by
  refine PE.imp (fun σ H Q ⟨c, F0, H0, F, ρ, κ, r, o⟩ => ?_) (pe_callGL (i := j) hN hv hgd (fun σ => passAt tk σ) ha hdb hcd he hpl)
  unfold cCallV at o
  split at o
  · rename_i i q
    obtain ⟨v, hs, rv⟩ := r.vals j _ q
    cases rv with
    | fn hfa =>
      rename_i a
      obtain ⟨k, fd, ps, F1, hr, hk, hb⟩ := hF i _ hfa
      exact ⟨_, k, fd, ps, _, hs, F1, hr, hk, hb, tE_call (f := Γ i) ⟨c, F0, H0, F, ρ, κ, r, o⟩⟩
  · exact o.elim
/-! ## what is known stays known behind a lambda -/
def noTbl (F : Hp) : Hp := fun a => match F a with
  | some (.tbl _) => none
  | o => o
theorem noTbl_at {F : Hp} {a : Addr} {o : HO} (h : F a = some o) (n : NotTbl o) : noTbl F a = some o := by
  unfold noTbl
  rw [h]
  cases o <;> first | rfl | exact n.elim
theorem noTbl_sub {F : Hp} {a : Addr} {o : HO} (h : noTbl F a = some o) : F a = some o ∧ NotTbl o := by
  unfold noTbl at h
  cases q : F a with
  | none => rw [q] at h; cases h
  | some u =>
    rw [q] at h
    cases u <;> first | (cases h; done) | (cases h; exact ⟨rfl, trivial⟩)
theorem lam_step {K : PySem.W.Frag} {c : Option Addr} {F H H1 : Hp} {κ : Kp} (hF : ∀ a o, F a = some o → H a = some o) (k : Kap c κ F H) (e : LamX.ExtN H H1) (d : Dom H H1) (t : LamX.Tabs (tabsOf K) H1) : Stp K c F H (noTbl F) H1 ∧ Kap c κ (noTbl F) H1 := by
  have nt : ∀ {o : HO}, NotTbl o → ∀ ps, o ≠ .tbl ps := fun n ps z => by subst z; exact n
  refine ⟨⟨⟨fun a vs h => noTbl_at h trivial, fun a vs h => noTbl_at h trivial, fun a u p h => ?_, fun a vs h => noTbl_at h trivial, fun a vs h => noTbl_at h trivial, fun a o u h => noTbl_at h trivial⟩, fun a o h => ?_, fun a o h => ?_, fun a o h _ n => e a o h (nt n), d, fun _ => t⟩, k.1, fun a q => ?_⟩
  · rcases h with h | ⟨o, h⟩
    · refine .inl (noTbl_at h ?_)
      cases u <;> first | trivial | exact p.elim
    · exact .inr ⟨o, noTbl_at h trivial⟩
  · obtain ⟨h1, h2⟩ := noTbl_sub h
    exact e a o (hF a o h1) (nt h2)
  · obtain ⟨h1, _⟩ := noTbl_sub h
    exact .inl (by rw [h1]; simp)
  · obtain ⟨h1, h2⟩ := k.2 a q
    refine ⟨?_, e _ _ h2 (fun ps z => nomatch z)⟩
    unfold noTbl; rw [h1]
end
/-! a def that tells how a call ends -/
/-- what a clause hands back -/
inductive HR where
  | one (s : Str)
  | lits (ss : List Str)
  | fld (ss : List Str)
  | rep (ss : List Str) (s : Str)
  deriving DecidableEq
def HR.d : HR → D → Option D
  | .one s, _ => some (.str s)
  | .lits ss, _ => some (.tup (ss.map .str))
  | .fld ss, d => some (.tup (ss.map .str ++ [d]))
  | .rep ss s, d => match fRep d with
    | some t => if s.length + t.length ≤ sizeLine then some (.tup (ss.map .str ++ [.str (s ++ t)])) else none
    | none => none
structure MetD where
  name : Str
  par : Str
  err : Str
  tag : Str
  hs : List (Nat × HR)
  deriving DecidableEq
def metSem (M : MetD) (m : SmE) : SmE := fun ρ κ => match m ρ κ with
  | .ok d _ κ => .ok (.tup [.str M.tag, d]) false κ
  | .exc k d κ => (match M.hs.lookup k with
    | some h => (match h.d d with
      | some d' => .ok d' false κ
      | none => .bad)
    | none => .bad)
  | .bad => .bad
/-! ### texts in a row -/
def tStrs : List Str → TA → TA
  | [], t => t
  | s :: r, t => tCons (tC (.str s)) (tStrs r t)
theorem tStrs_at {t : TA} {σ : L2.St} : ∀ (ss : List Str) {H : Hp} {Q : List V → Hp → Prop}, t σ H (fun vs H1 => Q (ss.map V.str ++ vs) H1) → tStrs ss t σ H Q
  | [], H, Q, h => h
  | s :: r, H, Q, h => tStrs_at r (Q := fun vs H1 => Q (V.str s :: vs) H1) h
/-- the written texts, then the rest -/
def litsC : List Str → List Expr → (List Expr → Bool) → Bool
  | [], es, k => k es
  | s :: ss, .Constant (.str t) _ _ :: es, k => decide (s = t) && litsC ss es k
  | _, _, _ => false
theorem litsC_pa {X : Cx} {k : List Expr → Bool} {t : TA} (hk : ∀ es, k es = true → PA X es t) : ∀ (ss : List Str) (es : List Expr), litsC ss es k = true → PA X es (tStrs ss t)
  | [], es, h => hk es h
  | s :: ss, .Constant (.str t) _ _ :: es, h => by
    unfold litsC at h
    rw [Bool.and_eq_true, decide_eq_true_eq] at h
    obtain ⟨rfl, h⟩ := h
    exact pa_cons pe_str (litsC_pa hk ss es h) (by rfl)
/-- n.f -/
def fldC (n f : Str) : Expr → Bool
  | .Attribute (.Name n' _) f' _ => decide (n' = n) && decide (f' = f)
  | _ => false
def hrC (nm f : Option Str) : HR → Expr → Bool
  | .one s, .Constant (.str t) _ _ => decide (s = t)
  | .lits ss, .Tuple es _ _ => litsC ss es fun es => es.isEmpty
  | .fld ss, .Tuple es _ _ => (match nm, f with
    | some n, some f => litsC ss es fun es => match es with
      | [e] => fldC n f e
      | _ => false
    | _, _ => false)
  | .rep ss s, .Tuple es _ _ => (match nm, f with
    | some n, some f => litsC ss es fun es => match es with
      | [.BinOp (.Constant (.str t) _ _) .Add (.Call (.Name rp _) [e] [] _) _] => decide (s = t) && decide (rp = "repr") && fldC n f e
      | _ => false
    | _, _ => false)
  | _, _ => false
theorem fldC_star {n f : Str} {e : Expr} {env : Env} (h : fldC n f e = true) : starEach [e] env = (false, eval e env) :: starEach [] env := by
  unfold fldC at h
  split at h
  · rfl
  · cases h
section
variable {X : Cx} {fa : Nat → Option Addr} {a C : Addr} {oe : Obj} {cls : Value} {d : Option Addr} {pn : List (Addr × Obj)} {n f : Str} {i : Nat}
theorem fldC_pe {e : Expr} (h : fldC n f e = true) (T : XfC X.K C) (hno : PySem.W.findIn X.K (.ref C) f = some none) (hz : Zc cls d oe) (hf : ∃ vs, oe.data = .fields vs) (hN : X.N[i]? = some n) (hv : Vis X.env.scope n) (h1 : (n == ("__debug__" : Str)) = false) (h2 : (n == ("__classdict__" : Str)) = false) :
    PE (X.suite a ((a, oe) :: pn)) e (tXf a cls d C f (tVar i)) := by
  unfold fldC at h
  split at h
  · rw [Bool.and_eq_true, decide_eq_true_eq, decide_eq_true_eq] at h
    obtain ⟨rfl, rfl⟩ := h
    exact pe_xf T hno hz hf (pe_var hN hv h1 h2)
  · cases h
def rStr : R2 := fun x y H Q => ∃ i j, x = .str i ∧ y = .str j ∧ i.length + j.length ≤ sizeLine ∧ Q (.str (i ++ j)) H
def hrT (K : PySem.W.Frag) (fa : Nat → Option Addr) (a : Addr) (cls : Value) (d : Option Addr) (C : Addr) (f : Str) (i : Nat) : HR → TE
  | .one s => tC (.str s)
  | .lits ss => tTup (tStrs ss tNil)
  | .fld ss => tTup (tStrs ss (tCons (tXf a cls d C f (tVar i)) tNil))
  | .rep ss s => tTup (tStrs ss (tCons (tOp rStr (tC (.str s)) (tCB (rRep K fa) (tCons (tXf a cls d C f (tVar i)) tNil))) tNil))
def HR.uses : HR → Bool
  | .fld _ => true
  | .rep _ _ => true
  | _ => false
def HR.isRep : HR → Bool
  | .rep _ _ => true
  | _ => false
/-- what a clause of the class at C, with the field f, needs -/
structure HrOk (X : Cx) (C : Addr) (f n : Str) (i : Nat) : Prop where
  x : XfC X.K C
  no : PySem.W.findIn X.K (.ref C) f = some none
  N : X.N[i]? = some n
  v : Vis X.env.scope n
  d1 : (n == ("__debug__" : Str)) = false
  d2 : (n == ("__classdict__" : Str)) = false
theorem hr_suite {h : HR} {e : Expr} {p : Pos} {nm fo : Option Str} (hc : hrC nm fo h e = true) (hu : h.uses = true → nm = some n ∧ fo = some f ∧ HrOk X C f n i) (hgd : X.A.guards = some []) (hun : X.A.units + 65 < cLine) (hg : h.isRep = true → Gl X "repr") (hm : X.mg "repr" = none)
    (hz : Zc cls d oe) (hf : ∃ vs, oe.data = .fields vs) : PSs (X.suite a ((a, oe) :: pn)) [.Return (some e) p] (tRet (hrT X.K fa a cls d C f i h)) := by
  refine pss_one (ps_ret ?_)
  unfold hrC at hc
  split at hc
  · rw [decide_eq_true_eq] at hc; subst hc; exact pe_str
  · exact pe_tup (litsC_pa (fun es he => by rw [List.isEmpty_iff] at he; subst he; exact pa_nil) _ _ hc)
  · obtain ⟨rfl, rfl, P⟩ := hu rfl
    refine pe_tup (litsC_pa (fun es he => ?_) _ _ hc)
    split at he
    · exact pa_cons (fldC_pe he P.x P.no hz hf P.N P.v P.d1 P.d2) pa_nil (fldC_star he)
    · cases he
  · obtain ⟨rfl, rfl, P⟩ := hu rfl
    refine pe_tup (litsC_pa (fun es he => ?_) _ _ hc)
    split at he
    · rw [Bool.and_eq_true, Bool.and_eq_true, decide_eq_true_eq, decide_eq_true_eq] at he
      obtain ⟨⟨rfl, rfl⟩, he⟩ := he
      refine pa_cons (pe_op op_add_str pe_str (pe_callB (X := X.suite a ((a, oe) :: pn)) (callR_repr (X := X.suite a ((a, oe) :: pn)) (fa := fa) hgd hun) (hg rfl) hm (by decide +kernel) (pa_cons (fldC_pe he P.x P.no hz hf P.N P.v P.d1 P.d2) pa_nil (fldC_star he)) (by decide) (by decide) (fldC_star he) (by rfl))) pa_nil (by rfl)
    · cases he
  · cases hc
theorem hr_wish {K : PySem.W.Frag} {c : Option Addr} {F H : Hp} {κ : Kp} {dv d' : D} {σ : L2.St} {Q : VK} {h : HR} (hF : ∀ a o, F a = some o → H a = some o) (k : Kap c κ F H)
    (hu : h.uses = true → cls = .ref C ∧ σ[i]? = some (some (.ref a)) ∧ ∃ b v, d = some b ∧ H b = some (.xd [(f, v)]) ∧ Rep K fa c F dv v) (hd : h.d dv = some d') (hl : ∀ ss, (h = .lits ss ∨ h = .fld ss ∨ ∃ s, h = .rep ss s) → ss.length ≤ 1000)
    (o : ∀ F' H' v', Stp K c F H F' H' → Kap c κ F' H' → Rep K fa c F' d' v' → Q v' H') : hrT K fa a cls d C f i h σ H Q := by
  have line : ∀ {ss : List Str} {n : Nat}, ss.length ≤ 1000 → n ≤ 1 → ss.length + n ≤ sizeLine := fun h1 h2 => by rw [sizeLine_eq]; omega
  have sts : ∀ (G : Hp) (ss : List Str), RepL K fa c G (ss.map D.str) (ss.map V.str) := fun G ss => by
    induction ss with
    | nil => exact .nil
    | cons s ss ih => exact .cons (.str s) ih
  have app : ∀ {G : Hp} {ds es : List D} {vs ws : List V}, RepL K fa c G ds vs → RepL K fa c G es ws → RepL K fa c G (ds ++ es) (vs ++ ws) := fun {G ds es vs ws} r1 r2 => r1.append r2
  cases h with
  | one s =>
    cases hd
    exact o F H _ (Stp.refl hF) k (.str s)
  | lits ss =>
    cases hd
    refine tStrs_at ss ?_
    show _ ∧ _
    rw [List.append_nil]
    refine ⟨by rw [List.length_map]; exact line (n := 0) (hl ss (.inl rfl)) (by omega), fun p hp => ?_⟩
    exact o _ _ _ (Stp.laid hF hp) (k.laid hp) (.tup upd_same ((sts F ss).sub (Stp.laid (K := K) (c := c) hF hp).sub))
  | fld ss =>
    cases hd
    obtain ⟨h1, h2, b, v, h3, h4, h5⟩ := hu rfl
    refine tStrs_at ss ⟨.ref a, h2, rfl, h1, b, _, v, h3, h4, by simp, ?_⟩
    refine ⟨by rw [List.length_append, List.length_map]; exact line (n := 1) (hl ss (.inr (.inl rfl))) (by omega), fun p hp => ?_⟩
    exact o _ _ _ (Stp.laid hF hp) (k.laid hp) (.tup upd_same ((app (sts F ss) (.cons h5 .nil)).sub (Stp.laid (K := K) (c := c) hF hp).sub))
  | rep ss s =>
    have hd : (match fRep dv with | some t => (if s.length + t.length ≤ sizeLine then some (D.tup (ss.map .str ++ [.str (s ++ t)])) else none) | none => none) = some d' := hd
    cases et : fRep dv with
    | none => rw [et] at hd; cases hd
    | some t =>
      rw [et] at hd
      dsimp only at hd
      by_cases hlen : s.length + t.length ≤ sizeLine
      · rw [if_pos hlen] at hd
        cases hd
        obtain ⟨h1, h2, b, v, h3, h4, h5⟩ := hu rfl
        refine tStrs_at ss ⟨.ref a, h2, rfl, h1, b, _, v, h3, h4, by simp, ?_⟩
        refine ⟨c, F, dv, v, t, hF, rfl, h5, et, s, t, rfl, rfl, hlen, ?_⟩
        refine ⟨by rw [List.length_append, List.length_map]; exact line (n := 1) (hl ss (.inr (.inr ⟨s, rfl⟩))) (by omega), fun p hp => ?_⟩
        exact o _ _ _ (Stp.laid hF hp) (k.laid hp) (.tup upd_same ((app (sts F ss) (.cons (.str _) .nil)).sub (Stp.laid (K := K) (c := c) hF hp).sub))
      · rw [if_neg hlen] at hd; cases hd
end
/-! ## {None: y}, and its keys -/
def cNdd (b : SmE) : SmE := fun ρ κ => match b ρ κ with
  | .ok _ _ κ => .ok .nd false κ
  | .exc k d κ => .exc k d κ
  | .bad => .bad
def cItN (a : SmE) : SmL := fun ρ κ => match a ρ κ with
  | .ok .nd false κ => .ok [.non] κ
  | .ok (.fdt kvs) false κ => .ok (kvs.map fun kv => .tup (kv.1.map keyD)) κ
  | .ok _ _ _ => .bad
  | .exc k d κ => .exc k d κ
  | .bad => .bad
def cDdt (a b : SmE) : SmE := fun ρ κ => match a ρ κ with
  | .ok (.tup ks) false κ => (match asKeys ks with
    | some k => (match b ρ κ with
      | .ok z _ κ => .ok (.fdt [(k, z)]) false κ
      | .exc k d κ => .exc k d κ
      | .bad => .bad)
    | none => .bad)
  | .ok _ _ _ => .bad
  | .exc k d κ => .exc k d κ
  | .bad => .bad
section
variable {X : Cx} {fa : Nat → Option Addr} {cl : Nat → ClsI} {W : WX} {x y tg : Expr} {a b : SmE} {pos kp : Pos} {kd : Nat}
theorem sn_ndd (hb : SnE X fa cl W y b) : SnE X fa cl W (.Dict [some (.Constant .none kd kp)] [y] pos) (cNdd b) := by
  refine PE.imp (fun σ H Q ⟨c, F0, H0, F, ρ, κ, r, o⟩ => ?_) (pe_ndd hb)
  intro p hp
  have hcp : c ≠ some p := fun q => by
    obtain ⟨_, h2⟩ := r.kap.2 p q
    rw [hp] at h2; cases h2
  have hF1 : F p = none := by
    cases q : F p with
    | none => rfl
    | some u => rw [r.inH _ _ q] at hp; cases hp
  have sl : Stp X.K c F H F (upd H p (.dK [])) := Stp.laid0 r.inH hp
  have kl : Kap c κ F (upd H p (.dK [])) := r.kap.laid0 hp
  have o1 := o
  unfold cNdd at o1
  refine ⟨c, F0, H0, F, ρ, κ, r.step sl kl, ?_⟩
  cases eb : b ρ κ with
  | exc k d κ2 => rw [eb] at o1; exact OutX.step sl o1
  | bad => rw [eb] at o1; exact o1.elim
  | ok z fr κ2 =>
    rw [eb] at o1
    intro G2 H2 w s2 k2 e2 fresh2
    obtain ⟨F2, s2, k2, _, r2⟩ := e2.still s2 k2 fresh2
    have s2' := sl.trans s2
    have Hp2 : H2 p = some (.dK []) := s2.keep p _ upd_same hcp trivial
    have F2p : F2 p = none := by
      cases q : F2 p with
      | none => rfl
      | some u =>
        rcases s2.new p u q with z1 | z1
        · exact absurd hF1 z1
        · rw [upd_same] at z1; cases z1
    refine ⟨w, rfl, Hp2, fun od nd => ?_⟩
    have ne : ∀ a o, F2 a = some o → a ≠ p := fun a o q z => by subst z; rw [F2p] at q; cases q
    have sfin : Stp X.K c F H F2 (upd H2 p (.frz od (.own p))) := by
      refine ⟨s2'.sub, fun a o q => by rw [upd_ne (ne a o q)]; exact s2'.inH a o q, s2'.new, fun a o q n nt => ?_, fun a o q => ?_, fun h => tab_plain Hp2 nk_dK _ (s2'.tab h)⟩
      · rw [upd_ne (fun z => by subst z; rw [hp] at q; cases q)]
        exact s2'.keep a o q n nt
      · rw [upd_ne (fun z => by subst z; rw [hp] at q; cases q)]
        exact s2'.dom a o q
    have sk : Stp X.K c F H (upd F2 p (.frz od (.own p))) (upd H2 p (.frz od (.own p))) := sfin.known upd_same hp F2p
    have kfin : Kap c κ2 (upd F2 p (.frz od (.own p))) (upd H2 p (.frz od (.own p))) := ⟨k2.1, fun a q => by
      obtain ⟨h1, h2⟩ := k2.2 a q
      have hne : a ≠ p := fun z => hcp (by rw [← z]; exact q)
      rw [upd_ne hne, upd_ne hne]
      exact ⟨h1, h2⟩⟩
    exact o1 _ _ (.ref p) sk kfin (.nd upd_same nd) (fun hf => by cases hf)
theorem sn_ddt (hu : X.A.units < cLine) (ha : SnE X fa cl W x a) (hb : SnE X fa cl W y b) : SnE X fa cl W (.Dict [some x] [y] pos) (cDdt a b) := by
  refine PE.imp (fun σ H Q ⟨c, F0, H0, F, ρ, κ, r, o⟩ => ?_) (pe_ddt hu ha hb)
  intro p hp
  have hcp : c ≠ some p := fun q => by
    obtain ⟨_, h2⟩ := r.kap.2 p q
    rw [hp] at h2; cases h2
  have hF1 : F p = none := by
    cases q : F p with
    | none => rfl
    | some u => rw [r.inH _ _ q] at hp; cases hp
  have sl : Stp X.K c F H F (upd H p (.dT [])) := Stp.laid0 r.inH hp
  have kl : Kap c κ F (upd H p (.dT [])) := r.kap.laid0 hp
  have o1 := o
  unfold cDdt at o1
  refine ⟨c, F0, H0, F, ρ, κ, r.step sl kl, ?_⟩
  cases ea : a ρ κ with
  | exc k d κ1 => rw [ea] at o1; exact OutX.step sl o1
  | bad => rw [ea] at o1; exact o1.elim
  | ok yk fr κ1 =>
    rw [ea] at o1
    cases fr with
    | true => cases yk <;> exact o1.elim
    | false =>
    cases yk <;> try exact o1.elim
    rename_i kd
    dsimp only at o1
    cases eq : asKeys kd with
    | none => rw [eq] at o1; exact o1.elim
    | some k =>
    rw [eq] at o1
    dsimp only at o1
    intro F1 H1 v s1 k1 e1 fr1
    have s1' := sl.trans s1
    refine ⟨c, F0, H0, F1, ρ, κ1, r.step s1' k1, ?_⟩
    cases eb : b ρ κ1 with
    | exc k d κ2 => rw [eb] at o1; exact OutX.step s1' o1
    | bad => rw [eb] at o1; exact o1.elim
    | ok z fr κ2 =>
    rw [eb] at o1
    intro G2 H2 w s2 k2 e2 fresh2
    obtain ⟨F2, s2, k2, _, r2⟩ := e2.still s2 k2 fresh2
    have s2' := s1'.trans s2
    have Hp1 : H1 p = some (.dT []) := s1.keep p _ upd_same hcp trivial
    have Hp2 : H2 p = some (.dT []) := s2.keep p _ Hp1 hcp trivial
    have F1p : F1 p = none := by
      cases q1 : F1 p with
      | none => rfl
      | some u1 =>
        rcases s1.new p u1 q1 with z3 | z3
        · exact absurd hF1 z3
        · rw [upd_same] at z3; cases z3
    have F2p : F2 p = none := by
      cases q : F2 p with
      | none => rfl
      | some u =>
        rcases s2.new p u q with z1 | z1
        · exact absurd F1p z1
        · rw [Hp1] at z1; cases z1
    cases e1 with
    | tup hq tq =>
    rename_i q vs
    have ev : vs = k.map kV := asKeys_rep tq eq
    subst ev
    have hq2 : F2 q = some (.tup (k.map kV)) := s2.sub.t _ _ hq
    refine ⟨q, k, w, rfl, s2.inH _ _ hq2, Hp2, fun od rk => ?_⟩
    have ne : ∀ a o, F2 a = some o → a ≠ p := fun a o q z => by subst z; rw [F2p] at q; cases q
    have sfin : Stp X.K c F H F2 (upd H2 p (.frz od (.dT [(k, w)]))) := by
      refine ⟨s2'.sub, fun a o q => by rw [upd_ne (ne a o q)]; exact s2'.inH a o q, s2'.new, fun a o q n nt => ?_, fun a o q => ?_, fun h => tab_plain Hp2 nk_dT _ (s2'.tab h)⟩
      · rw [upd_ne (fun z => by subst z; rw [hp] at q; cases q)]
        exact s2'.keep a o q n nt
      · rw [upd_ne (fun z => by subst z; rw [hp] at q; cases q)]
        exact s2'.dom a o q
    have sk : Stp X.K c F H (upd F2 p (.frz od (.dT [(k, w)]))) (upd H2 p (.frz od (.dT [(k, w)]))) := sfin.known upd_same hp F2p
    have kfin : Kap c κ2 (upd F2 p (.frz od (.dT [(k, w)]))) (upd H2 p (.frz od (.dT [(k, w)]))) := ⟨k2.1, fun a q => by
      obtain ⟨h1, h2⟩ := k2.2 a q
      have hne : a ≠ p := fun z => hcp (by rw [← z]; exact q)
      rw [upd_ne hne, upd_ne hne]
      exact ⟨h1, h2⟩⟩
    have sb : Sub F2 (upd F2 p (.frz od (.dT [(k, w)]))) := Sub.of fun a o q => by rw [upd_ne (ne a o q)]; exact q
    refine o1 _ _ (.ref p) sk kfin (.fdt (qs := [q]) upd_same rk (fun i q' e => ?_) rfl (.cons (r2.sub sb) .nil)) (fun hf => by cases hf)
    cases i with
    | zero => cases e; exact ⟨_, rfl, by rw [upd_ne (ne _ _ hq2)]; exact hq2⟩
    | succ i => cases e
theorem keysRep {K : PySem.W.Frag} {c : Option Addr} {F : Hp} : ∀ ks : List Key, RepL K fa c F (ks.map keyD) (ks.map kV)
  | [] => .nil
  | k :: ks => .cons (by cases k; exact .int _; exact .str _) (keysRep ks)
theorem si_nd {a : SmE} (ha : SnE X fa cl W x a) : SnI X fa cl W tg x (cItN a) := by
  refine PI.imp (fun σ H R ⟨c, F0, H0, F, ρ, κ, r, o⟩ => ?_) (pi_nd ha)
  refine ⟨c, F0, H0, F, ρ, κ, r, ?_⟩
  unfold cItN at o
  cases ea : a ρ κ with
  | exc k d κ => rw [ea] at o; exact o
  | bad => rw [ea] at o; exact o.elim
  | ok d fr κ1 =>
    rw [ea] at o
    cases d <;> try exact o.elim
    · cases fr with
      | true => exact o.elim
      | false =>
        intro F' H' v s k e fresh
        cases e with
        | nd hF nd =>
        rename_i ad od
        refine ⟨ad, od, _, _, rfl, s.inH _ _ hF, nd.raw, ?_⟩
        refine o _ _ _ s k fun G I κ3 j sb hG k3 => ?_
        have hz : I ad = some (.frz od (.own ad)) := hG _ _ (sb.z _ _ _ hF)
        refine ⟨fun d ed => ?_, fun ed => ?_⟩
        · have hj : j < 1 := by have := (List.getElem?_eq_some_iff.mp ed).1; simpa using this
          obtain rfl : j = 0 := by omega
          cases ed
          refine ⟨⟨hz, by simp⟩, fun y I' ⟨e1, e2⟩ => ?_⟩
          subst e1
          cases e2
          exact ⟨G, Stp.refl hG, k3, .non⟩
        · have := List.getElem?_eq_none_iff.mp ed
          exact ⟨hz, by simpa using this⟩
    · rename_i kvs
      cases fr with
      | true => exact o.elim
      | false =>
        intro F' H' v s k e fresh
        cases e with
        | fdt hF rk hq hl ht =>
        rename_i ad od ks qs
        refine ⟨ad, od, _, _, rfl, s.inH _ _ hF, rk, ?_⟩
        refine o _ _ _ s k fun G I κ3 j sb hG k3 => ?_
        have hz := hG _ _ (sb.z _ _ _ hF)
        refine ⟨fun d ed => ?_, fun ed => ?_⟩
        · rw [List.getElem?_map] at ed
          obtain ⟨kv, hkv, ew⟩ := Option.map_eq_some_iff.mp ed
          have hj : j < kvs.length := (List.getElem?_eq_some_iff.mp hkv).1
          refine ⟨⟨hz, by rw [List.length_map, hl]; exact hj⟩, fun y I' ⟨e1, e2⟩ => ?_⟩
          subst e1
          rw [List.getElem?_map] at e2
          obtain ⟨q, eq, ey⟩ := Option.map_eq_some_iff.mp e2
          obtain ⟨kv', h1, h2⟩ := hq j q eq
          rw [hkv] at h1
          cases h1
          subst ew ey
          exact ⟨G, Stp.refl hG, k3, .tup (sb.t _ _ h2) (keysRep _)⟩
        · have := List.getElem?_eq_none_iff.mp ed
          exact ⟨hz, by simpa [hl] using this⟩
end
/-! ## {k: v for .. if .. for ..} whose second source is never reached -/
theorem turnOutD (kx vx t0 i0 t1 i1 : Expr) (ifs0 ifs1 : List Expr) (scope : Scope) (pos : Pos) (it acc : Value) (env : Env) :
    compTurn (.DictComp kx vx [⟨t0, i0, ifs0, 0⟩, ⟨t1, i1, ifs1, 0⟩] scope pos) 0 it acc env = (do
      standAt i0.pos
      match ← pyNext it with
      | none => pure (.done .next)
      | some v =>
        letOwnedTupleGo t0 it v
        assign t0 env v
        let mut ok := true
        for c in ifs0 do
          if ok then ok ← isTrue c env (eval c env)
        if ok then
          let x ← eval i1 env
          standAt i1.pos
          let x ← foldedSetIterable i1 env x
          let _ ← runOwn (.compStart (.DictComp kx vx [⟨t0, i0, ifs0, 0⟩, ⟨t1, i1, ifs1, 0⟩] scope pos) 1 (← holding [x] (pyIter x)) acc env) env
        again (.compLoop (.DictComp kx vx [⟨t0, i0, ifs0, 0⟩, ⟨t1, i1, ifs1, 0⟩] scope pos) 0 it acc env)) := by rfl
section
variable {prog : Program} {w : World} {A : Around} {R : Result → Shared → Prop} {s : Shared} {kx vx t0 i0 t1 i1 : Expr} {ifs0 ifs1 : List Expr} {scope : Scope} {pos : Pos} {it acc : Value} {env : Env}
theorem compLoop0D (I : Nat → Shared → Prop)
    (turn : ∀ n s, I n s → wpAny (model prog w) A (pyNext it) (fun r s₁ => match r with
      | none => R (.ok .next) s₁
      | some v => wpAny (model prog w) A (letOwnedTupleGo t0 it v) (fun _ s₁' => wpAny (model prog w) A (assign t0 env v) (fun _ s₂ =>
          wpAny (model prog w) A (forIn ifs0 true fun c r => if r = true then do let ok ← isTrue c env (eval c env); pure (ForInStep.yield ok) else pure (ForInStep.yield r)) (fun ok s₃ => ok = false ∧ ∃ m, m < n ∧ I m s₃) (notedBy (model prog w) A env fun e s' => R (.error e) s') s₂) (notedBy (model prog w) A env fun e s' => R (.error e) s') s₁') (notedBy (model prog w) A env fun e s' => R (.error e) s') s₁) (notedBy (model prog w) A env fun e s' => R (.error e) s') s)
    (n : Nat) (h : I n s) :
    codeAny (model prog w) A (.compLoop (.DictComp kx vx [⟨t0, i0, ifs0, 0⟩, ⟨t1, i1, ifs1, 0⟩] scope pos) 0 it acc env) R s := by
  refine codeAny_loop rfl I (fun n s hI => ?_) n h
  show wpAny _ A ((compTurn (.DictComp kx vx [⟨t0, i0, ifs0, 0⟩, ⟨t1, i1, ifs1, 0⟩] scope pos) 0 it acc env).onRaise (fun x => do noteFrame x env; theTreesLotGoes x)) _ _ s
  refine wpAny_noted ?_
  rw [turnOutD]
  refine wpAny_bind (wpAny_standAt (wpAny_bind (wpAny_mono (turn n s hI) (fun r s₁ h₁ => ?_) fun _ _ h' => h')))
  cases r with
  | none => exact wpAny_pure h₁
  | some v =>
    refine wpAny_bind (wpAny_mono h₁ (fun _ s₁' h₁' => ?_) fun _ _ h' => h')
    refine wpAny_bind (wpAny_mono h₁' (fun _ s₂ h₂ => wpAny_bind (wpAny_mono h₂ (fun ok s₃ ⟨ho, h₃⟩ => ?_) fun _ _ h' => h')) fun _ _ h' => h')
    subst ho
    exact wpAny_pure ⟨rfl, h₃⟩
end
section
variable {X : Cx}
def tDc0 (wi : TI) (g : TG) (tt : TT) (vs : List Nat) : TE := fun σ H Q => wi σ H fun J H1 => ∀ D, H1 D = none → ∃ W : Nat → Nat → Hp → Prop, (∃ m, W 0 m (upd H1 D (.dK []))) ∧ ∀ i m H, W i m H →
  (J.stop i H ∧ Q (.ref D) H) ∨ (J.go i H ∧ ∃ Nx : Hp → Prop, (∀ H', Nx H' → ∃ m', m' < m ∧ W (i + 1) m' H') ∧ ∀ x H', J.yld i H x H' → g x (wipe σ vs) H' fun σ2 H2 => wipe σ2 vs = wipe σ vs ∧ tt σ2 H2 fun b H3 => b = false ∧ Nx H3)
theorem dc0_core {pins : List (Addr × Obj)} {s : Shared} {σ : L2.St} {H : Hp} {Q : VK} {kx vx tg iter tg1 iter1 : Expr} {ifs ifs1 : List Expr} {scope : Scope} {own : List (Str × Nat)} {pos pos' : Pos} {wi : TI} {g : TG} {tt : TT} {use : Option (Value → Sem Unit)} {Qf : Value → Shared → Prop}
    (hc : X.calm = true) (hN : X.N.Nodup) (I : Inv X pins σ H s) (hi : PI X tg iter wi) (ok : BlkOk X.N X.env.scope scope own)
    (hg : ∀ (s : Shared) (H : Hp) (C : Addr) (cl : List (Str × Addr)) (fp : List Addr), PG (X.blk s H scope (compEnvC scope cl C X.env) fp) tg g) (ht : ∀ (s : Shared) (H : Hp) (C : Addr) (cl : List (Str × Addr)) (fp : List Addr), PTs (X.blk s H scope (compEnvC scope cl C X.env) fp) ifs tt)
    (hs : ∀ x, foldedSetIterable iter X.env x = pure x)
    (h : tDc0 wi g tt (own.map (·.2)) σ H Q)
    (hRR : ∀ D C s' m H', Inv X pins σ H' s' → Q (.ref D) H' → s'.heap.Ns C m → FpOk X pins H' C → compPost (model X.prog X.w) X.A X.xe use Qf (.ref D) C (.ok .next) s') :
    wpAny (model X.prog X.w) X.A (comprehension (.DictComp kx vx [⟨tg, iter, ifs, 0⟩, ⟨tg1, iter1, ifs1, 0⟩] scope pos) scope X.env pos' newDict false (eval iter X.env) use) Qf X.xe s := by
  have hfree : ∀ y ∈ scope.names, y.2 = .free → ∃ c, X.env.cells.lookup y.1 = some c := fun y hy e => by
    rcases ok.free y hy e with k | k
    · exact I.ok.has _ (.inl k)
    · exact I.ok.has _ (.inr k)
  refine wpAny_comprehension_free (use := use) rfl hs (closure_ok hfree) ok.kind (fun y hy e => by rw [ok.uniq y hy, e])
    (thn (hi.run pins s σ H _ I h) fun xv s1 hx => thn hx fun itv s2 h2 => ?_)
  obtain ⟨it, fp, tn, J, H2, e, I2, T, st2, f2, q⟩ := h2
  subst e
  refine wpAny_newObj_type (newEnv_comp ?_)
  generalize hD : s2.heap.objs.size = D
  have hDn : H2 D = none := I2.hok.fresh (Nat.le_of_eq hD)
  obtain ⟨W, ⟨m0, w0⟩, turn⟩ := q D hDn
  -- the new list
  generalize hs3 : ({ s2 with heap := s2.heap.push { cls := .type "dict", data := .dict #[] } } : Shared) = s3
  have I3 : Inv X pins σ (upd H2 D (.dK [])) s3 := by
    rw [← hs3]
    refine I2.laid (t' := s2.toks) (fun b o e => Heap.get?_push_of_some _ e) (Nat.le_of_eq hD) ?_
    rw [← hD]
    exact dk_empty s2.heap I2.big
  have h3 : s3.heap = s2.heap.push { cls := .type "dict", data := .dict #[] } := by rw [← hs3]
  have sz : ∀ b ∈ fp, b < s2.heap.objs.size := fun b hb => by
    obtain ⟨o, e, _⟩ := T.obj _ _ st2 b hb
    exact Heap.lt_size e
  have f3 : ∀ b ∈ fp, FpOk X pins (upd H2 D (.dK [])) b ∧ b < s3.heap.objs.size := fun b hb => by
    have hlt := sz b hb
    refine ⟨⟨?_, (f2 b hb).2⟩, by rw [h3, Heap.size_push]; exact Nat.lt_succ_of_lt hlt⟩
    rw [upd_ne (by rw [← hD]; exact Nat.ne_of_lt hlt)]
    exact (f2 b hb).1
  have st3 : tn 0 s3.heap := T.keep _ _ _ st2 fun b _ o e => by rw [h3]; exact Heap.get?_push_of_some _ e
  have I4 := block_start I3 ok hN f3
  have pg := hg s3 (upd H2 D (.dK [])) s3.heap.objs.size (cellsFrom (s3.heap.objs.size + 1) scope.names (cloFrom X.env.cells scope.names [])) fp
  have pt := ht s3 (upd H2 D (.dK [])) s3.heap.objs.size (cellsFrom (s3.heap.objs.size + 1) scope.names (cloFrom X.env.cells scope.names [])) fp
  show codeAny _ _ (.compStart (.DictComp kx vx [⟨tg, iter, ifs, 0⟩, ⟨tg1, iter1, ifs1, 0⟩] scope pos) 0 (.ref it) (.ref D) (compEnvC scope (cellsFrom (s3.heap.objs.size + 1) scope.names (cloFrom X.env.cells scope.names [])) s3.heap.objs.size X.env)) (compPost (model X.prog X.w) X.A X.xe use Qf (.ref D) s3.heap.objs.size) { s3 with heap := pushCells (s3.heap.push { cls := .type "dict", data := .dict #[] }) scope.names }
  have nfp : ∀ b ∈ fp, (upd H2 D (.dK [])) b = none := fun b hb => (f3 b hb).1.1
  generalize hce : compEnvC scope (cellsFrom (s3.heap.objs.size + 1) scope.names (cloFrom X.env.cells scope.names [])) s3.heap.objs.size X.env = ce at I4 pg pt ⊢
  have cL : ce.locals = s3.heap.objs.size := by subst hce; rfl
  generalize hH3 : upd H2 D (.dK []) = H3 at I3 I4 pg pt w0 nfp f3
  generalize hs4 : ({ s3 with heap := pushCells (s3.heap.push { cls := .type "dict", data := .dict #[] }) scope.names } : Shared) = s4 at I4 ⊢
  have st4 : tn 0 s4.heap := T.keep _ _ _ st3 fun b _ o e => by rw [← hs4]; exact pushCells_keeps _ _ _ _ (Heap.get?_push_of_some _ e)
  have stat : ∀ {σ' : L2.St} {H' : Hp} {s' : Shared}, Inv (X.blk s3 H3 scope ce fp) [] σ' H' s' → (∀ b ∈ fp, H' b = none) → ∀ b ∈ fp, FpOk (X.blk s3 H3 scope ce fp) [] H' b := fun {σ' H' s'} I' hn b hb =>
    ⟨hn b hb, (I'.ok.exf b hb).1, I'.ok.exfs b hb, .inl hb, fun x c e => (I'.ok.exf b hb).2 x c e, fun p hp => absurd (show p ∈ ([] : List (Addr × Obj)) ++ [] from hp) (by simp)⟩
  have loop : codeAny (model X.prog X.w) X.A (.compLoop (.DictComp kx vx [⟨tg, iter, ifs, 0⟩, ⟨tg1, iter1, ifs1, 0⟩] scope pos) 0 (.ref it) (.ref D) ce) (compPost (model X.prog X.w) X.A X.xe use Qf (.ref D) s3.heap.objs.size) s4 := by
    refine compLoop0D (fun n s' => ∃ i H', Inv (X.blk s3 H3 scope ce fp) [] (wipe σ (own.map (·.2))) H' s' ∧ tn i s'.heap ∧ (∀ b ∈ fp, H' b = none) ∧ W i n H') ?_ m0 ⟨0, H3, I4, st4, nfp, w0⟩
    rintro n s5 ⟨i, H5, I5, st5, n5, w5⟩
    rcases turn i n H5 w5 with ⟨stop, qq⟩ | ⟨go, Nx, hNx, step⟩
    · have td := T.done (X.blk s3 H3 scope ce fp) rfl rfl rfl hc i [] s5 _ H5 (fun _ _ => False) I5 (stat I5 n5) st5 stop
      refine thnF td fun r s6 ⟨hr, I6⟩ => ?_
      subst hr
      -- back in the def's context
      have I7 : Inv X pins σ H5 s6 := I3.call' (ch := fp) I6.os I6.base I6.hok I6.bare fun b hb => ⟨(f3 b hb).1.2.2.2.1, (f3 b hb).1.2.1, (f3 b hb).1.2.2.2.2.1, (f3 b hb).1.2.2.2.2.2⟩
      have nC : H5 s3.heap.objs.size = none := by
        have z : H5 ce.locals = none := I6.free
        rw [cL] at z
        exact z
      obtain ⟨m, hn, _⟩ := I6.loc
      have hn : s6.heap.Ns ce.locals m := hn
      rw [cL] at hn
      exact hRR D s3.heap.objs.size s6 m H5 I7 qq hn (I3.fpOk (Nat.le_refl _) nC)
    · have ti := T.item (X.blk s3 H3 scope ce fp) rfl rfl rfl hc i [] s5 _ H5 (fun _ _ => False) I5 (stat I5 n5) st5 go
      refine thnF ti fun r s6 ⟨u, hr, h6⟩ => ?_
      subst hr
      refine thnF h6 fun _ s7 ⟨x, H7, I7, r7, y7, st7, n7⟩ => ?_
      have I7' := I7.pinned (stat I7 n7) (T.obj _ _ st7)
      refine thnF (pg.run _ s7 _ H7 x u _ I7' r7 (step x H7 y7)) fun _ s8 ⟨σ8, H8, I8, hw8, q8⟩ => ?_
      refine thnF (pt.run _ s8 σ8 H8 _ I8 q8) fun b s9 ⟨H9, I9, q9⟩ => ?_
      -- the turn's end
      have fin : ∀ {s' : Shared} {H' : Hp}, Inv (X.blk s3 H3 scope ce fp) ([] ++ pinsAt fp s7.heap) σ8 H' s' → Nx H' → ∃ m, m < n ∧ ∃ i H', Inv (X.blk s3 H3 scope ce fp) [] (wipe σ (own.map (·.2))) H' s' ∧ tn i s'.heap ∧ (∀ b ∈ fp, H' b = none) ∧ W i m H' := fun {s' H'} I' nx => by
        obtain ⟨m', hm, w'⟩ := hNx H' nx
        have pin' : ∀ b ∈ fp, ∀ o, s7.heap.get? b = some o → s'.heap.get? b = some o ∧ H' b = none := fun b hb o e =>
          let z := I'.pin (b, o) (List.mem_append_right _ (List.mem_append_right _ (mem_pinsAt hb e)))
          ⟨z.1, z.2.1⟩
        have hl : (wipe σ (own.map (·.2))).length = σ8.length := by rw [← hw8, wipe_length]
        refine ⟨m', hm, i + 1, H', (I'.unpinned (pins := [])).weak hl (fun j v e => ?_), T.keep _ _ _ st7 fun b hb o e => (pin' b hb o e).1, fun b hb => ?_, w'⟩
        · rw [← hw8] at e
          exact (wipe_some e).1
        · obtain ⟨o, e, _⟩ := T.obj _ _ st7 b hb
          exact (pin' b hb o e).2
      obtain ⟨hb, q9⟩ := q9
      subst hb
      exact ⟨rfl, fin I9 q9⟩
  exact codeAny_compStart_dict loop (T.self X.A 0 _ _ _ st4 loop)
theorem pe_dc0 {kx vx tg iter tg1 iter1 : Expr} {ifs ifs1 : List Expr} {scope : Scope} {own : List (Str × Nat)} {pos : Pos} {wi : TI} {g : TG} {tt : TT} (hc : X.calm = true) (hN : X.N.Nodup) (hi : PI X tg iter wi) (ok : BlkOk X.N X.env.scope scope own)
    (hg : ∀ (s : Shared) (H : Hp) (C : Addr) (cl : List (Str × Addr)) (fp : List Addr), PG (X.blk s H scope (compEnvC scope cl C X.env) fp) tg g) (ht : ∀ (s : Shared) (H : Hp) (C : Addr) (cl : List (Str × Addr)) (fp : List Addr), PTs (X.blk s H scope (compEnvC scope cl C X.env) fp) ifs tt)
    (hs : ∀ x, foldedSetIterable iter X.env x = pure x) :
    PE X (.DictComp kx vx [⟨tg, iter, ifs, 0⟩, ⟨tg1, iter1, ifs1, 0⟩] scope pos) (tDc0 wi g tt (own.map (·.2))) := by
  refine ⟨fun pins s σ H Q I h => ?_⟩
  rw [arm_eval_DictComp]
  refine dc0_core hc hN I hi ok hg ht hs h fun D C s' m H' I' q hn f => ⟨m, hn, fun h'' sb => ?_⟩
  obtain ⟨f0, f1, f2, f3, f4, f5⟩ := f
  exact ⟨.ref D, H', I'.turned (t' := s'.toks) (fun b o hb e => (sb.2 b hb).trans e) f0 f1 f3 f4 f5, rfl, q⟩
theorem ps_setDc0 {i : Nat} {y : Str} {py : Pos} {kx vx tg iter tg1 iter1 : Expr} {ifs ifs1 : List Expr} {scope : Scope} {own : List (Str × Nat)} {pos spos : Pos} {wi : TI} {g : TG} {tt : TT} (hc : X.calm = true) (hN : X.N.Nodup) (hy : X.N[i]? = some y) (hyl : X.env.scope.names.lookup y = some .local)
    (hsw : swapsWith (.DictComp kx vx [⟨tg, iter, ifs, 0⟩, ⟨tg1, iter1, ifs1, 0⟩] scope pos) (some (.Name y py)) spos.line X.env = pure true) (hi : PI X tg iter wi) (ok : BlkOk X.N X.env.scope scope own)
    (hg : ∀ (s : Shared) (H : Hp) (C : Addr) (cl : List (Str × Addr)) (fp : List Addr), PG (X.blk s H scope (compEnvC scope cl C X.env) fp) tg g) (ht : ∀ (s : Shared) (H : Hp) (C : Addr) (cl : List (Str × Addr)) (fp : List Addr), PTs (X.blk s H scope (compEnvC scope cl C X.env) fp) ifs tt)
    (hs : ∀ x, foldedSetIterable iter X.env x = pure x) :
    PS X (.Assign [.Name y py] (.DictComp kx vx [⟨tg, iter, ifs, 0⟩, ⟨tg1, iter1, ifs1, 0⟩] scope pos) spos) (tAsg (tDc0 wi g tt (own.map (·.2))) (gName i)) := by
  refine ⟨fun pins s σ H D I h => ?_⟩
  rw [exec_Assign_Name_used _ _ _ _ hsw]
  refine wpAny_bind (wpAny_standAt (wpAny_bind ?_))
  show wpAny _ X.A (do let _ ← comprehension (.DictComp kx vx [⟨tg, iter, ifs, 0⟩, ⟨tg1, iter1, ifs1, 0⟩] scope pos) scope X.env (firstIterPos [⟨tg, iter, ifs, 0⟩, ⟨tg1, iter1, ifs1, 0⟩] pos) newDict false (eval iter X.env) (some (assign (.Name y py) X.env))) _ _ s
  have h : tDc0 wi g tt (own.map (·.2)) σ H (fun x H1 => gName i x σ H1 D.nx) := h
  refine wpAny_bind (thn (dc0_core (Qf := fun _ s' => SP X pins D .next s') hc hN I hi ok hg ht hs h fun L C s' m H' I' q hn f => ?_) fun _ s' hq => wpAny_pure (wpAny_pure hq))
  show wpAny _ _ (assign (.Name y py) X.env (.ref L)) _ _ _
  refine wpAny_assign_Name (store_ok2 (v := V.ref L) I' hN hy (.inl hyl) rfl (fun s2 I2 ⟨a, sb, ha⟩ => ?_) (.inr hyl))
  obtain ⟨f0, f1, f2, f3, f4, f5⟩ := f
  have haC : C ≠ a := by
    rcases ha with z | z
    · rw [z]; exact f1
    · exact fun e => f4 y a z e.symm
  refine ⟨m, hn.sameBut sb haC, fun h3 sb3 => ?_⟩
  exact ⟨_, H', I2.turned (t' := s2.toks) (fun b o hb e => (sb3.2 b hb).trans e) f0 f1 f3 f4 f5, q⟩
end
/-- no item passes the test -/
def dc0Run (tg : Tg) (t : SmE) : List D → Rho → Kp → Option Kp
  | [], _, κ => some κ
  | d :: ds, ρ, κ => match tg d ρ with
    | none => none
    | some ρ1 => match t ρ1 κ with
      | .ok b _ κ => match truth b with
        | some false => dc0Run tg t ds ρ κ
        | _ => none
      | _ => none
def cDc0 (it : SmL) (tg : Tg) (t : SmE) (vs : List Nat) : SmE := fun ρ κ => match it ρ κ with
  | .ok ds κ => (match dc0Run tg t ds (wipeR ρ vs) κ with
    | some κ => .ok (.dk []) true κ
    | none => .bad)
  | .exc k d κ => .exc k d κ
  | .bad => .bad
section
variable {X : Cx} {fa : Nat → Option Addr} {cl : Nat → ClsI} {W : WX} {K : PySem.W.Frag} {c : Option Addr} {F0 H0 F H : Hp} {ρ : Rho} {κ : Kp} {σ : L2.St} {Q : VK}
theorem tE_dc0 {it : SmL} {tg : Tg} {t : SmE} {ts vs : List Nat} {σ : L2.St} {H : Hp} {Q : VK} (hs : ∀ j ∈ ts, j ∈ vs) (h : tE X fa cl W (cDc0 it tg t vs) σ H Q) :
    tDc0 (tI X fa cl W it) (tG X fa ts tg) (tT X fa cl WF t) vs σ H Q := by
  obtain ⟨c, F0, H0, F, ρ, κ, r, o⟩ := h
  refine ⟨c, F0, H0, F, ρ, κ, r, ?_⟩
  unfold cDc0 at o
  cases ei : it ρ κ with
  | exc k d κ => rw [ei] at o; exact o
  | bad => rw [ei] at o; exact o
  | ok ds κ1 =>
    rw [ei] at o
    dsimp only at o
    cases er : dc0Run tg t ds (wipeR ρ vs) κ1 with
    | none => rw [er] at o; exact o.elim
    | some κf =>
      rw [er] at o
      dsimp only at o
      intro F1 H1 J s1 k1 Y D hD
      have cD : c ≠ some D := fun q => by
        obtain ⟨_, h2⟩ := k1.2 D q
        rw [hD] at h2; cases h2
      have F1D : F1 D = none := by
        cases q : F1 D with
        | none => rfl
        | some u => rw [s1.inH _ _ q] at hD; cases hD
      refine ⟨fun i m Hc => m + i = ds.length ∧ ∃ Fc κc, Stp X.K c F1 H1 Fc Hc ∧ Kap c κc Fc Hc ∧ Fc D = none ∧ Hc D = some (.dK []) ∧ dc0Run tg t (ds.drop i) (wipeR ρ vs) κc = some κf,
        ⟨ds.length, by omega, F1, κ1, Stp.laid0 s1.inH hD, k1.laid0 hD, F1D, upd_same, er⟩, ?_⟩
      rintro i m Hc ⟨hm, Fc, κc, sc, kc, FcD, HcD, run⟩
      obtain ⟨Y1, Y2⟩ := Y Fc Hc κc i sc.sub sc.inH kc
      cases ed : ds[i]? with
      | none =>
        refine .inl ⟨Y2 ed, ?_⟩
        have hlen := List.getElem?_eq_none_iff.mp ed
        rw [List.drop_eq_nil_of_le hlen] at run
        cases run
        refine o Fc Hc (.ref D) (s1.trans sc) kc ⟨D, rfl, ⟨FcD, cD, [], HcD, .nil⟩⟩ fun _ a ea => ?_
        cases ea
        cases q : H D with
        | none => rfl
        | some u =>
          obtain ⟨u', e'⟩ := s1.dom D u q
          rw [hD] at e'; cases e'
      | some d =>
        obtain ⟨go, yld⟩ := Y1 d ed
        have hi : i < ds.length := (List.getElem?_eq_some_iff.mp ed).1
        have edrop : ds.drop i = d :: ds.drop (i + 1) := by
          rw [List.drop_eq_getElem_cons hi]
          congr 1
          rw [List.getElem?_eq_getElem hi] at ed
          exact Option.some.inj ed
        rw [edrop] at run
        unfold dc0Run at run
        refine .inr ⟨go, _, fun H' n => ⟨m - 1, by omega, n⟩, fun x H' yx => ?_⟩
        obtain ⟨F2, s2, k2, rx⟩ := yld x H' yx
        have s2' := sc.trans s2
        have H'D : H' D = some (.dK []) := s2.keep D _ HcD cD trivial
        have F2D : F2 D = none := by
          cases q : F2 D with
          | none => rfl
          | some u =>
            rcases s2.new D u q with z | z
            · exact absurd FcD z
            · rw [HcD] at z; cases z
        cases etg : tg d (wipeR ρ vs) with
        | none => rw [etg] at run; cases run
        | some ρ1 =>
          rw [etg] at run
          dsimp only at run
          have rel2 : RelS X.K fa c F0 H0 F2 (wipeR ρ vs) κc (L2.wipe σ vs) H' := r.wipe.step (s1.trans s2') k2
          refine ⟨c, F0, H0, F2, wipeR ρ vs, κc, d, ρ1, rel2, rx, etg, fun σ2 r2 sb => ⟨wipe_same sb hs, c, F0, H0, F2, ρ1, κc, r2, ?_⟩⟩
          cases et : t ρ1 κc with
          | exc k d κ => rw [et] at run; cases run
          | bad => rw [et] at run; cases run
          | ok b _ κ2 =>
            rw [et] at run
            dsimp only at run
            cases eb : truth b with
            | none => rw [eb] at run; cases run
            | some bb =>
              rw [eb] at run
              cases bb with
              | true => cases run
              | false =>
              refine ⟨false, eb, fun F3 H3 s3 k3 => ⟨rfl, ?_⟩⟩
              have s3' := s2'.trans s3
              have H3D : H3 D = some (.dK []) := s3.keep D _ H'D cD trivial
              have F3D : F3 D = none := by
                cases q : F3 D with
                | none => rfl
                | some u =>
                  rcases s3.new D u q with z | z
                  · exact absurd F2D z
                  · rw [H'D] at z; cases z
              exact ⟨by omega, F3, κ2, s3', k3, F3D, H3D, run⟩
end
/-! ## an own text -/
inductive Fl where
  | non | bl (b : Bool) | int (i : Int) | str (s : Str)
  deriving DecidableEq
def Fl.d : Fl → D
  | .non => .non | .bl b => .bl b | .int i => .int i | .str s => .str s
def Fl.v : Fl → V
  | .non => .non | .bl b => .bl b | .int i => .int i | .str s => .str s
/-- a constant; ct: a tuple of flat ones, of the module's own -/
inductive Lit where
  | non | bl (b : Bool) | int (i : Int) | str (s : Str) | ct (ls : List Fl)
  deriving DecidableEq
def Lit.flat : Lit → Bool
  | .ct _ => false
  | _ => true
def LitOk (K : PySem.W.Frag) (l : Lit) (u : Value) : Prop := match l with
  | .ct ls => ∃ p, u = .ref p ∧ ∀ H, SqT K H p (ls.map Fl.v)
  | l => RelV (match l with | .non => V.non | .bl b => .bl b | .int i => .int i | .str s => .str s | .ct _ => .non) u
def Lit.d : Lit → D
  | .non => .non | .bl b => .bl b | .int i => .int i | .str s => .str s | .ct _ => .non
def Lit.v : Lit → V
  | .non => .non | .bl b => .bl b | .int i => .int i | .str s => .str s | .ct _ => .non
/-! ### the kind of a thing is looked at as it comes -/
def isDict : D → Bool
  | .dk _ => true
  | .dt _ => true
  | .fdk _ => true
  | .fdt _ => true
  | _ => false
def cIxA (a b : SmE) : SmE := fun ρ κ => (a ρ κ).bind fun x κ => (b ρ κ).bind fun y κ => lift (if isDict x then fDix x y else fIxK κ x y) κ
def fInA (x y : D) : O1 := if isDict y then fDin x y else fIn x y
def fNiA (x y : D) : O1 := if isDict y then fDni x y else fNi x y
def cItA (a : SmE) : SmL := fun ρ κ => match a ρ κ with
  | .ok (.tup xs) _ κ => .ok xs κ
  | .ok (.lst xs) _ κ => .ok xs κ
  | .ok (.dk kvs) true κ => .ok (kvs.map fun kv => keyD kv.1) κ
  | .ok (.fdk kvs) false κ => .ok (kvs.map fun kv => keyD kv.1) κ
  | .ok .nd false κ => .ok [.non] κ
  | .ok (.fdt kvs) false κ => .ok (kvs.map fun kv => .tup (kv.1.map keyD)) κ
  | .ok _ _ _ => .bad
  | .exc k d κ => .exc k d κ
  | .bad => .bad
def cSub (i : Nat) (j e : SmE) : SmS := fun ρ κ => match ρ[i]? with
  | some (.own (.lst _)) => cSubL i j e ρ κ
  | some (.val .cro) => cSubC i j e ρ κ
  | _ => cSubD i j e ρ κ
/-- list(range(..)), tuple(range(..)) -/
def R.intB (r : R) (g : Int → Kp → R) : R := match r with
  | .ok (.int i) _ κ => g i κ
  | .ok _ _ _ => .bad
  | .exc k d κ => .exc k d κ
  | .bad => .bad
def rgNm (t : Bool) : Str := if t then "tuple" else "list"
def rgD (a b : Int) : List D := (List.range (b - a).toNat).map fun (i : Nat) => D.int (a + (i : Int))
def rgMk (tup : Bool) (a b : Int) (κ : Kp) : R := if decide (0 ≤ a) && decide (a ≤ 1000000) && decide (0 ≤ b) && decide (b ≤ 1000000) then (if tup then .ok (.tup (rgD a b)) false κ else .ok (.lst (rgD a b)) true κ) else .bad
def cRg1 (tup : Bool) (e : SmE) : SmE := fun ρ κ => (e ρ κ).intB fun b κ => rgMk tup 0 b κ
def cRg2 (tup : Bool) (d e : SmE) : SmE := fun ρ κ => (d ρ κ).intB fun a κ => (e ρ κ).intB fun b κ => rgMk tup a b κ
inductive Bop where
  | add | sub | mul | div | mod | pow | shl | shr | ban | bor | bxr
  deriving DecidableEq
def Bop.f : Bop → D → D → O1
  | .add => fAdd | .sub => fSub | .mul => fMul | .div => fDiv | .mod => fMod | .pow => fPow | .shl => fShl | .shr => fShr | .ban => fBan | .bor => fBor | .bxr => fBxr
def Bop.op : Bop → Operator
  | .add => .Add | .sub => .Sub | .mul => .Mult | .div => .FloorDiv | .mod => .Mod | .pow => .Pow | .shl => .LShift | .shr => .RShift | .ban => .BitAnd | .bor => .BitOr | .bxr => .BitXor
inductive Cop where
  | eq | ne | lt | le | gt | ge | isN | notN | isB | notB | eqd
  deriving DecidableEq
def fIsN : D → D → O1
  | .non, .non => some (.bl true, false)
  | _, .non => some (.bl false, false)
  | _, _ => none
def fNotN : D → D → O1
  | .non, .non => some (.bl false, false)
  | _, .non => some (.bl true, false)
  | _, _ => none
def fIsB : D → D → O1
  | .bl a, .bl b => some (.bl (decide (a = b)), false)
  | _, _ => none
def fNotB : D → D → O1
  | .bl a, .bl b => some (.bl (!decide (a = b)), false)
  | _, _ => none
def fEqA (x y : D) : O1 := match x, y with
  | .dk xs, .dk ys => if flK xs && flK ys then some (.bl (eqvK xs ys), false) else none
  | .tup xs, .tup [] => some (.bl xs.isEmpty, false)
  | .lst xs, .lst [] => some (.bl xs.isEmpty, false)
  | a, b => fEq a b
def fNeA (x y : D) : O1 := match x, y with
  | .dk xs, .dk ys => if flK xs && flK ys then some (.bl (!eqvK xs ys), false) else none
  | .lst xs, .lst [] => some (.bl (!xs.isEmpty), false)
  | a, b => fNe a b
def Cop.f : Cop → D → D → O1
  | .eq => fEqA | .ne => fNeA | .lt => fLt | .le => fLe | .gt => fGt | .ge => fGe | .isN => fIsN | .notN => fNotN | .isB => fIsB | .notB => fNotB | .eqd => fEqL
def Cop.op : Cop → CmpOp
  | .eq => .Eq | .ne => .NotEq | .lt => .Lt | .le => .LtE | .gt => .Gt | .ge => .GtE | .isN => .Is | .notN => .IsNot | .isB => .Is | .notB => .IsNot | .eqd => .Eq
inductive Aop where
  | add | mul | div
  deriving DecidableEq
def Aop.f : Aop → D → D → O1
  | .add => fIAdd | .mul => fIMul | .div => fIDiv
def Aop.op : Aop → Operator
  | .add => .Add | .mul => .Mult | .div => .FloorDiv
def isLstD : D → Bool
  | .lst _ => true
  | _ => false
def fIdx (x y : D) : O1 := match x with
  | .lst ys => if y.shp 50 && shpL ys 50 then (ys.findIdx? fun z => z.eqv y).map fun j => (.int (j : Nat), false) else none
  | _ => none
def fGet (x y : D) : O1 := (dLook x y).map fun o => (o.getD .non, false)
def cMt (p : D → Bool) (f : D → D → O1) (a b : SmE) : SmE := fun ρ κ => (a ρ κ).bind fun x κ => if p x then (b ρ κ).bind fun y κ => lift (f x y) κ else .bad
def cGet2 (a b e : SmE) : SmE := fun ρ κ => (a ρ κ).bind fun x κ => if isDict x then (b ρ κ).bind fun y κ => (e ρ κ).bind fun z κ => lift ((dLook x y).map fun o => (o.getD z, false)) κ else .bad
inductive Mth where
  | idx | get
  deriving DecidableEq
def Mth.p : Mth → D → Bool
  | .idx => isLstD | .get => isDict
def Mth.f : Mth → D → D → O1
  | .idx => fIdx | .get => fGet
def Mth.nm : Mth → String
  | .idx => "index" | .get => "get"
inductive Bi where
  | len | int | abs | max | min | tup | lst | all | any | sum | isi | repr | srt | rep
  deriving DecidableEq
def Bi.g : Bi → List D → O1
  | .len => gLen | .int => gInt | .abs => gAbs | .max => gMax | .min => gMin | .tup => gTup | .lst => gLst | .all => gAll | .any => gAny | .sum => gSum | .isi => gIsi | .repr => gRepr | .srt => gSorted | .rep => gRep
def Bi.nm : Bi → String
  | .len => "len" | .int => "int" | .abs => "abs" | .max => "max" | .min => "min" | .tup => "tuple" | .lst => "list" | .all => "all" | .any => "any" | .sum => "sum" | .isi => "isinstance" | .repr => "repr" | .srt => "sorted" | .rep => "repr"
mutual
inductive Tt where
  | nm (i : Nat)
  | tp (ts : Tts)
inductive Tts where
  | nil
  | cons (t : Tt) (ts : Tts)
end
mutual
def evT : Tt → Tg
  | .nm i => tgName i
  | .tp ts => tgTup ts.len (evTs ts)
def evTs : Tts → Tgs
  | .nil => tgNil
  | .cons t ts => tgCons (evT t) (evTs ts)
def Tts.len : Tts → Nat
  | .nil => 0
  | .cons _ ts => ts.len + 1
end
mutual
def Tt.slots : Tt → List Nat
  | .nm i => [i]
  | .tp ts => ts.slots
def Tts.slots : Tts → List Nat
  | .nil => []
  | .cons t ts => t.slots ++ ts.slots
end
mutual
inductive E where
  | lit (l : Lit)
  | var (i : Nat)
  | glo (l : Lit)
  | ty (t : Ty)
  | fnv (i : Nat)
  | bin (o : Bop) (a b : E)
  | neg (a : E)
  | nt (a : E)
  | cmp (o : Cop) (a b : E)
  | chain (o p : Cop) (a b c : E)
  | inA (a b : E)
  | inK (a : E) (ls : List Fl)
  | niA (a b : E)
  | and (a b : E)
  | or (a b : E)
  | one (a : E)
  | ite (t a b : E)
  | call (f : Nat) (es : Es)
  | bi (b : Bi) (es : Es)
  | tup (es : Es)
  | lst (es : Es)
  | ix (a b : E)
  | sl (a : E) (lo hi : Eo)
  | lc (it : It) (tg : Tt) (t : Eo) (e : E) (own : List (Str × Nat))
  | rev (a : E)
  | new
  | rg1 (tup : Bool) (a : E)
  | rg2 (tup : Bool) (a b : E)
  | lend (i : Nat) (e : E)
  | mt (m : Mth) (a b : E)
  | get2 (a b e : E)
  | dc (it : It) (tg : Tt) (t : Eo) (k v : E) (own : List (Str × Nat))
  | dd1 (a b : E)
  | ddn (p : Ps)
  | lk (i : Nat) (e : E)
  | callv (off j : Nat) (es : Es)
  | met (M : MetD) (e : E)
  | lc2 (it : It) (tg : Tt) (t : Eo) (it1 : It) (tg1 : Tt) (t1 : Eo) (e : E) (own : List (Str × Nat)) (vs1 : List Nat)
  | ndd (e : E)
  | tups (p : Sps)
  | lsts (p : Sps)
  | calls (f : Nat) (p : Sps)
  | ddt (a b : E)
  | dc0 (it : It) (tg : Tt) (t : Eo) (own : List (Str × Nat))
inductive Sps where
  | nil
  | cons (a : E) (b : Sps)
  | star (a : E) (b : Sps)
inductive Ps where
  | nil
  | cons (a b : E) (r : Ps)
inductive Es where
  | nil
  | cons (a : E) (b : Es)
inductive Eo where
  | no
  | so (e : E)
inductive It where
  | seq (a : E)
  | rng (es : Es)
  | rg3 (es : Es)
  | zip (es : Es)
  | enm (es : Es)
end
abbrev Gam := Nat → List D → Kp → R
def evYes : Option SmE → SmE
  | none => cYes
  | some m => m
mutual
def evE (Γ : Gam) : E → SmE
  | .lit l => cVal l.d
  | .var i => cVar i
  | .glo l => cVal l.d
  | .ty t => cVal (.ty t)
  | .fnv i => cVal (.fn i)
  | .bin o a b => cBin o.f (evE Γ a) (evE Γ b)
  | .neg a => cUn fNeg (evE Γ a)
  | .nt a => cNot (evE Γ a)
  | .cmp o a b => cBin o.f (evE Γ a) (evE Γ b)
  | .chain o p a b c => cChain o.f p.f (evE Γ a) (evE Γ b) (evE Γ c)
  | .inA a b => cBin fInA (evE Γ a) (evE Γ b)
  | .inK a ls => cUn (fun x => fIn x (.tup (ls.map Fl.d))) (evE Γ a)
  | .niA a b => cBin fNiA (evE Γ a) (evE Γ b)
  | .and a b => cAnd (evE Γ a) (evE Γ b)
  | .or a b => cOr (evE Γ a) (evE Γ b)
  | .one a => evE Γ a
  | .ite t a b => cIte (evE Γ t) (evE Γ a) (evE Γ b)
  | .call f es => cAp (Γ f) (evEs Γ es)
  | .bi b es => cBi b.g (evEs Γ es)
  | .tup es => cTup (evEs Γ es)
  | .lst es => cLst (evEs Γ es)
  | .ix a b => cIxA (evE Γ a) (evE Γ b)
  | .sl a lo hi => cSl (evE Γ a) (evO Γ lo) (evO Γ hi)
  | .lc it tg t e own => cLc (evI Γ it) (evT tg) (evYes (evO Γ t)) (evE Γ e) (own.map (·.2))
  | .rev a => cUn fRev (evE Γ a)
  | .new => cNew
  | .rg1 t a => cRg1 t (evE Γ a)
  | .rg2 t a b => cRg2 t (evE Γ a) (evE Γ b)
  | .lend i e => cLend i (evE Γ e)
  | .mt m a b => cMt m.p m.f (evE Γ a) (evE Γ b)
  | .get2 a b e => cGet2 (evE Γ a) (evE Γ b) (evE Γ e)
  | .dc it tg t k v own => cDc (evI Γ it) (evT tg) (evYes (evO Γ t)) (evE Γ k) (evE Γ v) (own.map (·.2))
  | .dd1 a b => cDd1 (evE Γ a) (evE Γ b)
  | .ddn p => cDdn (evP Γ p)
  | .lk i e => cLk i (evE Γ e)
  | .callv off j es => cCallV (fun i => Γ (off + i)) j (evEs Γ es)
  | .met M e => metSem M (evE Γ e)
  | .lc2 it tg t it1 tg1 t1 e own vs1 => cLc2 (evI Γ it) (evT tg) (evYes (evO Γ t)) (evI Γ it1) (evT tg1) (evYes (evO Γ t1)) (evE Γ e) (own.map (·.2)) vs1
  | .ndd e => cNdd (evE Γ e)
  | .tups p => cTups (evSp Γ p)
  | .lsts p => cLsts (evSp Γ p)
  | .calls f p => cAp (Γ f) (evSp Γ p)
  | .ddt a b => cDdt (evE Γ a) (evE Γ b)
  | .dc0 it tg t own => cDc0 (evI Γ it) (evT tg) (evYes (evO Γ t)) (own.map (·.2))
def evSp (Γ : Gam) : Sps → SmL
  | .nil => cNil
  | .cons a b => cCons (evE Γ a) (evSp Γ b)
  | .star a b => cStar (evE Γ a) (evSp Γ b)
def evP (Γ : Gam) : Ps → List (SmE × SmE)
  | .nil => []
  | .cons a b r => (evE Γ a, evE Γ b) :: evP Γ r
def evEs (Γ : Gam) : Es → SmL
  | .nil => cNil
  | .cons a b => cCons (evE Γ a) (evEs Γ b)
def evO (Γ : Gam) : Eo → Option SmE
  | .no => none
  | .so e => some (evE Γ e)
def evI (Γ : Gam) : It → SmL
  | .seq a => cItA (evE Γ a)
  | .rng es => cRng (evEs Γ es)
  | .rg3 es => cRg3 (evEs Γ es)
  | .zip es => cZip (evEs Γ es)
  | .enm es => cEnm (evEs Γ es)
end
def Es.len : Es → Nat
  | .nil => 0
  | .cons _ b => b.len + 1
theorem evEs_len {Γ : Gam} : ∀ {es : Es} {ρ : Rho} {κ κ' : Kp} {ds : List D}, evEs Γ es ρ κ = .ok ds κ' → ds.length = es.len
  | .nil, _, _, _, _, h => by unfold evEs cNil at h; cases h; rfl
  | .cons a b, ρ, κ, κ', ds, h => by
    unfold evEs cCons at h
    cases ea : evE Γ a ρ κ with
    | ok d fr κ1 =>
      simp only [ea] at h
      cases eb : evEs Γ b ρ κ1 with
      | ok es κ2 =>
        simp only [eb] at h
        cases h
        rw [List.length_cons, evEs_len eb]; rfl
      | exc k d κ => simp only [eb] at h; cases h
      | bad => simp only [eb] at h; cases h
    | exc k d κ => simp only [ea] at h; cases h
    | bad => simp only [ea] at h; cases h
inductive S where
  | set (i : Nat) (own : Bool) (e : E)
  | unp (tg : Tt) (e : E)
  | par2 (i : Nat) (oi : Bool) (a : E) (j : Nat) (oj : Bool) (b : E)
  | par3 (i : Nat) (oi : Bool) (a : E) (j : Nat) (oj : Bool) (b : E) (l : Nat) (ol : Bool) (e : E)
  | exp (e : E)
  | ret (e : E)
  | retN
  | retO (i : Nat)
  | app (i : Nat) (e : E)
  | ext (i : Nat) (e : E)
  | sub (i : Nat) (j e : E)
  | aug (i : Nat) (o : Aop) (e : E)
  | pass
  | brk
  | cnt
  | bad
  | frz (i : Nat)
  | ite (t : E) (a b : List S)
  | for_ (it : It) (tg : Tt) (b : List S)
  | whl (n : Nat) (t : E) (b : List S)
  | lendC (i : Nat) (s : S)
  | popu (i : Nat) (tg : Tt)
  | popx (i : Nat)
  | raise (k : Nat)
  | raise1 (k : Nat) (e : E)
mutual
def evS (Γ : Gam) : S → SmS
  | .set i own e => cSet i own (evE Γ e)
  | .unp tg e => cUnp (evT tg) (evE Γ e)
  | .par2 i oi a j oj b => cPar2 i oi (evE Γ a) j oj (evE Γ b)
  | .par3 i oi a j oj b l ol e => cPar3 i oi (evE Γ a) j oj (evE Γ b) l ol (evE Γ e)
  | .exp e => cExp (evE Γ e)
  | .ret e => cRet (evE Γ e)
  | .retN => cRetN
  | .retO i => cRetO i
  | .app i e => cApp i (evE Γ e)
  | .ext i e => cExt i (evE Γ e)
  | .sub i j e => cSub i (evE Γ j) (evE Γ e)
  | .aug i o e => cAug i o.f (evE Γ e)
  | .pass => cNext
  | .brk => cBrk
  | .cnt => cCont
  | .bad => fun _ _ => .bad
  | .frz i => cFrz i
  | .ite t a b => cIf (evE Γ t) (evB Γ a) (evB Γ b)
  | .for_ it tg b => cFor (evI Γ it) (evT tg) (evB Γ b)
  | .whl n t b => cWhile n (evE Γ t) (evB Γ b)
  | .lendC i s => cLendC i (evS Γ s)
  | .popu i tg => cPopU i (evT tg)
  | .popx i => cPopX i
  | .raise k => cRaise k
  | .raise1 k e => cRaise1 k (evE Γ e)
def evB (Γ : Gam) : List S → SmS
  | [] => cNext
  | s :: r => cSeq (evS Γ s) (evB Γ r)
end
/-! ## does a text say what the own text says -/
structure MC where
  sc : Scope
  N : List Str
  fnc : Str → Bool
  fns : List Str
  con : List (Str × Lit)
  off : Nat
  cls : List (Str × Option Str)
  mets : List MetD
  lam : Bool
def notStar : Expr → Bool
  | .Starred .. => false
  | _ => true
def notComp : Expr → Bool
  | .ListComp .. => false
  | .SetComp .. => false
  | .DictComp .. => false
  | _ => true
def notSet : Expr → Bool
  | .Set .. => false
  | _ => true
def notSlice : Expr → Bool
  | .Slice .. => false
  | _ => true
def plainT : Expr → Bool
  | .Call .. => true
  | .Subscript .. => true
  | .BinOp .. => true
  | .ListComp .. => true
  | .Tuple .. => true
  | .List .. => true
  | .Name .. => true
  | _ => false
def okN (x : Str) : Bool := !(x == ("__debug__" : Str)) && !(x == ("__classdict__" : Str)) && !decide (x = ("__name__" : Str))
def visC (sc : Scope) (x : Str) : Bool := match sc.names.lookup x with
  | some .local => true
  | some .cell => true
  | some .free => true
  | _ => false
def locC (sc : Scope) (x : Str) : Bool := match sc.names.lookup x with
  | some .local => true
  | some .cell => true
  | _ => false
def isLoc (sc : Scope) (x : Str) : Bool := match sc.names.lookup x with
  | some .local => true
  | _ => false
def glC (sc : Scope) (x : Str) : Bool := match sc.names.lookup x with
  | some .globalImplicit => true
  | _ => false
def atC (C : MC) (i : Nat) (x : Str) : Bool := match C.N[i]? with
  | some n => decide (n = x) && okN x
  | none => false
def mLit : Lit → Const → Bool
  | .non, .none => true
  | .bl a, .bool b => a == b
  | .int a, .int b => decide (a = b)
  | .str a, .str b => decide (a = b)
  | _, _ => false
def mLook (x : Str) (l : Lit) : List (Str × Lit) → Bool
  | [] => false
  | (n, k) :: r => if n = x then decide (k = l) else mLook x l r
def mBi (b : Bi) (x : Str) : Bool := decide (x = Str.ofString b.nm)
def setFn (C : MC) (x : Str) : Bool := isLoc C.sc x || (locC C.sc x && C.fnc x)
def noBool : Expr → Bool
  | .BoolOp .. => false
  | _ => true
def rcvE : Expr → Bool
  | .Name .. => true
  | .Subscript .. => true
  | .Call _ (_ :: _) _ _ => true
  | _ => false
mutual
def mT (C : MC) : Tt → Expr → Bool
  | .nm i, x => (match x with | .Name n _ => atC C i n && locC C.sc n && setFn C n | _ => false)
  | .tp ts, x => (match x with | .Tuple es _ _ => mTs C ts es | _ => false)
def mTs (C : MC) : Tts → List Expr → Bool
  | .nil, [] => true
  | .cons t ts, x :: xs => notStar x && mT C t x && mTs C ts xs
  | _, _ => false
end
/-- the context in a comprehension's block -/
def MC.blk (C : MC) (scope : Scope) : MC := { C with sc := relS scope C.sc, fnc := fun x => scope.names.lookup x == some .cell, lam := false }
def MC.inLam (C : MC) (scope : Scope) : MC := { C with sc := scope, fnc := fun _ => false, off := C.off + 2000, lam := false }
def par0 : Arguments → Bool
  | ⟨[], [], none, [], [], none, []⟩ => true
  | _ => false
mutual
def mE (C : MC) : E → Expr → Bool
  | .lit l, x => (match x with | .Constant c _ _ => mLit l c | _ => false)
  | .var i, x => (match x with | .Name n _ => atC C i n && visC C.sc n | _ => false)
  | .glo l, x => (match x with | .Name n _ => glC C.sc n && okN n && (mLook n l C.con && l.flat) | _ => false)
  | .inK a ls, x => (match x with | .Compare l [op] [.Name n _] _ => decide (op = .In) && mE C a l && glC C.sc n && okN n && mLook n (.ct ls) C.con | _ => false)
  | .ty t, x => (match x with | .Name n _ => glC C.sc n && decide (n = Str.ofString t.name) | _ => false)
  | .fnv i, x => (match x with | .Name n _ => glC C.sc n && okN n && decide (C.fns[i]? = some n) | _ => false)
  | .bin o a b, x => (match x with | .BinOp l op r _ => decide (op = o.op) && mE C a l && mE C b r | _ => false)
  | .neg a, x => (match x with | .UnaryOp op l _ => decide (op = .USub) && mE C a l | _ => false)
  | .nt a, x => (match x with | .UnaryOp op l _ => decide (op = .Not) && mE C a l | _ => false)
  | .cmp o a b, x => (match x with | .Compare l [op] [r] _ => decide (op = o.op) && mE C a l && mE C b r && !behindInMarks op r | _ => false)
  | .chain o p a b c, x => (match x with | .Compare l [op, op'] [r, s] _ => decide (op = o.op) && decide (op' = p.op) && mE C a l && mE C b r && mE C c s && !lastMarks [op, op'] [r, s] | _ => false)
  | .inA a b, x => (match x with | .Compare l [op] [r] _ => decide (op = .In) && mE C a l && mE C b r && !behindInMarks op r | _ => false)
  | .niA a b, x => (match x with | .Compare l [op] [r] _ => decide (op = .NotIn) && mE C a l && mE C b r && !behindInMarks op r | _ => false)
  | .and a b, x => (match x with | .BoolOp op (l :: r :: rest) pos => decide (op = .And) && mE C a l && mE C b (.BoolOp .And (r :: rest) pos) | _ => false)
  | .or a b, x => (match x with | .BoolOp op (l :: r :: rest) pos => decide (op = .Or) && mE C a l && mE C b (.BoolOp .Or (r :: rest) pos) | _ => false)
  | .one a, x => (match x with | .BoolOp _ [l] _ => mE C a l | _ => false)
  | .ite t a b, x => (match x with | .IfExp z l r _ => mE C t z && mE C a l && mE C b r | _ => false)
  | .call f es, x => (match x with | .Call (.Name n _) xs [] _ => glC C.sc n && okN n && (decide (C.off ≤ f) && decide (C.fns[f - C.off]? = some n)) && mEs C es xs | _ => false)
  | .bi b es, x => (match x with | .Call (.Name n _) (y :: ys) [] _ => glC C.sc n && okN n && mBi b n && mEs C es (y :: ys) | _ => false)
  | .tup es, x => (match x with | .Tuple xs _ _ => decide (xs.length ≤ 10000) && mEs C es xs | _ => false)
  | .lst es, x => (match x with | .List xs _ => decide (xs.length ≤ 10000) && mEs C es xs | _ => false)
  | .ix a b, x => (match x with | .Subscript l r _ => notSlice r && mE C a l && mE C b r | _ => false)
  | .sl a lo hi, x => (match x with | .Subscript l (.Slice p q none _) _ => mE C a l && mO C lo p && mO C hi q | _ => false)
  | .lc it tg t e own, x => (match x with
    | .ListComp elt [⟨g, iter, ifs, 0⟩] scope _ => notSet iter && mI C g it iter && blkC C.N C.sc scope own && mT (C.blk scope) tg g && (tg.slots.all fun j => decide (j ∈ own.map (·.2))) &&
        mF (C.blk scope) t ifs && mE (C.blk scope) e elt
    | _ => false)
  | .rev a, x => (match x with | .Subscript l (.Slice none none (some (.UnaryOp .USub (.Constant (.int 1) _ _) _)) _) _ => mE C a l | _ => false)
  | .new, x => (match x with | .Dict [] [] _ => true | _ => false)
  | .rg1 t a, x => (match x with
    | .Call (.Name n _) [.Call (.Name m _) [y] [] _] [] _ => glC C.sc n && decide (n = rgNm t) && glC C.sc m && decide (m = "range") && notStar y && mE C a y
    | _ => false)
  | .rg2 t a b, x => (match x with
    | .Call (.Name n _) [.Call (.Name m _) [y, z] [] _] [] _ => glC C.sc n && decide (n = rgNm t) && glC C.sc m && decide (m = "range") && notStar y && notStar z && mE C a y && mE C b z
    | _ => false)
  | .lend _ e, x => noBool x && mE C e x
  | .mt m a b, x => (match x with | .Call (.Attribute o n apos) [y] [] cpos => rcvE o && decide (n = Str.ofString m.nm) && (apos.endLine == cpos.line) && notStar y && mE C a o && mE C b y | _ => false)
  | .get2 a b e, x => (match x with | .Call (.Attribute o n apos) [y, z] [] cpos => rcvE o && decide (n = "get") && (apos.endLine == cpos.line) && notStar y && notStar z && mE C a o && mE C b y && mE C e z | _ => false)
  | .dc it tg t k v own, x => (match x with
    | .DictComp kx vx [⟨g, iter, ifs, 0⟩] scope _ => notSet iter && mI C g it iter && blkC C.N C.sc scope own && mT (C.blk scope) tg g && (tg.slots.all fun j => decide (j ∈ own.map (·.2))) &&
        mF (C.blk scope) t ifs && mE (C.blk scope) k kx && mE (C.blk scope) v vx
    | _ => false)
  | .dd1 a b, x => (match x with | .Dict [some k] [v] _ => mE C a k && mE C b v | _ => false)
  | .ddn p, x => (match x with | .Dict ks vs _ => !ks.isEmpty && decide (ks.length ≤ 15) && mP C p ks vs | _ => false)
  | .lk _ e, x => plainT x && mE C e x
  | .callv off j es, x => (match x with | .Call (.Name n _) (y :: ys) [] _ => decide (off = C.off) && atC C j n && visC C.sc n && mEs C es (y :: ys) | _ => false)
  | .met M e, x => (match x with | .Call (.Name n _) [.Lambda pr bd sc _] [] _ => C.lam && glC C.sc n && okN n && decide (n = M.name) && decide (M ∈ C.mets) && par0 pr && LamX.lamSB C.sc sc && mE (C.inLam sc) e bd | _ => false)
  | .lc2 it tg t it1 tg1 t1 e own vs1, x => (match x with
    | .ListComp elt [⟨g, iter, ifs, 0⟩, ⟨g1, iter1, ifs1, 0⟩] scope _ => (notSet iter && mI C g it iter && blkC C.N C.sc scope own && mT (C.blk scope) tg g && (tg.slots.all fun j => decide (j ∈ own.map (·.2))) &&
        mF (C.blk scope) t ifs && mE (C.blk scope) e elt) && (notSet iter1 && mI (C.blk scope) g1 it1 iter1 && mT (C.blk scope) tg1 g1 && (tg1.slots.all fun j => decide (j ∈ vs1)) && (vs1.all fun j => decide (j ∈ own.map (·.2))) && mF (C.blk scope) t1 ifs1)
    | _ => false)
  | .ndd e, x => (match x with | .Dict [some (.Constant .none _ _)] [v] _ => mE C e v | _ => false)
  | .tups p, x => (match x with | .Tuple xs _ _ => mSp C p xs | _ => false)
  | .lsts p, x => (match x with | .List xs _ => mSp C p xs | _ => false)
  | .calls f p, x => (match x with | .Call (.Name n _) (y :: ys) [] _ => glC C.sc n && okN n && (decide (C.off ≤ f) && decide (C.fns[f - C.off]? = some n)) && notStar y && ys.any (fun z => !notStar z) && mSp C p (y :: ys) | _ => false)
  | .ddt a b, x => (match x with | .Dict [some k] [v] _ => mE C a k && mE C b v | _ => false)
  | .dc0 it tg t own, x => (match x with
    | .DictComp _ _ [⟨g, iter, ifs, 0⟩, ⟨_, _, _, 0⟩] scope _ => notSet iter && mI C g it iter && blkC C.N C.sc scope own && mT (C.blk scope) tg g && (tg.slots.all fun j => decide (j ∈ own.map (·.2))) &&
        mF (C.blk scope) t ifs
    | _ => false)
def mSp (C : MC) : Sps → List Expr → Bool
  | .nil, [] => true
  | .cons a b, x :: xs => notStar x && mE C a x && mSp C b xs
  | .star a b, x :: xs => (match x with | .Starred y _ => mE C a y && mSp C b xs | _ => false)
  | _, _ => false
def mP (C : MC) : Ps → List (Option Expr) → List Expr → Bool
  | .nil, [], [] => true
  | .cons a b r, some k :: ks, v :: vs => mE C a k && mE C b v && mP C r ks vs
  | _, _, _ => false
def mEs (C : MC) : Es → List Expr → Bool
  | .nil, [] => true
  | .cons a b, x :: xs => notStar x && mE C a x && mEs C b xs
  | _, _ => false
def mO (C : MC) : Eo → Option Expr → Bool
  | .no, none => true
  | .so e, some x => mE C e x
  | _, _ => false
def mF (C : MC) : Eo → List Expr → Bool
  | .no, [] => true
  | .so e, [x] => mE C e x
  | _, _ => false
def mI (C : MC) (g : Expr) : It → Expr → Bool
  | .rg3 es, x => (match x with
    | .Call (.Name n _) [y, z, u] [] _ => glC C.sc n && decide (n = "range") && mEs C es [y, z, u]
    | _ => false)
  | .zip es, x => (match g, x with
    | .Tuple _ _ _, .Call (.Name n _) [y, z] [] _ => glC C.sc n && decide (n = "zip") && mEs C es [y, z]
    | _, _ => false)
  | .enm es, x => (match g, x with
    | .Tuple _ _ _, .Call (.Name n _) [y] [] _ => glC C.sc n && decide (n = "enumerate") && mEs C es [y]
    | _, _ => false)
  | .seq a, x => mE C a x
  | .rng es, x => (match x with
    | .Call (.Name n _) [y] [] _ => glC C.sc n && decide (n = "range") && mEs C es [y]
    | .Call (.Name n _) [y, z] [] _ => glC C.sc n && decide (n = "range") && mEs C es [y, z]
    | _ => false)
end
/-- the stores of a tuple's items go the other way round -/
def parC (C : MC) (ts : List Expr) (vs : List Expr) : Bool :=
  (match C.sc.kind with | .function => true | _ => false) && vs.all notStar && !(vs.all (foldedForSure 8)) && !(vs.all (constantsAlone 8)) &&
    (match ts with
    | [.Name a p, .Name b q] => decide (p.line = q.line) && decide (a ≠ b) && isLoc C.sc a && isLoc C.sc b
    | [.Name a p, .Name b q, .Name c r] => decide (p.line = q.line) && decide (p.line = r.line) && decide (a ≠ b) && decide (a ≠ c) && decide (b ≠ c) && isLoc C.sc a && isLoc C.sc b && isLoc C.sc c
    | _ => false)
/-- .. or they do not -/
def notLocE (C : MC) : Expr → Bool
  | .Name id _ => !isLoc C.sc id
  | _ => true
def noParC (C : MC) (ts : List Expr) (v : Expr) : Bool := match v with
  | .Tuple vs _ _ => (vs.length != ts.length) || !(ts.length == 2 || ts.length == 3) || vs.all (foldedForSure 8) || ts.any (notLocE C)
  | _ => true
def lcSwap (C : MC) (n : Str) (p : Pos) (x : Expr) : Bool := match x with
  | .ListComp _ _ s q => (match C.sc.kind with | .function => true | _ => false) && isLoc C.sc n && p.line == q.line && !(s.names.any fun (m, k) => m == n && (k == .local || k == .cell))
  | _ => false
def lcSwapD (C : MC) (n : Str) (p : Pos) (x : Expr) : Bool := match x with
  | .DictComp _ _ _ s q => (match C.sc.kind with | .function => true | _ => false) && isLoc C.sc n && p.line == q.line && !(s.names.any fun (m, k) => m == n && (k == .local || k == .cell))
  | _ => false
def isDcE : E → Bool
  | .dc0 .. => true
  | _ => false
def isLcE : E → Bool
  | .lc .. => true
  | _ => false
mutual
def mS (C : MC) : S → Stmt → Bool
  | .set i own e, x => (match x with | .Assign [.Name n p] v _ => atC C i n && locC C.sc n && setFn C n && ((notComp v || !isLoc C.sc n) || ((lcSwap C n p v && isLcE e) || (lcSwapD C n p v && isDcE e))) && mE C e v | _ => false)
  | .unp tg e, x => (match x with | .Assign [.Tuple ts k p] v _ => notComp v && noParC C ts v && mT C tg (.Tuple ts k p) && mE C e v | _ => false)
  | .par2 i oi a j oj b, x => (match x with
    | .Assign [.Tuple [.Name n p, .Name n2 p2] _ _] (.Tuple [v, v2] _ _) _ => atC C i n && atC C j n2 && decide (i ≠ j) && parC C [.Name n p, .Name n2 p2] [v, v2] && mE C a v && mE C b v2
    | _ => false)
  | .par3 i oi a j oj b l ol e, x => (match x with
    | .Assign [.Tuple [.Name n p, .Name n2 p2, .Name n3 p3] _ _] (.Tuple [v, v2, v3] _ _) _ => atC C i n && atC C j n2 && atC C l n3 && decide (i ≠ j) && decide (i ≠ l) && decide (j ≠ l) && parC C [.Name n p, .Name n2 p2, .Name n3 p3] [v, v2, v3] && mE C a v && mE C b v2 && mE C e v3
    | _ => false)
  | .exp e, x => (match x with | .Expr v _ => notComp v && mE C e v | _ => false)
  | .ret e, x => (match x with | .Return (some v) _ => mE C e v | _ => false)
  | .retN, x => (match x with | .Return none _ => true | _ => false)
  | .retO i, x => (match x with | .Return (some (.Name n _)) _ => atC C i n && visC C.sc n | _ => false)
  | .popu i tg, x => (match x with
    | .Assign [.Tuple ts k p] (.Call (.Attribute (.Name n a) m apos) [] [] cpos) _ => atC C i n && visC C.sc n && decide (m = "pop") && (apos.endLine == cpos.line) && noParC C ts (.Call (.Attribute (.Name n a) m apos) [] [] cpos) && mT C tg (.Tuple ts k p)
    | .Assign [.Name t p] (.Call (.Attribute (.Name n a) m apos) [] [] cpos) _ => atC C i n && visC C.sc n && decide (m = "pop") && (apos.endLine == cpos.line) && mT C tg (.Name t p)
    | _ => false)
  | .popx i, x => (match x with | .Expr (.Call (.Attribute (.Name n _) m apos) [] [] cpos) _ => atC C i n && visC C.sc n && decide (m = "pop") && (apos.endLine == cpos.line) | _ => false)
  | .app i e, x => (match x with | .Expr (.Call (.Attribute (.Name n _) m apos) [v] [] cpos) _ => atC C i n && visC C.sc n && decide (m = "append") && (apos.endLine == cpos.line) && notStar v && mE C e v | _ => false)
  | .ext i e, x => (match x with | .Expr (.Call (.Attribute (.Name n _) m apos) [v] [] cpos) _ => atC C i n && visC C.sc n && decide (m = "extend") && (apos.endLine == cpos.line) && notStar v && mE C e v | _ => false)
  | .sub i j e, x => (match x with | .Assign [.Subscript (.Name n _) y _] v _ => atC C i n && visC C.sc n && notSlice y && mE C j y && mE C e v | _ => false)
  | .aug i o e, x => (match x with | .AugAssign (.Name n _) op v _ => atC C i n && locC C.sc n && setFn C n && decide (op = o.op) && mE C e v | _ => false)
  | .pass, x => (match x with | .Pass _ => true | _ => false)
  | .brk, x => (match x with | .Break _ => true | _ => false)
  | .cnt, x => (match x with | .Continue _ => true | _ => false)
  | .bad, _ => true
  | .frz _, _ => false
  | .ite t a b, x => (match x with | .If v xs ys _ => mE C t v && mB C a xs && mB C b ys | _ => false)
  | .for_ it tg b, x => (match x with | .For g v xs [] _ => notSet v && mI C g it v && mT C tg g && mB C b xs | _ => false)
  | .whl _ t b, x => (match x with | .While v xs [] _ => mE C t v && mB C b xs | _ => false)
  | .lendC _ s, x => mS C s x
  | .raise k, x => (match x with | .Raise (some (.Call (.Name n _) [.Constant (.str _) _ _] [] _)) none _ => glC C.sc n && okN n && decide (C.cls[k]? = some (n, none)) | _ => false)
  | .raise1 k e, x => (match x with | .Raise (some (.Call (.Name n _) [y] [] _)) none _ => glC C.sc n && okN n && (match C.cls[k]? with | some (m, some _) => decide (m = n) | _ => false) && notStar y && mE C e y | _ => false)
def mB (C : MC) : List S → List Stmt → Bool
  | [], xs => (match xs with | [] => true | _ => false)
  | s :: r, xs => (match s with
    | .frz _ => mB C r xs
    | _ => (match xs with | x :: ys => mS C s x && mB C r ys | _ => false))
end
/-! ## readings of a run -/
theorem R.bind_ok {r : R} {g : D → Kp → R} {d : D} {fr : Bool} {κ : Kp} (h : r.bind g = .ok d fr κ) : ∃ x f κ1, r = .ok x f κ1 ∧ g x κ1 = .ok d fr κ := by
  cases r with
  | ok x f κ1 => exact ⟨x, f, κ1, rfl, h⟩
  | exc => cases h
  | bad => cases h
theorem R.bool_ok {r : R} {g : Bool → Kp → R} {d : D} {fr : Bool} {κ : Kp} (h : r.bool g = .ok d fr κ) : ∃ x f κ1, r = .ok (.bl x) f κ1 ∧ g x κ1 = .ok d fr κ := by
  cases r with
  | ok x f κ1 =>
    cases x <;> first | (cases h; done) | exact ⟨_, f, κ1, rfl, h⟩
  | exc => cases h
  | bad => cases h
theorem lift_ok {o : O1} {d : D} {fr : Bool} {κ κ' : Kp} (h : lift o κ = .ok d fr κ') : o = some (d, fr) ∧ κ' = κ := by
  cases o with
  | none => cases h
  | some p => cases h; exact ⟨rfl, rfl⟩
/-! ## rules still lacking -/
section
variable {X : Cx} {fa : Nat → Option Addr} {cl : Nat → ClsI} {W : WX} {x y z : Expr} {a b e : SmE} {pos : Pos}
theorem sn_notT (ha : SnE X fa cl W x a) : SnE X fa cl W (.UnaryOp .Not x pos) (cNot a) := by
  refine PE.imp (fun σ H Q ⟨c, F0, H0, F, ρ, κ, r, o⟩ => ?_) (pe_notT ha)
  refine ⟨c, F0, H0, F, ρ, κ, r, ?_⟩
  unfold cNot R.test at o
  cases e : a ρ κ with
  | ok d fr κ1 =>
    rw [e] at o
    dsimp only at o
    cases hb : truth d with
    | none => rw [hb] at o; exact o.elim
    | some k =>
      rw [hb] at o
      intro F' H' v s kp ef fresh
      obtain ⟨F2, s2, k2, _, e2⟩ := ef.still s kp fresh
      exact ⟨k, truV_of s2.inH e2 hb, o F2 H' (.bl (!k)) s2 k2 (.bl _) (fun q => nomatch q)⟩
  | exc k d κ => rw [e] at o; exact o
  | bad => rw [e] at o; exact o
theorem chain_at {op op' : CmpOp} {f g : D → D → O1} {σ : L2.St} {H : Hp} {Q : VK} (h : tE X fa cl W (cChain f g a b e) σ H Q) :
    tChain (rOp X.K fa f) (rOp X.K fa g) (tE X fa cl W a) (tE X fa cl W b) (tE X fa cl W e) σ H Q := by
  obtain ⟨c, F0, H0, F, ρ, κ, r, o⟩ := h
  refine ⟨c, F0, H0, F, ρ, κ, r, Out.bind o fun d κ1 F1 H1 v s1 k1 r1 o => ?_⟩
  have q1 := r.step s1 k1
  refine ⟨c, F0, H0, F1, ρ, κ1, q1, Out.bind o fun d2 κ2 F2 H2 v2 s2 k2 r2 o => ?_⟩
  have q2 := q1.step s2 k2
  cases h : f d d2 with
  | none => rw [h] at o; exact o.elim
  | some p =>
    rw [h] at o
    refine ⟨c, F2, κ2, d, d2, p.1, p.2, s2.inH, k2, r1.sub s2.sub, r2, h, fun F3 H3 v3 s3 k3 e3 fr3 => ?_⟩
    obtain ⟨pd, pf⟩ := p
    obtain ⟨k, rfl, o'⟩ : ∃ k, pd = .bl k ∧ Out X.K fa cl W c σ F2 H2 Q (if k = true then (e ρ κ2).bind fun z κ => lift (g d2 z) κ else .ok (.bl false) false κ2) := by
      cases pd <;> first | exact o.elim | exact ⟨_, rfl, o⟩
    have e3' : v3 = .bl k := by
      cases pf with
      | false => cases e3; rfl
      | true => obtain ⟨_, _, ow⟩ := e3; exact ow.at_.elim
    subst e3'
    refine ⟨k, rfl, ?_⟩
    cases k with
    | false =>
      rw [if_neg (by simp)] at o' ⊢
      exact o' F3 H3 _ s3 k3 (.bl _) (fun q => nomatch q)
    | true =>
      rw [if_pos rfl] at o' ⊢
      have q3 := q2.step s3 k3
      refine ⟨c, F0, H0, F3, ρ, κ2, q3, Out.bind (Out.step s3 o') fun d4 κ4 F4 H4 v4 s4 k4 r4 o => ?_⟩
      cases h2 : g d2 d4 with
      | none => rw [h2] at o; exact o.elim
      | some p2 =>
        rw [h2] at o
        exact ⟨c, F4, κ4, d2, d4, p2.1, p2.2, s4.inH, k4, (r2.sub s3.sub).sub s4.sub, r4, h2, o⟩
theorem sn_chain {op op' : CmpOp} {f g : D → D → O1} (ho : OpR X (compareOp op) (rOp X.K fa f)) (ho' : OpR X (compareOp op') (rOp X.K fa g)) (ha : SnE X fa cl W x a) (hb : SnE X fa cl W y b) (hc : SnE X fa cl W z e)
    (hm : lastMarks [op, op'] [y, z] = false) : SnE X fa cl W (.Compare x [op, op'] [y, z] pos) (cChain f g a b e) :=
  PE.imp (fun σ H Q h => chain_at (op := op) (op' := op') h) (pe_chain ho ho' ha hb hc hm)
theorem chain_bool {f g : D → D → O1} (hg : ∀ d e p, g d e = some p → ∃ k, p = (.bl k, false)) {σ : L2.St} {H : Hp} {Q : Bool → Hp → Prop} (h : tT X fa cl W (cChain f g a b e) σ H Q) :
    tE X fa cl W (cChain f g a b e) σ H (fun v H1 => ∃ k, v = .bl k ∧ Q k H1) := by
  obtain ⟨c, F0, H0, F, ρ, κ, r, o⟩ := h
  refine ⟨c, F0, H0, F, ρ, κ, r, ?_⟩
  have key : ∀ d fr κ', cChain f g a b e ρ κ = .ok d fr κ' → ∃ k, d = .bl k ∧ fr = false := by
    intro d fr κ' hh
    unfold cChain at hh
    obtain ⟨x1, f1, κ1, _, hh⟩ := R.bind_ok hh
    obtain ⟨x2, f2, κ2, _, hh⟩ := R.bind_ok hh
    obtain ⟨x3, f3, κ3, _, hh⟩ := R.bool_ok hh
    split at hh
    · obtain ⟨x4, f4, κ4, _, hh⟩ := R.bind_ok hh
      obtain ⟨q, _⟩ := lift_ok hh
      obtain ⟨k, hk⟩ := hg _ _ _ q
      cases hk
      exact ⟨k, rfl, rfl⟩
    · cases hh
      exact ⟨false, rfl, rfl⟩
  cases er : cChain f g a b e ρ κ with
  | ok d fr κ' =>
    obtain ⟨k, rfl, rfl⟩ := key d fr κ' er
    rw [er] at o
    obtain ⟨k', e', o⟩ := o
    cases e'
    intro F' H' v s kp ef _
    cases ef
    exact ⟨k, rfl, o F' H' s kp⟩
  | exc k d κ => rw [er] at o; exact o
  | bad => rw [er] at o; exact o
theorem st_chain {op op' : CmpOp} {f g : D → D → O1} (ho : OpR X (compareOp op) (rOp X.K fa f)) (ho' : OpR X (compareOp op') (rOp X.K fa g)) (hg : ∀ d e p, g d e = some p → ∃ k, p = (.bl k, false)) (ha : SnE X fa cl W x a) (hb : SnE X fa cl W y b) (hc : SnE X fa cl W z e)
    (hm : lastMarks [op, op'] [y, z] = false) : SnT X fa cl W (.Compare x [op, op'] [y, z] pos) (cChain f g a b e) :=
  PT.imp (fun σ H Q h => chain_at (op := op) (op' := op') (chain_bool hg h)) (pt_chain ho ho' ha hb hc hm)
theorem st_ite {t m1 m2 : SmE} (ht : SnT X fa cl W z t) (ha : SnT X fa cl W x m1) (hb : SnT X fa cl W y m2) : SnT X fa cl W (.IfExp z x y pos) (cIte t m1 m2) := by
  refine ⟨fun pins s σ H Q I ⟨c, F0, H0, F, ρ, κ, r, o⟩ => ?_⟩
  refine isTrue_IfExp (thn (ht.run pins s σ H (fun k H1 => tT X fa cl W (if k = true then m1 else m2) σ H1 Q) I ⟨c, F0, H0, F, ρ, κ, r, OutT.test o fun k κ1 F1 H1 s1 k1 o => ⟨c, F0, H0, F1, ρ, κ1, r.step s1 k1, ?_⟩⟩) fun k s1 ⟨H1, I1, q⟩ => ?_)
  · cases k
    · exact o
    · exact o
  · cases k
    · exact hb.run pins s1 σ H1 Q I1 q
    · exact ha.run pins s1 σ H1 Q I1 q
theorem Out.intB {c : Option Addr} {σ : L2.St} {F H : Hp} {Q Q1 : VK} {K : PySem.W.Frag} {r : R} {g : Int → Kp → R} (o : Out K fa cl W c σ F H Q (r.intB g))
    (h : ∀ i κ F1 H1, Stp K c F H F1 H1 → Kap c κ F1 H1 → Out K fa cl W c σ F1 H1 Q (g i κ) → Q1 (.int i) H1) : Out K fa cl W c σ F H Q1 r := by
  cases r with
  | ok d fr κ =>
    cases d <;> try exact o.elim
    rename_i i
    intro F' H' v s k e fresh
    obtain ⟨F2, s2, k2, _, e2⟩ := e.still s k fresh
    cases e2
    exact h i κ F2 H' s2 k2 (Out.step s2 o)
  | exc k d κ => exact o
  | bad => exact o
theorem rgMk_rep {K : PySem.W.Frag} {c : Option Addr} {F : Hp} (i j : Int) : RepL K fa c F (rgD i j) (rgV i j) := by
  unfold rgD rgV
  generalize List.range (j - i).toNat = l
  induction l with
  | nil => exact .nil
  | cons n l ih => exact .cons (.int _) ih
theorem rgMk_at {tup : Bool} {i j : Int} {κ : Kp} {c : Option Addr} {σ : L2.St} {F H : Hp} {Q : VK} {K : PySem.W.Frag} (hF : ∀ a o, F a = some o → H a = some o) (k : Kap c κ F H) (o : Out K fa cl W c σ F H Q (rgMk tup i j κ)) :
    RgOk i j ∧ ∀ q, H q = none → Q (.ref q) (upd H q (if tup then .tup (rgV i j) else .lst (rgV i j))) := by
  unfold rgMk at o
  split at o
  · rename_i h
    simp only [Bool.and_eq_true, decide_eq_true_eq] at h
    refine ⟨RgOk.of_le (by omega) (by omega) (by omega) (by omega), fun q hq => ?_⟩
    cases tup with
    | true =>
      rw [if_pos rfl] at o ⊢
      exact finT hF k o (rgMk_rep i j) q hq
    | false =>
      rw [if_neg (by simp)] at o ⊢
      exact finL hF k o (rgMk_rep i j) q hq
  · exact o.elim
theorem sn_rg1 {tup : Bool} {p p2 pos pos2 : Pos} (hc : X.calm = true) (hg : Gl X (rgNm tup)) (hm : X.mg (rgNm tup) = none) (hr : Gl X "range") (hmr : X.mg "range" = none) (ha : SnE X fa cl W x a)
    (hs : starEach [x] X.env = (false, eval x X.env) :: starEach [] X.env) : SnE X fa cl W (.Call (.Name (rgNm tup) p) [.Call (.Name "range" p2) [x] [] pos2] [] pos) (cRg1 tup a) := by
  cases tup with
  | true =>
    refine PE.imp (fun σ H Q ⟨c, F0, H0, F, ρ, κ, r, o⟩ => ?_) (pe_tupRg hc hg hm (prg_1 hr hmr ha hs))
    exact ⟨c, F0, H0, F, ρ, κ, r, Out.intB o fun i κ1 F1 H1 s1 k1 o => ⟨i, rfl, rgMk_at s1.inH k1 o⟩⟩
  | false =>
    refine PE.imp (fun σ H Q ⟨c, F0, H0, F, ρ, κ, r, o⟩ => ?_) (pe_listRg hc hg hm (prg_1 hr hmr ha hs))
    exact ⟨c, F0, H0, F, ρ, κ, r, Out.intB o fun i κ1 F1 H1 s1 k1 o => ⟨i, rfl, rgMk_at s1.inH k1 o⟩⟩
theorem sn_rg2 {tup : Bool} {p p2 pos pos2 : Pos} (hc : X.calm = true) (hg : Gl X (rgNm tup)) (hm : X.mg (rgNm tup) = none) (hr : Gl X "range") (hmr : X.mg "range" = none) (ha : SnE X fa cl W x a) (hb : SnE X fa cl W y b)
    (hs : starEach [x, y] X.env = (false, eval x X.env) :: starEach [y] X.env) (hs2 : starEach [y] X.env = (false, eval y X.env) :: starEach [] X.env) (hp : (backTo pos2 (starEach [y] X.env)).any (·.1) = false) :
    SnE X fa cl W (.Call (.Name (rgNm tup) p) [.Call (.Name "range" p2) [x, y] [] pos2] [] pos) (cRg2 tup a b) := by
  cases tup with
  | true =>
    refine PE.imp (fun σ H Q ⟨c, F0, H0, F, ρ, κ, r, o⟩ => ?_) (pe_tupRg hc hg hm (prg_2 hr hmr ha hb hs hs2 hp))
    exact ⟨c, F0, H0, F, ρ, κ, r, Out.intB o fun i κ1 F1 H1 s1 k1 o => ⟨c, F0, H0, F1, ρ, κ1, r.step s1 k1, Out.intB o fun j κ2 F2 H2 s2 k2 o => ⟨i, j, rfl, rfl, rgMk_at s2.inH k2 o⟩⟩⟩
  | false =>
    refine PE.imp (fun σ H Q ⟨c, F0, H0, F, ρ, κ, r, o⟩ => ?_) (pe_listRg hc hg hm (prg_2 hr hmr ha hb hs hs2 hp))
    exact ⟨c, F0, H0, F, ρ, κ, r, Out.intB o fun i κ1 F1 H1 s1 k1 o => ⟨c, F0, H0, F1, ρ, κ1, r.step s1 k1, Out.intB o fun j κ2 F2 H2 s2 k2 o => ⟨i, j, rfl, rfl, rgMk_at s2.inH k2 o⟩⟩⟩
theorem PT.or {x : Expr} {t t' : TT} (h : PT X x t) (h' : PT X x t') : PT X x (fun σ H Q => t σ H Q ∨ t' σ H Q) := ⟨fun pins s σ H Q I q => q.elim (h.run pins s σ H Q I) (h'.run pins s σ H Q I)⟩
theorem PI.or {tg x : Expr} {t t' : TI} (h : PI X tg x t) (h' : PI X tg x t') : PI X tg x (fun σ H Q => t σ H Q ∨ t' σ H Q) := ⟨fun pins s σ H Q I q => q.elim (h.run pins s σ H Q I) (h'.run pins s σ H Q I)⟩
theorem PS.or {x : Stmt} {t t' : TS} (h : PS X x t) (h' : PS X x t') : PS X x (fun σ H Q => t σ H Q ∨ t' σ H Q) := ⟨fun pins s σ H Q I q => q.elim (h.run pins s σ H Q I) (h'.run pins s σ H Q I)⟩
/-- one of two meanings, as it comes -/
theorem SnE.two {m m1 m2 : SmE} (h1 : SnE X fa cl W x m1) (h2 : SnE X fa cl W x m2) (h : ∀ ρ κ, m ρ κ = m1 ρ κ ∨ m ρ κ = m2 ρ κ) : SnE X fa cl W x m := by
  refine PE.imp (fun σ H Q ⟨c, F0, H0, F, ρ, κ, r, o⟩ => ?_) (PE.or h1 h2)
  rcases h ρ κ with q | q
  · exact .inl ⟨c, F0, H0, F, ρ, κ, r, by rw [← q]; exact o⟩
  · exact .inr ⟨c, F0, H0, F, ρ, κ, r, by rw [← q]; exact o⟩
theorem SnT.two {m m1 m2 : SmE} (h1 : SnT X fa cl W x m1) (h2 : SnT X fa cl W x m2) (h : ∀ ρ κ, m ρ κ = m1 ρ κ ∨ m ρ κ = m2 ρ κ) : SnT X fa cl W x m := by
  refine PT.imp (fun σ H Q ⟨c, F0, H0, F, ρ, κ, r, o⟩ => ?_) (PT.or h1 h2)
  rcases h ρ κ with q | q
  · exact .inl ⟨c, F0, H0, F, ρ, κ, r, by rw [← q]; exact o⟩
  · exact .inr ⟨c, F0, H0, F, ρ, κ, r, by rw [← q]; exact o⟩
theorem SnI.two {tg : Expr} {m m1 m2 : SmL} (h1 : SnI X fa cl W tg x m1) (h2 : SnI X fa cl W tg x m2) (h : ∀ ρ κ, m ρ κ = m1 ρ κ ∨ m ρ κ = m2 ρ κ) : SnI X fa cl W tg x m := by
  refine PI.imp (fun σ H Q ⟨c, F0, H0, F, ρ, κ, r, o⟩ => ?_) (PI.or h1 h2)
  rcases h ρ κ with q | q
  · exact .inl ⟨c, F0, H0, F, ρ, κ, r, by rw [← q]; exact o⟩
  · exact .inr ⟨c, F0, H0, F, ρ, κ, r, by rw [← q]; exact o⟩
theorem SnS.two {st : Stmt} {m m1 m2 : SmS} (h1 : SnS X fa cl W st m1) (h2 : SnS X fa cl W st m2) (h : ∀ ρ κ, m ρ κ = m1 ρ κ ∨ m ρ κ = m2 ρ κ) : SnS X fa cl W st m := by
  refine PS.imp (fun E σ H ⟨c, F0, H0, F, ρ, κ, r, o⟩ => ?_) (PS.or h1 h2)
  rcases h ρ κ with q | q
  · exact .inl ⟨c, F0, H0, F, ρ, κ, r, by rw [← q]; exact o⟩
  · exact .inr ⟨c, F0, H0, F, ρ, κ, r, by rw [← q]; exact o⟩
theorem cIxA_eq (ρ : Rho) (κ : Kp) : cIxA a b ρ κ = cBin fDix a b ρ κ ∨ cIxA a b ρ κ = cIx a b ρ κ := by
  unfold cIxA cBin cIx
  cases a ρ κ with
  | ok d fr κ1 =>
    simp only [R.bind]
    cases q : isDict d
    · exact .inr rfl
    · exact .inl rfl
  | exc k d κ => exact .inl rfl
  | bad => exact .inl rfl
theorem two_eq {f g h : D → D → O1} (hh : ∀ x y, f x y = g x y ∨ f x y = h x y) (ρ : Rho) (κ : Kp) : cBin f a b ρ κ = cBin g a b ρ κ ∨ cBin f a b ρ κ = cBin h a b ρ κ := by
  unfold cBin
  cases a ρ κ with
  | ok d fr κ1 =>
    simp only [R.bind]
    cases b ρ κ1 with
    | ok d2 fr2 κ2 =>
      dsimp only
      rcases hh d d2 with q | q
      · exact .inl (by rw [q])
      · exact .inr (by rw [q])
    | exc k d κ => exact .inl rfl
    | bad => exact .inl rfl
  | exc k d κ => exact .inl rfl
  | bad => exact .inl rfl
theorem fInA_eq (x y : D) : fInA x y = fDin x y ∨ fInA x y = fIn x y := by
  unfold fInA; split; exact .inl rfl; exact .inr rfl
theorem fNiA_eq (x y : D) : fNiA x y = fDni x y ∨ fNiA x y = fNi x y := by
  unfold fNiA; split; exact .inl rfl; exact .inr rfl
def cItO (a : SmE) : SmL := fun ρ κ => match a ρ κ with
  | .ok (.tup xs) _ κ => .ok xs κ
  | .ok (.lst xs) _ κ => .ok xs κ
  | .ok _ _ _ => .bad
  | .exc k d κ => .exc k d κ
  | .bad => .bad
theorem cItO_eq (ρ : Rho) (κ : Kp) : cItO a ρ κ = cItT a ρ κ ∨ cItO a ρ κ = cItL a ρ κ := by
  unfold cItO cItT cItL
  cases a ρ κ with
  | ok d fr κ1 => cases d <;> first | exact .inl rfl | exact .inr rfl
  | exc k d κ => exact .inl rfl
  | bad => exact .inl rfl
def cItP (a : SmE) : SmL := fun ρ κ => match a ρ κ with
  | .ok (.tup xs) _ κ => .ok xs κ
  | .ok (.lst xs) _ κ => .ok xs κ
  | .ok (.dk kvs) true κ => .ok (kvs.map fun kv => keyD kv.1) κ
  | .ok _ _ _ => .bad
  | .exc k d κ => .exc k d κ
  | .bad => .bad
theorem cItP_eq (ρ : Rho) (κ : Kp) : cItP a ρ κ = cItO a ρ κ ∨ cItP a ρ κ = cItF a ρ κ := by
  unfold cItP cItO cItF
  cases a ρ κ with
  | ok d fr κ1 => cases d <;> first | exact .inl rfl | exact .inr rfl | (cases fr <;> first | exact .inl rfl | exact .inr rfl)
  | exc k d κ => exact .inl rfl
  | bad => exact .inl rfl
def cItQ (a : SmE) : SmL := fun ρ κ => match a ρ κ with
  | .ok (.tup xs) _ κ => .ok xs κ
  | .ok (.lst xs) _ κ => .ok xs κ
  | .ok (.dk kvs) true κ => .ok (kvs.map fun kv => keyD kv.1) κ
  | .ok (.fdk kvs) false κ => .ok (kvs.map fun kv => keyD kv.1) κ
  | .ok _ _ _ => .bad
  | .exc k d κ => .exc k d κ
  | .bad => .bad
theorem cItQ_eq (ρ : Rho) (κ : Kp) : cItQ a ρ κ = cItP a ρ κ ∨ cItQ a ρ κ = cItK a ρ κ := by
  unfold cItQ cItP cItK
  cases a ρ κ with
  | ok d fr κ1 => cases d <;> first | exact .inl rfl | exact .inr rfl | (cases fr <;> first | exact .inl rfl | exact .inr rfl)
  | exc k d κ => exact .inl rfl
  | bad => exact .inl rfl
theorem cItA_eq (ρ : Rho) (κ : Kp) : cItA a ρ κ = cItQ a ρ κ ∨ cItA a ρ κ = cItN a ρ κ := by
  unfold cItA cItQ cItN
  cases a ρ κ with
  | ok d fr κ1 => cases d <;> first | exact .inl rfl | exact .inr rfl | (cases fr <;> first | exact .inl rfl | exact .inr rfl)
  | exc k d κ => exact .inl rfl
  | bad => exact .inl rfl
theorem fIn_b : ∀ d e p, fIn d e = some p → ∃ k, p = (.bl k, false) := by
  intro d e p h
  unfold fIn at h
  repeat' split at h
  all_goals first | (cases h; done) | (cases h; exact ⟨_, rfl⟩)
theorem fNi_b : ∀ d e p, fNi d e = some p → ∃ k, p = (.bl k, false) := by
  intro d e p h
  unfold fNi at h
  repeat' split at h
  all_goals first | (cases h; done) | (cases h; exact ⟨_, rfl⟩)
theorem op_IsN : OpR X (compareOp .Is) (rOp X.K fa fIsN) := by
  refine OpR.imp (fun x y H Q ⟨c, F, κ, dx, dy, d, fr, hF, k, rx, ry, e, q⟩ => ?_) op_isN
  cases dy <;> try (cases dx <;> cases e; done)
  cases ry
  refine ⟨rfl, ?_⟩
  cases dx <;> cases e <;> cases rx <;> exact q F H _ (Stp.refl hF) k (.bl _) (fun z => nomatch z)
theorem op_NotN : OpR X (compareOp .IsNot) (rOp X.K fa fNotN) := by
  refine OpR.imp (fun x y H Q ⟨c, F, κ, dx, dy, d, fr, hF, k, rx, ry, e, q⟩ => ?_) op_notN
  cases dy <;> try (cases dx <;> cases e; done)
  cases ry
  refine ⟨rfl, ?_⟩
  cases dx <;> cases e <;> cases rx <;> exact q F H _ (Stp.refl hF) k (.bl _) (fun z => nomatch z)
theorem op_IsB : OpR X (compareOp .Is) (rOp X.K fa fIsB) := by
  refine OpR.imp (fun x y H Q ⟨c, F, κ, dx, dy, d, fr, hF, k, rx, ry, e, q⟩ => ?_) op_isBl
  cases dx <;> cases dy <;> try (cases e; done)
  cases e; cases rx; cases ry
  exact ⟨_, _, rfl, rfl, q F H _ (Stp.refl hF) k (.bl _) (fun z => nomatch z)⟩
theorem op_NotB : OpR X (compareOp .IsNot) (rOp X.K fa fNotB) := by
  refine OpR.imp (fun x y H Q ⟨c, F, κ, dx, dy, d, fr, hF, k, rx, ry, e, q⟩ => ?_) op_notBl
  cases dx <;> cases dy <;> try (cases e; done)
  cases e; cases rx; cases ry
  exact ⟨_, _, rfl, rfl, q F H _ (Stp.refl hF) k (.bl _) (fun z => nomatch z)⟩
end
section
variable {X : Cx} {fa : Nat → Option Addr}
theorem bop_ok (o : Bop) : OpR X (binaryOp o.op) (rOp X.K fa o.f) := by
  cases o
  · exact op_Add
  · exact op_Sub
  · exact op_Mul
  · exact op_Div
  · exact op_Mod
  · exact op_Pow
  · exact op_Shl
  · exact op_Shr
  · exact op_Ban
  · exact op_Bor
  · exact op_Bxr
theorem emp_rep {K : PySem.W.Frag} {fa : Nat → Option Addr} {c : Option Addr} {F : Hp} {ds : List D} {vs : List V} (r : RepL K fa c F ds vs) : vs.isEmpty = ds.isEmpty := by cases r <;> rfl
/-- a tuple of anything and the empty one -/
theorem op_tupNil {xs : List V} {a b : Addr} {pins : List (Addr × Obj)} {σ : L2.St} {H : Hp} {s : Shared} (hu : X.A.units < cLine) (I : Inv X pins σ H s) (h1 : H a = some (.tup xs)) (h2 : H b = some (.tup [])) (E Q : Value → Shared → Prop) (q : Q (.bool xs.isEmpty) s) :
    wpAny (model X.prog X.w) X.A (compareOp .Eq (.ref a) (.ref b)) Q E s := by
  obtain ⟨us, r1, p1, _⟩ := I.tuple (SqT.of h1)
  obtain ⟨ws, r2, p2, _⟩ := I.tuple (SqT.of h2)
  cases r2
  refine SeqAt.eq_tupleAt (e := fun _ => true) p1 p2 hu (fun j _ h => absurd h (Nat.not_lt_zero j)) ?_
  have e : us.length = xs.length := r1.length.symm
  cases xs with
  | nil => cases r1; exact q
  | cons x xs =>
    cases us with
    | nil => cases e
    | cons y us => exact q
theorem op_lstNil {xs : List V} {a b : Addr} {pins : List (Addr × Obj)} {σ : L2.St} {H : Hp} {s : Shared} (hu : X.A.units < cLine) (I : Inv X pins σ H s) (h1 : SqL X.K H a xs) (h2 : SqL X.K H b []) (E Q : Value → Shared → Prop) (q : Q (.bool xs.isEmpty) s) :
    wpAny (model X.prog X.w) X.A (compareOp .Eq (.ref a) (.ref b)) Q E s := by
  obtain ⟨us, r1, p1, _⟩ := I.list h1
  obtain ⟨ws, r2, p2, _⟩ := I.list h2
  cases r2
  cases xs with
  | nil => cases r1; exact SeqAt.RcAt.lists (e := fun _ => true) p1.isList p2.isList rfl hu (fun j _ h => absurd h (Nat.not_lt_zero j)) _ _ _ _ q
  | cons x xs =>
    cases r1 with
    | cons y us => exact SeqAt.RcAt.lists_lengths p1.isList p2.isList (by simp) hu _ _ _ _ q
theorem op_lstNilNe {xs : List V} {a b : Addr} {pins : List (Addr × Obj)} {σ : L2.St} {H : Hp} {s : Shared} (hu : X.A.units < cLine) (I : Inv X pins σ H s) (h1 : SqL X.K H a xs) (h2 : SqL X.K H b []) (E Q : Value → Shared → Prop) (q : Q (.bool (!xs.isEmpty)) s) :
    wpAny (model X.prog X.w) X.A (compareOp .NotEq (.ref a) (.ref b)) Q E s := by
  obtain ⟨us, r1, p1, _⟩ := I.list h1
  obtain ⟨ws, r2, p2, _⟩ := I.list h2
  cases r2
  cases xs with
  | nil => cases r1; exact SeqAt.RcNeAt.lists (e := fun _ => true) p1.isList p2.isList rfl hu (fun j _ h => absurd h (Nat.not_lt_zero j)) _ _ _ _ q
  | cons x xs =>
    cases r1 with
    | cons y us => exact SeqAt.RcNeAt.lists_lengths p1.isList p2.isList (by simp) hu _ _ _ _ q
theorem litOk_flat {K : PySem.W.Frag} {l : Lit} {u : Value} (h : l.flat = true) (o : LitOk K l u) : RelV l.v u := by
  cases l <;> first | exact o | cases h
theorem fl_rep {K : PySem.W.Frag} {fa : Nat → Option Addr} {c : Option Addr} {F : Hp} : ∀ ls : List Fl, RepL K fa c F (ls.map Fl.d) (ls.map Fl.v)
  | [] => .nil
  | l :: ls => .cons (by cases l <;> constructor) (fl_rep ls)
/-- x in a tuple of the module's own -/
theorem inK_core {X : Cx} {fa : Nat → Option Addr} {cl : Nat → ClsI} {W : WX} {a : SmE} {ls : List Fl} {ad : Addr} {σ : L2.St} {c : Option Addr} {F H : Hp} {ρ : Rho} {κ : Kp} {Q : VK} (hT : ∀ H, SqT X.K H ad (ls.map Fl.v))
    (o : Out X.K fa cl W c σ F H Q (cUn (fun x => fIn x (.tup (ls.map Fl.d))) a ρ κ)) : Out X.K fa cl W c σ F H (fun v H1 => rIn X.K false v (.ref ad) H1 Q) (a ρ κ) := by
  refine Out.bind o fun d κ1 F1 H1 v s1 k1 r1 o => ?_
  dsimp only at o
  cases h : fIn d (.tup (ls.map Fl.d)) with
  | none => rw [h] at o; exact o.elim
  | some q =>
    rw [h] at o
    have h : (if (d.fl0 && (ls.map Fl.d).all D.fl0) = true then some (D.bl ((ls.map Fl.d).any fun z => z.eqv d), false) else none) = some q := h
    split at h
    · cases h
      rename_i hb
      obtain ⟨b1, b2⟩ := Bool.and_eq_true_iff.mp hb
      obtain ⟨h1, h2⟩ := fl0_any r1 b1 (fl_rep ls) b2
      refine ⟨ad, ls.map Fl.v, rfl, .inr (hT H1), fl0_rep r1 b1, h1, ?_⟩
      rw [show (if false = true then !inV v (ls.map Fl.v) else inV v (ls.map Fl.v)) = inV v (ls.map Fl.v) from rfl, h2]
      exact fin0 s1.inH k1 o (.bl _)
    · cases h
theorem sn_inK {X : Cx} {fa : Nat → Option Addr} {cl : Nat → ClsI} {W : WX} {x : Expr} {a : SmE} {ls : List Fl} {n : Str} {ad : Addr} {p pos : Pos} (hg : Gl X n) (hm : X.mg n = some (.ref ad)) (hT : ∀ H, SqT X.K H ad (ls.map Fl.v)) (hd : (n == ("__debug__" : Str)) = false) (ha : SnE X fa cl W x a) :
    SnE X fa cl W (.Compare x [.In] [.Name n p] pos) (cUn (fun x => fIn x (.tup (ls.map Fl.d))) a) := by
  refine PE.imp (fun σ H Q ⟨c, F0, H0, F, ρ, κ, r, o⟩ => ?_) (pe_cmpR op_in_seq ha (pe_glob (v := .ref ad) hg hm rfl hd) rfl)
  exact ⟨c, F0, H0, F, ρ, κ, r, inK_core hT o⟩
theorem st_inK {X : Cx} {fa : Nat → Option Addr} {cl : Nat → ClsI} {W : WX} {x : Expr} {a : SmE} {ls : List Fl} {n : Str} {ad : Addr} {p pos : Pos} (hg : Gl X n) (hm : X.mg n = some (.ref ad)) (hT : ∀ H, SqT X.K H ad (ls.map Fl.v)) (hd : (n == ("__debug__" : Str)) = false) (ha : SnE X fa cl W x a) :
    SnT X fa cl W (.Compare x [.In] [.Name n p] pos) (cUn (fun x => fIn x (.tup (ls.map Fl.d))) a) := by
  refine PT.imp (fun σ H Q ⟨c, F0, H0, F, ρ, κ, r, o⟩ => ?_) (pt_cmpR op_in_seq ha (pe_glob (v := .ref ad) hg hm rfl hd) rfl)
  have o' : Out X.K fa cl W c σ F H (fun v H1 => ∃ k, v = .bl k ∧ Q k H1) (cUn (fun x => fIn x (.tup (ls.map Fl.d))) a ρ κ) := by
    unfold cUn at o ⊢
    cases ea : a ρ κ with
    | ok d fr κ1 =>
      rw [ea] at o
      show Out X.K fa cl W c σ F H _ (lift (fIn d (.tup (ls.map Fl.d))) κ1)
      have o : OutT X.K fa cl W c σ F H Q truth (lift (fIn d (.tup (ls.map Fl.d))) κ1) := o
      cases h : fIn d (.tup (ls.map Fl.d)) with
      | none => rw [h] at o; exact o.elim
      | some p =>
        rw [h] at o
        obtain ⟨k, rfl⟩ := fIn_b _ _ _ h
        obtain ⟨b', e', o⟩ := o
        cases e'
        intro F' H' v s k' e _
        cases e
        exact ⟨k, rfl, o F' H' s k'⟩
    | exc k d κ => rw [ea] at o; exact o
    | bad => rw [ea] at o; exact o
  exact ⟨c, F0, H0, F, ρ, κ, r, inK_core hT o'⟩
theorem op_EqA (hu : X.A.units + 65 < cLine) : OpR X (compareOp .Eq) (rOp X.K fa fEqA) := by
  intro pins s σ H x y v u Q I rx ry h
  obtain ⟨c, F, κ, dx, dy, d, fr, hF, k, r1, r2, e, o⟩ := h
  unfold fEqA at e
  split at e
  · split at e
    · cases e
      rename_i hb
      obtain ⟨b1, b2⟩ := Bool.and_eq_true_iff.mp hb
      cases r1 with
      | dk h1 t1 =>
      cases r2 with
      | dk h2 t2 =>
      refine op_eq_dictG (by omega) pins s σ H _ _ v u Q I rx ry ⟨_, _, _, _, rfl, rfl, hF _ _ h1, hF _ _ h2, flK_rep t1 b1, flK_rep t2 b2, ?_⟩
      rw [sameK_rep t2 b2 t1 b1, repK_len t1, repK_len t2]
      exact fin0 hF k o (.bl _)
    · cases e
  · cases e
    cases r1 with
    | tup h1 t1 =>
    cases r2 with
    | tup h2 t2 =>
    cases t2
    cases rx
    cases ry
    refine op_tupNil (by omega) I (hF _ _ h1) (hF _ _ h2) _ _ ⟨.bl _, H, I, rfl, ?_⟩
    rw [emp_rep t1]
    exact fin0 hF k o (.bl _)
  · cases e
    cases r1 with
    | lst h1 t1 =>
    cases r2 with
    | lst h2 t2 =>
    cases t2
    cases rx
    cases ry
    refine op_lstNil (by omega) I (SqL.of (hF _ _ h1)) (SqL.of (hF _ _ h2)) _ _ ⟨.bl _, H, I, rfl, ?_⟩
    rw [emp_rep t1]
    exact fin0 hF k o (.bl _)
  · exact op_Eq (by omega) pins s σ H x y v u Q I rx ry ⟨c, F, κ, dx, dy, d, fr, hF, k, r1, r2, e, o⟩
theorem op_NeA (hu : X.A.units + 65 < cLine) : OpR X (compareOp .NotEq) (rOp X.K fa fNeA) := by
  intro pins s σ H x y v u Q I rx ry h
  obtain ⟨c, F, κ, dx, dy, d, fr, hF, k, r1, r2, e, o⟩ := h
  unfold fNeA at e
  split at e
  · split at e
    · cases e
      rename_i hb
      obtain ⟨b1, b2⟩ := Bool.and_eq_true_iff.mp hb
      cases r1 with
      | dk h1 t1 =>
      cases r2 with
      | dk h2 t2 =>
      refine op_ne_dictG (by omega) pins s σ H _ _ v u Q I rx ry ⟨_, _, _, _, rfl, rfl, hF _ _ h1, hF _ _ h2, flK_rep t1 b1, flK_rep t2 b2, ?_⟩
      rw [sameK_rep t2 b2 t1 b1, repK_len t1, repK_len t2]
      exact fin0 hF k o (.bl _)
    · cases e
  · cases e
    cases r1 with
    | lst h1 t1 =>
    cases r2 with
    | lst h2 t2 =>
    cases t2
    cases rx
    cases ry
    refine op_lstNilNe (by omega) I (SqL.of (hF _ _ h1)) (SqL.of (hF _ _ h2)) _ _ ⟨.bl _, H, I, rfl, ?_⟩
    rw [emp_rep t1]
    exact fin0 hF k o (.bl _)
  · exact op_Ne (by omega) pins s σ H x y v u Q I rx ry ⟨c, F, κ, dx, dy, d, fr, hF, k, r1, r2, e, o⟩
theorem op_EqL (hu : X.A.units + 65 < cLine) : OpR X (compareOp .Eq) (rOp X.K fa fEqL) := by
  intro pins s σ H x y v u Q I rx ry h
  obtain ⟨c, F, κ, dx, dy, d, fr, hF, k, r1, r2, e, o⟩ := h
  unfold fEqL at e
  split at e
  · split at e
    · rename_i hd
      cases e
      have hd2 := hd
      unfold D.deq at hd2
      rw [Bool.and_eq_true, decide_eq_true_eq] at hd2
      cases r1 with
      | lst h1 t1 =>
      cases r2 with
      | lst h2 t2 =>
      exact op_eqV (by omega) pins s σ H _ _ v u Q I rx ry ⟨49, by omega, .inl ⟨_, _, _, _, rfl, rfl, SqL.of (hF _ _ h1), SqL.of (hF _ _ h2), paired_of (deq_run hF 49) t1 t2 hd2.1 hd2.2⟩, fin0 hF k o (.bl _)⟩
    · cases e
  · cases e
theorem cop_ok (hu : X.A.units + 65 < cLine) (o : Cop) : OpR X (compareOp o.op) (rOp X.K fa o.f) := by
  cases o
  · exact op_EqA hu
  · exact op_NeA hu
  · exact op_Lt
  · exact op_Le
  · exact op_Gt
  · exact op_Ge
  · exact op_IsN
  · exact op_NotN
  · exact op_IsB
  · exact op_NotB
  · exact op_EqL hu
theorem aop_ok (o : Aop) : OpR X (inplaceOp o.op) (rOp X.K fa o.f) := by
  cases o
  · exact op_IAdd
  · exact op_IMul
  · exact op_IDiv
end
theorem cop_b (o : Cop) : ∀ d e p, o.f d e = some p → ∃ k, p = (.bl k, false) := by
  intro d e p h
  cases o
  all_goals (simp only [Cop.f] at h; first | unfold fEqA fEq at h | unfold fNeA fNe at h | unfold fLt at h | unfold fLe at h | unfold fGt at h | unfold fGe at h | unfold fIsN at h | unfold fNotN at h | unfold fIsB at h | unfold fNotB at h | unfold fEqL at h)
  all_goals (repeat' split at h)
  all_goals first | (cases h; done) | (cases h; exact ⟨_, rfl⟩)
section
variable {X : Cx} {fa : Nat → Option Addr} {cl : Nat → ClsI} {W : WX} {e : Expr} {es : List Expr} {m : SmL} {p pos : Pos}
theorem sn_Bi (b : Bi) (hgd : X.A.guards = some []) (hu : X.A.units + 65 < cLine) (hc : X.calm = true) (hg : Gl X b.nm) (hm : X.mg b.nm = none) (ha : SnL X fa cl W (e :: es) m)
    (he : starEach (e :: es) X.env = (false, eval e X.env) :: starEach es X.env) (hpl : (backTo pos (starEach es X.env)).any (·.1) = false) : SnE X fa cl W (.Call (.Name b.nm p) (e :: es) [] pos) (cBi b.g m) := by
  cases b
  · exact sn_bi bi_len hg hm rfl ha (by decide) (by decide) he hpl
  · exact sn_biT bi_int hg hm rfl ha (by decide) (by decide) he hpl
  · exact sn_bi bi_abs hg hm rfl ha (by decide) (by decide) he hpl
  · exact sn_bi (bi_max hc) hg hm rfl ha (by decide) (by decide) he hpl
  · exact sn_bi (bi_min hc) hg hm rfl ha (by decide) (by decide) he hpl
  · exact sn_biT bi_tup hg hm rfl ha (by decide) (by decide) he hpl
  · exact sn_biT (bi_lst hc) hg hm rfl ha (by decide) (by decide) he hpl
  · exact sn_bi (bi_all hc) hg hm rfl ha (by decide) (by decide) he hpl
  · exact sn_bi (bi_any hc) hg hm rfl ha (by decide) (by decide) he hpl
  · exact sn_bi (bi_sum hc) hg hm rfl ha (by decide) (by decide) he hpl
  · exact sn_bi bi_isi hg hm rfl ha (by decide) (by decide) he hpl
  · exact sn_bi bi_repr hg hm rfl ha (by decide) (by decide) he hpl
  · exact sn_bi (bi_sorted hc) hg hm rfl ha (by decide) (by decide) he hpl
  · exact sn_bi (bi_rep hgd hu) hg hm rfl ha (by decide) (by decide) he hpl
end
/-! ## small readings of the checks -/
theorem starEach_at {x : Expr} {xs : List Expr} {env : Env} (h : notStar x = true) : starEach (x :: xs) env = (false, eval x env) :: starEach xs env := by
  cases x <;> first | rfl | cases h
theorem assignEach_at {x : Expr} {xs : List Expr} {env : Env} (h : notStar x = true) : assignEach (x :: xs) env = (false, assign x env) :: assignEach xs env := by
  cases x <;> first | rfl | cases h
theorem backTo_no {pos : Pos} {env : Env} : ∀ {xs : List Expr}, xs.all notStar = true → (backTo pos (starEach xs env)).any (·.1) = false
  | [], _ => rfl
  | x :: xs, h => by
    rw [List.all_cons, Bool.and_eq_true] at h
    rw [starEach_at h.1]
    show ((false : Bool) || (backTo pos (starEach xs env)).any (·.1)) = false
    rw [backTo_no h.2]; rfl
theorem backTo_yes {pos : Pos} {env : Env} : ∀ {xs : List Expr}, xs.any (fun z => !notStar z) = true → (backTo pos (starEach xs env)).any (·.1) = true
  | [], h => by cases h
  | x :: xs, h => by
    rw [List.any_cons] at h
    cases hx : notStar x with
    | true =>
      rw [hx] at h
      rw [starEach_at hx]
      show ((false : Bool) || (backTo pos (starEach xs env)).any (·.1)) = true
      rw [backTo_yes (xs := xs) (by simpa using h)]; rfl
    | false =>
      cases x <;> first | rfl | cases hx
theorem set_at {it : Expr} {env : Env} (h : notSet it = true) : ∀ x, foldedSetIterable it env x = pure x := by
  intro x
  cases it <;> first | rfl | cases h
theorem swap_at {x : Expr} {t : Option Expr} {ln : Nat} {env : Env} (h : notComp x = true) : swapsWith x t ln env = pure false := by
  cases x <;> first | rfl | cases h
theorem slice_at {y : Expr} (h : notSlice y = true) : PlainIx y := plainIx_of (by cases y <;> first | rfl | exact h)
theorem vis_at {sc : Scope} {x : Str} (h : visC sc x = true) : Vis sc x := by
  unfold visC at h
  split at h
  · exact .inl (by assumption)
  · exact .inr (.inl (by assumption))
  · exact .inr (.inr (by assumption))
  · cases h
theorem loc_at {sc : Scope} {x : Str} (h : locC sc x = true) : Loc sc x := by
  unfold locC at h
  split at h
  · exact .inl (by assumption)
  · exact .inr (by assumption)
  · cases h
theorem isLoc_at {sc : Scope} {x : Str} (h : isLoc sc x = true) : sc.names.lookup x = some .local := by
  unfold isLoc at h
  split at h
  · assumption
  · cases h
theorem gl_at {sc : Scope} {x : Str} (h : glC sc x = true) : sc.names.lookup x = some .globalImplicit := by
  unfold glC at h
  split at h
  · assumption
  · cases h
theorem okN_at {x : Str} (h : okN x = true) : (x == ("__debug__" : Str)) = false ∧ (x == ("__classdict__" : Str)) = false ∧ x ≠ "__name__" := by
  unfold okN at h
  simp only [Bool.and_eq_true, Bool.not_eq_true', decide_eq_false_iff_not] at h
  exact ⟨h.1.1, h.1.2, h.2⟩
theorem atC_at {C : MC} {i : Nat} {x : Str} (h : atC C i x = true) : C.N[i]? = some x ∧ okN x = true := by
  unfold atC at h
  split at h
  · rename_i n e
    simp only [Bool.and_eq_true, decide_eq_true_eq] at h
    exact ⟨by rw [e, h.1], h.2⟩
  · cases h
theorem mLook_at {x : Str} {l : Lit} : ∀ {c : List (Str × Lit)}, mLook x l c = true → (x, l) ∈ c
  | [], h => by cases h
  | (n, k) :: r, h => by
    unfold mLook at h
    split at h
    · rename_i e
      rw [of_decide_eq_true h, e]; exact List.mem_cons_self
    · exact List.mem_cons_of_mem _ (mLook_at h)
theorem mLit_at {l : Lit} {c : Const} {X : Cx} {k : Nat} {pos : Pos} (h : mLit l c = true) : PE X (.Constant c k pos) (tC l.v) := by
  unfold mLit at h
  split at h
  · exact pe_non
  · rw [eq_of_beq h]; exact pe_bl
  · rw [of_decide_eq_true h]; exact pe_int
  · rw [of_decide_eq_true h]; exact pe_str
  · cases h
theorem Lit.rep (l : Lit) {K : PySem.W.Frag} {fa : Nat → Option Addr} {c : Option Addr} {F : Hp} : Rep K fa c F l.d l.v := by
  cases l
  · exact .non
  · exact .bl _
  · exact .int _
  · exact .str _
  · exact .non
/-! ## methods of one argument -/
section
variable {X : Cx} {fa : Nat → Option Addr} {cl : Nat → ClsI} {W : WX} {o x y z : Expr} {a b e : SmE} {pos apos cpos : Pos} {K : PySem.W.Frag} {c : Option Addr} {F H : Hp}
theorem isDict_at {d : D} {v : V} (hF : ∀ a o, F a = some o → H a = some o) (r : Rep K fa c F d v) (h : isDict d = true) : ∃ a, v = .ref a ∧ IsD H a := by
  cases r <;> try cases h
  · rename_i a ks kvs q t; exact ⟨a, rfl, .inl ⟨ks, Rd.of (hF _ _ q)⟩⟩
  · rename_i a ks kvs q t; exact ⟨a, rfl, .inr ⟨ks, Rd.of (hF _ _ q)⟩⟩
  · rename_i a od ks kvs q t; exact ⟨a, rfl, .inl ⟨ks, .inr ⟨od, hF _ _ q⟩⟩⟩
  · rename_i a od ks kvs qs q q1 q2 q3 t; exact ⟨a, rfl, .inr ⟨ks, .inr ⟨od, hF _ _ q⟩⟩⟩
theorem sn_get1 (hu : X.A.units + 1 < cLine) (ha : SnE X fa cl W o a) (hb : SnE X fa cl W x b) (m : M1 X o "get" apos x cpos) : SnE X fa cl W (.Call (.Attribute o "get" apos) [x] [] cpos) (cMt isDict fGet a b) := by
  refine PE.imp (fun σ H Q ⟨c, F0, H0, F, ρ, κ, r, o⟩ => ?_) (pe_dget1 hu ha hb m)
  refine ⟨c, F0, H0, F, ρ, κ, r, Out.bind o fun d κ1 F1 H1 v s1 k1 r1 o => ?_⟩
  by_cases hd : isDict d = true
  · rw [if_pos hd] at o
    obtain ⟨p, rfl, hp⟩ := isDict_at s1.inH r1 hd
    refine ⟨p, rfl, hp, c, F0, H0, F1, ρ, κ1, r.step s1 k1, Out.bind o fun d2 κ2 F2 H2 v2 s2 k2 r2 o => ?_⟩
    unfold fGet at o
    cases q : dLook d d2 with
    | none => rw [q] at o; exact o.elim
    | some oo =>
      rw [q] at o
      obtain ⟨a, ov, e, _, g, _, h1, h2⟩ := dLook_ok s2.inH (r1.sub s2.sub) r2 q
      cases e
      refine ⟨ov, g, ?_⟩
      cases oo with
      | none => rw [h2 rfl]; exact Out.pure s2.inH k2 o .non
      | some d =>
        obtain ⟨w, rfl, rw'⟩ := h1 d rfl
        exact Out.pure s2.inH k2 o rw'
  · rw [if_neg hd] at o; exact o.elim
theorem sn_get2 (hu : X.A.units + 1 < cLine) (ha : SnE X fa cl W o a) (hb : SnE X fa cl W x b) (he : SnE X fa cl W y e) (m : M2 X o "get" apos x y cpos) : SnE X fa cl W (.Call (.Attribute o "get" apos) [x, y] [] cpos) (cGet2 a b e) := by
  refine PE.imp (fun σ H Q ⟨c, F0, H0, F, ρ, κ, r, o⟩ => ?_) (pe_dget2 hu ha hb he m)
  refine ⟨c, F0, H0, F, ρ, κ, r, Out.bind o fun d κ1 F1 H1 v s1 k1 r1 o => ?_⟩
  by_cases hd : isDict d = true
  · rw [if_pos hd] at o
    obtain ⟨p, rfl, hp⟩ := isDict_at s1.inH r1 hd
    refine ⟨p, rfl, hp, c, F0, H0, F1, ρ, κ1, r.step s1 k1, Out.bind o fun d2 κ2 F2 H2 v2 s2 k2 r2 o => ?_⟩
    refine ⟨c, F0, H0, F2, ρ, κ2, (r.step s1 k1).step s2 k2, Out.bind o fun d3 κ3 F3 H3 v3 s3 k3 r3 o => ?_⟩
    cases q : dLook d d2 with
    | none => rw [q] at o; exact o.elim
    | some oo =>
      rw [q] at o
      obtain ⟨a, ov, e, _, g, _, h1, h2⟩ := dLook_ok s3.inH ((r1.sub s2.sub).sub s3.sub) (r2.sub s3.sub) q
      cases e
      refine ⟨ov, g, ?_⟩
      cases oo with
      | none => rw [h2 rfl]; exact Out.pure s3.inH k3 o r3
      | some d =>
        obtain ⟨w, rfl, rw'⟩ := h1 d rfl
        exact Out.pure s3.inH k3 o rw'
  · rw [if_neg hd] at o; exact o.elim
theorem idx_eqv {x : D} {n : Nat} (e : x.shp n = true) : ∀ {ys : List D} {m j : Nat}, shpL ys m = true → (ys.findIdx? fun z => z.eqv x) = some j →
    ∃ z, (toPyL ys)[j]? = some z ∧ PyData.eqv z x.toPy = true ∧ ∀ (i : Nat) (z' : PyData), i < j → (toPyL ys)[i]? = some z' → PyData.eqv z' x.toPy = false
  | [], m, j, _, h => by simp at h
  | y :: ys, m, j, hs, h => by
    unfold shpL at hs
    obtain ⟨h1, h2⟩ := Bool.and_eq_true_iff.mp hs
    have q := D.eqv_ok y x m n h1 e
    rw [List.findIdx?_cons] at h
    unfold toPyL
    by_cases hy : y.eqv x = true
    · rw [if_pos hy] at h
      cases h
      refine ⟨y.toPy, rfl, by rw [q]; exact hy, fun i z' hi => by omega⟩
    · rw [if_neg hy] at h
      obtain ⟨j', hj, rfl⟩ := Option.map_eq_some_iff.mp h
      obtain ⟨z, e1, e2, e3⟩ := idx_eqv e h2 hj
      refine ⟨z, e1, e2, fun i z' hi hz => ?_⟩
      cases i with
      | zero =>
        cases hz
        rw [q]
        exact Bool.not_eq_true _ ▸ hy
      | succ i => exact e3 i z' (by omega) hz
theorem sn_index (hu : X.A.units + 65 < cLine) (ha : SnE X fa cl W o a) (hb : SnE X fa cl W x b) (h1 : starEach [x] X.env = (false, eval x X.env) :: starEach [] X.env) (hline : (apos.endLine == cpos.line) = true)
    (hbase : attributeBase o "index" X.env (eval o X.env) = eval o X.env) :
    SnE X fa cl W (.Call (.Attribute o "index" apos) [x] [] cpos) (cMt isLstD fIdx a b) := by
  have hst : starEach [x] X.env = [(false, eval x X.env)] := h1
  refine PE.imp (fun σ H Q ⟨c, F0, H0, F, ρ, κ, r, o⟩ => ?_) (pe_bm PySem.F.plainAttrs_list PySem.F.slot_list_index PySem.F.type_list_index (mt_indexD hu) ha (pa_cons hb pa_nil h1) hbase (by rw [hst] <;> rfl) hline h1 rfl)
  refine ⟨c, F0, H0, F, ρ, κ, r, Out.bind o fun d κ1 F1 H1 v s1 k1 r1 o => ?_⟩
  by_cases hd : isLstD d = true
  · rw [if_pos hd] at o
    cases d <;> try cases hd
    rename_i ys
    have hrep := r1
    cases r1 with
    | lst q t =>
    rename_i p vs
    refine ⟨.inl ⟨rfl, vs, SqL.of (s1.inH _ _ q)⟩, ?_⟩
    refine ⟨c, F0, H0, F1, ρ, κ1, r.step s1 k1, Out.bind o fun d2 κ2 F2 H2 v2 s2 k2 r2 o => ?_⟩
    unfold fIdx at o
    dsimp only at o
    split at o
    · rename_i hb
      obtain ⟨b1, b2⟩ := Bool.and_eq_true_iff.mp hb
      cases hj : ys.findIdx? fun z => z.eqv d2 with
      | none => rw [hj] at o; exact o.elim
      | some j =>
        rw [hj] at o
        obtain ⟨z, e1, e2, e3⟩ := idx_eqv b1 b2 hj
        have b3 : (D.lst ys).shp 51 = true := b2
        refine ⟨p, v2, d2.toPy, toPyL ys, j, z, rfl, rfl, Rep.dp s2.inH (.lst ys) _ 51 (hrep.sub s2.sub) b3, Rep.dp s2.inH _ _ 50 r2 b1, ?_, ?_, e1, e2, e3, Out.pure s2.inH k2 o (.int _)⟩
        · obtain ⟨h1, h2⟩ := D.shp_ok _ 51 b3
          exact Bool.and_eq_true_iff.mpr ⟨h1, decide_eq_true (Nat.le_trans h2 (by decide))⟩
        · obtain ⟨h1, h2⟩ := D.shp_ok _ 50 b1
          unfold SeqAt.shaped; rw [h1, decide_eq_true (by omega)]; rfl
    · exact o.elim
  · rw [if_neg hd] at o; exact o.elim
end
theorem rcv_at {o : Expr} {n : Str} {env : Env} (h : rcvE o = true) : attributeBase o n env (eval o env) = eval o env := by
  unfold rcvE at h
  split at h
  · rfl
  · rfl
  · rename_i f y ys k p
    cases f <;> rfl
  · cases h
/-! ## the def that tells how a call ends: its text -/
def HR.short : HR → Bool
  | .one _ => true
  | .lits ss => decide (ss.length ≤ 1000)
  | .fld ss => decide (ss.length ≤ 1000)
  | .rep ss _ => decide (ss.length ≤ 1000)
theorem HR.short_at {h : HR} (e : h.short = true) : ∀ ss, (h = .lits ss ∨ h = .fld ss ∨ ∃ s, h = .rep ss s) → ss.length ≤ 1000 := by
  rintro ss (rfl | rfl | ⟨s, rfl⟩) <;> exact of_decide_eq_true e
def hdC (sg : Scope) (CL : List (Str × Option Str)) (err : Str) : Nat × HR → ExceptHandler → Bool
  | (k, hr), .ExceptHandler (some (.Name x _)) nm [.Return (some e) _] _ => (match CL[k]? with
    | some (y, f) => decide (x = y) && glC sg x && okN x && (match nm with | none => !hr.uses | some n => decide (n = err) && isLoc sg n && okN n) && hrC nm f hr e && hr.short && (!hr.isRep || glC sg "repr")
    | none => false)
  | _, _ => false
def hdsC (sg : Scope) (CL : List (Str × Option Str)) (err : Str) : List (Nat × HR) → List ExceptHandler → Bool
  | [], [] => true
  | l :: ls, h :: hs => hdC sg CL err l h && hdsC sg CL err ls hs
  | _, _ => false
/-- what is known of the classes -/
structure CLok (K : PySem.W.Frag) (mg : Str → Option Value) (cl : Nat → ClsI) (CL : List (Str × Option Str)) : Prop where
  at_ : ∀ k y f, CL[k]? = some (y, f) → ∃ C, mg y = some (.ref C) ∧ cl k = ⟨.ref C, f⟩ ∧ ∀ f', f = some f' → XfC K C ∧ PySem.W.findIn K (.ref C) f' = some none
  exm : ∀ k j, k < CL.length → j < CL.length → PySem.W.exmOne K (cl k).val (cl j).val = some (decide (k = j))
theorem hr_uses {nm f : Option Str} {h : HR} {e : Expr} (hc : hrC nm f h e = true) (hu : h.uses = true) : ∃ n f', nm = some n ∧ f = some f' := by
  unfold hrC at hc
  split at hc
  · cases hu
  · cases hu
  · split at hc
    · exact ⟨_, _, rfl, rfl⟩
    · cases hc
  · split at hc
    · exact ⟨_, _, rfl, rfl⟩
    · cases hc
  · cases hc
theorem hds_ok {Z : Cx} {fa : Nat → Option Addr} {cl : Nat → ClsI} {CL : List (Str × Option Str)} {par err : Str} {Wout : WX} {En : Ends} (hN : Z.N = [par, err]) (hne : par ≠ err) (hgd : Z.A.guards = some []) (hun : Z.A.units + 65 < cLine) (hm : Z.mg "repr" = none) (CK : CLok Z.K Z.mg cl CL) : ∀ (l : List (Nat × HR)) (hds : List ExceptHandler), hdsC Z.env.scope CL err l hds = true → ∃ L, HdsG Z hds L ∧
      ∀ (c : Option Addr) (F H : Hp) (κ : Kp) (k : Nat) (dv d' : D) (dd : Option Addr) (σ : L2.St) (hr : HR), (∀ a o, F a = some o → H a = some o) → Kap c κ F H → σ.length = 2 → k < CL.length → ExcAt Z.K fa c (cl k) F H dv dd → l.lookup k = some hr → hr.d dv = some d' →
        (∀ F' H' v', Stp Z.K c F H F' H' → Kap c κ F' H' → Rep Z.K fa c F' d' v' → En.rt v' H') → wG Z.K Wout En L (cl k).val dd σ H
  | [], [], _ => ⟨[], .nil, fun _ _ _ _ _ _ _ _ _ _ _ _ _ _ _ q => nomatch q⟩
  | (j, h) :: ls, hd :: hds, hc => by
    unfold hdsC at hc
    rw [Bool.and_eq_true] at hc
    obtain ⟨h1, h2⟩ := hc
    obtain ⟨L, hL, wish⟩ := hds_ok (fa := fa) (Wout := Wout) (En := En) hN hne hgd hun hm CK ls hds h2
    unfold hdC at h1
    split at h1
    · rename_i kk hh x np nm e rp pp e1
      cases e1
      split at h1
      · rename_i y f q
        simp only [Bool.and_eq_true, decide_eq_true_eq] at h1
        obtain ⟨⟨⟨⟨⟨⟨rfl, g1⟩, g2⟩, g3⟩, g4⟩, g5⟩, g8⟩ := h1
        obtain ⟨C, m1, m2, m3⟩ := CK.at_ _ _ _ q
        have hjl : j < CL.length := (List.getElem?_eq_some_iff.mp q).1
        have hnm : Names Z x (.ref C) := ⟨gl_at g1, (okN_at g2).1, .inl m1⟩
        have short := HR.short_at g5
        have nodup : Z.N.Nodup := by rw [hN]; simpa using hne
        -- the rule for the suite
        have key : ∀ (i : Nat), (h.uses = true → nm = some err ∧ ∀ f', f = some f' → HrOk Z C f' err i) → ∀ (a : Addr) (oe : Obj) (cls : Value) (d : Option Addr) (pn : List (Addr × Obj)), Zc cls d oe → (∃ vs, oe.data = .fields vs) →
            PSs (Z.suite a ((a, oe) :: pn)) [.Return (some e) rp] (tRet (hrT Z.K fa a cls d C (f.getD "") i h)) := fun i hu a oe cls d pn hz hf => by
          refine hr_suite (n := err) (f := f.getD "") (fo := f) (nm := nm) g4 (fun u => ?_) hgd hun (fun u => gl_at (by rw [u] at g8; exact g8)) hm hz hf
          obtain ⟨n, f', e1, e2⟩ := hr_uses g4 u
          obtain ⟨u1, u2⟩ := hu u
          subst e2
          exact ⟨u1, rfl, u2 f' rfl⟩
        have fin : ∀ {c : Option Addr} {F H : Hp} {κ : Kp} {dv d' : D} {dd : Option Addr} {σ : L2.St} {a : Addr} {i : Nat} {Q : VK}, (∀ a o, F a = some o → H a = some o) → Kap c κ F H → ExcAt Z.K fa c (cl j) F H dv dd → (h.uses = true → σ[i]? = some (some (.ref a))) → h.d dv = some d' →
            (∀ F' H' v', Stp Z.K c F H F' H' → Kap c κ F' H' → Rep Z.K fa c F' d' v' → Q v' H') → hrT Z.K fa a (.ref C) dd C (f.getD "") i h σ H Q := fun {c F H κ dv d' dd σ a i Q} hF k ea hs hd o => by
          refine hr_wish hF k (fun u => ⟨rfl, hs u, ?_⟩) hd short o
          obtain ⟨n, f', e1, e2⟩ := hr_uses g4 u
          subst e2
          unfold ExcAt at ea
          rw [m2] at ea
          exact ea
        cases nm with
        | none =>
          have nu : h.uses = true → False := fun u => by rw [u] at g3; cases g3
          refine ⟨(.ref C, none, fun a cls d => tRet (hrT Z.K fa a cls d C (f.getD "") 0 h)) :: L, .one hnm (key 0 fun u => (nu u).elim) hL, ?_⟩
          intro c F H κ k dv d' dd σ hr' hF kap hσ hk ea look hd o
          have ex := CK.exm k j hk hjl
          rw [m2] at ex
          refine ⟨_, ex, fun et a ha => ?_, fun ef => ?_⟩
          · have : k = j := of_decide_eq_true et
            subst this
            rw [List.lookup_cons, beq_self_eq_true] at look
            cases look
            show hrT _ _ _ _ _ _ _ _ _ _ _ _
            rw [m2]
            exact fin hF kap ea (fun u => (nu u).elim) hd o
          · have : k ≠ j := of_decide_eq_false ef
            rw [List.lookup_cons, beq_eq_false_iff_ne.mpr this] at look
            exact wish c F H κ k dv d' dd σ hr' hF kap hσ hk ea look hd o
        | some n =>
          simp only [Bool.and_eq_true, decide_eq_true_eq] at g3
          obtain ⟨⟨rfl, g6⟩, g7⟩ := g3
          have hln := isLoc_at g6
          have hi : Z.N[1]? = some n := by rw [hN]; rfl
          refine ⟨(.ref C, some 1, fun a cls d => tRet (hrT Z.K fa a cls d C (f.getD "") 1 h)) :: L, .as_ nodup hi hln hnm (key 1 fun u => ⟨rfl, fun f' ef => ?_⟩) hL, ?_⟩
          · obtain ⟨x1, x2⟩ := m3 f' ef
            exact ⟨x1, x2, hi, .inl hln, (okN_at g7).1, (okN_at g7).2.1⟩
          intro c F H κ k dv d' dd σ hr' hF kap hσ hk ea look hd o
          have ex := CK.exm k j hk hjl
          rw [m2] at ex
          refine ⟨_, ex, fun et a ha => ?_, fun ef => ?_⟩
          · have : k = j := of_decide_eq_true et
            subst this
            rw [List.lookup_cons, beq_self_eq_true] at look
            cases look
            show hrT _ _ _ _ _ _ _ _ _ _ _ _
            rw [m2]
            exact fin hF kap ea (fun u => by rw [List.getElem?_set_self (by omega)]) hd o
          · have : k ≠ j := of_decide_eq_false ef
            rw [List.lookup_cons, beq_eq_false_iff_ne.mpr this] at look
            exact wish c F H κ k dv d' dd σ hr' hF kap hσ hk ea look hd o
      · cases h1
    · cases h1
/-- what follows an exception of the body -/
def tellX (K : PySem.W.Frag) (fa : Nat → Option Addr) (cl : Nat → ClsI) (n : Nat) (M : MetD) (Q : VK) : XK := fun cls dd H => ∃ (c : Option Addr) (F : Hp) (κ : Kp) (k : Nat) (dv d' : D) (hr : HR), (∀ a o, F a = some o → H a = some o) ∧ Kap c κ F H ∧ k < n ∧ cls = (cl k).val ∧
  ExcAt K fa c (cl k) F H dv dd ∧ M.hs.lookup k = some hr ∧ hr.d dv = some d' ∧ ∀ F' H' v', Stp K c F H F' H' → Kap c κ F' H' → Rep K fa c F' d' v' → Q v' H'
def tellV (M : MetD) (Q : VK) : VK := fun v H => ([V.str M.tag, v] : List V).length ≤ sizeLine ∧ ∀ p, H p = none → Q (.ref p) (upd H p (.tup [.str M.tag, v]))
def tTell (K : PySem.W.Frag) (fa : Nat → Option Addr) (cl : Nat → ClsI) (n : Nat) (M : MetD) : (XK → Hp → VK → Prop) → Hp → VK → Prop := fun tl H Q => tl (tellX K fa cl n M Q) H (tellV M Q)
theorem start2 {a b : Str} {v : V} : (L2.start [a, b] [v]).length = 2 ∧ (L2.start [a, b] [v])[0]? = some (some v) := ⟨rfl, rfl⟩
theorem met_gives {X : Cx} {fa : Nat → Option Addr} {cl : Nat → ClsI} {CL : List (Str × Option Str)} {M : MetD} {sg : Scope} {g : Addr} {cdg : Value} {q x : Str} {j kt : Nat} {q1 p1 p2 qt p3 p8 : Pos} {h0 : ExceptHandler} {hds : List ExceptHandler}
    (hne : M.par ≠ M.err) (hgd : X.A.guards = some []) (hun : X.A.units + 68 < cLine) (hm : X.mg "repr" = none) (CK : CLok X.K X.mg cl CL) (hc : hdsC sg CL M.err M.hs (h0 :: hds) = true) :
    GivesG X [M.par, M.err] x sg g cdg [.Try [.Return (some (.Tuple [.Constant (.str M.tag) j q1, .Call (.Name M.par p1) [] [] p2] kt qt)) p3] (h0 :: hds) [] [] p8] M.par q (tTell X.K fa cl CL.length M) := by
  intro f c' s H Q tl act hco h
  let Z : Cx := (cxOf C8.CX0 X.prog X.w X.K X.mg X.base [M.par, M.err] x sg g cdg X.A X.stack s H C8.E0).nox
  let En : Ends := { nx := fun _ H' => Q .non H', rt := Q }
  obtain ⟨L, hL, wish⟩ := hds_ok (Z := Z) (fa := fa) (cl := cl) (CL := CL) (par := M.par) (err := M.err) (Wout := fun _ _ _ _ => False) (En := En) rfl hne hgd (by show X.A.units + 3 + 65 < cLine; omega) hm CK M.hs (h0 :: hds) hc
  refine ⟨_, pss_one (ps_try_g (X := Z) (l := L) (Wout := fun _ _ _ _ => False)
    (tb := fun W D σ H => ∃ Ech : XK, σ[0]? = some (some (.ref f)) ∧ H c' = some (LamX.CodeO c' q) ∧ (∀ cls d H', Ech cls d H' → W cls d σ H') ∧ tl Ech H (fun v H1 => ([V.str M.tag, v] : List V).length ≤ sizeLine ∧ ∀ p, H1 p = none → D.rt (.ref p) (upd H1 p (.tup [.str M.tag, v]))))
    rfl rfl takes0 (fun W pn xe tk _ => ?_) hL), ?_⟩
  · have hp : PE (Z.tr pn xe) (.Call (.Name M.par p1) [] [] p2) (fun σ H Q => ∃ Ech : XK, σ[0]? = some (some (.ref f)) ∧ H c' = some (LamX.CodeO c' q) ∧ (∀ cls d H', Ech cls d H' → W cls d σ H') ∧ tl Ech H Q) :=
      ⟨fun pins s σ H Q I ⟨Ech, hh⟩ => (act W pn xe Ech p1 p2 tk).run pins s σ H Q I hh⟩
    have hq := pss_one (ps_ret (pos := p3) (pe_tup (x1 := kt) (pos := qt) (pa_cons (pe_str (X := Z.tr pn xe) (x := M.tag) (j := j) (pos := q1)) (pa_cons hp pa_nil (by rfl)) (by rfl))))
    exact PSs.imp (fun D σ H ⟨Ech, h1, h2, h3, h4⟩ => ⟨Ech, h1, h2, h3, h4⟩) hq
  · refine ⟨tellX X.K fa cl CL.length M Q, rfl, hco, ?_, h⟩
    rintro cls d H' ⟨c, F, κ, k, dv, d', hr, w1, w2, w3, rfl, w5, w6, w7, w8⟩
    exact wish c F H' κ k dv d' d _ hr w1 w2 rfl w3 w5 w6 w7 w8
/-- what the text says of the def that tells how a call ends -/
structure MetOk (K : PySem.W.Frag) (mg : Str → Option Value) (CL : List (Str × Option Str)) (M : MetD) : Prop where
  ex : ∃ (g : Addr) (oc : Value) (od : Option Addr) (pg : Arguments) (sg : Scope) (dV kV doc pm cdv ct : Value) (an : Option Addr) (osl : Array (Option Value)) (h0 : ExceptHandler) (hds : List ExceptHandler) (j kt : Nat) (q1 p1 p2 qt p3 p8 : Pos),
    mg M.name = some (.ref g) ∧ PySem.W.keepIn K (.ref g) = true ∧
    K.lookup g = some ⟨oc, od, .func (PySem.W.fnOf M.name M.name pg [.Try [.Return (some (.Tuple [.Constant (.str M.tag) j q1, .Call (.Name M.par p1) [] [] p2] kt qt)) p3] (h0 :: hds) [] [] p8] sg dV kV doc pm an cdv ct), osl⟩ ∧ PySem.W.codeIn K cdv M.name = true ∧
    L2.Binds K (PySem.W.fnOf M.name M.name pg [.Try [.Return (some (.Tuple [.Constant (.str M.tag) j q1, .Call (.Name M.par p1) [] [] p2] kt qt)) p3] (h0 :: hds) [] [] p8] sg dV kV doc pm an cdv ct) [M.par] [] ∧ FnScope [M.par, M.err] [M.par] sg ∧ Vis sg M.par ∧
    hdsC sg CL M.err M.hs (h0 :: hds) = true
  ne : M.par ≠ M.err
  d1 : (M.par == ("__debug__" : Str)) = false
  d2 : (M.par == ("__classdict__" : Str)) = false
  lt : ∀ k h, M.hs.lookup k = some h → k < CL.length
theorem bind0 {q : Str} {bd : Expr} {sc : Scope} {cl : List (Str × Addr)} {pm cv ctv : Value} : bindArgs (PySem.W.kla_fn "<lambda>" q ⟨[], [], none, [], [], none, []⟩ bd sc cl pm cv ctv) ⟨[], []⟩ = pure [] := by
  rfl
theorem sn_met {X : Cx} {fa : Nat → Option Addr} {cl : Nat → ClsI} {W : WX} {CL : List (Str × Option Str)} {M : MetD} {m : SmE} {bd : Expr} {sc : Scope} {p lpos pos : Pos} {c P : Addr} {k : Nat} (MO : MetOk X.K X.mg CL M) (CK : CLok X.K X.mg cl CL)
    (hg : Gl X M.name) (hdb : (M.name == ("__debug__" : Str)) = false) (B : LamX.TabB X.base X.mg c P) (hcode : X.env.code = .ref c) (hmT : (P, X.env.qual ++ "<lambda>") ∈ tabsOf X.K) (hu : ∀ p ∈ tabsOf X.K, p.1 = P → p.2 = X.env.qual ++ "<lambda>")
    (hr : Room (k + 2) X.A) (hgd : X.A.guards = some []) (hun : X.A.units + 68 < cLine) (hm : X.mg "repr" = none) (L : LamX.LamS X.env.scope sc)
    (hbody : ∀ (A : Around) (outer : List Env) (s : Shared) (H : Hp) (E : XK) (f c' : Addr), Room k (A.deeper (LamX.lamEnv X sc s.heap.objs.size f c')) → A.guards = some [] → SnE (LamX.lamCx X A outer s H E sc f c') fa cl (fun cls d _ H => E cls d H) bd m) :
    SnE X fa cl W (.Call (.Name M.name p) [.Lambda ⟨[], [], none, [], [], none, []⟩ bd sc lpos] [] pos) (metSem M m) := by
  obtain ⟨g, oc, od, pg, sg, dV, kV, doc, pm, cdv, ct, an, osl, h0, hds, j, kt, q1, p1, p2, qt, p3, p8, f1, f2, f3, f4, f5, f6, f7, f8⟩ := MO.ex
  refine PE.imp (fun σ H Q ⟨c0, F0, H0, F, ρ, κ, r, o⟩ => ?_) (pe_lamG (TT := tTell X.K fa cl CL.length M) (t := fun E => tE X fa cl (fun cls d _ H => E cls d H) m) hg f1 f2 f3 f4 f5 f6 rfl f7
    (met_gives MO.ne hgd hun hm CK f8) B hcode hmT hu hr hgd L rfl (fun q cl pm cv ctv => bind0) hbody hdb MO.d1 MO.d2)
  refine ⟨r.tab, fun H1 ext dom tab => ?_⟩
  obtain ⟨st, kp⟩ := lam_step r.inH r.kap ext dom tab
  refine ⟨c0, F0, H0, noTbl F, ρ, κ, r.step st kp, ?_⟩
  unfold metSem at o
  cases em : m ρ κ with
  | ok d fr κ1 =>
    rw [em] at o
    intro F2 H2 v s2 k2 ef fresh
    refine ⟨by rw [sizeLine_eq]; show 2 ≤ 16777216; omega, fun p hp => ?_⟩
    obtain ⟨F3, s3, k3, _, r3⟩ := ef.still s2 k2 fresh
    exact o _ _ (.ref p) ((st.trans s3).trans (Stp.laid s3.inH hp)) (k3.laid hp) (.tup upd_same (.cons (.str M.tag) (.cons (r3.sub (Stp.laid (K := X.K) (c := c0) s3.inH hp).sub) .nil))) (fun q => nomatch q)
  | exc k dv κ1 =>
    rw [em] at o
    dsimp only at o
    intro F2 H2 dd s2 k2 ea
    cases look : M.hs.lookup k with
    | none => rw [look] at o; exact o.elim
    | some h =>
      rw [look] at o
      dsimp only at o
      cases hd : h.d dv with
      | none => rw [hd] at o; exact o.elim
      | some d' =>
        rw [hd] at o
        exact ⟨c0, F2, κ1, k, dv, d', h, s2.inH, k2, MO.lt k h look, rfl, ea, look, hd, fun F' H' v' s' k' r' => o F' H' v' (st.trans (s2.trans s')) k' r' (fun q => nomatch q)⟩
  | bad => rw [em] at o; exact o.elim
/-! ## the checks are sound -/
structure Good (X : Cx) (fa : Nat → Option Addr) (cl : Nat → ClsI) (W : WX) (C : MC) (Γ : Gam) : Prop where
  sc : X.env.scope = C.sc
  N : X.N = C.N
  nd : C.N.Nodup
  calm : X.calm = true
  hfn : ∀ n, C.fnc n = true → X.fn n = true
  hu : X.A.units + 65 < cLine
  tk : Takes X W
  funs : ∀ i x, C.fns[i]? = some x → ∃ k a fd ps, fa i = some a ∧ FnG X.prog X.w X.K X.mg X.base k a fd ps (spF X.K fa cl (Γ (C.off + i))) ∧ Room k X.A ∧ X.mg x = some (.ref a) ∧ PySem.W.keepIn X.K (.ref a) = true ∧ Binds X.K fd ps []
  con : ∀ x l, (x, l) ∈ C.con → ∃ u, X.mg x = some u ∧ LitOk X.K l u
  bi : ∀ b : Bi, X.mg b.nm = none
  ty : ∀ t : Ty, X.mg t.name = none
  rng : X.mg "range" = none ∧ X.mg "zip" = none ∧ X.mg "enumerate" = none
  gd : X.A.guards = some []
  hu2 : X.A.units + 68 < cLine
  rp : X.mg "repr" = none
  fnv : ∀ i a, fa i = some a → ∃ k fd ps, FnG X.prog X.w X.K X.mg X.base k a fd ps (spF X.K fa cl (Γ (C.off + i))) ∧ Room k X.A ∧ PySem.W.keepIn X.K (.ref a) = true ∧ Binds X.K fd ps []
  lamF : C.lam = true → (∃ c P, LamX.TabB X.base X.mg c P ∧ X.env.code = .ref c ∧ (P, X.env.qual ++ "<lambda>") ∈ tabsOf X.K ∧ ∀ p ∈ tabsOf X.K, p.1 = P → p.2 = X.env.qual ++ "<lambda>") ∧ CLok X.K X.mg cl C.cls ∧ (∀ M ∈ C.mets, MetOk X.K X.mg C.cls M) ∧ ∃ k, Room (k + 2) X.A ∧
    (∀ i x, C.fns[i]? = some x → ∃ a fd ps, fa i = some a ∧ FnG X.prog X.w X.K X.mg X.base k a fd ps (spF X.K fa cl (Γ (C.off + 2000 + i))) ∧ X.mg x = some (.ref a) ∧ PySem.W.keepIn X.K (.ref a) = true ∧ Binds X.K fd ps []) ∧
    ∀ i a, fa i = some a → ∃ fd ps, FnG X.prog X.w X.K X.mg X.base k a fd ps (spF X.K fa cl (Γ (C.off + 2000 + i))) ∧ PySem.W.keepIn X.K (.ref a) = true ∧ Binds X.K fd ps []
structure Snd (X : Cx) (fa : Nat → Option Addr) (cl : Nat → ClsI) (W : WX) (x : Expr) (m : SmE) : Prop where
  e : SnE X fa cl W x m
  t : SnT X fa cl W x m
  w : ∀ op l pos, x = .BoolOp op l pos → SwT X fa cl W x m
section
variable {X : Cx} {fa : Nat → Option Addr} {cl : Nat → ClsI} {W : WX} {C : MC} {Γ : Gam}
theorem Good.at_ (G : Good X fa cl W C Γ) {i : Nat} {x : Str} (h : atC C i x = true) : X.N[i]? = some x ∧ (x == ("__debug__" : Str)) = false ∧ (x == ("__classdict__" : Str)) = false := by
  obtain ⟨h1, h2⟩ := atC_at h
  exact ⟨by rw [G.N]; exact h1, (okN_at h2).1, (okN_at h2).2.1⟩
theorem Good.vis (G : Good X fa cl W C Γ) {x : Str} (h : visC C.sc x = true) : Vis X.env.scope x := by rw [G.sc]; exact vis_at h
theorem Good.loc (G : Good X fa cl W C Γ) {x : Str} (h : locC C.sc x = true) : Loc X.env.scope x := by rw [G.sc]; exact loc_at h
theorem Good.gl (G : Good X fa cl W C Γ) {x : Str} (h : glC C.sc x = true) : Gl X x := by
  show X.env.scope.names.lookup x = _
  rw [G.sc]; exact gl_at h
theorem Good.set (G : Good X fa cl W C Γ) {x : Str} (h : setFn C x = true) : X.fn x = true ∨ X.env.scope.names.lookup x = some .local := by
  unfold setFn at h
  rw [Bool.or_eq_true, Bool.and_eq_true] at h
  rcases h with h | h
  · exact .inr (by rw [G.sc]; exact isLoc_at h)
  · exact .inl (G.hfn _ h.2)
theorem Good.ndX (G : Good X fa cl W C Γ) : X.N.Nodup := by rw [G.N]; exact G.nd
theorem Good.blk (G : Good X fa cl W C Γ) {s : Shared} {H : Hp} {scope : Scope} {L : Addr} {cells : List (Str × Addr)} {fp : List Addr} : Good (X.blk s H scope (compEnvC scope cells L X.env) fp) fa cl WF (C.blk scope) Γ where
  sc := by show relS scope X.env.scope = _; rw [G.sc]; rfl
  N := G.N
  nd := G.nd
  calm := G.calm
  hfn := fun n h => h
  hu := G.hu
  tk := takes0
  funs := G.funs
  con := G.con
  bi := G.bi
  ty := G.ty
  rng := G.rng
  gd := G.gd
  hu2 := G.hu2
  rp := G.rp
  fnv := G.fnv
  lamF := fun h => nomatch h
theorem Good.lam (G : Good X fa cl W C Γ) (hl : C.lam = true) {sc : Scope} {k : Nat} {A : Around} {outer : List Env} {s : Shared} {H : Hp} {E : XK} {f c' : Addr} (hr : Room k (A.deeper (LamX.lamEnv X sc s.heap.objs.size f c'))) (hg : A.guards = some [])
    (h1 : ∀ i x, C.fns[i]? = some x → ∃ a fd ps, fa i = some a ∧ FnG X.prog X.w X.K X.mg X.base k a fd ps (spF X.K fa cl (Γ (C.off + 2000 + i))) ∧ X.mg x = some (.ref a) ∧ PySem.W.keepIn X.K (.ref a) = true ∧ Binds X.K fd ps [])
    (h2 : ∀ i a, fa i = some a → ∃ fd ps, FnG X.prog X.w X.K X.mg X.base k a fd ps (spF X.K fa cl (Γ (C.off + 2000 + i))) ∧ PySem.W.keepIn X.K (.ref a) = true ∧ Binds X.K fd ps []) :
    Good (LamX.lamCx X A outer s H E sc f c') fa cl (fun cls d _ H => E cls d H) (C.inLam sc) Γ where
  sc := rfl
  N := G.N
  nd := G.nd
  calm := rfl
  hfn := fun n h => nomatch h
  hu := by have := hr.un; show (A.deeper (LamX.lamEnv X sc s.heap.objs.size f c')).units + 65 < _; omega
  tk := takes_of rfl rfl rfl rfl
  funs := fun i x hx => by
    obtain ⟨a, fd, ps, q1, q2, q3, q4, q5⟩ := h1 i x hx
    exact ⟨k, a, fd, ps, q1, q2, hr, q3, q4, q5⟩
  con := G.con
  bi := G.bi
  ty := G.ty
  rng := G.rng
  gd := hg
  hu2 := by have := hr.un; show (A.deeper (LamX.lamEnv X sc s.heap.objs.size f c')).units + 68 < _; omega
  rp := G.rp
  fnv := fun i a hx => by
    obtain ⟨fd, ps, q1, q2, q3⟩ := h2 i a hx
    exact ⟨k, fd, ps, q1, hr, q2, q3⟩
  lamF := fun h => nomatch h
theorem snd_of {x : Expr} {m : SmE} (h : SnE X fa cl W x m) (he : ∀ whole, isTrue x X.env whole = (do let v ← whole; standAt x.pos; holding [v] (truthy v))) (hb : ∀ op l pos, x ≠ .BoolOp op l pos) : Snd X fa cl W x m := ⟨h, st_of h he, fun op l pos e => absurd e (hb op l pos)⟩
/-! ### targets -/
mutual
theorem mT_len : ∀ (C : MC) (ts : Tts) (xs : List Expr), mTs C ts xs = true → xs.length = ts.len ∧ xs.all notStar = true
  | C, .nil, [], _ => ⟨rfl, rfl⟩
  | C, .nil, x :: xs, h => by unfold mTs at h; cases h
  | C, .cons t ts, [], h => by unfold mTs at h; cases h
  | C, .cons t ts, x :: xs, h => by
    unfold mTs at h
    simp only [Bool.and_eq_true] at h
    obtain ⟨h1, h2⟩ := mT_len C ts xs h.2
    refine ⟨by rw [List.length_cons, h1]; rfl, by rw [List.all_cons, h.1.1, h2]; rfl⟩
end
theorem asgEach_no {env : Env} : ∀ {xs : List Expr}, xs.all notStar = true → (assignEach xs env).length = xs.length ∧ (assignEach xs env).findIdx? (·.1) = none
  | [], _ => ⟨rfl, rfl⟩
  | x :: xs, h => by
    rw [List.all_cons, Bool.and_eq_true] at h
    obtain ⟨h1, h2⟩ := asgEach_no (env := env) h.2
    rw [assignEach_at h.1]
    refine ⟨by simp [h1], ?_⟩
    rw [List.findIdx?_cons]
    simp [h2]
mutual
theorem mT_sound (G : Good X fa cl W C Γ) : ∀ (t : Tt) (x : Expr), mT C t x = true → SnG X fa t.slots x (evT t)
  | .nm i, x, h => by
    unfold mT at h
    split at h
    · rename_i n p
      simp only [Bool.and_eq_true] at h
      exact sg_name G.ndX (G.at_ h.1.1).1 (G.loc h.1.2) (G.set h.2)
    · cases h
  | .tp ts, x, h => by
    unfold mT at h
    split at h
    · rename_i es k p
      obtain ⟨h1, h2⟩ := mT_len C ts es h
      obtain ⟨h3, h4⟩ := asgEach_no (env := X.env) h2
      unfold evT Tt.slots
      exact sg_tup G.calm (mTs_sound G ts es h) (h3.trans h1) h4
    · cases h
theorem mTs_sound (G : Good X fa cl W C Γ) : ∀ (t : Tts) (x : List Expr), mTs C t x = true → SnGs X fa t.slots x (evTs t)
  | .nil, [], _ => by unfold evTs Tts.slots; exact sgs_nil
  | .nil, x :: xs, h => by unfold mTs at h; cases h
  | .cons t ts, [], h => by unfold mTs at h; cases h
  | .cons t ts, x :: xs, h => by
    unfold mTs at h
    simp only [Bool.and_eq_true] at h
    unfold evTs Tts.slots
    exact sgs_cons (mT_sound G t x h.1.2) (mTs_sound G ts xs h.2) (by rw [assignEach_at h.1.1]; rfl)
end
/-! ### expressions -/
theorem mEs_len : ∀ {C : MC} {es : Es} {xs : List Expr}, mEs C es xs = true → xs.length = es.len ∧ xs.all notStar = true
  | C, .nil, [], _ => ⟨rfl, rfl⟩
  | C, .nil, x :: xs, h => by unfold mEs at h; cases h
  | C, .cons t ts, [], h => by unfold mEs at h; cases h
  | C, .cons t ts, x :: xs, h => by
    unfold mEs at h
    simp only [Bool.and_eq_true] at h
    obtain ⟨h1, h2⟩ := mEs_len h.2
    refine ⟨by rw [List.length_cons, h1]; rfl, by rw [List.all_cons, h.1.1, h2]; rfl⟩
theorem pts_of {x : List Expr} {o : Option SmE} (h : match x, o with | [], none => True | [y], some m => SnT X fa cl W y m | _, _ => False) : PTs X x (tT X fa cl W (evYes o)) := by
  match x, o, h with
  | [], none, _ =>
    refine ⟨fun pins s σ H Q I hw => pts_nil.run pins s σ H Q I ?_⟩
    obtain ⟨c, F0, H0, F, ρ, κ, r, o⟩ := hw
    exact OutT.val r.inH r.kap o
  | [y], some m, h => exact pts_one h
end
mutual
theorem E.sound : ∀ {X : Cx} {fa : Nat → Option Addr} {cl : Nat → ClsI} {W : WX} {C : MC} {Γ : Gam}, Good X fa cl W C Γ → ∀ (e : E) (x : Expr), mE C e x = true → Snd X fa cl W x (evE Γ e)
  | X, fa, cl, W, C, Γ, G, .lit l, x, h => by
    unfold mE at h
    split at h
    · unfold evE
      exact snd_of (sn_val (mLit_at h) fun _ _ => l.rep) (fun _ => rfl) (fun _ _ _ z => by cases z)
    · cases h
  | X, fa, cl, W, C, Γ, G, .var i, x, h => by
    unfold mE at h
    split at h
    · rename_i n p
      simp only [Bool.and_eq_true] at h
      obtain ⟨h1, h2, h3⟩ := G.at_ h.1
      unfold evE
      exact snd_of (sn_var h1 (G.vis h.2) h2 h3) (fun _ => rfl) (fun _ _ _ z => by cases z)
    · cases h
  | X, fa, cl, W, C, Γ, G, .glo l, x, h => by
    unfold mE at h
    split at h
    · rename_i n p
      simp only [Bool.and_eq_true] at h
      obtain ⟨u, h1, h2⟩ := G.con n l (mLook_at h.2.1)
      unfold evE
      exact snd_of (sn_val (pe_glob (G.gl h.1.1) h1 (litOk_flat h.2.2 h2) (okN_at h.1.2).1) fun _ _ => l.rep) (fun _ => rfl) (fun _ _ _ z => by cases z)
    · cases h
  | X, fa, cl, W, C, Γ, G, .inK a ls, x, h => by
    unfold mE at h
    split at h
    · rename_i y op n p q
      simp only [Bool.and_eq_true, decide_eq_true_eq] at h
      obtain ⟨⟨⟨⟨rfl, h1⟩, h2⟩, h3⟩, h4⟩ := h
      obtain ⟨u, g1, p', rfl, g2⟩ := G.con n (.ct ls) (mLook_at h4)
      unfold evE
      exact ⟨sn_inK (G.gl h2) g1 g2 (okN_at h3).1 (E.sound G a y h1).e, st_inK (G.gl h2) g1 g2 (okN_at h3).1 (E.sound G a y h1).e, fun _ _ _ z => by cases z⟩
    · cases h
  | X, fa, cl, W, C, Γ, G, .ty t, x, h => by
    unfold mE at h
    split at h
    · rename_i n p
      simp only [Bool.and_eq_true, decide_eq_true_eq] at h
      obtain ⟨h1, rfl⟩ := h
      unfold evE
      refine snd_of (sn_val (v := .ty t.name) ?_ fun _ _ => .ty t) (fun _ => rfl) (fun _ _ _ z => by cases z)
      have hm := G.ty t
      cases t
      all_goals exact pe_bltn (G.gl h1) hm rfl rfl (by decide) (by decide)
    · cases h
  | X, fa, cl, W, C, Γ, G, .fnv i, x, h => by
    unfold mE at h
    split at h
    · rename_i n p
      simp only [Bool.and_eq_true, decide_eq_true_eq] at h
      obtain ⟨k, a, fd, ps, h1, _, _, h2, _, _⟩ := G.funs i n h.2
      unfold evE
      exact snd_of (sn_val (v := .ref a) (pe_glob (G.gl h.1.1) h2 rfl (okN_at h.1.2).1) fun _ _ => .fn h1) (fun _ => rfl) (fun _ _ _ z => by cases z)
    · cases h
  | X, fa, cl, W, C, Γ, G, .bin o a b, x, h => by
    unfold mE at h
    split at h
    · rename_i l op r p
      simp only [Bool.and_eq_true, decide_eq_true_eq] at h
      obtain ⟨⟨rfl, h1⟩, h2⟩ := h
      unfold evE
      exact snd_of (sn_bin (bop_ok o) (E.sound G a l h1).e (E.sound G b r h2).e) (fun _ => rfl) (fun _ _ _ z => by cases z)
    · cases h
  | X, fa, cl, W, C, Γ, G, .neg a, x, h => by
    unfold mE at h
    split at h
    · rename_i op l p
      simp only [Bool.and_eq_true, decide_eq_true_eq] at h
      obtain ⟨rfl, h1⟩ := h
      unfold evE
      exact snd_of (sn_un op_Neg (E.sound G a l h1).e) (fun _ => rfl) (fun _ _ _ z => by cases z)
    · cases h
  | X, fa, cl, W, C, Γ, G, .nt a, x, h => by
    unfold mE at h
    split at h
    · rename_i op l p
      simp only [Bool.and_eq_true, decide_eq_true_eq] at h
      obtain ⟨rfl, h1⟩ := h
      unfold evE
      exact ⟨sn_notT (E.sound G a l h1).e, st_not (E.sound G a l h1).t, fun _ _ _ z => by cases z⟩
    · cases h
  | X, fa, cl, W, C, Γ, G, .cmp o a b, x, h => by
    unfold mE at h
    split at h
    · rename_i l op r p
      simp only [Bool.and_eq_true, decide_eq_true_eq, Bool.not_eq_true'] at h
      obtain ⟨⟨⟨rfl, h1⟩, h2⟩, h3⟩ := h
      unfold evE
      exact ⟨sn_cmp (cop_ok G.hu o) (E.sound G a l h1).e (E.sound G b r h2).e h3, st_cmp (cop_ok G.hu o) (cop_b o) (E.sound G a l h1).e (E.sound G b r h2).e h3, fun _ _ _ z => by cases z⟩
    · cases h
  | X, fa, cl, W, C, Γ, G, .chain o p a b c, x, h => by
    unfold mE at h
    split at h
    · rename_i l op op' r s pp
      simp only [Bool.and_eq_true, decide_eq_true_eq, Bool.not_eq_true'] at h
      obtain ⟨⟨⟨⟨⟨rfl, rfl⟩, h1⟩, h2⟩, h3⟩, h4⟩ := h
      unfold evE
      exact ⟨sn_chain (cop_ok G.hu o) (cop_ok G.hu p) (E.sound G a l h1).e (E.sound G b r h2).e (E.sound G c s h3).e h4, st_chain (cop_ok G.hu o) (cop_ok G.hu p) (cop_b p) (E.sound G a l h1).e (E.sound G b r h2).e (E.sound G c s h3).e h4, fun _ _ _ z => by cases z⟩
    · cases h
  | X, fa, cl, W, C, Γ, G, .inA a b, x, h => by
    unfold mE at h
    split at h
    · rename_i l op r p
      simp only [Bool.and_eq_true, decide_eq_true_eq, Bool.not_eq_true'] at h
      obtain ⟨⟨⟨rfl, h1⟩, h2⟩, h3⟩ := h
      have hu : X.A.units + 1 < cLine := by have := G.hu; omega
      unfold evE
      have qa := (E.sound G a l h1).e
      have qb := (E.sound G b r h2).e
      exact ⟨SnE.two (sn_din hu qa qb h3) (sn_cmp (op_In G.hu) qa qb h3) (two_eq fInA_eq), SnT.two (st_din hu qa qb h3) (st_cmp (op_In G.hu) fIn_b qa qb h3) (two_eq fInA_eq), fun _ _ _ z => by cases z⟩
    · cases h
  | X, fa, cl, W, C, Γ, G, .niA a b, x, h => by
    unfold mE at h
    split at h
    · rename_i l op r p
      simp only [Bool.and_eq_true, decide_eq_true_eq, Bool.not_eq_true'] at h
      obtain ⟨⟨⟨rfl, h1⟩, h2⟩, h3⟩ := h
      have hu : X.A.units + 1 < cLine := by have := G.hu; omega
      unfold evE
      have qa := (E.sound G a l h1).e
      have qb := (E.sound G b r h2).e
      exact ⟨SnE.two (sn_dni hu qa qb h3) (sn_cmp (op_Ni G.hu) qa qb h3) (two_eq fNiA_eq), SnT.two (st_dni hu qa qb h3) (st_cmp (op_Ni G.hu) fNi_b qa qb h3) (two_eq fNiA_eq), fun _ _ _ z => by cases z⟩
    · cases h
  | X, fa, cl, W, C, Γ, G, .and a b, x, h => by
    unfold mE at h
    split at h
    · rename_i op l r rest p
      simp only [Bool.and_eq_true, decide_eq_true_eq] at h
      obtain ⟨⟨rfl, h1⟩, h2⟩ := h
      have q1 := E.sound G a l h1
      have q2 := E.sound G b _ h2
      unfold evE
      have w := sw_and q1.t (q2.w _ _ _ rfl)
      exact ⟨sn_and q1.e q2.e, w.st, fun _ _ _ _ => w⟩
    · cases h
  | X, fa, cl, W, C, Γ, G, .or a b, x, h => by
    unfold mE at h
    split at h
    · rename_i op l r rest p
      simp only [Bool.and_eq_true, decide_eq_true_eq] at h
      obtain ⟨⟨rfl, h1⟩, h2⟩ := h
      have q1 := E.sound G a l h1
      have q2 := E.sound G b _ h2
      unfold evE
      have w := sw_or q1.t (q2.w _ _ _ rfl)
      exact ⟨sn_or q1.e q2.e, w.st, fun _ _ _ _ => w⟩
    · cases h
  | X, fa, cl, W, C, Γ, G, .one a, x, h => by
    unfold mE at h
    split at h
    · rename_i op l p
      have q1 := E.sound G a l h
      unfold evE
      have w : SwT X fa cl W (.BoolOp op [l] p) (evE Γ a) := by cases op; exact sw_and1 q1.t; exact sw_or1 q1.t
      exact ⟨sn_one q1.e, w.st, fun _ _ _ _ => w⟩
    · cases h
  | X, fa, cl, W, C, Γ, G, .ite t a b, x, h => by
    unfold mE at h
    split at h
    · rename_i z l r p
      simp only [Bool.and_eq_true] at h
      have q0 := E.sound G t z h.1.1
      have q1 := E.sound G a l h.1.2
      have q2 := E.sound G b r h.2
      unfold evE
      exact ⟨sn_ite q0.t q1.e q2.e, st_ite q0.t q1.t q2.t, fun _ _ _ z => by cases z⟩
    · cases h
  | X, fa, cl, W, C, Γ, G, .call f es, x, h => by
    unfold mE at h
    split at h
    · rename_i n np xs p
      simp only [Bool.and_eq_true, decide_eq_true_eq] at h
      obtain ⟨⟨⟨h1, h2⟩, h3, h3'⟩, h4⟩ := h
      obtain ⟨k, a, fd, ps, _, F, hr, hm, hk, hb⟩ := G.funs (f - C.off) n h3'
      rw [show C.off + (f - C.off) = f from by omega] at F
      have hs := (mEs_len h4).2
      unfold evE
      refine snd_of ?_ (fun _ => rfl) (fun _ _ _ z => by cases z)
      match xs, es, h4, hs with
      | [], .nil, h4, hs => exact sn_call0 F hr G.gd (G.gl h1) hm hk hb G.tk (okN_at h2).1
      | y :: ys, .cons e es, h4, hs =>
        have hs' := hs
        rw [List.all_cons, Bool.and_eq_true] at hs'
        exact sn_call F hr G.gd (G.gl h1) hm hk hb G.tk (Es.sound G (.cons e es) (y :: ys) h4) (okN_at h2).1 (starEach_at hs'.1) (backTo_no hs'.2)
      | [], .cons e es, h4, _ => unfold mEs at h4; cases h4
      | y :: ys, .nil, h4, _ => unfold mEs at h4; cases h4
    · cases h
  | X, fa, cl, W, C, Γ, G, .bi b es, x, h => by
    unfold mE at h
    split at h
    · rename_i n np y ys p
      simp only [Bool.and_eq_true, decide_eq_true_eq] at h
      obtain ⟨⟨⟨h1, h2⟩, h3⟩, h4⟩ := h
      have h3 : n = Str.ofString b.nm := of_decide_eq_true h3
      subst h3
      have hs := (mEs_len h4).2
      rw [List.all_cons, Bool.and_eq_true] at hs
      unfold evE
      exact snd_of (sn_Bi b G.gd G.hu G.calm (G.gl h1) (G.bi b) (Es.sound G es (y :: ys) h4) (starEach_at hs.1) (backTo_no hs.2)) (fun _ => rfl) (fun _ _ _ z => by cases z)
    · cases h
  | X, fa, cl, W, C, Γ, G, .tup es, x, h => by
    unfold mE at h
    split at h
    · rename_i xs k p
      simp only [Bool.and_eq_true, decide_eq_true_eq] at h
      unfold evE
      exact snd_of (sn_tup (Es.sound G es xs h.2) h.1 fun ρ κ ds κ' e => (evEs_len e).trans (mEs_len h.2).1.symm) (fun _ => rfl) (fun _ _ _ z => by cases z)
    · cases h
  | X, fa, cl, W, C, Γ, G, .lst es, x, h => by
    unfold mE at h
    split at h
    · rename_i xs p
      simp only [Bool.and_eq_true, decide_eq_true_eq] at h
      unfold evE
      exact snd_of (sn_lst (Es.sound G es xs h.2) h.1 fun ρ κ ds κ' e => (evEs_len e).trans (mEs_len h.2).1.symm) (fun _ => rfl) (fun _ _ _ z => by cases z)
    · cases h
  | X, fa, cl, W, C, Γ, G, .ix a b, x, h => by
    unfold mE at h
    split at h
    · rename_i l r p
      simp only [Bool.and_eq_true] at h
      unfold evE
      have qa := (E.sound G a l h.1.2).e
      have qb := (E.sound G b r h.2).e
      exact snd_of (SnE.two (sn_dix (by have := G.hu; omega) qa qb (slice_at h.1.1)) (sn_ix qa qb (slice_at h.1.1)) cIxA_eq) (fun _ => rfl) (fun _ _ _ z => by cases z)
    · cases h
  | X, fa, cl, W, C, Γ, G, .sl a lo hi, x, h => by
    unfold mE at h
    split at h
    · rename_i l p q p1 p2
      simp only [Bool.and_eq_true] at h
      unfold evE
      exact snd_of (sn_sl (E.sound G a l h.1.1).e (Eo.sound G lo p h.1.2) (Eo.sound G hi q h.2)) (fun _ => rfl) (fun _ _ _ z => by cases z)
    · cases h
  | X, fa, cl, W, C, Γ, G, .lc it tg t e own, x, h => by
    unfold mE at h
    split at h
    · rename_i elt g iter ifs scope p
      simp only [Bool.and_eq_true] at h
      obtain ⟨⟨⟨⟨⟨⟨h1, h2⟩, h3⟩, h4⟩, h5⟩, h6⟩, h7⟩ := h
      have ok : BlkOk X.N X.env.scope scope own := by rw [G.N, G.sc]; exact blkOk_by h3
      have hs : ∀ j ∈ tg.slots, j ∈ own.map (·.2) := fun j hj => of_decide_eq_true (List.all_eq_true.mp h5 j hj)
      unfold evE
      refine snd_of (PE.imp (fun σ H Q q => tE_lc hs q) (pe_lc G.calm G.ndX (It.sound G it g iter h2) ok (fun s H L cells fp => mT_sound G.blk tg g h4) (fun s H L cells fp => pts_of (Ef.sound G.blk t ifs h6)) (fun s H L cells fp => (E.sound G.blk e elt h7).e) (set_at h1))) (fun _ => rfl) (fun _ _ _ z => by cases z)
    · cases h
  | X, fa, cl, W, C, Γ, G, .rev a, x, h => by
    unfold mE at h
    split at h
    · unfold evE
      exact snd_of (sn_rev (E.sound G a _ h).e) (fun _ => rfl) (fun _ _ _ z => by cases z)
    · cases h
  | X, fa, cl, W, C, Γ, G, .new, x, h => by
    unfold mE at h
    split at h
    · unfold evE
      exact snd_of sn_new (fun _ => rfl) (fun _ _ _ z => by cases z)
    · cases h
  | X, fa, cl, W, C, Γ, G, .rg1 t a, x, h => by
    unfold mE at h
    split at h
    · rename_i n p m p2 y pos2 pos
      simp only [Bool.and_eq_true, decide_eq_true_eq] at h
      obtain ⟨⟨⟨⟨⟨h1, rfl⟩, h3⟩, rfl⟩, h5⟩, h6⟩ := h
      have hm : X.mg (rgNm t) = none := by cases t; exact G.bi .lst; exact G.bi .tup
      unfold evE
      exact snd_of (sn_rg1 G.calm (G.gl h1) hm (G.gl h3) G.rng.1 (E.sound G a y h6).e (starEach_at h5)) (fun _ => rfl) (fun _ _ _ z => by cases z)
    · cases h
  | X, fa, cl, W, C, Γ, G, .rg2 t a b, x, h => by
    unfold mE at h
    split at h
    · rename_i n p m p2 y z pos2 pos
      simp only [Bool.and_eq_true, decide_eq_true_eq] at h
      obtain ⟨⟨⟨⟨⟨⟨⟨h1, rfl⟩, h3⟩, rfl⟩, h5⟩, h6⟩, h7⟩, h8⟩ := h
      have hm : X.mg (rgNm t) = none := by cases t; exact G.bi .lst; exact G.bi .tup
      unfold evE
      exact snd_of (sn_rg2 G.calm (G.gl h1) hm (G.gl h3) G.rng.1 (E.sound G a y h7).e (E.sound G b z h8).e (starEach_at h5) (starEach_at h6) (backTo_no (by rw [List.all_cons, h6]; rfl))) (fun _ => rfl) (fun _ _ _ z => by cases z)
    · cases h
  | X, fa, cl, W, C, Γ, G, .lend i e, x, h => by
    unfold mE at h
    rw [Bool.and_eq_true] at h
    have q := E.sound G e x h.2
    unfold evE
    refine ⟨sn_lend q.e, st_lend q.t, fun op l pos z => ?_⟩
    have h1 := h.1
    rw [z] at h1; cases h1
  | X, fa, cl, W, C, Γ, G, .mt m a b, x, h => by
    unfold mE at h
    split at h
    · rename_i o n apos y cpos
      simp only [Bool.and_eq_true, decide_eq_true_eq] at h
      obtain ⟨⟨⟨⟨⟨h1, h2⟩, h3⟩, h4⟩, h5⟩, h6⟩ := h
      have hs := starEach_at (env := X.env) (xs := []) h4
      have hu : X.A.units + 1 < cLine := by have := G.hu; omega
      have qa := (E.sound G a o h5).e
      have qb := (E.sound G b y h6).e
      subst h2
      unfold evE
      refine snd_of ?_ (fun _ => rfl) (fun _ _ _ z => by cases z)
      cases m with
      | idx => exact sn_index G.hu qa qb hs h3 (rcv_at h1)
      | get => exact sn_get1 hu qa qb ⟨rcv_at h1, by rw [hs]; rfl, h3, by rw [hs]; rfl⟩
    · cases h
  | X, fa, cl, W, C, Γ, G, .get2 a b e, x, h => by
    unfold mE at h
    split at h
    · rename_i o n apos y z cpos
      simp only [Bool.and_eq_true, decide_eq_true_eq] at h
      obtain ⟨⟨⟨⟨⟨⟨⟨h1, h2⟩, h3⟩, h4⟩, h5⟩, h6⟩, h7⟩, h8⟩ := h
      have hs := starEach_at (env := X.env) (xs := [z]) h4
      have hs2 := starEach_at (env := X.env) (xs := []) h5
      have hu : X.A.units + 1 < cLine := by have := G.hu; omega
      subst h2
      unfold evE
      refine snd_of ?_ (fun _ => rfl) (fun _ _ _ z => by cases z)
      exact sn_get2 hu (E.sound G a o h6).e (E.sound G b y h7).e (E.sound G e z h8).e ⟨rcv_at h1, by rw [hs, hs2]; rfl, h3, by rw [hs, hs2]; rfl⟩
    · cases h
  | X, fa, cl, W, C, Γ, G, .dc it tg t k v own, x, h => by
    unfold mE at h
    split at h
    · rename_i kx vx g iter ifs scope p
      simp only [Bool.and_eq_true] at h
      obtain ⟨⟨⟨⟨⟨⟨⟨h1, h2⟩, h3⟩, h4⟩, h5⟩, h6⟩, h7⟩, h8⟩ := h
      have ok : BlkOk X.N X.env.scope scope own := by rw [G.N, G.sc]; exact blkOk_by h3
      have hs : ∀ j ∈ tg.slots, j ∈ own.map (·.2) := fun j hj => of_decide_eq_true (List.all_eq_true.mp h5 j hj)
      unfold evE
      refine snd_of (PE.imp (fun σ H Q q => tE_dc hs q) (pe_dc G.calm G.ndX (It.sound G it g iter h2) ok (fun s H L cells fp => mT_sound G.blk tg g h4) (fun s H L cells fp => pts_of (Ef.sound G.blk t ifs h6)) (fun s H L cells fp => (E.sound G.blk k kx h7).e) (fun s H L cells fp => (E.sound G.blk v vx h8).e) (set_at h1))) (fun _ => rfl) (fun _ _ _ z => by cases z)
    · cases h
  | X, fa, cl, W, C, Γ, G, .lc2 it tg t it1 tg1 t1 e own vs1, x, h => by
    unfold mE at h
    split at h
    · rename_i elt g iter ifs g1 iter1 ifs1 scope p
      simp only [Bool.and_eq_true] at h
      obtain ⟨⟨⟨⟨⟨⟨⟨h1, h2⟩, h3⟩, h4⟩, h5⟩, h6⟩, h7⟩, ⟨⟨⟨⟨k1, k2⟩, k3⟩, k4⟩, k5⟩, k6⟩ := h
      have ok : BlkOk X.N X.env.scope scope own := by rw [G.N, G.sc]; exact blkOk_by h3
      have hs : ∀ j ∈ tg.slots, j ∈ own.map (·.2) := fun j hj => of_decide_eq_true (List.all_eq_true.mp h5 j hj)
      have hs1 : ∀ j ∈ tg1.slots, j ∈ vs1 := fun j hj => of_decide_eq_true (List.all_eq_true.mp k4 j hj)
      have hv : ∀ j ∈ vs1, j ∈ own.map (·.2) := fun j hj => of_decide_eq_true (List.all_eq_true.mp k5 j hj)
      unfold evE
      refine snd_of (PE.imp (fun σ H Q q => tE_lc2 hs hs1 q) (pe_lc2 G.calm G.ndX (It.sound G it g iter h2) ok hv (fun s H L cells fp => mT_sound G.blk tg g h4) (fun s H L cells fp => pts_of (Ef.sound G.blk t ifs h6))
        (fun s H L cells fp => It.sound G.blk it1 g1 iter1 k2) (fun s H L cells fp => mT_sound G.blk tg1 g1 k3) (fun s H L cells fp => pts_of (Ef.sound G.blk t1 ifs1 k6)) (fun s H L cells fp => (E.sound G.blk e elt h7).e) (set_at h1) (fun env => set_at k1))) (fun _ => rfl) (fun _ _ _ z => by cases z)
    · cases h
  | X, fa, cl, W, C, Γ, G, .ndd e, x, h => by
    unfold mE at h
    split at h
    · unfold evE
      exact snd_of (sn_ndd (E.sound G e _ h).e) (fun _ => rfl) (fun _ _ _ z => by cases z)
    · cases h
  | X, fa, cl, W, C, Γ, G, .tups p, x, h => by
    unfold mE at h
    split at h
    · unfold evE
      exact snd_of (sn_tups (Sps.sound G p _ h)) (fun _ => rfl) (fun _ _ _ z => by cases z)
    · cases h
  | X, fa, cl, W, C, Γ, G, .lsts p, x, h => by
    unfold mE at h
    split at h
    · unfold evE
      exact snd_of (sn_lsts (Sps.sound G p _ h)) (fun _ => rfl) (fun _ _ _ z => by cases z)
    · cases h
  | X, fa, cl, W, C, Γ, G, .calls f p, x, h => by
    unfold mE at h
    split at h
    · rename_i n np y ys pp
      simp only [Bool.and_eq_true, decide_eq_true_eq] at h
      obtain ⟨⟨⟨⟨⟨h1, h2⟩, h3, h3'⟩, h4⟩, h5⟩, h6⟩ := h
      obtain ⟨k, a, fd, ps, _, F, hr, hm, hk, hb⟩ := G.funs (f - C.off) n h3'
      rw [show C.off + (f - C.off) = f from by omega] at F
      unfold evE
      exact snd_of (sn_callS F hr G.gd (G.gl h1) hm hk hb G.tk (Sps.sound G p (y :: ys) h6) (okN_at h2).1 (starEach_at h4) (backTo_yes h5)) (fun _ => rfl) (fun _ _ _ z => by cases z)
    · cases h
  | X, fa, cl, W, C, Γ, G, .ddt a b, x, h => by
    unfold mE at h
    split at h
    · simp only [Bool.and_eq_true] at h
      unfold evE
      exact snd_of (sn_ddt (by have := G.hu; omega) (E.sound G a _ h.1).e (E.sound G b _ h.2).e) (fun _ => rfl) (fun _ _ _ z => by cases z)
    · cases h
  | X, fa, cl, W, C, Γ, G, .dc0 it tg t own, x, h => by
    unfold mE at h
    split at h
    · rename_i kx vx g iter ifs g1 iter1 ifs1 scope p
      simp only [Bool.and_eq_true] at h
      obtain ⟨⟨⟨⟨⟨h1, h2⟩, h3⟩, h4⟩, h5⟩, h6⟩ := h
      have ok : BlkOk X.N X.env.scope scope own := by rw [G.N, G.sc]; exact blkOk_by h3
      have hs : ∀ j ∈ tg.slots, j ∈ own.map (·.2) := fun j hj => of_decide_eq_true (List.all_eq_true.mp h5 j hj)
      unfold evE
      refine snd_of (PE.imp (fun σ H Q q => tE_dc0 hs q) (pe_dc0 G.calm G.ndX (It.sound G it g iter h2) ok (fun s H L cells fp => mT_sound G.blk tg g h4) (fun s H L cells fp => pts_of (Ef.sound G.blk t ifs h6)) (set_at h1))) (fun _ => rfl) (fun _ _ _ z => by cases z)
    · cases h
  | X, fa, cl, W, C, Γ, G, .dd1 a b, x, h => by
    unfold mE at h
    split at h
    · simp only [Bool.and_eq_true] at h
      unfold evE
      exact snd_of (sn_dd1 (E.sound G a _ h.1).e (E.sound G b _ h.2).e) (fun _ => rfl) (fun _ _ _ z => by cases z)
    · cases h
  | X, fa, cl, W, C, Γ, G, .ddn p, x, h => by
    unfold mE at h
    split at h
    · simp only [Bool.and_eq_true] at h
      obtain ⟨⟨h0, h15⟩, hp⟩ := h
      obtain ⟨q1, q2, q3, q4⟩ := Ps.sound G p _ _ hp
      unfold evE
      refine snd_of (sn_ddn (q1 _) q2 q3 ?_ (of_decide_eq_true h15) (by rw [q4]; exact of_decide_eq_true h15)) (fun _ => rfl) (fun _ _ _ z => by cases z)
      intro z; rw [z] at h0; cases h0
    · cases h
  | X, fa, cl, W, C, Γ, G, .lk i e, x, h => by
    unfold mE at h
    rw [Bool.and_eq_true] at h
    have q := E.sound G e x h.2
    unfold evE
    refine snd_of (sn_lk (i := i) q.e) (fun whole => ?_) (fun op l pos z => ?_)
    · have h1 := h.1
      cases x <;> first | rfl | cases h1
    · have h1 := h.1
      rw [z] at h1; cases h1
  | X, fa, cl, W, C, Γ, G, .callv off j es, x, h => by
    unfold mE at h
    split at h
    · rename_i n np y ys p
      simp only [Bool.and_eq_true, decide_eq_true_eq] at h
      obtain ⟨⟨⟨rfl, h2⟩, h3⟩, h4⟩ := h
      have hs := (mEs_len h4).2
      rw [List.all_cons, Bool.and_eq_true] at hs
      obtain ⟨n1, n2, n3⟩ := G.at_ h2
      unfold evE
      exact snd_of (sn_callV n1 (G.vis h3) G.gd G.tk G.fnv (Es.sound G es (y :: ys) h4) n2 n3 (starEach_at hs.1) (backTo_no hs.2)) (fun _ => rfl) (fun _ _ _ z => by cases z)
    · cases h
  | X, fa, cl, W, C, Γ, G, .met M e, x, h => by
    unfold mE at h
    split at h
    · rename_i n np pr bd sc lp p
      simp only [Bool.and_eq_true, decide_eq_true_eq] at h
      obtain ⟨⟨⟨⟨⟨⟨⟨h1, h2⟩, h3⟩, rfl⟩, h5⟩, h6⟩, h7⟩, h8⟩ := h
      unfold par0 at h6
      split at h6
      · obtain ⟨⟨c, P, t1, t2, t3, t4⟩, ck, mo, k, hr, f1, f2⟩ := G.lamF h1
        unfold evE
        refine snd_of (sn_met (mo M h5) ck (G.gl h2) (okN_at h3).1 t1 t2 t3 t4 hr G.gd G.hu2 G.rp (by rw [G.sc]; exact LamX.lamS_by h7) (fun A outer s H E f c' room gd => ?_)) (fun _ => rfl) (fun _ _ _ z => by cases z)
        exact (E.sound (G.lam h1 room gd f1 f2) e bd h8).e
      · cases h6
    · cases h
theorem Ps.sound : ∀ {X : Cx} {fa : Nat → Option Addr} {cl : Nat → ClsI} {W : WX} {C : MC} {Γ : Gam}, Good X fa cl W C Γ → ∀ (p : Ps) (ks : List (Option Expr)) (vs : List Expr), mP C p ks vs = true →
    (∀ pos, PPs X pos ks vs (tPs X fa cl W (evP Γ p))) ∧ ks.all (·.isSome) = true ∧ ks.length = vs.length ∧ (evP Γ p).length = ks.length
  | X, fa, cl, W, C, Γ, G, .nil, [], [], _ => by unfold evP; exact ⟨fun _ => pps_nil, rfl, rfl, rfl⟩
  | X, fa, cl, W, C, Γ, G, .nil, [], v :: vs, h => by unfold mP at h; cases h
  | X, fa, cl, W, C, Γ, G, .nil, k :: ks, vs, h => by unfold mP at h; cases h
  | X, fa, cl, W, C, Γ, G, .cons a b r, [], vs, h => by unfold mP at h; cases h
  | X, fa, cl, W, C, Γ, G, .cons a b r, none :: ks, vs, h => by unfold mP at h; cases h
  | X, fa, cl, W, C, Γ, G, .cons a b r, some k :: ks, [], h => by unfold mP at h; cases h
  | X, fa, cl, W, C, Γ, G, .cons a b r, some k :: ks, v :: vs, h => by
    unfold mP at h
    simp only [Bool.and_eq_true] at h
    obtain ⟨q1, q2, q3, q4⟩ := Ps.sound G r ks vs h.2
    unfold evP
    exact ⟨fun pos => pps_cons (E.sound G a k h.1.1).e (E.sound G b v h.1.2).e (q1 pos), by rw [List.all_cons, q2]; rfl, by rw [List.length_cons, List.length_cons, q3], by rw [List.length_cons, List.length_cons, q4]⟩
theorem Sps.sound : ∀ {X : Cx} {fa : Nat → Option Addr} {cl : Nat → ClsI} {W : WX} {C : MC} {Γ : Gam}, Good X fa cl W C Γ → ∀ (e : Sps) (x : List Expr), mSp C e x = true → SnL X fa cl W x (evSp Γ e)
  | X, fa, cl, W, C, Γ, G, .nil, [], _ => by unfold evSp; exact sl_nil
  | X, fa, cl, W, C, Γ, G, .nil, x :: xs, h => by unfold mSp at h; cases h
  | X, fa, cl, W, C, Γ, G, .cons t ts, [], h => by unfold mSp at h; cases h
  | X, fa, cl, W, C, Γ, G, .star t ts, [], h => by unfold mSp at h; cases h
  | X, fa, cl, W, C, Γ, G, .cons a b, x :: xs, h => by
    unfold mSp at h
    simp only [Bool.and_eq_true] at h
    unfold evSp
    exact sl_cons (E.sound G a x h.1.2).e (Sps.sound G b xs h.2) (starEach_at h.1.1)
  | X, fa, cl, W, C, Γ, G, .star a b, x :: xs, h => by
    unfold mSp at h
    split at h
    · simp only [Bool.and_eq_true] at h
      unfold evSp
      exact sl_star (E.sound G a _ h.1).e (Sps.sound G b xs h.2)
    · cases h
theorem Es.sound : ∀ {X : Cx} {fa : Nat → Option Addr} {cl : Nat → ClsI} {W : WX} {C : MC} {Γ : Gam}, Good X fa cl W C Γ → ∀ (e : Es) (x : List Expr), mEs C e x = true → SnL X fa cl W x (evEs Γ e)
  | X, fa, cl, W, C, Γ, G, .nil, [], _ => by unfold evEs; exact sl_nil
  | X, fa, cl, W, C, Γ, G, .nil, x :: xs, h => by unfold mEs at h; cases h
  | X, fa, cl, W, C, Γ, G, .cons t ts, [], h => by unfold mEs at h; cases h
  | X, fa, cl, W, C, Γ, G, .cons a b, x :: xs, h => by
    unfold mEs at h
    simp only [Bool.and_eq_true] at h
    unfold evEs
    exact sl_cons (E.sound G a x h.1.2).e (Es.sound G b xs h.2) (starEach_at h.1.1)
theorem Eo.sound : ∀ {X : Cx} {fa : Nat → Option Addr} {cl : Nat → ClsI} {W : WX} {C : MC} {Γ : Gam}, Good X fa cl W C Γ → ∀ (e : Eo) (x : Option Expr), mO C e x = true → SnO X fa cl W x (evO Γ e)
  | X, fa, cl, W, C, Γ, G, .no, none, _ => by unfold evO; exact so_none
  | X, fa, cl, W, C, Γ, G, .no, some x, h => by unfold mO at h; cases h
  | X, fa, cl, W, C, Γ, G, .so e, none, h => by unfold mO at h; cases h
  | X, fa, cl, W, C, Γ, G, .so e, some x, h => by unfold mO at h; unfold evO; exact so_some (E.sound G e x h).e
theorem Ef.sound : ∀ {X : Cx} {fa : Nat → Option Addr} {cl : Nat → ClsI} {W : WX} {C : MC} {Γ : Gam}, Good X fa cl W C Γ → ∀ (e : Eo) (x : List Expr), mF C e x = true → (match x, evO Γ e with | [], none => True | [y], some m => SnT X fa cl W y m | _, _ => False)
  | X, fa, cl, W, C, Γ, G, .no, [], _ => by unfold evO; trivial
  | X, fa, cl, W, C, Γ, G, .no, x :: xs, h => by unfold mF at h; cases h
  | X, fa, cl, W, C, Γ, G, .so e, [], h => by unfold mF at h; cases h
  | X, fa, cl, W, C, Γ, G, .so e, [x], h => by unfold mF at h; unfold evO; exact (E.sound G e x h).t
  | X, fa, cl, W, C, Γ, G, .so e, x :: y :: ys, h => by unfold mF at h; cases h
theorem It.sound : ∀ {X : Cx} {fa : Nat → Option Addr} {cl : Nat → ClsI} {W : WX} {C : MC} {Γ : Gam}, Good X fa cl W C Γ → ∀ (e : It) (tg x : Expr), mI C tg e x = true → SnI X fa cl W tg x (evI Γ e)
  | X, fa, cl, W, C, Γ, G, .rg3 es, tg, x, h => by
    unfold mI at h
    split at h
    · rename_i n p y z u pos
      simp only [Bool.and_eq_true, decide_eq_true_eq] at h
      obtain ⟨⟨h1, rfl⟩, h2⟩ := h
      have hs := mEs_len h2
      simp only [List.all_cons, Bool.and_eq_true, List.all_nil] at hs
      unfold evI
      exact si_rg3 (G.gl h1) G.rng.1 (Es.sound G es [y, z, u] h2) (starEach_at hs.2.1) (by rw [starEach_at hs.2.2.1, starEach_at hs.2.2.2.1]; rfl)
    · cases h
  | X, fa, cl, W, C, Γ, G, .zip es, tg, x, h => by
    unfold mI at h
    split at h
    · rename_i elts kk tpos n p y z pos
      simp only [Bool.and_eq_true, decide_eq_true_eq] at h
      obtain ⟨⟨h1, rfl⟩, h2⟩ := h
      have hs := mEs_len h2
      simp only [List.all_cons, Bool.and_eq_true, List.all_nil] at hs
      unfold evI
      exact si_zip (G.gl h1) G.rng.2.1 (Es.sound G es [y, z] h2) (by rw [starEach_at hs.2.1, starEach_at hs.2.2.1]; rfl) (starEach_at hs.2.2.1)
    · cases h
  | X, fa, cl, W, C, Γ, G, .enm es, tg, x, h => by
    unfold mI at h
    split at h
    · rename_i elts kk tpos n p y pos
      simp only [Bool.and_eq_true, decide_eq_true_eq] at h
      obtain ⟨⟨h1, rfl⟩, h2⟩ := h
      have hs := mEs_len h2
      simp only [List.all_cons, Bool.and_eq_true, List.all_nil] at hs
      unfold evI
      exact si_enum (G.gl h1) G.rng.2.2 (Es.sound G es [y] h2) (starEach_at hs.2.1)
    · cases h
  | X, fa, cl, W, C, Γ, G, .seq a, tg, x, h => by unfold mI at h; unfold evI; exact SnI.two (SnI.two (SnI.two (SnI.two (si_tup (E.sound G a x h).e) (si_lst (E.sound G a x h).e) cItO_eq) (si_keysF (E.sound G a x h).e) cItP_eq) (si_fdk (E.sound G a x h).e) cItQ_eq) (si_nd (E.sound G a x h).e) cItA_eq
  | X, fa, cl, W, C, Γ, G, .rng es, tg, x, h => by
    unfold mI at h
    split at h
    · rename_i n p y pos
      simp only [Bool.and_eq_true, decide_eq_true_eq] at h
      obtain ⟨⟨h1, rfl⟩, h2⟩ := h
      have hs := mEs_len h2
      simp only [List.all_cons, Bool.and_eq_true, List.all_nil] at hs
      unfold evI
      exact si_rng1 (G.gl h1) G.rng.1 (Es.sound G es [y] h2) (starEach_at hs.2.1) fun ρ κ ds κ' e => (evEs_len e).trans hs.1.symm
    · rename_i n p y z pos
      simp only [Bool.and_eq_true, decide_eq_true_eq] at h
      obtain ⟨⟨h1, rfl⟩, h2⟩ := h
      have hs := mEs_len h2
      simp only [List.all_cons, Bool.and_eq_true, List.all_nil] at hs
      unfold evI
      exact si_rng2 (G.gl h1) G.rng.1 (Es.sound G es [y, z] h2) (by rw [starEach_at hs.2.1, starEach_at hs.2.2.1]; rfl) (starEach_at hs.2.2.1) fun ρ κ ds κ' e => (evEs_len e).trans hs.1.symm
    · cases h
end
/-! ## statements -/
theorem kind_at {C : MC} (h : (match C.sc.kind with | .function => true | _ => false) = true) : C.sc.kind = .function := by
  split at h
  · assumption
  · cases h
theorem blockKind_at {env : Env} (h : env.scope.kind = .function) : env.blockKind = .function := by
  unfold Env.blockKind
  rw [h]; rfl
def nm1 (env : Env) (line : Nat) : Expr → Option Str
  | .Name id pos => if env.kindOf id == some .local && pos.line == line then some id else none
  | _ => none
theorem swap_eq {ts vs : List Expr} {k k2 : Nat} {p p2 : Pos} {env : Env} : swappedStores [.Tuple ts k p] (.Tuple vs k2 p2) env =
    (if (!(ts.length == 2 || ts.length == 3) || vs.length != ts.length || env.blockKind != .function) = true then pure none else
      if (vs.any fun x => !notStar x) = true then pure none else
      if ((ts.filterMap (nm1 env ((ts.head?.map (·.pos.line)).getD 0))).length != ts.length || (ts.filterMap (nm1 env ((ts.head?.map (·.pos.line)).getD 0))).eraseDups.length != (ts.filterMap (nm1 env ((ts.head?.map (·.pos.line)).getD 0))).length) = true then pure none else
      if vs.all (foldedForSure 8) = true then pure none else
      if vs.all (constantsAlone 8) = true then (do unsupported "assign.tuple-of-constant-expressions:order-of-the-stores"; pure (some (ts.filterMap (nm1 env ((ts.head?.map (·.pos.line)).getD 0)))))
      else pure (some (ts.filterMap (nm1 env ((ts.head?.map (·.pos.line)).getD 0))))) := by
  have e : (fun x => !notStar x) = (fun x : Expr => match x with | .Starred .. => true | _ => false) := by
    funext x; cases x <;> rfl
  rw [e]
  rfl
theorem starAny {vs : List Expr} (h : vs.all notStar = true) : (vs.any fun x => !notStar x) = false := by
  induction vs with
  | nil => rfl
  | cons v vs ih =>
    rw [List.all_cons, Bool.and_eq_true] at h
    rw [List.any_cons, ih h.2, h.1]; rfl
theorem par_at2 {C : MC} {env : Env} {n n2 : Str} {p p2 pt pt2 : Pos} {kt k2 : Nat} {v v2 : Expr} (hsc : env.scope = C.sc) (h : parC C [.Name n p, .Name n2 p2] [v, v2] = true) :
    swappedStores [.Tuple [.Name n p, .Name n2 p2] kt pt] (.Tuple [v, v2] k2 pt2) env = pure (some [n, n2]) := by
  unfold parC at h
  simp only [Bool.and_eq_true, decide_eq_true_eq, Bool.not_eq_true'] at h
  obtain ⟨⟨⟨⟨h1, h2⟩, h3⟩, h4⟩, ⟨⟨⟨h5, h6⟩, h7⟩, h8⟩⟩ := h
  have hk : env.blockKind = .function := blockKind_at (by rw [hsc]; exact kind_at h1)
  have e1 : env.kindOf n = some .local := by show env.scope.names.lookup n = _; rw [hsc]; exact isLoc_at h7
  have e2 : env.kindOf n2 = some .local := by show env.scope.names.lookup n2 = _; rw [hsc]; exact isLoc_at h8
  have hf : [Expr.Name n p, Expr.Name n2 p2].filterMap (nm1 env p.line) = [n, n2] := by
    simp [nm1, e1, e2, h5]
  have hd : ([n, n2] : List Str).eraseDups.length = 2 := by
    have : (n2 == n) = false := by rw [beq_eq_false_iff_ne]; exact fun z => h6 z.symm
    simp [List.eraseDups_cons, List.filter, this]
  have hh : (([Expr.Name n p, Expr.Name n2 p2].head?.map (·.pos.line)).getD 0) = p.line := rfl
  rw [swap_eq, hh, hf, starAny h2, h3, h4, hd, hk]
  rfl
theorem par_at3 {C : MC} {env : Env} {n n2 n3 : Str} {p p2 p3 pt pt2 : Pos} {kt k2 : Nat} {v v2 v3 : Expr} (hsc : env.scope = C.sc) (h : parC C [.Name n p, .Name n2 p2, .Name n3 p3] [v, v2, v3] = true) :
    swappedStores [.Tuple [.Name n p, .Name n2 p2, .Name n3 p3] kt pt] (.Tuple [v, v2, v3] k2 pt2) env = pure (some [n, n2, n3]) := by
  unfold parC at h
  simp only [Bool.and_eq_true, decide_eq_true_eq, Bool.not_eq_true'] at h
  obtain ⟨⟨⟨⟨h1, h2⟩, h3⟩, h4⟩, ⟨⟨⟨⟨⟨⟨⟨h5, h5'⟩, h6⟩, h6'⟩, h6''⟩, h7⟩, h8⟩, h9⟩⟩ := h
  have hk : env.blockKind = .function := blockKind_at (by rw [hsc]; exact kind_at h1)
  have e1 : env.kindOf n = some .local := by show env.scope.names.lookup n = _; rw [hsc]; exact isLoc_at h7
  have e2 : env.kindOf n2 = some .local := by show env.scope.names.lookup n2 = _; rw [hsc]; exact isLoc_at h8
  have e3 : env.kindOf n3 = some .local := by show env.scope.names.lookup n3 = _; rw [hsc]; exact isLoc_at h9
  have hf : [Expr.Name n p, Expr.Name n2 p2, Expr.Name n3 p3].filterMap (nm1 env p.line) = [n, n2, n3] := by
    simp [nm1, e1, e2, e3, ← h5, ← h5']
  have hd : ([n, n2, n3] : List Str).eraseDups.length = 3 := by
    have a1 : (n2 == n) = false := by rw [beq_eq_false_iff_ne]; exact fun z => h6 z.symm
    have a2 : (n3 == n) = false := by rw [beq_eq_false_iff_ne]; exact fun z => h6' z.symm
    have a3 : (n3 == n2) = false := by rw [beq_eq_false_iff_ne]; exact fun z => h6'' z.symm
    simp [List.eraseDups_cons, List.filter, a1, a2, a3]
  have hh : (([Expr.Name n p, Expr.Name n2 p2, Expr.Name n3 p3].head?.map (·.pos.line)).getD 0) = p.line := rfl
  rw [swap_eq, hh, hf, starAny h2, h3, h4, hd, hk]
  rfl
theorem fm_le {env : Env} {ln : Nat} : ∀ ts : List Expr, (ts.filterMap (nm1 env ln)).length ≤ ts.length := fun ts => List.length_filterMap_le _ _
theorem fm_lt {C : MC} {env : Env} {ln : Nat} (hsc : env.scope = C.sc) : ∀ {ts : List Expr}, ts.any (notLocE C) = true → (ts.filterMap (nm1 env ln)).length < ts.length
  | [], h => by cases h
  | t :: ts, h => by
    rw [List.any_cons, Bool.or_eq_true] at h
    have hle := fm_le (env := env) (ln := ln) ts
    rcases h with h | h
    · have : nm1 env ln t = none := by
        cases t <;> try rfl
        rename_i id pos
        have h : (!isLoc C.sc id) = true := h
        have h2 : isLoc C.sc id = false := by simpa using h
        show (if (env.kindOf id == some .local && pos.line == ln) = true then some id else none) = none
        rw [if_neg]
        intro z
        rw [Bool.and_eq_true] at z
        have z1 : env.scope.names.lookup id = some .local := eq_of_beq z.1
        rw [hsc] at z1
        unfold isLoc at h2
        rw [z1] at h2
        cases h2
      rw [List.filterMap_cons, this, List.length_cons]
      show (ts.filterMap (nm1 env ln)).length < _
      omega
    · have ih := fm_lt (ln := ln) hsc h
      rw [List.filterMap_cons, List.length_cons]
      split
      · omega
      · rw [List.length_cons]; omega
theorem noPar_at {C : MC} {ts : List Expr} {v : Expr} {k : Nat} {p : Pos} {env : Env} (hsc : env.scope = C.sc) (h : noParC C ts v = true) : swappedStores [.Tuple ts k p] v env = pure none := by
  by_cases ht : ∃ vs kk pp, v = .Tuple vs kk pp
  · obtain ⟨vs, kk, pp, rfl⟩ := ht
    have h : ((vs.length != ts.length) || !(ts.length == 2 || ts.length == 3) || vs.all (foldedForSure 8) || ts.any (notLocE C)) = true := h
    rw [swap_eq]
    split
    · rfl
    · rename_i h1
      split
      · rfl
      · split
        · rfl
        · rename_i h3
          rw [if_pos]
          cases q : vs.all (foldedForSure 8) with
          | true => rfl
          | false =>
            exfalso
            cases q2 : ts.any (notLocE C) with
            | true =>
              apply h3
              have := fm_lt (ln := ((ts.head?.map (·.pos.line)).getD 0)) hsc q2
              rw [Bool.or_eq_true]
              refine .inl ?_
              rw [bne_iff_ne]
              omega
            | false =>
              rw [q, q2] at h
              apply h1
              rw [Bool.or_false, Bool.or_false, Bool.or_eq_true] at h
              rcases h with h | h
              · rw [h]; simp
              · rw [h]; rfl
  · cases v <;> first | rfl | exact absurd ⟨_, _, _, rfl⟩ ht
section
variable {X : Cx} {fa : Nat → Option Addr} {cl : Nat → ClsI} {W : WX} {C : MC} {Γ : Gam} {n : Str} {i : Nat} {x : Expr} {p : Pos} {e : SmE}
theorem ss_setLc {own : Bool} {elt tg iter : Expr} {ifs : List Expr} {scope : Scope} {ow : List (Str × Nat)} {pos spos : Pos} {mi : SmL} {g : Tg} {mt me : SmE} {ts : List Nat} (hc : X.calm = true) (hN : X.N.Nodup) (hi : X.N[i]? = some n) (hl : X.env.scope.names.lookup n = some .local)
    (hsw : swapsWith (.ListComp elt [⟨tg, iter, ifs, 0⟩] scope pos) (some (.Name n p)) spos.line X.env = pure true) (hit : SnI X fa cl W tg iter mi) (ok : BlkOk X.N X.env.scope scope ow) (hts : ∀ j ∈ ts, j ∈ ow.map (·.2))
    (hg : ∀ (s : Shared) (H : Hp) (C : Addr) (cells : List (Str × Addr)) (fp : List Addr), PG (X.blk s H scope (compEnvC scope cells C X.env) fp) tg (tG X fa ts g))
    (ht : ∀ (s : Shared) (H : Hp) (C : Addr) (cells : List (Str × Addr)) (fp : List Addr), PTs (X.blk s H scope (compEnvC scope cells C X.env) fp) ifs (tT X fa cl WF mt))
    (he : ∀ (s : Shared) (H : Hp) (C : Addr) (cells : List (Str × Addr)) (fp : List Addr), PE (X.blk s H scope (compEnvC scope cells C X.env) fp) elt (tE X fa cl WF me)) (hs : ∀ x, foldedSetIterable iter X.env x = pure x) :
    SnS X fa cl W (.Assign [.Name n p] (.ListComp elt [⟨tg, iter, ifs, 0⟩] scope pos) spos) (cSet i own (cLc mi g mt me (ow.map (·.2)))) := by
  refine PS.imp (fun D σ H ⟨c, F0, H0, F, ρ, κ, r, o⟩ => ?_) (ps_setLc hc hN hi hl hsw hit ok hg ht he hs)
  refine tE_lc (Q := fun x H1 => gName i x σ H1 D.nx) hts ⟨c, F0, H0, F, ρ, κ, r, Out.st r o fun d fr κ1 F1 H1 v s k ef fresh o => ?_⟩
  exact OutS.putS (r.step s k) (r.pend ef fresh) o fun s F2 _ sb r2 _ o => o F2 _ H1 (Sub.refl _) r2
theorem lcSwap_at {C : MC} {env : Env} {elt : Expr} {gs : List Comprehension} {scope : Scope} {q : Pos} {ln : Nat} (hsc : env.scope = C.sc) (h : lcSwap C n p (.ListComp elt gs scope q) = true) :
    swapsWith (.ListComp elt gs scope q) (some (.Name n p)) ln env = pure true ∧ isLoc C.sc n = true := by
  unfold lcSwap at h
  simp only [Bool.and_eq_true, Bool.not_eq_true'] at h
  obtain ⟨⟨⟨h1, h2⟩, h3⟩, h4⟩ := h
  have hk : env.blockKind = .function := blockKind_at (by rw [hsc]; exact kind_at h1)
  have e1 : env.kindOf n = some .local := by show env.scope.names.lookup n = _; rw [hsc]; exact isLoc_at h2
  refine ⟨?_, h2⟩
  unfold swapsWith
  simp only [hk, e1, Expr.pos, h3, h4]
  rfl
theorem lcSwapD_at {C : MC} {env : Env} {kx vx : Expr} {gs : List Comprehension} {scope : Scope} {q : Pos} {ln : Nat} (hsc : env.scope = C.sc) (h : lcSwapD C n p (.DictComp kx vx gs scope q) = true) :
    swapsWith (.DictComp kx vx gs scope q) (some (.Name n p)) ln env = pure true ∧ isLoc C.sc n = true := by
  unfold lcSwapD at h
  simp only [Bool.and_eq_true, Bool.not_eq_true'] at h
  obtain ⟨⟨⟨h1, h2⟩, h3⟩, h4⟩ := h
  have hk : env.blockKind = .function := blockKind_at (by rw [hsc]; exact kind_at h1)
  have e1 : env.kindOf n = some .local := by show env.scope.names.lookup n = _; rw [hsc]; exact isLoc_at h2
  refine ⟨?_, h2⟩
  unfold swapsWith
  simp only [hk, e1, Expr.pos, h3, h4]
  rfl
theorem ss_setDc0 {own : Bool} {kx vx tg iter tg1 iter1 : Expr} {ifs ifs1 : List Expr} {scope : Scope} {ow : List (Str × Nat)} {pos spos : Pos} {mi : SmL} {g : Tg} {mt : SmE} {ts : List Nat} (hc : X.calm = true) (hN : X.N.Nodup) (hi : X.N[i]? = some n) (hl : X.env.scope.names.lookup n = some .local)
    (hsw : swapsWith (.DictComp kx vx [⟨tg, iter, ifs, 0⟩, ⟨tg1, iter1, ifs1, 0⟩] scope pos) (some (.Name n p)) spos.line X.env = pure true) (hit : SnI X fa cl W tg iter mi) (ok : BlkOk X.N X.env.scope scope ow) (hts : ∀ j ∈ ts, j ∈ ow.map (·.2))
    (hg : ∀ (s : Shared) (H : Hp) (C : Addr) (cells : List (Str × Addr)) (fp : List Addr), PG (X.blk s H scope (compEnvC scope cells C X.env) fp) tg (tG X fa ts g))
    (ht : ∀ (s : Shared) (H : Hp) (C : Addr) (cells : List (Str × Addr)) (fp : List Addr), PTs (X.blk s H scope (compEnvC scope cells C X.env) fp) ifs (tT X fa cl WF mt)) (hs : ∀ x, foldedSetIterable iter X.env x = pure x) :
    SnS X fa cl W (.Assign [.Name n p] (.DictComp kx vx [⟨tg, iter, ifs, 0⟩, ⟨tg1, iter1, ifs1, 0⟩] scope pos) spos) (cSet i own (cDc0 mi g mt (ow.map (·.2)))) := by
  refine PS.imp (fun D σ H ⟨c, F0, H0, F, ρ, κ, r, o⟩ => ?_) (ps_setDc0 hc hN hi hl hsw hit ok hg ht hs)
  refine tE_dc0 (Q := fun x H1 => gName i x σ H1 D.nx) hts ⟨c, F0, H0, F, ρ, κ, r, Out.st r o fun d fr κ1 F1 H1 v s k ef fresh o => ?_⟩
  exact OutS.putS (r.step s k) (r.pend ef fresh) o fun s F2 _ sb r2 _ o => o F2 _ H1 (Sub.refl _) r2
theorem swap_cell {C : MC} {env : Env} {v : Expr} {ln : Nat} (hsc : env.scope = C.sc) (h : isLoc C.sc n = false) : swapsWith v (some (.Name n p)) ln env = pure false := by
  have e1 : (env.kindOf n == some NameKind.local) = false := by
    show (env.scope.names.lookup n == some NameKind.local) = false
    rw [hsc]
    unfold isLoc at h
    split at h
    · cases h
    · rename_i q
      cases e : C.sc.names.lookup n with
      | none => rfl
      | some k =>
        cases k <;> first | rfl | exact absurd e q
  unfold swapsWith
  cases v <;> first | rfl | (simp only [e1, Bool.and_false, Bool.false_and]; done) | (simp only [e1, Bool.and_false, Bool.false_and]; rfl)
end
structure GoodS (X : Cx) (fa : Nat → Option Addr) (cl : Nat → ClsI) (W : WX) (C : MC) (Γ : Gam) : Prop where
  g : Good X fa cl W C Γ
  pass : PassesOwn (model X.prog X.w) X.A X.env X.xe
  clsP : ∀ k y, C.cls[k]? = some (y, none) → ∃ Ca, cl k = ⟨.ref Ca, none⟩ ∧ ClsP X y Ca
  clsF : ∀ k y f, C.cls[k]? = some (y, some f) → ∃ Ca, cl k = ⟨.ref Ca, some f⟩ ∧ ClsF X y f Ca
theorem swapSub {x y z : Expr} {tp : Pos} {ln : Nat} {env : Env} : swapsWith x (some (.Subscript y z tp)) ln env = pure false := by
  cases x <;> rfl
theorem asgSub {n : Str} {p tp : Pos} {y : Expr} {env : Env} (h : notSlice y = true) : ∀ v, assign (.Subscript (.Name n p) y tp) env v = (do
      let ov ← holding [v] (eval (.Name n p) env)
      let iv ← holding [v, ov] (eval y env)
      standAt tp
      holding [v, ov, iv] (setItem ov iv v)
      release [v, ov, iv] []) := by
  intro v
  cases y <;> first | rfl | cases h
section
variable {X : Cx} {fa : Nat → Option Addr} {cl : Nat → ClsI} {W : WX} {C : MC} {Γ : Gam}
theorem ss_bad {x : Stmt} : SnS X fa cl W x (fun _ _ => .bad) := PS.imp (fun D σ H ⟨_, _, _, _, _, _, _, o⟩ => o) ps_never
theorem isDc {v : Expr} {n : Str} {p : Pos} (h2 : lcSwapD C n p v = true) : ∃ kx vx gs s q, v = .DictComp kx vx gs s q := by
  cases v <;> first | exact ⟨_, _, _, _, _, rfl⟩ | (cases h2; done)
theorem isLc {v : Expr} {n : Str} {p : Pos} (h : notComp v = false) (h2 : lcSwap C n p v = true) : ∃ elt gs s q, v = .ListComp elt gs s q := by
  cases v <;> first | exact ⟨_, _, _, _, rfl⟩ | (cases h; done) | (cases h2; done)
mutual
theorem S.sound (G : GoodS X fa cl W C Γ) : ∀ (s : S) (x : Stmt), mS C s x = true → SnS X fa cl W x (evS Γ s)
  | .set i own e, x, h => by
    unfold mS at h
    split at h
    · rename_i n p v q
      simp only [Bool.and_eq_true] at h
      obtain ⟨⟨⟨⟨h1, h2⟩, h3⟩, h4⟩, h5⟩ := h
      unfold evS
      cases hn0 : (notComp v || !isLoc C.sc n) with
      | true =>
        rcases Bool.or_eq_true_iff.mp hn0 with hn | hn
        · exact ss_set G.g.ndX (G.g.at_ h1).1 (G.g.loc h2) (E.sound G.g e v h5).e (swap_at hn) (G.g.set h3)
        · exact ss_set G.g.ndX (G.g.at_ h1).1 (G.g.loc h2) (E.sound G.g e v h5).e (swap_cell G.g.sc (by simpa using hn)) (G.g.set h3)
      | false =>
        have hn : notComp v = false := by
          cases q : notComp v with
          | false => rfl
          | true => rw [q] at hn0; cases hn0
        rw [hn0, Bool.false_or, Bool.or_eq_true, Bool.and_eq_true, Bool.and_eq_true] at h4
        rcases h4 with h4 | h4
        case inr =>
          obtain ⟨h4, h4'⟩ := h4
          obtain ⟨kx, vx, gs, sc, qq, rfl⟩ := isDc h4
          obtain ⟨hsw, hl⟩ := lcSwapD_at (ln := q.line) G.g.sc h4
          have hl : X.env.scope.names.lookup n = some .local := by rw [G.g.sc]; exact isLoc_at hl
          cases e with
          | dc0 it tg t own' =>
            unfold mE at h5
            split at h5
            · rename_i kx2 vx2 g iter ifs g1 iter1 ifs1 scope p' heq
              cases heq
              simp only [Bool.and_eq_true] at h5
              obtain ⟨⟨⟨⟨⟨h1', h2'⟩, h3'⟩, h4'⟩, h5'⟩, h6'⟩ := h5
              have ok : BlkOk X.N X.env.scope sc own' := by rw [G.g.N, G.g.sc]; exact blkOk_by h3'
              have hs : ∀ j ∈ tg.slots, j ∈ own'.map (·.2) := fun j hj => of_decide_eq_true (List.all_eq_true.mp h5' j hj)
              unfold evE
              exact ss_setDc0 G.g.calm G.g.ndX (G.g.at_ h1).1 hl hsw (It.sound G.g it g iter h2') ok hs (fun s H L cells fp => mT_sound G.g.blk tg g h4') (fun s H L cells fp => pts_of (Ef.sound G.g.blk t ifs h6')) (set_at h1')
            · cases h5
          | _ => cases h4'
        obtain ⟨h4, h4'⟩ := h4
        obtain ⟨elt, gs, sc, qq, rfl⟩ := isLc hn h4
        obtain ⟨hsw, hl⟩ := lcSwap_at (ln := q.line) G.g.sc h4
        have hl : X.env.scope.names.lookup n = some .local := by rw [G.g.sc]; exact isLoc_at hl
        cases e with
        | lc it tg t e' own' =>
          unfold mE at h5
          split at h5
          · rename_i elt g iter ifs scope p' heq
            cases heq
            simp only [Bool.and_eq_true] at h5
            obtain ⟨⟨⟨⟨⟨⟨h1', h2'⟩, h3'⟩, h4'⟩, h5'⟩, h6'⟩, h7'⟩ := h5
            have ok : BlkOk X.N X.env.scope sc own' := by rw [G.g.N, G.g.sc]; exact blkOk_by h3'
            have hs : ∀ j ∈ tg.slots, j ∈ own'.map (·.2) := fun j hj => of_decide_eq_true (List.all_eq_true.mp h5' j hj)
            unfold evE
            exact ss_setLc G.g.calm G.g.ndX (G.g.at_ h1).1 hl hsw (It.sound G.g it g iter h2') ok hs (fun s H L cells fp => mT_sound G.g.blk tg g h4') (fun s H L cells fp => pts_of (Ef.sound G.g.blk t ifs h6')) (fun s H L cells fp => (E.sound G.g.blk e' elt h7').e) (set_at h1')
          · cases h5
        | _ => cases h4'
    · cases h
  | .unp tg e, x, h => by
    unfold mS at h
    split at h
    · rename_i ts k p v q
      simp only [Bool.and_eq_true] at h
      obtain ⟨⟨⟨h1, h2⟩, h3⟩, h4⟩ := h
      unfold evS
      exact ss_unp (E.sound G.g e v h4).e (mT_sound G.g tg _ h3) (swSole_of (swap_at h1)) (noPar_at G.g.sc h2) rfl
    · cases h
  | .par2 i oi a j oj b, x, h => by
    unfold mS at h
    split at h
    · rename_i n p n2 p2 kt pt v v2 k2 pt2 q
      simp only [Bool.and_eq_true, decide_eq_true_eq] at h
      obtain ⟨⟨⟨⟨⟨h1, h2⟩, h3⟩, h4⟩, h5⟩, h6⟩ := h
      have hp := h4
      unfold parC at hp
      simp only [Bool.and_eq_true, decide_eq_true_eq, Bool.not_eq_true', List.all_cons, List.all_nil, Bool.and_true] at hp
      obtain ⟨⟨⟨⟨g1, ⟨g2, g3⟩⟩, _⟩, _⟩, ⟨⟨⟨_, _⟩, g7⟩, g8⟩⟩ := hp
      unfold evS
      exact ss_par2 G.g.calm G.g.ndX (G.g.at_ h1).1 (G.g.at_ h2).1 h3 (by rw [G.g.sc]; exact isLoc_at g7) (by rw [G.g.sc]; exact isLoc_at g8) (E.sound G.g a v h5).e (E.sound G.g b v2 h6).e (starEach_at g2) (starEach_at g3) (par_at2 G.g.sc h4)
    · cases h
  | .par3 i oi a j oj b l ol e, x, h => by
    unfold mS at h
    split at h
    · rename_i n p n2 p2 n3 p3 kt pt v v2 v3 k2 pt2 q
      simp only [Bool.and_eq_true, decide_eq_true_eq] at h
      obtain ⟨⟨⟨⟨⟨⟨⟨⟨⟨h1, h2⟩, h2'⟩, h3⟩, h3'⟩, h3''⟩, h4⟩, h5⟩, h6⟩, h7⟩ := h
      have hp := h4
      unfold parC at hp
      simp only [Bool.and_eq_true, decide_eq_true_eq, Bool.not_eq_true', List.all_cons, List.all_nil, Bool.and_true] at hp
      obtain ⟨⟨⟨⟨g1, ⟨g2, ⟨g3, g4⟩⟩⟩, _⟩, _⟩, ⟨⟨⟨_, g7⟩, g8⟩, g9⟩⟩ := hp
      unfold evS
      exact ss_par3 G.g.calm G.g.ndX (G.g.at_ h1).1 (G.g.at_ h2).1 (G.g.at_ h2').1 h3 h3' h3'' (by rw [G.g.sc]; exact isLoc_at g7) (by rw [G.g.sc]; exact isLoc_at g8) (by rw [G.g.sc]; exact isLoc_at g9) (E.sound G.g a v h5).e (E.sound G.g b v2 h6).e (E.sound G.g e v3 h7).e (starEach_at g2) (starEach_at g3) (starEach_at g4) (par_at3 G.g.sc h4)
    · cases h
  | .exp e, x, h => by
    unfold mS at h
    split at h
    · simp only [Bool.and_eq_true] at h
      unfold evS
      exact ss_exp (E.sound G.g e _ h.2).e (swap_at h.1)
    · cases h
  | .ret e, x, h => by
    unfold mS at h
    split at h
    · unfold evS
      exact ss_ret (E.sound G.g e _ h).e
    · cases h
  | .retN, x, h => by
    unfold mS at h
    split at h
    · unfold evS
      exact ss_retN
    · cases h
  | .retO i, x, h => by
    unfold mS at h
    split at h
    · simp only [Bool.and_eq_true] at h
      obtain ⟨h1, h2, h3⟩ := G.g.at_ h.1
      unfold evS
      exact ss_retO h1 (G.g.vis h.2) h2 h3
    · cases h
  | .popu i tg, x, h => by
    unfold mS at h
    split at h
    · rename_i ts k p n a m apos cpos q
      simp only [Bool.and_eq_true, decide_eq_true_eq] at h
      obtain ⟨⟨⟨⟨⟨h1, h2⟩, rfl⟩, h4⟩, h5⟩, h6⟩ := h
      obtain ⟨g1, g2, g3⟩ := G.g.at_ h1
      unfold evS
      exact ss_popU g1 (G.g.vis h2) g2 g3 (mT_sound G.g tg _ h6) h4 (swSole_of rfl) (noPar_at G.g.sc h5) rfl
    · rename_i t p n a m apos cpos q
      simp only [Bool.and_eq_true, decide_eq_true_eq] at h
      obtain ⟨⟨⟨⟨h1, h2⟩, rfl⟩, h4⟩, h5⟩ := h
      obtain ⟨g1, g2, g3⟩ := G.g.at_ h1
      unfold evS
      exact ss_popU g1 (G.g.vis h2) g2 g3 (mT_sound G.g tg _ h5) h4 (swSole_of rfl) rfl rfl
    · cases h
  | .popx i, x, h => by
    unfold mS at h
    split at h
    · simp only [Bool.and_eq_true, decide_eq_true_eq] at h
      obtain ⟨⟨⟨h1, h2⟩, rfl⟩, h4⟩ := h
      obtain ⟨g1, g2, g3⟩ := G.g.at_ h1
      unfold evS
      exact ss_popX g1 (G.g.vis h2) g2 g3 h4
    · cases h
  | .app i e, x, h => by
    unfold mS at h
    split at h
    · simp only [Bool.and_eq_true, decide_eq_true_eq] at h
      obtain ⟨⟨⟨⟨⟨h1, h2⟩, rfl⟩, h4⟩, h5⟩, h6⟩ := h
      obtain ⟨g1, g2, g3⟩ := G.g.at_ h1
      unfold evS
      exact ss_app g1 (G.g.vis h2) g2 g3 (E.sound G.g e _ h6).e (starEach_at h5) h4
    · cases h
  | .ext i e, x, h => by
    unfold mS at h
    split at h
    · simp only [Bool.and_eq_true, decide_eq_true_eq] at h
      obtain ⟨⟨⟨⟨⟨h1, h2⟩, rfl⟩, h4⟩, h5⟩, h6⟩ := h
      obtain ⟨g1, g2, g3⟩ := G.g.at_ h1
      unfold evS
      exact ss_ext g1 (G.g.vis h2) g2 g3 (E.sound G.g e _ h6).e (starEach_at h5) h4
    · cases h
  | .sub i j e, x, h => by
    unfold mS at h
    split at h
    · simp only [Bool.and_eq_true] at h
      obtain ⟨⟨⟨⟨h1, h2⟩, h3⟩, h5⟩, h6⟩ := h
      obtain ⟨g1, g2, g3⟩ := G.g.at_ h1
      have qe := (E.sound G.g e _ h6).e
      have qj := (E.sound G.g j _ h5).e
      unfold evS
      refine SnS.two (m1 := fun ρ κ => match ρ[i]? with | some (.own (.lst _)) => cSubL i (evE Γ j) (evE Γ e) ρ κ | _ => cSubC i (evE Γ j) (evE Γ e) ρ κ)
        (SnS.two (ss_subL g1 (G.g.vis h2) g2 g3 qe qj (asgSub h3) swapSub rfl) (ss_subC g1 (G.g.vis h2) g2 g3 qe qj (asgSub h3) swapSub rfl) ?_) (ss_subD (by have := G.g.hu; omega) g1 (G.g.vis h2) g2 g3 qe qj swapSub) ?_
      · intro ρ κ
        split
        · exact .inl rfl
        · exact .inr rfl
      · intro ρ κ
        unfold cSub
        split
        · rename_i q; left; simp only [q]
        · rename_i q; left; simp only [q]
        · exact .inr rfl
    · cases h
  | .aug i o e, x, h => by
    unfold mS at h
    split at h
    · simp only [Bool.and_eq_true, decide_eq_true_eq] at h
      obtain ⟨⟨⟨⟨h1, h2⟩, h3⟩, rfl⟩, h5⟩ := h
      unfold evS
      exact ss_aug G.g.ndX (G.g.at_ h1).1 (G.g.loc h2) (E.sound G.g e _ h5).e (aop_ok o) (G.g.set h3)
    · cases h
  | .pass, x, h => by
    unfold mS at h
    split at h
    · unfold evS; exact ss_pass
    · cases h
  | .brk, x, h => by
    unfold mS at h
    split at h
    · unfold evS; exact ss_brk
    · cases h
  | .cnt, x, h => by
    unfold mS at h
    split at h
    · unfold evS; exact ss_cont
    · cases h
  | .bad, x, _ => by unfold evS; exact ss_bad
  | .frz _, x, h => by unfold mS at h; cases h
  | .ite t a b, x, h => by
    unfold mS at h
    split at h
    · simp only [Bool.and_eq_true] at h
      unfold evS
      exact ss_if (E.sound G.g t _ h.1.1).t (B.sound G a _ h.1.2) (B.sound G b _ h.2)
    · cases h
  | .for_ it tg b, x, h => by
    unfold mS at h
    split at h
    · simp only [Bool.and_eq_true] at h
      obtain ⟨⟨⟨h1, h2⟩, h3⟩, h4⟩ := h
      unfold evS
      exact ss_for G.pass G.g.calm (It.sound G.g it _ _ h2) (mT_sound G.g tg _ h3) (B.sound G b _ h4) (set_at h1)
    · cases h
  | .whl n t b, x, h => by
    unfold mS at h
    split at h
    · simp only [Bool.and_eq_true] at h
      unfold evS
      exact ss_while G.pass (E.sound G.g t _ h.1).t (B.sound G b _ h.2)
    · cases h
  | .lendC i s, x, h => by
    unfold mS at h
    unfold evS
    exact ss_lendC (S.sound G s x h)
  | .raise k, x, h => by
    unfold mS at h
    split at h
    · simp only [Bool.and_eq_true, decide_eq_true_eq] at h
      obtain ⟨⟨h1, h2⟩, h3⟩ := h
      obtain ⟨Ca, e, P⟩ := G.clsP k _ h3
      unfold evS
      exact ss_raise G.g.calm G.g.tk (G.g.gl h1) P e (okN_at h2).1
    · cases h
  | .raise1 k e, x, h => by
    unfold mS at h
    split at h
    · rename_i n np y p p'
      simp only [Bool.and_eq_true] at h
      obtain ⟨⟨⟨⟨h1, h2⟩, h3⟩, h4⟩, h5⟩ := h
      split at h3
      · rename_i m f q
        have h3 : m = n := of_decide_eq_true h3
        subst h3
        obtain ⟨Ca, ec, P⟩ := G.clsF k _ f q
        unfold evS
        exact ss_raise1 G.g.calm G.g.tk (G.g.gl h1) P ec (E.sound G.g e y h5).e (okN_at h2).1 (starEach_at h4)
      · cases h3
    · cases h
theorem B.sound (G : GoodS X fa cl W C Γ) : ∀ (s : List S) (x : List Stmt), mB C s x = true → SnB X fa cl W x (evB Γ s)
  | [], x, h => by
    unfold mB at h
    split at h
    · unfold evB; exact sb_nil
    · cases h
  | s :: r, x, h => by
    unfold mB at h
    split at h
    · unfold evB
      rw [show evS Γ (S.frz _) = cFrz _ from by unfold evS; rfl]
      exact sb_frz (B.sound G r x h)
    · split at h
      · rw [Bool.and_eq_true] at h
        unfold evB
        exact sb_cons (S.sound G s _ h.1) (B.sound G r _ h.2)
      · cases h
end
end
/-! ## plain parameters -/
theorem zip_look : ∀ {ps : List Str} {us : List Value}, ps.Nodup → us.length = ps.length → ∀ {qs : List Str} {ws : List Value}, qs.length = ws.length → (∀ x ∈ ps, x ∉ qs) →
    (ps.filterMap fun n => ((qs.zip ws ++ ps.zip us).lookup n).map (n, ·)) = ps.zip us
  | [], us, _, _, _, _, _, _ => by simp
  | p :: ps, [], _, h, _, _, _, _ => by simp at h
  | p :: ps, u :: us, nd, h, qs, ws, hq, hn => by
    have nd' := List.nodup_cons.mp nd
    have e1 : (qs.zip ws).lookup p = none := by
      rw [List.lookup_eq_none_iff]
      intro y hy
      have := (List.of_mem_zip hy).1
      have := hn p List.mem_cons_self
      rw [bne_iff_ne]
      intro z; subst z
      exact this (List.of_mem_zip hy).1
    have e2 : ((qs.zip ws ++ (p :: ps).zip (u :: us)).lookup p) = some u := by
      rw [List.lookup_append, e1]; simp
    rw [List.filterMap_cons, e2]
    show (p, u) :: _ = (p, u) :: _
    have e3 : qs.zip ws ++ (p :: ps).zip (u :: us) = (qs ++ [p]).zip (ws ++ [u]) ++ ps.zip us := by
      rw [List.zip_append hq, List.zip_cons_cons, List.append_assoc]; rfl
    rw [e3]
    rw [zip_look (qs := qs ++ [p]) (ws := ws ++ [u]) nd'.2 (by simpa using h) (by simp [hq]) (fun x hx => by
      rw [List.mem_append, List.mem_singleton]
      rintro (z | z)
      · exact hn x (List.mem_cons_of_mem _ hx) z
      · subst z; exact nd'.1 hx)]
    rfl
theorem zip_some {ps : List Str} {us : List Value} (h : us.length = ps.length) : ∀ x ∈ ps, ((ps.zip us).lookup x).isNone = false := by
  induction ps generalizing us with
  | nil => intro x hx; cases hx
  | cons p ps ih =>
    cases us with
    | nil => cases h
    | cons u us =>
      intro x hx
      rw [List.zip_cons_cons, List.lookup_cons]
      cases q : (x == p) with
      | true => rfl
      | false =>
        rcases List.mem_cons.mp hx with z | z
        · subst z; simp at q
        · exact ih (by simpa using h) x z
theorem bindArgs_plain {fd : FuncData} {as : List Arg} (hp : fd.params = ⟨[], as, none, [], [], none, []⟩) (nd : (as.map (·.arg)).Nodup) (hd : fd.defaults = .none) (us : List Value) (hl : us.length = (as.map (·.arg)).length) :
    bindArgs fd ⟨us, []⟩ = pure ((as.map (·.arg)).zip us) := by
  unfold bindArgs
  rw [hp, hd]
  have e1 : ((as.map (·.arg)).take ((as.map (·.arg)).length - 0)).filter (fun n => (((as.map (·.arg)).zip us).lookup n).isNone) = [] := by
    rw [List.filter_eq_nil_iff]
    intro x hx
    rw [zip_some hl x (List.mem_of_mem_take hx)]; simp
  have e2 : ((as.map (·.arg)).filterMap fun n => (((as.map (·.arg)).zip us).lookup n).map (n, ·)) = (as.map (·.arg)).zip us := by
    have := zip_look (qs := []) (ws := []) nd hl rfl (by simp)
    simpa using this
  have e3 : seqItems? .none = (pure none : Sem (Option (Array Value))) := rfl
  have e4 : ¬ (us.length > (as.map (·.arg)).length) := by omega
  simp only [List.map_nil, List.nil_append, List.append_nil, List.forIn_nil, pure_bind, e3, Option.getD_none, List.drop_nil, List.length_nil, Nat.zero_sub]
  rw [if_neg (by simp only [decide_eq_false e4, Bool.false_and]; simp), if_neg (by rw [e1]; simp)]
  simp only [List.zip_nil_right, List.forIn_nil, pure_bind]
  rw [if_neg (by simp), e2]
theorem binds_plain {K : PySem.W.Frag} {fd : FuncData} {as : List Arg} (hp : fd.params = ⟨[], as, none, [], [], none, []⟩) (nd : (as.map (·.arg)).Nodup) (hd : fd.defaults = .none) : Binds K fd (as.map (·.arg)) [] := Binds.all (bindArgs_plain hp nd hd)
/-! ## a program -/
structure FnD where
  name : Str
  ps : List Str
  N : List Str
  body : List S
abbrev Prog := List FnD
/-- what the i-th function does, calls going down at most l deep; i + 1000: the same, one level deeper -/
def run (P : Prog) : Nat → Gam
  | 0, _ => fun _ _ => .bad
  | l + 1, i => match P[i]? with
    | some f => fnSem f.ps.length f.N.length (evB (run P l) f.body)
    | none => run P l (i - 1000)
def fnAt (K : PySem.W.Frag) (x : Str) : Option (Addr × FuncData) := match PySem.W.nsIn K mainGlobals x with
  | some (some (.ref a)) => (match K.lookup a with
    | some ⟨_, _, .func fd, _⟩ => some (a, fd)
    | _ => none)
  | _ => none
def scopeC (N ps : List Str) (sc : Scope) : Bool :=
  (match sc.kind with | .function => true | _ => false) && !sc.isCoroutine && !sc.isGenerator && decide N.Nodup && decide (N.take ps.length = ps) && ps.all (locC sc) && sc.names.all fun y => match y.2 with | .free => false | _ => true
def isNone : Value → Bool
  | .none => true
  | _ => false
def litV : Lit → Value → Bool
  | .non, .none => true
  | .bl a, .bool b => a == b
  | .int a, .int b _ => decide (a = b)
  | .str a, .str b _ => decide (a = b)
  | _, _ => false
def flV : Fl → Value → Bool
  | .non, .none => true
  | .bl a, .bool b => a == b
  | .int a, .int b _ => decide (a = b)
  | .str a, .str b _ => decide (a = b)
  | _, _ => false
def flsV : List Fl → List Value → Bool
  | [], [] => true
  | l :: ls, v :: vs => flV l v && flsV ls vs
  | _, _ => false
/-- a constant's value in the written part -/
def litK (K : PySem.W.Frag) (l : Lit) (v : Value) : Bool := match l, v with
  | .ct ls, .ref p => (match K.lookup p with
    | some ⟨c, _, .seq its _, _⟩ => (match c with | .type n => n == "tuple" | _ => false) && decide (its.size ≤ sizeLine) && flsV ls its.toList
    | _ => false)
  | .ct _, _ => false
  | l, v => litV l v
def conC (K : PySem.W.Frag) (c : Str × Lit) : Bool := match PySem.W.nsIn K mainGlobals c.1 with
  | some (some v) => litK K c.2 v
  | _ => false
def parsC (ps : List Str) : Arguments → Bool
  | ⟨[], as, none, [], [], none, []⟩ => decide (as.map (·.arg) = ps) && decide ps.Nodup
  | _ => false
/-! ### classes of exceptions -/
def clsV (K : PySem.W.Frag) (x : Str) : Value := match PySem.W.nsIn K mainGlobals x with
  | some (some v) => v
  | _ => .none
def clP (K : PySem.W.Frag) (CL : List (Str × Option Str)) : Nat → ClsI := fun k => match CL[k]? with
  | some (x, f) => ⟨clsV K x, f⟩
  | none => ⟨.none, none⟩
abbrev ieB : List Value := [.type "IndexError", .type "LookupError", .type "Exception", .type "BaseException", .type "object"]
abbrev oeB : List Value := [.type "OverflowError", .type "ArithmeticError", .type "Exception", .type "BaseException", .type "object"]
def oxB (K : PySem.W.Frag) (C : Addr) (newId : String) (bmB : List Value) : Bool := (match K.lookup C with
    | some ⟨.type "type", _, .cls cd, sl⟩ => (match cd.mro, sl.toList with
      | .ref C' :: bm, [_, _, _, _, some (.builtin n), _] => C' == C && n == newId && !cd.hasDel && cd.hasDict && PySem.W.excTail bmB bm
      | _, _ => false)
    | _ => false) && decide (PySem.W.findIn K (.ref C) "__setattr__" = some (some (.builtin "object.__setattr__"))) && decide (PySem.W.subIn K (.ref C) (.type "BaseException") = some true) && decide (PySem.W.typeIn K (.ref C) = some (.type "type")) && PySem.W.keepIn K (.ref C)
theorem oxB_ok {K : PySem.W.Frag} {C : Addr} {newId : String} {bmB : List Value} (h : oxB K C newId bmB = true) : OxG K C newId bmB := by
  unfold oxB at h
  simp only [Bool.and_eq_true, decide_eq_true_eq] at h
  obtain ⟨⟨⟨⟨h1, h2⟩, h3⟩, h4⟩, h5⟩ := h
  refine ⟨?_, h2, h3, h4, h5⟩
  split at h1
  · rename_i dd cd sl ho
    split at h1
    · rename_i C' bm k0 k1 k2 k3 n k5 hm hs
      simp only [Bool.and_eq_true, beq_iff_eq, Bool.not_eq_true'] at h1
      obtain ⟨⟨⟨⟨rfl, rfl⟩, del⟩, dct⟩, tl⟩ := h1
      obtain ⟨nm, bs, mro, ns, qn, hd, sn, sb, ab, col, dl⟩ := cd
      dsimp only at hm del dct
      subst hm del dct
      obtain ⟨l⟩ := sl
      simp only at hs
      subst hs
      exact ⟨nm, qn, ns, bs, bm, sn, sb, ab, col, dd, k0, k1, k2, k3, k5, ho, tl⟩
    · cases h1
  · cases h1
/-- the class's own __init__: self.f = v -/
def initC (K : PySem.W.Frag) (fI : Addr) (f : Str) : Bool := match K.lookup fI with
  | some ⟨_, _, .func fd, _⟩ => (match fd.body, fd.params with
    | .stmts [.Assign [.Attribute (.Name sn _) f' _] (.Name vn _) _], ⟨[], as, none, [], [], none, []⟩ => decide (f' = f) && decide (as.map (·.arg) = [sn, vn]) && scopeC [sn, vn] [sn, vn] fd.scope && visC fd.scope sn && visC fd.scope vn && okN sn && okN vn
    | _, _ => false) && decide (fd.globals = mainGlobals) && fd.closure.isEmpty && decide (fd.builtins = builtinsNs) && PySem.W.codeIn K fd.code fd.qualname && isNone fd.defaults && decide (PySem.W.typeIn K (.ref fI) = some (.type "function"))
  | _ => false
def clsC (K : PySem.W.Frag) : Str × Option Str → Bool
  | (x, none) => (match PySem.W.nsIn K mainGlobals x with
    | some (some (.ref C)) => PySem.W.excIn K C veB "ValueError.__new__" && PySem.W.keepIn K (.ref C) && decide (PySem.W.subIn K (.ref C) (.type "BaseException") = some true) && decide (PySem.W.typeIn K (.ref C) = some (.type "type"))
    | _ => false)
  | (x, some f) => (match PySem.W.nsIn K mainGlobals x with
    | some (some (.ref C)) => (oxB K C "IndexError.__new__" ieB || oxB K C "OverflowError.__new__" oeB) && xfB K C && decide (PySem.W.findIn K (.ref C) f = some none) && (match PySem.W.findIn K (.ref C) "__init__" with
      | some (some (.ref fI)) => initC K fI f
      | _ => false)
    | _ => false)
/-- of unlike classes none takes the other's exceptions -/
def exmC (K : PySem.W.Frag) (CL : List (Str × Option Str)) : Bool := (List.range CL.length).all fun k => (List.range CL.length).all fun j => decide (PySem.W.exmOne K (clP K CL k).val (clP K CL j).val = some (decide (k = j)))
/-- the def that tells how a call ends -/
def metC (K : PySem.W.Frag) (CL : List (Str × Option Str)) (M : MetD) : Bool := match fnAt K M.name with
  | some (_, fd) => (match fd.body with
    | .stmts [.Try [.Return (some (.Tuple [.Constant (.str t) _ _, .Call (.Name a _) [] [] _] _ _)) _] (h0 :: hds) [] [] _] => decide (t = M.tag) && decide (a = M.par) && hdsC fd.scope CL M.err M.hs (h0 :: hds)
    | _ => false) && decide (fd.globals = mainGlobals) && fd.closure.isEmpty && decide (fd.builtins = builtinsNs) && PySem.W.codeIn K fd.code fd.qualname && decide (fd.qualname = M.name) && decide (fd.name = M.name) && scopeC [M.par, M.err] [M.par] fd.scope && visC fd.scope M.par && okN M.par && decide (M.par ≠ M.err) &&
    parsC [M.par] fd.params && isNone fd.defaults && M.hs.all (fun y => decide (y.1 < CL.length))
  | none => false
def lamC (K : PySem.W.Frag) (f : FnD) : Bool := match fnAt K f.name, PySem.W.tabIn K f.name with
  | some (_, fd), some (c, _) => decide (f.name ∈ makers) && decide (fd.code = .ref c) && decide (fd.qualname = f.name)
  | _, _ => false
def fnC (K : PySem.W.Frag) (fns : List Str) (con : List (Str × Lit)) (CL : List (Str × Option Str)) (MS : List MetD) (f : FnD) : Bool := match fnAt K f.name with
  | some (a, fd) => (match fd.body with
    | .stmts body => mB ⟨fd.scope, f.N, fun _ => true, fns, con, 0, CL, MS, lamC K f⟩ f.body body
    | _ => false) && decide (fd.globals = mainGlobals) && fd.closure.isEmpty && decide (fd.builtins = builtinsNs) && PySem.W.codeIn K fd.code fd.qualname && scopeC f.N f.ps fd.scope && parsC f.ps fd.params && isNone fd.defaults
  | none => false
def freeC (K : PySem.W.Frag) (x : Str) : Bool := match PySem.W.nsIn K mainGlobals x with
  | some none => true
  | _ => false
def bltNames : List Str := ["len", "int", "abs", "max", "min", "tuple", "list", "all", "any", "sum", "isinstance", "repr", "sorted", "bool", "str", "dict", "range", "zip", "enumerate"]
def progC (K : PySem.W.Frag) (con : List (Str × Lit)) (CL : List (Str × Option Str)) (MS : List MetD) (P : Prog) : Bool :=
  (P.all (fnC K (P.map (·.name)) con CL MS)) && con.all (conC K) && bltNames.all (freeC K) && CL.all (clsC K) && exmC K CL && MS.all (metC K CL) && decide (P.length ≤ 1000) && makers.all fun x => match PySem.W.tabIn K x with
    | some (_, P) => (K.lookup P).isNone
    | none => true
/-! ## a checked program does what its own text does -/
def faP (K : PySem.W.Frag) (P : Prog) : Nat → Option Addr := fun i => match P[i]? with
  | some f => (fnAt K f.name).map (·.1)
  | none => none
structure MgOk (K : PySem.W.Frag) (mg : Str → Option Value) : Prop where
  so : ∀ x v, PySem.W.nsIn K mainGlobals x = some (some v) → mg x = some v
  no : ∀ x, PySem.W.nsIn K mainGlobals x = some none → mg x = none
theorem fnAt_at {K : PySem.W.Frag} {x : Str} {a : Addr} {fd : FuncData} (h : fnAt K x = some (a, fd)) : PySem.W.nsIn K mainGlobals x = some (some (.ref a)) ∧ ∃ oc od sl, K.lookup a = some ⟨oc, od, .func fd, sl⟩ := by
  unfold fnAt at h
  split at h
  · rename_i b e
    split at h
    · rename_i oc od fd' sl e2
      cases h
      exact ⟨e, oc, od, sl, e2⟩
    · cases h
  · cases h
theorem litV_at {l : Lit} {v : Value} (h : litV l v = true) : RelV l.v v := by
  unfold litV at h
  split at h
  · rfl
  · rw [eq_of_beq h]; rfl
  · rw [of_decide_eq_true h]; exact ⟨_, rfl⟩
  · rw [of_decide_eq_true h]; exact ⟨_, rfl⟩
  · cases h
theorem flV_at {l : Fl} {v : Value} (h : flV l v = true) : RelV l.v v := by
  unfold flV at h
  split at h
  · rfl
  · rw [eq_of_beq h]; rfl
  · rw [of_decide_eq_true h]; exact ⟨_, rfl⟩
  · rw [of_decide_eq_true h]; exact ⟨_, rfl⟩
  · cases h
theorem flsV_at : ∀ {ls : List Fl} {vs : List Value}, flsV ls vs = true → Vals (ls.map Fl.v) vs
  | [], [], _ => .nil
  | [], _ :: _, h => by cases h
  | _ :: _, [], h => by cases h
  | l :: ls, v :: vs, h => by
    unfold flsV at h
    obtain ⟨h1, h2⟩ := Bool.and_eq_true_iff.mp h
    exact .cons (flV_at h1) (flsV_at h2)
theorem litK_at {K : PySem.W.Frag} {l : Lit} {v : Value} (h : litK K l v = true) : LitOk K l v := by
  cases l with
  | ct ls =>
    cases v with
    | ref p =>
      have h : (match K.lookup p with
        | some ⟨c, _, .seq its _, _⟩ => (match c with | .type n => n == "tuple" | _ => false) && decide (its.size ≤ sizeLine) && flsV ls its.toList
        | _ => false) = true := h
      split at h
      · rename_i c d its n sl e
        simp only [Bool.and_eq_true, decide_eq_true_eq] at h
        obtain ⟨⟨h1, h2⟩, h3⟩ := h
        refine ⟨p, rfl, fun H => .inr ⟨_, its, n, e, ?_, rfl, h2, flsV_at h3⟩⟩
        split at h1
        · rw [eq_of_beq h1]
        · cases h1
      · cases h
    | _ => exact absurd (show false = true from h) (by decide)
  | non => exact litV_at (l := .non) (v := v) (by cases v <;> exact h)
  | bl b => exact litV_at (l := .bl b) (v := v) (by cases v <;> exact h)
  | int b => exact litV_at (l := .int b) (v := v) (by cases v <;> exact h)
  | str b => exact litV_at (l := .str b) (v := v) (by cases v <;> exact h)
theorem parsC_at {ps : List Str} {p : Arguments} (h : parsC ps p = true) : ∃ as : List Arg, p = ⟨[], as, none, [], [], none, []⟩ ∧ as.map (·.arg) = ps ∧ ps.Nodup := by
  unfold parsC at h
  split at h
  · rw [Bool.and_eq_true, decide_eq_true_eq, decide_eq_true_eq] at h
    exact ⟨_, rfl, h.1, h.2⟩
  · cases h
theorem scopeC_at {N ps : List Str} {sc : Scope} (h : scopeC N ps sc = true) : FnScope N ps sc := by
  unfold scopeC at h
  simp only [Bool.and_eq_true, decide_eq_true_eq, Bool.not_eq_true', List.all_eq_true] at h
  obtain ⟨⟨⟨⟨⟨⟨h1, h2⟩, h3⟩, h4⟩, h5⟩, h6⟩, h7⟩ := h
  refine ⟨?_, h2, h3, h4, h5, fun x hx => loc_at (h6 x hx), fun y hy z => ?_⟩
  · split at h1
    · assumption
    · cases h1
  · have := h7 y hy
    rw [z] at this; cases this
structure FnFacts (K : PySem.W.Frag) (C : List Str) (con : List (Str × Lit)) (CL : List (Str × Option Str)) (MS : List MetD) (f : FnD) (a : Addr) (fd : FuncData) : Prop where
  ns : PySem.W.nsIn K mainGlobals f.name = some (some (.ref a))
  lk : ∃ oc od sl, K.lookup a = some ⟨oc, od, .func fd, sl⟩
  fd_ : ∃ body, fd = PySem.W.fnOf fd.name fd.qualname fd.params body fd.scope fd.defaults fd.kwdefaults fd.doc fd.pyModule fd.annotations fd.code fd.closureTuple ∧ mB ⟨fd.scope, f.N, fun _ => true, C, con, 0, CL, MS, lamC K f⟩ f.body body = true
  code : PySem.W.codeIn K fd.code fd.qualname = true
  sc : FnScope f.N f.ps fd.scope
  bind : Binds K fd f.ps []
  keep : PySem.W.keepIn K (.ref a) = true
theorem keep_at {K : PySem.W.Frag} {a : Addr} {oc : Value} {od : Option Addr} {fd : FuncData} {sl : Array (Option Value)} (h : K.lookup a = some ⟨oc, od, .func fd, sl⟩) : PySem.W.keepIn K (.ref a) = true := by
  unfold PySem.W.keepIn
  simp only [h]
theorem none_at {v : Value} (h : isNone v = true) : v = .none := by
  unfold isNone at h
  split at h
  · rfl
  · cases h
theorem fnC_at {K : PySem.W.Frag} {C : List Str} {con : List (Str × Lit)} {CL : List (Str × Option Str)} {MS : List MetD} {f : FnD} (h : fnC K C con CL MS f = true) : ∃ a fd, fnAt K f.name = some (a, fd) ∧ FnFacts K C con CL MS f a fd := by
  unfold fnC at h
  split at h
  · rename_i a fd e
    simp only [Bool.and_eq_true, decide_eq_true_eq] at h
    obtain ⟨⟨⟨⟨⟨⟨⟨h1, h2⟩, h3⟩, h4⟩, h5⟩, h6⟩, h7⟩, h8⟩ := h
    obtain ⟨e1, e2⟩ := fnAt_at e
    refine ⟨a, fd, e, e1, e2, ?_, h5, scopeC_at h6, ?_, ?_⟩
    · split at h1
      · rename_i body hb
        refine ⟨body, ?_, h1⟩
        obtain ⟨x1, x2, x3, x4, x5, x6, x7, x8, x9, x10, x11, x12, x13, x14, x15⟩ := fd
        simp only at hb h2 h3 h4
        subst hb h2 h4
        rw [List.isEmpty_iff] at h3
        subst h3
        rfl
      · cases h1
    · obtain ⟨as, p1, p2, p3⟩ := parsC_at h7
      rw [← p2] at p3 ⊢
      exact binds_plain p1 p3 (none_at h8)
    · obtain ⟨oc, od, sl, e2⟩ := e2
      exact keep_at e2
  · cases h
/-! ### the classes -/
theorem clP_at {K : PySem.W.Frag} {CL : List (Str × Option Str)} {k : Nat} {x : Str} {f : Option Str} {C : Addr} (h : CL[k]? = some (x, f)) (e : PySem.W.nsIn K mainGlobals x = some (some (.ref C))) : clP K CL k = ⟨.ref C, f⟩ := by
  unfold clP clsV
  rw [h]
  dsimp only
  rw [e]
theorem initC_at {K : PySem.W.Frag} {fI : Addr} {f : Str} (h : initC K fI f = true) : ∃ (oc : Value) (od : Option Addr) (sl : Array (Option Value)) (name qual : Str) (pr : Arguments) (sn vn : Str) (p1 p2 p3 p4 : Pos) (scope : Scope) (dV kV doc pm : Value) (an : Option Addr) (cdv ct : Value),
    K.lookup fI = some ⟨oc, od, .func (PySem.W.fnOf name qual pr [.Assign [.Attribute (.Name sn p1) f p2] (.Name vn p3) p4] scope dV kV doc pm an cdv ct), sl⟩ ∧ PySem.W.codeIn K cdv qual = true ∧ FnScope [sn, vn] [sn, vn] scope ∧ Vis scope sn ∧ Vis scope vn ∧ okN sn = true ∧ okN vn = true ∧
    PySem.W.typeIn K (.ref fI) = some (.type "function") ∧ Binds K (PySem.W.fnOf name qual pr [.Assign [.Attribute (.Name sn p1) f p2] (.Name vn p3) p4] scope dV kV doc pm an cdv ct) [sn, vn] [] := by
  unfold initC at h
  split at h
  · rename_i oc od fd sl lk
    simp only [Bool.and_eq_true, decide_eq_true_eq] at h
    obtain ⟨⟨⟨⟨⟨⟨h1, h2⟩, h3⟩, h4⟩, h5⟩, h6⟩, h7⟩ := h
    split at h1
    · rename_i sn p1 f' p2 vn p3 p4 as hb hp
      simp only [Bool.and_eq_true, decide_eq_true_eq] at h1
      obtain ⟨⟨⟨⟨⟨⟨rfl, g1⟩, g2⟩, g3⟩, g4⟩, g5⟩, g6⟩ := h1
      have nd : (as.map (·.arg)).Nodup := by rw [g1]; exact (scopeC_at g2).nd
      have hd := none_at h6
      obtain ⟨x1, x2, x3, x4, x5, x6, x7, x8, x9, x10, x11, x12, x13, x14, x15⟩ := fd
      simp only at hb hp h2 h3 h4 h5 g2 g3 g4 hd
      subst hb hp h2 h4
      rw [List.isEmpty_iff] at h3
      subst h3
      refine ⟨oc, od, sl, _, _, _, sn, vn, p1, p2, p3, p4, _, _, _, _, _, _, _, _, lk, h5, scopeC_at g2, vis_at g3, vis_at g4, g5, g6, h7, ?_⟩
      rw [← g1]
      exact binds_plain rfl nd hd
    · cases h1
  · cases h
section
variable {X : Cx} {CL : List (Str × Option Str)}
theorem clsP_at {k : Nat} {y : Str} (h : clsC X.K (y, none) = true) (q : CL[k]? = some (y, none)) (M : ∀ x v, PySem.W.nsIn X.K mainGlobals x = some (some v) → X.mg x = some v) : ∃ Ca, clP X.K CL k = ⟨.ref Ca, none⟩ ∧ ClsP X y Ca := by
  unfold clsC at h
  dsimp only at h
  split at h
  · rename_i C e
    simp only [Bool.and_eq_true, decide_eq_true_eq] at h
    obtain ⟨⟨⟨h1, h2⟩, h3⟩, h4⟩ := h
    exact ⟨C, clP_at q e, M _ _ e, h2, h1, raises_own h3 h4⟩
  · cases h
theorem clsF_at {k : Nat} {y f : Str} (h : clsC X.K (y, some f) = true) (q : CL[k]? = some (y, some f)) (M : ∀ x v, PySem.W.nsIn X.K mainGlobals x = some (some v) → X.mg x = some v) (hr : Room 2 X.A) : ∃ Ca, clP X.K CL k = ⟨.ref Ca, some f⟩ ∧ ClsF X y f Ca := by
  unfold clsC at h
  dsimp only at h
  split at h
  · rename_i C e
    simp only [Bool.and_eq_true, Bool.or_eq_true, decide_eq_true_eq] at h
    obtain ⟨⟨⟨h1, h2⟩, h3⟩, h4⟩ := h
    split at h4
    · rename_i fI ei
      obtain ⟨oc, od, sl, name, qual, pr, sn, vn, p1, p2, p3, p4, scope, dV, kV, doc, pm, an, cdv, ct, lk, c1, c2, c3, c4, c5, c6, c7, c8⟩ := initC_at h4
      have fin : ∀ {B newId initId : String} {bmB : List Value}, BaseX B newId initId bmB → oxB X.K C newId bmB = true → ∃ Ca, clP X.K CL k = ⟨.ref Ca, some f⟩ ∧ ClsF X y f Ca := fun {B newId initId bmB} BX ox =>
        ⟨C, clP_at q e, M _ _ e, B, newId, initId, bmB, fI, 1, _, _, BX, oxB_ok ox, h3, ei, c7, init_fn BX lk c1 c2 c3 c4 (okN_at c5).1 (okN_at c6).1 (okN_at c5).2.1 (okN_at c6).2.1, rfl, hr, c8⟩
      rcases h1 with h1 | h1
      · exact fin baseX_IndexError h1
      · exact fin baseX_OverflowError h1
    · cases h4
  · cases h
end
theorem clOk_at {K : PySem.W.Frag} {mg : Str → Option Value} {CL : List (Str × Option Str)} (h : CL.all (clsC K) = true) (he : exmC K CL = true) (M : ∀ x v, PySem.W.nsIn K mainGlobals x = some (some v) → mg x = some v) : CLok K mg (clP K CL) CL := by
  rw [List.all_eq_true] at h
  refine ⟨fun k y f q => ?_, fun k j hk hj => ?_⟩
  · have hc := h (y, f) (List.mem_of_getElem? q)
    cases f with
    | none =>
      unfold clsC at hc
      dsimp only at hc
      split at hc
      · rename_i C e
        exact ⟨C, M _ _ e, clP_at q e, fun f' z => nomatch z⟩
      · cases hc
    | some f =>
      unfold clsC at hc
      dsimp only at hc
      split at hc
      · rename_i C e
        simp only [Bool.and_eq_true, decide_eq_true_eq] at hc
        exact ⟨C, M _ _ e, clP_at q e, fun f' z => by cases z; exact ⟨xfB_ok hc.1.1.2, hc.1.2⟩⟩
      · cases hc
  · unfold exmC at he
    rw [List.all_eq_true] at he
    have := he k (List.mem_range.mpr hk)
    rw [List.all_eq_true] at this
    exact of_decide_eq_true (this j (List.mem_range.mpr hj))
theorem look_mem {β : Type} {k : Nat} {y : β} : ∀ {l : List (Nat × β)}, l.lookup k = some y → (k, y) ∈ l
  | (a, b) :: l, h => by
    rw [List.lookup_cons] at h
    split at h
    · rename_i e
      cases h
      rw [eq_of_beq e]
      exact List.mem_cons_self
    · exact List.mem_cons_of_mem _ (look_mem h)
theorem metC_at {K : PySem.W.Frag} {mg : Str → Option Value} {CL : List (Str × Option Str)} {Mt : MetD} (h : metC K CL Mt = true) (M : ∀ x v, PySem.W.nsIn K mainGlobals x = some (some v) → mg x = some v) : MetOk K mg CL Mt := by
  unfold metC at h
  split at h
  · rename_i a fd e
    simp only [Bool.and_eq_true, decide_eq_true_eq] at h
    obtain ⟨⟨⟨⟨⟨⟨⟨⟨⟨⟨⟨⟨⟨h1, h2⟩, h3⟩, h4⟩, h5⟩, h6⟩, h7⟩, h8⟩, h9⟩, h10⟩, h11⟩, h12⟩, h13⟩, h14⟩ := h
    obtain ⟨e1, oc, od, sl, e2⟩ := fnAt_at e
    split at h1
    · rename_i t j q1 an p1 p2 kt qt p3 h0 hds p8 hb
      simp only [Bool.and_eq_true, decide_eq_true_eq] at h1
      obtain ⟨⟨rfl, rfl⟩, h1⟩ := h1
      obtain ⟨as, g1, g2, g3⟩ := parsC_at h12
      have hd := none_at h13
      have S := scopeC_at h8
      have hv := vis_at h9
      obtain ⟨x1, x2, x3, x4, x5, x6, x7, x8, x9, x10, x11, x12, x13, x14, x15⟩ := fd
      simp only at hb h2 h3 h4 h5 h6 h7 g1 hd S hv h1
      subst hb h2 h4 h6 g1
      rw [List.isEmpty_iff] at h3
      subst h3
      subst h7
      have hbd := binds_plain (K := K) (as := as) (fd := PySem.W.fnOf Mt.name Mt.name ⟨[], as, none, [], [], none, []⟩ [.Try [.Return (some (.Tuple [.Constant (.str Mt.tag) j q1, .Call (.Name Mt.par p1) [] [] p2] kt qt)) p3] (h0 :: hds) [] [] p8] x5 x8 x9 x10 x11 x12 x13 x14) rfl (by rw [g2]; exact g3) hd
      rw [g2] at hbd
      refine ⟨⟨a, oc, od, ⟨[], as, none, [], [], none, []⟩, x5, x8, x9, x10, x11, x13, x14, x12, sl, h0, hds, j, kt, q1, p1, p2, qt, p3, p8, M _ _ e1, keep_at e2, e2, h5, hbd, S, hv, h1⟩, h11, (okN_at h10).1, (okN_at h10).2.1, fun k hh look => ?_⟩
      rw [List.all_eq_true] at h14
      exact of_decide_eq_true (h14 (k, hh) (look_mem look))
    · cases h1
  · cases h
/-! ## a checked program does what its own text does -/
section
variable {pq : Program} {w : World} {K : PySem.W.Frag} {mg : Str → Option Value} {base : Heap} {P : Prog} {con : List (Str × Lit)} {CL : List (Str × Option Str)} {MS : List MetD}
theorem fnG_bad {fa : Nat → Option Addr} {cl : Nat → ClsI} {k : Nat} {a : Addr} {fd : FuncData} {ps : List Str} {f : List D → Kp → R} (h : ∀ ds κ, f ds κ = .bad) : FnG pq w K mg base k a fd ps (spF K fa cl f) :=
  ⟨fun vs H Q E ⟨c, F, κ, ds, _, _, _, _, o⟩ => by rw [h] at o; exact o.elim, fun A outer s H args us vs Q E _ _ _ _ _ ⟨c, F, κ, ds, _, _, _, _, o⟩ => by rw [h] at o; exact o.elim⟩
theorem run_down (hl : P.length ≤ 1000) (l i : Nat) : run P (l + 1) (1000 + i) = run P l i := by
  show (match P[1000 + i]? with | some f => fnSem f.ps.length f.N.length (evB (run P l) f.body) | none => run P l (1000 + i - 1000)) = _
  rw [List.getElem?_eq_none (by omega), Nat.add_sub_cancel_left]
theorem run_down2 (hl : P.length ≤ 1000) (l i : Nat) : run P (l + 2) (2000 + i) = run P l i := by
  rw [show 2000 + i = 1000 + (1000 + i) from by omega, run_down hl, run_down hl]
theorem faP_at {i : Nat} {a : Addr} (h : faP K P i = some a) : ∃ f fd, P[i]? = some f ∧ fnAt K f.name = some (a, fd) := by
  unfold faP at h
  cases q : P[i]? with
  | none => rw [q] at h; cases h
  | some f =>
    rw [q] at h
    obtain ⟨⟨b, fd⟩, e, e2⟩ := Option.map_eq_some_iff.mp h
    cases e2
    exact ⟨f, fd, rfl, e⟩
theorem tabAt_at {x : Str} {c Pt : Addr} (h : PySem.W.tabIn K x = some (c, Pt)) (hm : x ∈ makers) : (Pt, x ++ ".<locals>." ++ "<lambda>") ∈ tabsOf K ∧ (∀ p ∈ tabsOf K, p.2 = x ++ ".<locals>." ++ "<lambda>") := by
  unfold makers at hm
  rw [List.mem_singleton] at hm
  subst hm
  have e : tabsOf K = [(Pt, ("_law_right" : Str) ++ ".<locals>." ++ "<lambda>")] := by
    unfold tabsOf makers
    simp only [List.flatMap_cons, List.flatMap_nil, List.append_nil]
    unfold tabAt
    rw [h]
    rfl
  rw [e]
  exact ⟨List.mem_cons_self, fun p hp => by rw [List.mem_singleton.mp hp]⟩
theorem prog_sound (hP : ∀ f ∈ P, fnC K (P.map (·.name)) con CL MS f = true) (hc : ∀ x l, (x, l) ∈ con → ∃ u, mg x = some u ∧ LitOk K l u) (hb : ∀ x ∈ bltNames, mg x = none) (M : ∀ x v, PySem.W.nsIn K mainGlobals x = some (some v) → mg x = some v)
    (hcl : CL.all (clsC K) = true) (hex : exmC K CL = true) (hms : ∀ m ∈ MS, metC K CL m = true) (hlen : P.length ≤ 1000) (hT : ∀ x ∈ makers, ∀ c Pt, PySem.W.tabIn K x = some (c, Pt) → LamX.TabB base mg c Pt) :
    ∀ (l i : Nat) (f : FnD), P[i]? = some f → ∀ a fd, fnAt K f.name = some (a, fd) → FnG pq w K mg base (l + 2) a fd f.ps (spF K (faP K P) (clP K CL) (run P l i))
  | 0, i, f, hi, a, fd, ha => fnG_bad fun _ _ => rfl
  | l + 1, i, f, hi, a, fd, ha => by
    obtain ⟨a', fd', e, FF⟩ := fnC_at (hP f (List.mem_of_getElem? hi))
    rw [ha] at e; cases e
    obtain ⟨oc, od, sl, lk⟩ := FF.lk
    obtain ⟨body, hfd, hm⟩ := FF.fd_
    have hr : run P (l + 1) i = fnSem f.ps.length f.N.length (evB (run P l) f.body) := by
      show (match P[i]? with | some f => fnSem f.ps.length f.N.length (evB (run P l) f.body) | none => run P l (i - 1000)) = _
      rw [hi]
    have low : ∀ (j : Nat) (g : FnD), P[j]? = some g → ∀ b gd, fnAt K g.name = some (b, gd) → FnG pq w K mg base l b gd g.ps (spF K (faP K P) (clP K CL) (run P l (2000 + j))) := fun j g hj b gd hg => by
      match l with
      | 0 => exact fnG_bad fun _ _ => rfl
      | 1 => exact fnG_bad fun _ _ => by rw [show 2000 + j = 1000 + (1000 + j) from by omega, run_down hlen]; rfl
      | l + 2 => rw [run_down2 hlen]; exact prog_sound hP hc hb M hcl hex hms hlen hT l j g hj b gd hg
    rw [hr, hfd]
    rw [hfd] at lk
    refine fn_sound lk FF.code FF.sc fun A outer s H E room gd => ?_
    have hcls := clOk_at hcl hex M
    rw [List.all_eq_true] at hcl
    refine B.sound (C := ⟨fd.scope, f.N, fun _ => true, P.map (·.name), con, 0, CL, MS, lamC K f⟩) ⟨{ sc := rfl, N := rfl, nd := FF.sc.nd, calm := rfl, hfn := fun _ _ => rfl, hu := ?_, tk := takes_of rfl rfl rfl rfl, funs := fun j x hx => ?_, con := hc, bi := fun b => ?_, ty := fun t => ?_, rng := ?_, gd := gd, hu2 := ?_, rp := ?_, fnv := fun j b hj => ?_, lamF := fun hl => ?_ }, passes_of rfl, fun k y q => ?_, fun k y g q => ?_⟩ f.body body hm
    · have := room.un; show (A.deeper (envOfC fd.qualname fd.scope s.heap.objs.size a fd.code)).units + 65 < _; omega
    · rw [List.getElem?_map] at hx
      cases hj : P[j]? with
      | none => rw [hj] at hx; cases hx
      | some g =>
        rw [hj] at hx; cases hx
        obtain ⟨b, gd', e, GG⟩ := fnC_at (hP g (List.mem_of_getElem? hj))
        refine ⟨l + 2, b, gd', g.ps, ?_, ?_, room, M _ _ GG.ns, GG.keep, GG.bind⟩
        · unfold faP
          simp only [hj, e]; rfl
        · show FnG _ _ _ _ _ _ _ _ _ (spF _ _ _ (run P l (0 + j)))
          rw [Nat.zero_add]
          exact prog_sound hP hc hb M (List.all_eq_true.mpr hcl) hex hms hlen hT l j g hj b gd' e
    · exact hb _ (by cases b <;> decide)
    · exact hb _ (by cases t <;> decide)
    · exact ⟨hb _ (by decide), hb _ (by decide), hb _ (by decide)⟩
    · have := room.un; show (A.deeper (envOfC fd.qualname fd.scope s.heap.objs.size a fd.code)).units + 68 < _; omega
    · exact hb _ (by decide)
    · obtain ⟨g, gd', hj, e⟩ := faP_at hj
      obtain ⟨b', gd2, e', GG⟩ := fnC_at (hP g (List.mem_of_getElem? hj))
      rw [e] at e'; cases e'
      refine ⟨l + 2, gd', g.ps, ?_, room, GG.keep, GG.bind⟩
      show FnG _ _ _ _ _ _ _ _ _ (spF _ _ _ (run P l (0 + j)))
      rw [Nat.zero_add]
      exact prog_sound hP hc hb M (List.all_eq_true.mpr hcl) hex hms hlen hT l j g hj b gd' e
    · have hl : lamC K f = true := hl
      unfold lamC at hl
      split at hl
      · rename_i _ _ b fd2 c Pt e1 e2
        rw [ha] at e1; cases e1
        simp only [Bool.and_eq_true, decide_eq_true_eq] at hl
        obtain ⟨⟨h1, h2⟩, h3⟩ := hl
        obtain ⟨t1, t2⟩ := tabAt_at e2 h1
        have hq : (cxOf (L2.CX pq w) pq w K mg base f.N fd.qualname fd.scope a fd.code A outer s H E).env.qual ++ "<lambda>" = f.name ++ ".<locals>." ++ "<lambda>" := by
          show fd.qualname ++ ".<locals>." ++ "<lambda>" = _
          rw [h3]
        refine ⟨⟨c, Pt, hT f.name h1 c Pt e2, h2, ?_, fun p hp _ => ?_⟩, hcls, fun m hmm => metC_at (hms m hmm) M, l, room, fun j x hx => ?_, fun j b hj => ?_⟩
        · rw [hq]; exact t1
        · rw [hq]; exact t2 p hp
        · rw [List.getElem?_map] at hx
          cases hj : P[j]? with
          | none => rw [hj] at hx; cases hx
          | some g =>
            rw [hj] at hx; cases hx
            obtain ⟨b, gd', e, GG⟩ := fnC_at (hP g (List.mem_of_getElem? hj))
            refine ⟨b, gd', g.ps, ?_, ?_, M _ _ GG.ns, GG.keep, GG.bind⟩
            · unfold faP
              simp only [hj, e]; rfl
            · show FnG _ _ _ _ _ _ _ _ _ (spF _ _ _ (run P l (0 + 2000 + j)))
              rw [show 0 + 2000 + j = 2000 + j from by omega]
              exact low j g hj b gd' e
        · obtain ⟨g, gd', hj, e⟩ := faP_at hj
          obtain ⟨b', gd2, e', GG⟩ := fnC_at (hP g (List.mem_of_getElem? hj))
          rw [e] at e'; cases e'
          refine ⟨gd', g.ps, ?_, GG.keep, GG.bind⟩
          show FnG _ _ _ _ _ _ _ _ _ (spF _ _ _ (run P l (0 + 2000 + j)))
          rw [show 0 + 2000 + j = 2000 + j from by omega]
          exact low j g hj b gd' e
      · cases hl
    · exact clsP_at (X := cxOf (L2.CX pq w) pq w K mg base f.N fd.qualname fd.scope a fd.code A outer s H E) (hcl _ (List.mem_of_getElem? q)) q M
    · exact clsF_at (X := cxOf (L2.CX pq w) pq w K mg base f.N fd.qualname fd.scope a fd.code A outer s H E) (hcl _ (List.mem_of_getElem? q)) q M (room.mono (Nat.le_add_left 2 l))
end
/-! ## the law's own call -/
/-- what is tracked at the call: the script and the empty tables -/
def topH (a : Addr) (o : Obj) (xs : List V) (seen : Bool) (T : List Addr) : Hp := fun b => if b ∈ T then some (.tbl #[]) else if b = a ∧ seen = false then some (.frz o (.lst xs)) else none
section
variable {a : Addr} {o : Obj} {xs : List V} {seen : Bool} {T : List Addr} {b : Addr} {u : HO}
theorem topH_tab (h : b ∈ T) : topH a o xs seen T b = some (.tbl #[]) := if_pos h
theorem topH_cases (h : topH a o xs seen T b = some u) : (b ∈ T ∧ u = .tbl #[]) ∨ (b = a ∧ seen = false ∧ u = .frz o (.lst xs)) := by
  unfold topH at h
  by_cases h1 : b ∈ T
  · rw [if_pos h1] at h; cases h; exact .inl ⟨h1, rfl⟩
  · rw [if_neg h1] at h
    by_cases h2 : b = a ∧ seen = false
    · rw [if_pos h2] at h; cases h; exact .inr ⟨h2.1, h2.2, rfl⟩
    · rw [if_neg h2] at h; cases h
theorem topH_a (h : a ∉ T) (hs : seen = false) : topH a o xs seen T a = some (.frz o (.lst xs)) := by unfold topH; rw [if_neg h, if_pos ⟨rfl, hs⟩]
end
theorem law_callG {P : Program} {w : World} {K : PySem.W.Frag} {mg mb : Str → Option Value} {k : Nat} {fa a : Addr} {cs : List (Addr × Addr)} {fd : FuncData} {x : Str} {sp : Sp} {s₁ : Shared} {vs : List Value} {ns : List Int}
    (KX : K.In s₁.heap) (hns : s₁.heap.Ns mainGlobals mg) (hb : s₁.heap.Ns builtinsNs mb) (hbb : ∀ x : Str, x ≠ "__name__" → mb x = bootBuiltins x) (hlim : s₁.heap.NoLimit) (hg : s₁.gens = #[])
    (hT : ∀ p ∈ cs, s₁.heap.get? p.2 = some { cls := .none, data := .fields #[] }) (nT : ∀ p ∈ cs, K.lookup p.2 = none) (hC : ∀ p ∈ cs, PySem.W.CodeHd s₁.heap p.1 p.2)
    (hbm : ∃ (bm : Addr) (ob : Obj), mg "__builtins__" = some (.ref bm) ∧ bm ≠ builtinsNs ∧ s₁.heap.get? bm = some ob ∧ ob.cls = .type "module" ∧ ob.dict = some builtinsNs ∧ ob.data = .plain)
    (ha : s₁.heap.get? a = some { cls := .type "list", data := .seq vs.toArray }) (hi : IntsAre vs ns) (hl : ns.length ≤ sizeLine) (hr : Room k callerA)
    (F : ∀ base : Heap, K.In base → base.Ns mainGlobals mg → (∀ p ∈ cs, LamX.TabB base mg p.1 p.2) → FnG P w K mg base k fa fd [x] sp) (hbind : ∀ (s : Shared) (u : Value), BindsTo s fd ⟨[u], []⟩ [(x, u)])
    (hsp : ∀ H : Hp, (∀ p ∈ cs, H p.2 = some (.tbl #[])) → SqL K H a (ns.map V.int) → sp [.ref a] H (fun v _ => v = .bl true) fun _ _ _ => False) :
    codeAny (model P w) callerA (.call (.ref fa) ⟨[.ref a], []⟩) (fun r s' => r = .ok (.ret (.bool true)) ∧ OldK s₁.heap s'.heap ∧ s'.os = s₁.os ∧ AllBare s'.gens) s₁ := by
  have rv := vals_ints hi
  have lenV := hi.length
  have inT : ∀ {b : Addr}, b ∈ cs.map (·.2) → s₁.heap.get? b = some { cls := .none, data := .fields #[] } := fun hb => by
    obtain ⟨p, hp, rfl⟩ := List.mem_map.mp hb
    exact hT p hp
  have aT : a ∉ cs.map (·.2) := fun z => by
    have q := (inT z).symm.trans ha
    cases q
  obtain ⟨H, hH⟩ : ∃ H, H = topH a { cls := .type "list", data := .seq vs.toArray } (ns.map V.int) (K.lookup a).isSome (cs.map (·.2)) := ⟨_, rfl⟩
  have cases_ : ∀ {b : Addr} {u : HO}, H b = some u → (b ∈ cs.map (·.2) ∧ u = .tbl #[]) ∨ (b = a ∧ (K.lookup a).isSome = false ∧ u = .frz { cls := .type "list", data := .seq vs.toArray } (.lst (ns.map V.int))) := fun h => topH_cases (by rw [← hH]; exact h)
  have tabs : ∀ p ∈ cs, H p.2 = some (.tbl #[]) := fun p hp => by rw [hH]; exact topH_tab (List.mem_map.mpr ⟨p, hp, rfl⟩)
  have scr : SqL K H a (ns.map V.int) := by
    cases hk : K.lookup a with
    | some o =>
      have e := (KX a o hk).symm.trans ha
      cases e
      exact .inr ⟨_, vs.toArray, _, hk, rfl, rfl, rfl, by rw [List.size_toArray, lenV]; exact hl, by simpa using rv⟩
    | none => exact .inl (.inr ⟨{ cls := .type "list", data := .seq vs.toArray }, by rw [hH]; exact topH_a aT (by rw [hk]; rfl)⟩)
  have lies : HOk P w H s₁.heap := fun b u h => by
    rcases cases_ h with ⟨h1, rfl⟩ | ⟨rfl, _, rfl⟩
    · exact inT h1
    · exact ⟨ha, by rw [List.length_map]; exact hl, vs, _, rv, ha⟩
  have free : ∀ {b : Addr} {o : Obj}, s₁.heap.get? b = some o → (∀ us n, o.data ≠ .seq us n) → o.data ≠ .fields #[] → H b = none := fun {b o} e h1 h2 => by
    cases q : H b with
    | none => rfl
    | some u =>
      rcases cases_ q with ⟨h3, _⟩ | ⟨rfl, _, _⟩
      · rw [inT h3] at e; cases e; exact (h2 rfl).elim
      · rw [ha] at e; cases e; exact (h1 _ _ rfl).elim
  have below : ∀ {b : Addr} {o : Obj}, s₁.heap.get? b = some o → H b = none → (hidT s₁.heap H).get? b = some o := fun e n => hidT_get e n
  have asDict : ∀ {b : Addr} {m : Str → Option Value}, s₁.heap.Ns b m → (hidT s₁.heap H).Ns b m := fun {b m} ⟨o, es, ep, e, d, r⟩ =>
    ⟨o, es, ep, below e (free e (fun us n z => by rw [d] at z; cases z) fun z => by rw [d] at z; cases z), d, r⟩
  have kept : K.In (hidT s₁.heap H) := fun b o e => below (KX b o e) (by
    cases q : H b with
    | none => rfl
    | some u =>
      rcases cases_ q with ⟨h3, _⟩ | ⟨rfl, h4, _⟩
      · obtain ⟨p, hp, rfl⟩ := List.mem_map.mp h3
        rw [nT p hp] at e; cases e
      · rw [e] at h4; cases h4)
  have modu : L2.Mod K mg (hidT s₁.heap H) := ⟨kept, asDict hns, ⟨mb, asDict hb, hbb⟩, let ⟨mc, h1, h2⟩ := hlim; ⟨mc, asDict h1, h2⟩⟩
  have tb : ∀ p ∈ cs, LamX.TabB (hidT s₁.heap H) mg p.1 p.2 := fun p hp => by
    refine ⟨?_, ?_, fun z => ?_⟩
    · obtain ⟨o, us, file, tf, flags, tg, inF, text, tt, e1, r1, r2, r3, rest⟩ := hC p hp
      refine ⟨o, us, file, tf, flags, tg, inF, text, tt, below e1 (free e1 (fun vs n z => by rw [r2] at z; cases z) fun z => ?_), r1, r2, r3, rest⟩
      rw [r2] at z
      cases z
      simp at r3
    · obtain ⟨bm, ob, b1, b2, b3, b4, b5, b6⟩ := hbm
      refine ⟨bm, ob, b1, b2, fun q => ?_, fun q => ?_, below b3 (free b3 (fun vs n z => by rw [b6] at z; cases z) fun z => by rw [b6] at z; cases z), b4, b5, b6⟩
      · obtain ⟨o, es, ep, e, hd, _⟩ := hns
        rw [q, e] at b3; cases b3
        rw [hd] at b6; cases b6
      · rw [q, hT p hp] at b3; cases b3; cases b6
    · obtain ⟨o, es, ep, e, hd, _⟩ := hns
      rw [z, hT p hp] at e; cases e; cases hd
  have env0 : Env0 P w K mg (hidT s₁.heap H) callerA [] s₁ H := ⟨rfl, modu, fun b o e => of_hidT e, Nat.le_of_eq (hidT_size _ _), trivial, fun b hb => absurd (show b ∈ ([] : List Addr) from hb) (by simp), lies, .of_eq hg⟩
  refine codeAny_mono ((F _ kept (asDict hns) tb).run callerA [] s₁ H ⟨[.ref a], []⟩ [.ref a] [.ref a] _ _ hr rfl env0 (hbind s₁ (.ref a)) (.cons rfl .nil) (hsp H tabs scr)) fun z s' h => ?_
  match z, h with
  | .error e, h =>
    obtain ⟨_, _, _, _, _, _, _, _, _, _, _, _, y⟩ := h
    exact y.elim
  | .ok (.ret u), h =>
    obtain ⟨v, H', os, bare, un, hok', r', rfl⟩ := h
    obtain rfl : u = Value.bool true := r'
    have key : ∀ b o, b ∉ cs.map (·.2) → s₁.heap.get? b = some o → s'.heap.get? b = some o := fun b o nb e => by
      cases q : H b with
      | none => exact un.keep b o e q (by intro z; exact absurd (show b ∈ ([] : List Addr) from z) (by simp)) (by simp)
      | some u =>
        rcases cases_ q with ⟨h3, _⟩ | ⟨rfl, _, rfl⟩
        · exact absurd h3 nb
        · have e2 := (hok' b _ (un.frzs b _ _ q)).1
          rw [ha] at e; cases e
          exact e2
    refine ⟨rfl, ⟨fun b o e => ?_, fun b o e => ?_⟩, os, bare⟩
    · by_cases hb : b ∈ cs.map (·.2)
      · obtain ⟨p, hp, rfl⟩ := List.mem_map.mp hb
        obtain ⟨more, hm⟩ := un.tbls p.2 #[] (tabs p hp)
        have hm := hok' p.2 _ hm
        rw [hT p hp] at e; cases e
        exact .inr (.inl ⟨((hC p hp).tab (hT p hp)).isCodeTable, rfl, #[], _, rfl, hm⟩)
      · exact .inl (key b o hb e)
    · by_cases hb : b ∈ cs.map (·.2)
      · obtain ⟨p, hp, rfl⟩ := List.mem_map.mp hb
        obtain ⟨more, hm⟩ := un.tbls p.2 #[] (tabs p hp)
        exact ⟨_, hok' p.2 _ hm⟩
      · exact ⟨o, key b o hb e⟩
/-- the goal that the head leaves, from a run of the own text -/
theorem walk {l : PySem.W.OpenLaw} {n lv li : Nat} {q : Program} {loose : List Str} {XP : (Str → Option Value) → Heap → Prop} {YP : World → Heap → Prop} {d : DefRec} {K : Params → PySem.W.Frag} {con : List (Str × Lit)} {CL : List (Str × Option Str)} {MS : List MetD} {P : Prog} {f : FnD} {x : Str}
    (hn : l.most = some n) (hn2 : n ≤ sizeLine) (hdf : d.params.defaults = []) (hr : Room (lv + 2) callerA) (hli : P[li]? = some f) (hps : f.ps = [x]) (hnm : d.name = f.name)
    (hrec : ∀ p : Params, (makers.all fun x => (PySem.W.tabIn (K p) x).isNone || ((recsOf q).find? fun e => e.name == x).isSome) = true)
    (hY : ∀ (w : World) (h : Heap), YP w h → (K w.params).In h) (hC : ∀ p : Params, progC (K p) con CL MS P = true)
    (hrun : ∀ ns : List Int, ns.length ≤ n → ∃ fr κ, run P lv li [.scr (ns.map D.int)] kOff = .ok (.bl true) fr κ) :
    PySem.W.WalkO q loose XP YP l.row.toRowW d [] (fun f vs => PySem.call f vs) := by
  refine Att.attach_callB hn hdf fun w s₀ s₁ mg mb fa o pm cd doc a vs ns G Y ho hd hcd hmg hobj hints hlen hbits hg => ?_
  have KX := hY w _ Y
  have hC := hC w.params
  have hrec := hrec w.params
  generalize K w.params = K at *
  have M : MgOk K mg := ⟨fun x v e => PySem.W.mg_of KX G.T.g e, fun x e => PySem.W.mg_none_of KX G.T.g e⟩
  unfold progC at hC
  simp only [Bool.and_eq_true, List.all_eq_true, decide_eq_true_eq] at hC
  obtain ⟨⟨⟨⟨⟨⟨⟨c1, c2⟩, c3⟩, c4⟩, c5⟩, c6⟩, c7⟩, c8⟩ := hC
  have hcon : ∀ x l, (x, l) ∈ con → ∃ u, mg x = some u ∧ LitOk K l u := fun x l hx => by
    have z := c2 (x, l) hx
    unfold conC at z
    split at z
    · rename_i v e
      exact ⟨v, M.so _ _ e, litK_at z⟩
    · cases z
  have hblt : ∀ x ∈ bltNames, mg x = none := fun x hx => by
    have z := c3 x hx
    unfold freeC at z
    split at z
    · rename_i e
      exact M.no _ e
    · cases z
  rw [List.all_eq_true] at hrec
  have tabs : ∀ x ∈ makers, ∀ c Pt, PySem.W.tabIn K x = some (c, Pt) → PySem.W.CodeHd s₁.heap c Pt ∧ s₁.heap.get? Pt = some { cls := .none, data := .fields #[] } := fun x hx c Pt e => by
    have z := hrec x hx
    rw [e] at z
    simp only [Option.isNone_some, Bool.false_or] at z
    obtain ⟨dr, hf⟩ := Option.isSome_iff_exists.mp z
    exact PySem.W.tab_of G.T KX hf e
  have mem : ∀ p ∈ makers.filterMap (PySem.W.tabIn K), ∃ x ∈ makers, PySem.W.tabIn K x = some p := fun p hp => List.mem_filterMap.mp hp
  obtain ⟨a', fd, e, FF⟩ := fnC_at (c1 f (List.mem_of_getElem? hli))
  have e2 := M.so _ _ FF.ns
  rw [← hnm, hmg] at e2
  cases e2
  refine law_callG (cs := makers.filterMap (PySem.W.tabIn K)) (fd := fd) (x := x) (k := lv + 2) (sp := spF K (faP K P) (clP K CL) (run P lv li)) KX G.T.g G.T.b G.T.builtins G.T.nolimit hg (fun p hp => ?_) (fun p hp => ?_) (fun p hp => ?_) G.T.bmain hobj hints (Nat.le_trans hlen hn2) hr
    (fun base _ _ tb => ?_) (fun s u => ?_) (fun H hH hS => ?_)
  · obtain ⟨x, hx, e⟩ := mem p hp
    exact (tabs x hx p.1 p.2 e).2
  · obtain ⟨x, hx, e⟩ := mem p hp
    have z := c8 x hx
    rw [e] at z
    exact Option.isNone_iff_eq_none.mp z
  · obtain ⟨x, hx, e⟩ := mem p hp
    exact (tabs x hx p.1 p.2 e).1
  · rw [← hps]
    exact prog_sound c1 hcon hblt M.so (List.all_eq_true.mpr c4) c5 c6 c7 (fun x hx c Pt e => tb (c, Pt) (List.mem_filterMap.mpr ⟨x, hx, e⟩)) lv li f hli _ fd e
  · have hf := c1 f (List.mem_of_getElem? hli)
    unfold fnC at hf
    rw [e] at hf
    simp only [Bool.and_eq_true] at hf
    obtain ⟨as, p1, p2, p3⟩ := parsC_at hf.1.2
    rw [hps] at p2
    have z := bindArgs_plain (fd := fd) p1 (by rw [p2]; simp) (none_at hf.2) [u] (by rw [p2]; rfl)
    rw [p2] at z
    exact .of_eq z
  · obtain ⟨fr, κ, e⟩ := hrun ns hlen
    refine ⟨none, H, kOff, [.scr (ns.map D.int)], fun _ _ z => z, ⟨rfl, fun _ z => by cases z⟩, .cons (.scr hS ?_) .nil, fun p hp => ?_, ?_⟩
    · clear e hS hints hlen hbits
      induction ns with
      | nil => exact .nil
      | cons i ns ih => exact .cons (.int i) ih
    · unfold tabsOf at hp
      obtain ⟨t, ht, rfl⟩ := List.mem_map.mp hp
      obtain ⟨x, hx, hm⟩ := List.mem_flatMap.mp ht
      unfold tabAt at hm
      split at hm
      · rename_i c Pt et
        rw [List.mem_singleton] at hm
        subst hm
        exact LamX.TabS.nil (hH (c, Pt) (List.mem_filterMap.mpr ⟨x, hx, et⟩))
      · cases hm
    · rw [e]
      intro F' H' v _ _ rv _
      cases fr with
      | false => cases rv; rfl
      | true => obtain ⟨_, _, ow⟩ := rv; exact ow.at_.elim
/-! ## what comes next, unread until what comes first is done -/
def k1 (f : D → O1) (x : D) (κ : Kp) : R := lift (f x) κ
@[simp] theorem k1_at {f : D → O1} {x : D} {κ : Kp} : k1 f x κ = lift (f x) κ := rfl
def k2 (f : D → D → O1) (m : SmE) (ρ : Rho) (x : D) (κ : Kp) : R := (m ρ κ).bind (k1 (f x))
@[simp] theorem k2_at {f : D → D → O1} {m : SmE} {ρ : Rho} {x : D} {κ : Kp} : k2 f m ρ x κ = (m ρ κ).bind (k1 (f x)) := rfl
def kCh2 (p : D → D → O1) (c : SmE) (ρ : Rho) (y : D) (k : Bool) (κ : Kp) : R := if k then (c ρ κ).bind (k1 (p y)) else .ok (.bl false) false κ
@[simp] theorem kCh2_at {p : D → D → O1} {c : SmE} {ρ : Rho} {y : D} {k : Bool} {κ : Kp} : kCh2 p c ρ y k κ = if k = true then (c ρ κ).bind (k1 (p y)) else .ok (.bl false) false κ := by cases k <;> rfl
def kCh1 (o p : D → D → O1) (c : SmE) (ρ : Rho) (x y : D) (κ : Kp) : R := (lift (o x y) κ).bool (kCh2 p c ρ y)
@[simp] theorem kCh1_at {o p : D → D → O1} {c : SmE} {ρ : Rho} {x y : D} {κ : Kp} : kCh1 o p c ρ x y κ = (lift (o x y) κ).bool (kCh2 p c ρ y) := rfl
def kCh (o p : D → D → O1) (b c : SmE) (ρ : Rho) (x : D) (κ : Kp) : R := (b ρ κ).bind (kCh1 o p c ρ x)
@[simp] theorem kCh_at {o p : D → D → O1} {b c : SmE} {ρ : Rho} {x : D} {κ : Kp} : kCh o p b c ρ x κ = (b ρ κ).bind (kCh1 o p c ρ x) := rfl
def kNot (b : Bool) (κ : Kp) : R := .ok (.bl (!b)) false κ
@[simp] theorem kNot_at {b : Bool} {κ : Kp} : kNot b κ = .ok (.bl (!b)) false κ := rfl
def kAnd (m : SmE) (ρ : Rho) (x : Bool) (κ : Kp) : R := if x then m ρ κ else .ok (.bl false) false κ
@[simp] theorem kAnd_at {m : SmE} {ρ : Rho} {x : Bool} {κ : Kp} : kAnd m ρ x κ = if x = true then m ρ κ else .ok (.bl false) false κ := rfl
def kOr (m : SmE) (ρ : Rho) (x : Bool) (κ : Kp) : R := if x then .ok (.bl true) false κ else m ρ κ
@[simp] theorem kOr_at {m : SmE} {ρ : Rho} {x : Bool} {κ : Kp} : kOr m ρ x κ = if x = true then .ok (.bl true) false κ else m ρ κ := rfl
def kIte (a b : SmE) (ρ : Rho) (x : Bool) (κ : Kp) : R := if x then a ρ κ else b ρ κ
@[simp] theorem kIte_at {a b : SmE} {ρ : Rho} {x : Bool} {κ : Kp} : kIte a b ρ x κ = if x = true then a ρ κ else b ρ κ := rfl
def kBi (g : List D → O1) (ds : List D) (κ : Kp) : R := lift (g ds) κ
@[simp] theorem kBi_at {g : List D → O1} {ds : List D} {κ : Kp} : kBi g ds κ = lift (g ds) κ := rfl
def kTup (ds : List D) (κ : Kp) : R := .ok (.tup ds) false κ
@[simp] theorem kTup_at {ds : List D} {κ : Kp} : kTup ds κ = .ok (.tup ds) false κ := rfl
def kLst (ds : List D) (κ : Kp) : R := .ok (.lst ds) true κ
@[simp] theorem kLst_at {ds : List D} {κ : Kp} : kLst ds κ = .ok (.lst ds) true κ := rfl
def kIx1 (x y : D) (κ : Kp) : R := lift (if isDict x then fDix x y else fIxK κ x y) κ
@[simp] theorem kIx1_at {x y : D} {κ : Kp} : kIx1 x y κ = lift (if isDict x then fDix x y else fIxK κ x y) κ := rfl
def kIx (m : SmE) (ρ : Rho) (x : D) (κ : Kp) : R := (m ρ κ).bind (kIx1 x)
@[simp] theorem kIx_at {m : SmE} {ρ : Rho} {x : D} {κ : Kp} : kIx m ρ x κ = (m ρ κ).bind (kIx1 x) := rfl
def kMt (p : D → Bool) (f : D → D → O1) (m : SmE) (ρ : Rho) (x : D) (κ : Kp) : R := if p x then (m ρ κ).bind (k1 (f x)) else .bad
@[simp] theorem kMt_at {p : D → Bool} {f : D → D → O1} {m : SmE} {ρ : Rho} {x : D} {κ : Kp} : kMt p f m ρ x κ = if p x = true then (m ρ κ).bind (k1 (f x)) else .bad := rfl
def kG3 (x y z : D) (κ : Kp) : R := lift ((dLook x y).map fun o => (o.getD z, false)) κ
@[simp] theorem kG3_at {x y z : D} {κ : Kp} : kG3 x y z κ = lift ((dLook x y).map fun o => (o.getD z, false)) κ := rfl
def kG2 (m : SmE) (ρ : Rho) (x y : D) (κ : Kp) : R := (m ρ κ).bind (kG3 x y)
@[simp] theorem kG2_at {m : SmE} {ρ : Rho} {x y : D} {κ : Kp} : kG2 m ρ x y κ = (m ρ κ).bind (kG3 x y) := rfl
def kG1 (a b : SmE) (ρ : Rho) (x : D) (κ : Kp) : R := if isDict x then (a ρ κ).bind (kG2 b ρ x) else .bad
@[simp] theorem kG1_at {a b : SmE} {ρ : Rho} {x : D} {κ : Kp} : kG1 a b ρ x κ = if isDict x = true then (a ρ κ).bind (kG2 b ρ x) else .bad := rfl
def kSl (lo hi : Option Int) (x : D) (κ : Kp) : R := lift (fSl lo hi x) κ
@[simp] theorem kSl_at {lo hi : Option Int} {x : D} {κ : Kp} : kSl lo hi x κ = lift (fSl lo hi x) κ := rfl
def kS2a (x : D) (i : Int) (κ : Kp) : R := kSl none (some i) x κ
@[simp] theorem kS2a_at {x : D} {i : Int} {κ : Kp} : kS2a x i κ = kSl none (some i) x κ := rfl
def kS2 (m : SmE) (ρ : Rho) (x : D) (κ : Kp) : R := (m ρ κ).intB (kS2a x)
@[simp] theorem kS2_at {m : SmE} {ρ : Rho} {x : D} {κ : Kp} : kS2 m ρ x κ = (m ρ κ).intB (kS2a x) := rfl
def kS3a (x : D) (i : Int) (κ : Kp) : R := kSl (some i) none x κ
@[simp] theorem kS3a_at {x : D} {i : Int} {κ : Kp} : kS3a x i κ = kSl (some i) none x κ := rfl
def kS3 (m : SmE) (ρ : Rho) (x : D) (κ : Kp) : R := (m ρ κ).intB (kS3a x)
@[simp] theorem kS3_at {m : SmE} {ρ : Rho} {x : D} {κ : Kp} : kS3 m ρ x κ = (m ρ κ).intB (kS3a x) := rfl
def kS4a (x : D) (i j : Int) (κ : Kp) : R := kSl (some i) (some j) x κ
@[simp] theorem kS4a_at {x : D} {i j : Int} {κ : Kp} : kS4a x i j κ = kSl (some i) (some j) x κ := rfl
def kS4b (m : SmE) (ρ : Rho) (x : D) (i : Int) (κ : Kp) : R := (m ρ κ).intB (kS4a x i)
@[simp] theorem kS4b_at {m : SmE} {ρ : Rho} {x : D} {i : Int} {κ : Kp} : kS4b m ρ x i κ = (m ρ κ).intB (kS4a x i) := rfl
def kS4 (a b : SmE) (ρ : Rho) (x : D) (κ : Kp) : R := (a ρ κ).intB (kS4b b ρ x)
@[simp] theorem kS4_at {a b : SmE} {ρ : Rho} {x : D} {κ : Kp} : kS4 a b ρ x κ = (a ρ κ).intB (kS4b b ρ x) := rfl
def kRg (tp : Bool) (i : Int) (j : Int) (κ : Kp) : R := rgMk tp i j κ
@[simp] theorem kRg_at {tp : Bool} {i j : Int} {κ : Kp} : kRg tp i j κ = rgMk tp i j κ := rfl
def kRg2 (tp : Bool) (m : SmE) (ρ : Rho) (i : Int) (κ : Kp) : R := (m ρ κ).intB (kRg tp i)
@[simp] theorem kRg2_at {tp : Bool} {m : SmE} {ρ : Rho} {i : Int} {κ : Kp} : kRg2 tp m ρ i κ = (m ρ κ).intB (kRg tp i) := rfl
def kNx (κ : Kp) (ρ : Rho) : RS := .next ρ κ
@[simp] theorem kNx_at {κ : Kp} {ρ : Rho} : kNx κ ρ = .next ρ κ := rfl
def kSet (i : Nat) (own : Bool) (ρ : Rho) (d : D) (fr : Bool) (κ : Kp) : RS := putS ρ i (mkS own d fr) (kNx κ)
@[simp] theorem kSet_at {i : Nat} {own : Bool} {ρ : Rho} {d : D} {fr : Bool} {κ : Kp} : kSet i own ρ d fr κ = putS ρ i (mkS own d fr) (kNx κ) := rfl
def kPut2 (j : Nat) (s : Option Slot) (g : Rho → RS) (ρ : Rho) : RS := putS ρ j s g
@[simp] theorem kPut2_at {j : Nat} {s : Option Slot} {g : Rho → RS} {ρ : Rho} : kPut2 j s g ρ = putS ρ j s g := rfl
def kP2b (i j : Nat) (oi oj : Bool) (ρ : Rho) (d1 : D) (f1 : Bool) (d2 : D) (f2 : Bool) (κ : Kp) : RS := putS ρ i (mkS oi d1 f1) (kPut2 j (mkS oj d2 f2) (kNx κ))
@[simp] theorem kP2b_at {i j : Nat} {oi oj : Bool} {ρ : Rho} {d1 : D} {f1 : Bool} {d2 : D} {f2 : Bool} {κ : Kp} : kP2b i j oi oj ρ d1 f1 d2 f2 κ = putS ρ i (mkS oi d1 f1) (kPut2 j (mkS oj d2 f2) (kNx κ)) := rfl
def kP2 (i j : Nat) (oi oj : Bool) (m : SmE) (ρ : Rho) (d1 : D) (f1 : Bool) (κ : Kp) : RS := (m ρ κ).st (kP2b i j oi oj ρ d1 f1)
@[simp] theorem kP2_at {i j : Nat} {oi oj : Bool} {m : SmE} {ρ : Rho} {d1 : D} {f1 : Bool} {κ : Kp} : kP2 i j oi oj m ρ d1 f1 κ = (m ρ κ).st (kP2b i j oi oj ρ d1 f1) := rfl
def kP3c (i j l : Nat) (oi oj ol : Bool) (ρ : Rho) (d1 : D) (f1 : Bool) (d2 : D) (f2 : Bool) (d3 : D) (f3 : Bool) (κ : Kp) : RS := putS ρ i (mkS oi d1 f1) (kPut2 j (mkS oj d2 f2) (kPut2 l (mkS ol d3 f3) (kNx κ)))
@[simp] theorem kP3c_at {i j l : Nat} {oi oj ol : Bool} {ρ : Rho} {d1 : D} {f1 : Bool} {d2 : D} {f2 : Bool} {d3 : D} {f3 : Bool} {κ : Kp} : kP3c i j l oi oj ol ρ d1 f1 d2 f2 d3 f3 κ = putS ρ i (mkS oi d1 f1) (kPut2 j (mkS oj d2 f2) (kPut2 l (mkS ol d3 f3) (kNx κ))) := rfl
def kP3b (i j l : Nat) (oi oj ol : Bool) (m : SmE) (ρ : Rho) (d1 : D) (f1 : Bool) (d2 : D) (f2 : Bool) (κ : Kp) : RS := (m ρ κ).st (kP3c i j l oi oj ol ρ d1 f1 d2 f2)
@[simp] theorem kP3b_at {i j l : Nat} {oi oj ol : Bool} {m : SmE} {ρ : Rho} {d1 : D} {f1 : Bool} {d2 : D} {f2 : Bool} {κ : Kp} : kP3b i j l oi oj ol m ρ d1 f1 d2 f2 κ = (m ρ κ).st (kP3c i j l oi oj ol ρ d1 f1 d2 f2) := rfl
def kP3 (i j l : Nat) (oi oj ol : Bool) (a b : SmE) (ρ : Rho) (d1 : D) (f1 : Bool) (κ : Kp) : RS := (a ρ κ).st (kP3b i j l oi oj ol b ρ d1 f1)
@[simp] theorem kP3_at {i j l : Nat} {oi oj ol : Bool} {a b : SmE} {ρ : Rho} {d1 : D} {f1 : Bool} {κ : Kp} : kP3 i j l oi oj ol a b ρ d1 f1 κ = (a ρ κ).st (kP3b i j l oi oj ol b ρ d1 f1) := rfl
def kExp (ρ : Rho) (d : D) (fr : Bool) (κ : Kp) : RS := .next ρ κ
@[simp] theorem kExp_at {ρ : Rho} {d : D} {fr : Bool} {κ : Kp} : kExp ρ d fr κ = .next ρ κ := rfl
def kIf (a b : SmS) (ρ : Rho) (k : Bool) (κ : Kp) : RS := if k then a ρ κ else b ρ κ
@[simp] theorem kIf_at {a b : SmS} {ρ : Rho} {k : Bool} {κ : Kp} : kIf a b ρ k κ = if k = true then a ρ κ else b ρ κ := rfl
/-! ## how a run is read -/
section
variable {Γ : Gam} {ρ ρ1 : Rho} {κ κ1 : Kp} {a b c : SmE} {d e x y : D} {fr : Bool}
@[simp] theorem s_bind {g : D → Kp → R} : (R.ok d fr κ).bind g = g d κ := rfl
@[simp] theorem s_bool {g : Bool → Kp → R} {k : Bool} : (R.ok (.bl k) fr κ).bool g = g k κ := rfl
@[simp] theorem s_test {g : Bool → Kp → R} {k : Bool} : (R.ok (.bl k) fr κ).test g = g k κ := rfl
@[simp] theorem s_st {g : D → Bool → Kp → RS} : (R.ok d fr κ).st g = g d fr κ := rfl
@[simp] theorem s_stV {g : D → Kp → RS} : (R.ok d fr κ).stV g = g d κ := rfl
@[simp] theorem s_stT {g : Bool → Kp → RS} {k : Bool} : (R.ok (.bl k) fr κ).stT g = g k κ := rfl
@[simp] theorem s_stTi {g : Bool → Kp → RS} {i : Int} : (R.ok (.int i) fr κ).stT g = g (i != 0) κ := rfl
@[simp] theorem s_lift {p : D × Bool} : lift (some p) κ = .ok p.1 p.2 κ := rfl
@[simp] theorem s_rl {g : List D → Kp → R} {ds : List D} : (RL.ok ds κ).bind g = g ds κ := rfl
@[simp] theorem s_ifb {P : Prop} [Decidable P] {p q : Bool} : (if P then R.ok (.bl p) fr κ else R.ok (.bl q) fr κ) = R.ok (.bl (if P then p else q)) fr κ := by split <;> rfl
@[simp] theorem s_ifi {P : Prop} [Decidable P] {p q : Int} : (if P then R.ok (.int p) fr κ else R.ok (.int q) fr κ) = R.ok (.int (if P then p else q)) fr κ := by split <;> rfl
@[simp] theorem s_val : cVal d ρ κ = .ok d false κ := rfl
@[simp] theorem s_lit {l : Lit} : evE Γ (.lit l) = cVal l.d := by rw [evE]
@[simp] theorem s_glo {l : Lit} : evE Γ (.glo l) = cVal l.d := by rw [evE]
@[simp] theorem s_ld1 : Lit.non.d = .non := rfl
@[simp] theorem s_ld2 {k : Bool} : (Lit.bl k).d = .bl k := rfl
@[simp] theorem s_ld3 {i : Int} : (Lit.int i).d = .int i := rfl
@[simp] theorem s_ld4 {s : Str} : (Lit.str s).d = .str s := rfl
@[simp] theorem s_ty {t : Ty} : evE Γ (.ty t) = cVal (.ty t) := by rw [evE]
@[simp] theorem s_var {i : Nat} : evE Γ (.var i) ρ κ = (match ρ[i]? with | some (.val d) => .ok d false κ | _ => .bad) := by rw [evE]; rfl
@[simp] theorem s_bin {o : Bop} {a b : E} : evE Γ (.bin o a b) ρ κ = (evE Γ a ρ κ).bind (k2 o.f (evE Γ b) ρ) := by rw [evE]; rfl
@[simp] theorem s_cmp {o : Cop} {a b : E} : evE Γ (.cmp o a b) ρ κ = (evE Γ a ρ κ).bind (k2 o.f (evE Γ b) ρ) := by rw [evE]; rfl
@[simp] theorem s_inA {a b : E} : evE Γ (.inA a b) ρ κ = (evE Γ a ρ κ).bind (k2 fInA (evE Γ b) ρ) := by rw [evE]; rfl
@[simp] theorem s_niA {a b : E} : evE Γ (.niA a b) ρ κ = (evE Γ a ρ κ).bind (k2 fNiA (evE Γ b) ρ) := by rw [evE]; rfl
@[simp] theorem s_chain {o p : Cop} {a b c : E} : evE Γ (.chain o p a b c) ρ κ = (evE Γ a ρ κ).bind (kCh o.f p.f (evE Γ b) (evE Γ c) ρ) := by rw [evE]; rfl
@[simp] theorem s_neg {a : E} : evE Γ (.neg a) ρ κ = (evE Γ a ρ κ).bind (k1 fNeg) := by rw [evE]; rfl
@[simp] theorem s_nt {a : E} : evE Γ (.nt a) ρ κ = (evE Γ a ρ κ).test kNot := by rw [evE]; rfl
@[simp] theorem s_and {a b : E} : evE Γ (.and a b) ρ κ = (evE Γ a ρ κ).bool (kAnd (evE Γ b) ρ) := by rw [evE]; rfl
@[simp] theorem s_or {a b : E} : evE Γ (.or a b) ρ κ = (evE Γ a ρ κ).bool (kOr (evE Γ b) ρ) := by rw [evE]; rfl
@[simp] theorem s_one {a : E} : evE Γ (.one a) = evE Γ a := by rw [evE]
@[simp] theorem s_ite {t a b : E} : evE Γ (.ite t a b) ρ κ = (evE Γ t ρ κ).test (kIte (evE Γ a) (evE Γ b) ρ) := by rw [evE]; rfl
@[simp] theorem s_call {f : Nat} {es : Es} : evE Γ (.call f es) ρ κ = (evEs Γ es ρ κ).bind (Γ f) := by rw [evE]; rfl
@[simp] theorem s_bi {b : Bi} {es : Es} : evE Γ (.bi b es) ρ κ = (evEs Γ es ρ κ).bind (kBi b.g) := by rw [evE]; rfl
@[simp] theorem s_tup {es : Es} : evE Γ (.tup es) ρ κ = (evEs Γ es ρ κ).bind kTup := by rw [evE]; rfl
@[simp] theorem s_lst {es : Es} : evE Γ (.lst es) ρ κ = (evEs Γ es ρ κ).bind kLst := by rw [evE]; rfl
@[simp] theorem s_ix {a b : E} : evE Γ (.ix a b) ρ κ = (evE Γ a ρ κ).bind (kIx (evE Γ b) ρ) := by rw [evE]; rfl
@[simp] theorem s_new : evE Γ .new ρ κ = .ok (.dk []) true κ := by rw [evE]; rfl
@[simp] theorem s_rev {a : E} : evE Γ (.rev a) ρ κ = (evE Γ a ρ κ).bind (k1 fRev) := by rw [evE]; rfl
@[simp] theorem s_mt {m : Mth} {a b : E} : evE Γ (.mt m a b) ρ κ = (evE Γ a ρ κ).bind (kMt m.p m.f (evE Γ b) ρ) := by rw [evE]; rfl
@[simp] theorem s_get2 {a b e : E} : evE Γ (.get2 a b e) ρ κ = (evE Γ a ρ κ).bind (kG1 (evE Γ b) (evE Γ e) ρ) := by rw [evE]; rfl
def kDd2 (k : Key) (z : D) (κ : Kp) : R := .ok (.dk [(k, z)]) true κ
@[simp] theorem kDd2_at {k : Key} {z : D} {κ : Kp} : kDd2 k z κ = .ok (.dk [(k, z)]) true κ := rfl
theorem s_dd1 {a b : E} {i : Int} (h : evE Γ a ρ κ = .ok (.int i) false κ1) : evE Γ (.dd1 a b) ρ κ = (evE Γ b ρ κ1).bind (kDd2 (.inl i)) := by rw [evE]; unfold cDd1; rw [h]; rfl
@[simp] theorem s_mp1 {xs : List D} : Mth.idx.p (.lst xs) = true := rfl
@[simp] theorem s_sl1 {a : E} : evE Γ (.sl a .no .no) ρ κ = (evE Γ a ρ κ).bind (kSl none none) := by rw [evE]; unfold cSl; rw [evO]; rfl
@[simp] theorem s_sl2 {a b : E} : evE Γ (.sl a .no (.so b)) ρ κ = (evE Γ a ρ κ).bind (kS2 (evE Γ b) ρ) := by rw [evE]; unfold cSl; rw [evO, evO]; rfl
@[simp] theorem s_sl3 {a b : E} : evE Γ (.sl a (.so b) .no) ρ κ = (evE Γ a ρ κ).bind (kS3 (evE Γ b) ρ) := by rw [evE]; unfold cSl; rw [evO, evO]; rfl
@[simp] theorem s_sl4 {a b e : E} : evE Γ (.sl a (.so b) (.so e)) ρ κ = (evE Γ a ρ κ).bind (kS4 (evE Γ b) (evE Γ e) ρ) := by rw [evE]; unfold cSl; rw [evO, evO]; rfl
@[simp] theorem s_fsl1 {lo hi : Option Int} {xs : List D} : fSl lo hi (.lst xs) = some (.lst (cutD xs lo hi), true) := rfl
@[simp] theorem s_fsl2 {lo hi : Option Int} {xs : List D} : fSl lo hi (.tup xs) = some (.tup (cutD xs lo hi), false) := rfl
@[simp] theorem s_rv1 {xs : List D} : fRev (.tup xs) = some (.tup xs.reverse, false) := rfl
@[simp] theorem s_rv2 {xs : List D} : fRev (.lst xs) = some (.lst xs.reverse, true) := rfl
@[simp] theorem s_bl1 {xs : List D} : Bi.lst.g [.tup xs] = some (.lst xs, true) := rfl
@[simp] theorem s_bl2 {xs : List D} : Bi.lst.g [.lst xs] = some (.lst xs, true) := rfl
@[simp] theorem s_bt1 {xs : List D} : Bi.tup.g [.tup xs] = some (.tup xs, false) := rfl
@[simp] theorem s_bt2 {xs : List D} : Bi.tup.g [.lst xs] = some (.tup xs, false) := rfl
@[simp] theorem s_f1t {a b : List D} : Bop.add.f (.tup a) (.tup b) = if a.length + b.length ≤ LIM then some (.tup (a ++ b), false) else none := rfl
@[simp] theorem s_intB {g : Int → Kp → R} {i : Int} : (R.ok (.int i) fr κ).intB g = g i κ := rfl
@[simp] theorem s_rg1 {tp : Bool} {a : E} : evE Γ (.rg1 tp a) ρ κ = (evE Γ a ρ κ).intB (kRg tp 0) := by rw [evE]; rfl
@[simp] theorem s_rg2 {tp : Bool} {a b : E} : evE Γ (.rg2 tp a b) ρ κ = (evE Γ a ρ κ).intB (kRg2 tp (evE Γ b) ρ) := by rw [evE]; rfl
@[simp] theorem s_nil : evEs Γ .nil ρ κ = .ok [] κ := by rw [evEs]; rfl
def RL.cons (r : R) (g : Kp → RL) : RL := match r with
  | .ok d _ κ => (match g κ with
    | .ok ds κ => .ok (d :: ds) κ
    | .exc k d κ => .exc k d κ
    | .bad => .bad)
  | .exc k d κ => .exc k d κ
  | .bad => .bad
@[simp] theorem s_cons {a : E} {b : Es} : evEs Γ (.cons a b) ρ κ = RL.cons (evE Γ a ρ κ) (evEs Γ b ρ) := by rw [evEs]; rfl
def RL.push (d : D) (r : RL) : RL := match r with
  | .ok ds κ => .ok (d :: ds) κ
  | .exc k d κ => .exc k d κ
  | .bad => .bad
@[simp] theorem s_rlc {g : Kp → RL} : RL.cons (.ok d fr κ) g = RL.push d (g κ) := rfl
@[simp] theorem s_push {ds : List D} : RL.push d (.ok ds κ) = .ok (d :: ds) κ := rfl
@[simp] theorem s_f1 {i j : Int} : Bop.add.f (.int i) (.int j) = some (.int (i + j), false) := rfl
@[simp] theorem s_f1l {a b : List D} : Bop.add.f (.lst a) (.lst b) = if a.length + b.length ≤ LIM then some (.lst (a ++ b), true) else none := rfl
@[simp] theorem s_f2 {i j : Int} : Bop.sub.f (.int i) (.int j) = some (.int (i - j), false) := rfl
@[simp] theorem s_f3 {i j : Int} : Bop.mul.f (.int i) (.int j) = if (big i && big j) = true then some (.int (i * j), false) else none := rfl
@[simp] theorem s_f4 {i j : Int} : Bop.div.f (.int i) (.int j) = if (decide (0 < j) && big j) = true then some (.int (i / j), false) else none := rfl
@[simp] theorem s_f5 {i j : Int} : Bop.mod.f (.int i) (.int j) = if 0 < j then some (.int (i % j), false) else none := rfl
@[simp] theorem s_f6 {i j : Int} : Bop.pow.f (.int i) (.int j) = if (decide (0 ≤ j) && decide (j ≤ 10000) && big i) = true then some (.int (i ^ j.toNat), false) else none := rfl
@[simp] theorem s_f7 {i j : Int} : Bop.shl.f (.int i) (.int j) = if (decide (0 ≤ j) && decide (j ≤ 100000) && big i) = true then some (.int (i * 2 ^ j.toNat), false) else none := rfl
@[simp] theorem s_f8 {i j : Int} : Bop.shr.f (.int i) (.int j) = if 0 ≤ j then some (.int (i / 2 ^ j.toNat), false) else none := rfl
@[simp] theorem s_f9 {i : Int} : fNeg (.int i) = some (.int (-i), false) := rfl
@[simp] theorem s_c1 {i j : Int} : Cop.lt.f (.int i) (.int j) = some (.bl (decide (i < j)), false) := rfl
@[simp] theorem s_c2 {i j : Int} : Cop.le.f (.int i) (.int j) = some (.bl (decide (i ≤ j)), false) := rfl
@[simp] theorem s_c3 {i j : Int} : Cop.gt.f (.int i) (.int j) = some (.bl (decide (j < i)), false) := rfl
@[simp] theorem s_c4 {i j : Int} : Cop.ge.f (.int i) (.int j) = some (.bl (decide (j ≤ i)), false) := rfl
@[simp] theorem s_c5 {i j : Int} : Cop.eq.f (.int i) (.int j) = some (.bl (decide (i = j)), false) := rfl
@[simp] theorem s_c6 {i j : Int} : Cop.ne.f (.int i) (.int j) = some (.bl (!decide (i = j)), false) := rfl
@[simp] theorem s_neb {i j : Bool} : Cop.ne.f (.bl i) (.bl j) = some (.bl (!(i == j)), false) := by cases i <;> cases j <;> rfl
@[simp] theorem s_eqb {i j : Bool} : Cop.eq.f (.bl i) (.bl j) = some (.bl (i == j), false) := by cases i <;> cases j <;> rfl
@[simp] theorem s_nN1 {i : Int} : Cop.notN.f (.int i) .non = some (.bl true, false) := rfl
@[simp] theorem s_nN2 {i : Int} : Cop.isN.f (.int i) .non = some (.bl false, false) := rfl
@[simp] theorem s_c7 {i j : Bool} : Cop.isB.f (.bl i) (.bl j) = some (.bl (decide (i = j)), false) := rfl
@[simp] theorem s_c8 {i j : Bool} : Cop.notB.f (.bl i) (.bl j) = some (.bl (!decide (i = j)), false) := rfl
@[simp] theorem s_c9 : Cop.isN.f .non .non = some (.bl true, false) := rfl
@[simp] theorem s_c10 : Cop.notN.f .non .non = some (.bl false, false) := rfl
@[simp] theorem s_b1 {i : Int} : Bi.int.g [.int i] = some (.int i, false) := rfl
@[simp] theorem s_b2 {i : Int} : Bi.abs.g [.int i] = some (.int (i.natAbs : Int), false) := by
  show some (D.int (if i < 0 then -i else i), false) = _
  have : (if i < 0 then -i else i) = (i.natAbs : Int) := by split <;> omega
  rw [this]
@[simp] theorem s_b4 {i j : Int} : Bi.max.g [.int i, .int j] = some (.int (max i j), false) := by
  show some (D.int (if j > i then j else i), false) = _
  have : (if j > i then j else i) = max i j := by rw [Int.max_def]; split <;> split <;> omega
  rw [this]
@[simp] theorem s_b5 {i j : Int} : Bi.min.g [.int i, .int j] = some (.int (min i j), false) := by
  show some (D.int (if j < i then j else i), false) = _
  have : (if j < i then j else i) = min i j := by rw [Int.min_def]; split <;> split <;> omega
  rw [this]
@[simp] theorem s_b6 {xs : List D} : Bi.len.g [.lst xs] = some (.int (xs.length : Nat), false) := rfl
@[simp] theorem s_b7 {xs : List D} : Bi.len.g [.tup xs] = some (.int (xs.length : Nat), false) := rfl
@[simp] theorem s_b8 {xs : List D} : Bi.len.g [.scr xs] = some (.int (xs.length : Nat), false) := rfl
@[simp] theorem s_i1 {κ : Kp} {i : Int} : fIxK κ .cro (.int i) = (κ.at i).map fun n => (.int n, false) := rfl
@[simp] theorem s_i2 {κ : Kp} {i : Int} {xs : List D} : fIxK κ (.lst xs) (.int i) = (atI xs i).map fun d => (d, false) := rfl
@[simp] theorem s_i3 {κ : Kp} {i : Int} {xs : List D} : fIxK κ (.tup xs) (.int i) = (atI xs i).map fun d => (d, false) := rfl
@[simp] theorem s_i4 {κ : Kp} {i : Int} {xs : List D} : fIxK κ (.scr xs) (.int i) = (atI xs i).map fun d => (d, false) := rfl
@[simp] theorem s_d1 : isDict .cro = false := rfl
@[simp] theorem s_d2 {xs : List D} : isDict (.lst xs) = false := rfl
@[simp] theorem s_d3 {xs : List D} : isDict (.tup xs) = false := rfl
@[simp] theorem s_d4 {xs : List D} : isDict (.scr xs) = false := rfl
@[simp] theorem s_at0 {α : Type} {a : α} {r : List α} : atI (a :: r) 0 = some a := by
  unfold atI ixN
  rw [if_pos (by omega), if_pos (by rw [List.length_cons]; omega)]; rfl
@[simp] theorem s_at1 {α : Type} {a b : α} {r : List α} : atI (a :: b :: r) 1 = some b := by
  unfold atI ixN
  rw [if_pos (by omega), if_pos (by simp only [List.length_cons]; omega)]; rfl
@[simp] theorem s_at2 {α : Type} {a b c : α} {r : List α} : atI (a :: b :: c :: r) 2 = some c := by
  unfold atI ixN
  rw [if_pos (by omega), if_pos (by simp only [List.length_cons]; omega)]; rfl
@[simp] theorem s_k0 {κ : Kp} : κ.at 0 = some κ.a := rfl
@[simp] theorem s_k1 {κ : Kp} : κ.at 1 = some κ.b := rfl
@[simp] theorem s_k2 {κ : Kp} : κ.at 2 = some κ.c := rfl
@[simp] theorem s_eqt {xs ys : List D} {y : D} : Cop.eq.f (.tup xs) (.tup (y :: ys)) = if (shpL xs 59 && shpL (y :: ys) 59) = true then some (.bl (eqvL xs (y :: ys)), false) else none := by cases xs <;> rfl
@[simp] theorem s_eqt0 {xs : List D} : Cop.eq.f (.tup xs) (.tup []) = some (.bl xs.isEmpty, false) := rfl
@[simp] theorem s_net {xs ys : List D} : Cop.ne.f (.tup xs) (.tup ys) = if (shpL xs 59 && shpL ys 59) = true then some (.bl (!eqvL xs ys), false) else none := rfl
@[simp] theorem s_sh0 {n : Nat} : shpL [] n = true := rfl
@[simp] theorem s_sh1 {n : Nat} {d : D} {r : List D} : shpL (d :: r) n = (d.shp n && shpL r n) := rfl
@[simp] theorem s_shi {n : Nat} {i : Int} : (D.int i).shp n = true := by cases n <;> rfl
@[simp] theorem s_shb {n : Nat} {i : Bool} : (D.bl i).shp n = true := by cases n <;> rfl
@[simp] theorem s_ev0 : eqvL [] [] = true := rfl
@[simp] theorem s_ev1 {d e : D} {r s : List D} : eqvL (d :: r) (e :: s) = (d.eqv e && eqvL r s) := rfl
@[simp] theorem s_evi {i j : Int} : (D.int i).eqv (.int j) = decide (i = j) := rfl
@[simp] theorem s_b3 {k : Bool} : Bi.int.g [.bl k] = some (.int (if k then 1 else 0), false) := rfl
@[simp] theorem s_B0 : evB Γ [] ρ κ = .next ρ κ := by rw [evB]; rfl
def RS.then_ (r : RS) (g : Rho → Kp → RS) : RS := match r with
  | .next ρ κ => g ρ κ
  | r => r
@[simp] theorem s_B1 {s : S} {r : List S} : evB Γ (s :: r) ρ κ = (evS Γ s ρ κ).then_ (evB Γ r) := by rw [evB]; rfl
@[simp] theorem s_t1 {g : Rho → Kp → RS} : (RS.next ρ κ).then_ g = g ρ κ := rfl
@[simp] theorem s_t2 {g : Rho → Kp → RS} : (RS.ret d fr κ).then_ g = .ret d fr κ := rfl
@[simp] theorem s_t3 {g : Rho → Kp → RS} : (RS.brk ρ κ).then_ g = .brk ρ κ := rfl
@[simp] theorem s_t4 {g : Rho → Kp → RS} : (RS.cont ρ κ).then_ g = .cont ρ κ := rfl
@[simp] theorem s_set {i : Nat} {own : Bool} {e : E} : evS Γ (.set i own e) ρ κ = (evE Γ e ρ κ).st (kSet i own ρ) := by rw [evS]; rfl
@[simp] theorem s_putS {i : Nat} {s : Slot} {g : Rho → RS} : putS ρ i (some s) g = g (ρ.set i s) := rfl
@[simp] theorem s_mk1 : mkS false d fr = some (.val d) := rfl
@[simp] theorem s_mk2 : mkS true d true = some (.own d) := rfl
@[simp] theorem s_mk3 : mkS true d false = some (.val d) := rfl
@[simp] theorem s_par2 {i j : Nat} {oi oj : Bool} {a b : E} : evS Γ (.par2 i oi a j oj b) ρ κ = (evE Γ a ρ κ).st (kP2 i j oi oj (evE Γ b) ρ) := by rw [evS]; rfl
@[simp] theorem s_par3 {i j l : Nat} {oi oj ol : Bool} {a b e : E} : evS Γ (.par3 i oi a j oj b l ol e) ρ κ = (evE Γ a ρ κ).st (kP3 i j l oi oj ol (evE Γ b) (evE Γ e) ρ) := by rw [evS]; rfl
@[simp] theorem s_exp {e : E} : evS Γ (.exp e) ρ κ = (evE Γ e ρ κ).st (kExp ρ) := by rw [evS]; rfl
@[simp] theorem s_ret {e : E} : evS Γ (.ret e) ρ κ = (evE Γ e ρ κ).st RS.ret := by rw [evS]; rfl
@[simp] theorem s_retN : evS Γ .retN ρ κ = .ret .non false κ := by rw [evS]; rfl
@[simp] theorem s_if {t : E} {a b : List S} : evS Γ (.ite t a b) ρ κ = (evE Γ t ρ κ).stT (kIf (evB Γ a) (evB Γ b) ρ) := by rw [evS]; rfl
@[simp] theorem s_pass : evS Γ .pass ρ κ = .next ρ κ := by rw [evS]; rfl
@[simp] theorem s_brk : evS Γ .brk ρ κ = .brk ρ κ := by rw [evS]; rfl
@[simp] theorem s_cnt : evS Γ .cnt ρ κ = .cont ρ κ := by rw [evS]; rfl
@[simp] theorem s_bad : evS Γ .bad ρ κ = .bad := by rw [evS]
theorem s_for {it : It} {tg : Tt} {b : List S} : evS Γ (.for_ it tg b) ρ κ = cFor (evI Γ it) (evT tg) (evB Γ b) ρ κ := by rw [evS]
theorem s_whl {n : Nat} {t : E} {b : List S} : evS Γ (.whl n t b) ρ κ = whRun (evE Γ t) (evB Γ b) n ρ κ := by rw [evS]; rfl
@[simp] theorem s_aug {i : Nat} {o : Aop} {e : E} : evS Γ (.aug i o e) ρ κ = cAug i o.f (evE Γ e) ρ κ := by rw [evS]
@[simp] theorem s_a1 {i j : Int} : Aop.add.f (.int i) (.int j) = some (.int (i + j), false) := rfl
@[simp] theorem s_a2 {i j : Int} : Aop.mul.f (.int i) (.int j) = if (big i && big j) = true then some (.int (i * j), false) else none := rfl
@[simp] theorem s_a3 {i j : Int} : Aop.div.f (.int i) (.int j) = if (decide (0 < j) && big j) = true then some (.int (i / j), false) else none := rfl
theorem s_subC {i : Nat} {j e : E} (h : ρ[i]? = some (.val .cro)) : evS Γ (.sub i j e) ρ κ = cSubC i (evE Γ j) (evE Γ e) ρ κ := by
  rw [evS]; unfold cSub; simp only [h]
def R.seqS (r : R) (g : List D → Kp → RS) : RS := match r with
  | .ok (.tup xs) _ κ => g xs κ
  | .ok (.lst xs) _ κ => g xs κ
  | .ok (.dk kvs) true κ => g (kvs.map fun kv => keyD kv.1) κ
  | .ok (.fdk kvs) false κ => g (kvs.map fun kv => keyD kv.1) κ
  | .ok .nd false κ => g [.non] κ
  | .ok (.fdt kvs) false κ => g (kvs.map fun kv => .tup (kv.1.map keyD)) κ
  | .ok _ _ _ => .bad
  | .exc k d κ => .exc k d κ
  | .bad => .bad
@[simp] theorem s_nm {i : Nat} : evT (.nm i) = tgName i := by rw [evT]
def unpS (o : Option Rho) (κ : Kp) : RS := match o with
  | some ρ => .next ρ κ
  | none => .bad
@[simp] theorem s_unpS {κ : Kp} {ρ : Rho} : unpS (some ρ) κ = .next ρ κ := rfl
def kUnp (tg : Tg) (ρ : Rho) (d : D) (fr : Bool) (κ : Kp) : RS := unpS (tg d ρ) κ
@[simp] theorem kUnp_at {tg : Tg} {ρ : Rho} {d : D} {fr : Bool} {κ : Kp} : kUnp tg ρ d fr κ = unpS (tg d ρ) κ := rfl
@[simp] theorem s_unp {tg : Tt} {e : E} : evS Γ (.unp tg e) ρ κ = (evE Γ e ρ κ).st (kUnp (evT tg) ρ) := by
  rw [evS]; rfl
@[simp] theorem s_tp2 {i j : Nat} {a b : D} : evT (.tp (.cons (.nm i) (.cons (.nm j) .nil))) (.tup [a, b]) ρ = some ((ρ.set i (.val a)).set j (.val b)) := by
  simp only [evT, evTs, Tts.len]; rfl
@[simp] theorem s_tp3 {i j k : Nat} {a b c : D} : evT (.tp (.cons (.nm i) (.cons (.nm j) (.cons (.nm k) .nil)))) (.tup [a, b, c]) ρ = some (((ρ.set i (.val a)).set j (.val b)).set k (.val c)) := by
  simp only [evT, evTs, Tts.len]; rfl
def kFor (tg : Tg) (b : SmS) (ρ : Rho) (ds : List D) (κ : Kp) : RS := forRun tg b ds ρ κ
@[simp] theorem kFor_at {tg : Tg} {b : SmS} {ρ : Rho} {ds : List D} {κ : Kp} : kFor tg b ρ ds κ = forRun tg b ds ρ κ := rfl
@[simp] theorem s_forS {e : E} {tg : Tt} {b : List S} : evS Γ (.for_ (.seq e) tg b) ρ κ = (evE Γ e ρ κ).seqS (kFor (evT tg) (evB Γ b) ρ) := by
  rw [evS]
  show (match evI Γ (.seq e) ρ κ with | .ok ds κ => forRun (evT tg) (evB Γ b) ds ρ κ | .exc k d κ => .exc k d κ | .bad => .bad) = _
  rw [evI]
  unfold cItA R.seqS
  cases evE Γ e ρ κ with
  | ok d fr κ => cases d <;> first | rfl | (cases fr <;> rfl)
  | exc k d κ => rfl
  | bad => rfl
@[simp] theorem s_seq1 {ds : List D} {g : List D → Kp → RS} : (R.ok (.tup ds) fr κ).seqS g = g ds κ := rfl
@[simp] theorem s_seq2 {ds : List D} {g : List D → Kp → RS} : (R.ok (.lst ds) fr κ).seqS g = g ds κ := rfl
end
def RS.fn (r : RS) : R := match r with
  | .ret d fr κ => .ok d fr κ
  | .next _ κ => .ok .non false κ
  | .exc k d κ => .exc k d κ
  | _ => .bad
theorem run_at {P : Prog} {l i : Nat} {f : FnD} (h : P[i]? = some f) {ds : List D} {κ : Kp} (hn : ds.length = f.ps.length) : run P (l + 1) i ds κ = (evB (run P l) f.body (ds.map .val ++ List.replicate (f.N.length - f.ps.length) .no) κ).fn := by
  show (match P[i]? with | some f => fnSem f.ps.length f.N.length (evB (run P l) f.body) | none => run P l (i - 1000)) ds κ = _
  rw [h]
  show fnSem f.ps.length f.N.length (evB (run P l) f.body) ds κ = _
  unfold fnSem
  rw [if_pos hn]
  rfl
@[simp] theorem s_fn1 {d : D} {fr : Bool} {κ : Kp} : (RS.ret d fr κ).fn = .ok d fr κ := rfl
@[simp] theorem s_fn2 {ρ : Rho} {κ : Kp} : (RS.next ρ κ).fn = .ok .non false κ := rfl
/-! ## the draw's list is changed -/
def setK (ρ : Rho) (κ : Kp) : D → D → RS
  | .int x, .int y => (match κ.set y x with
    | some κ => .next ρ κ
    | none => .bad)
  | _, _ => .bad
def kSb2 (ρ : Rho) (x y : D) (κ : Kp) : RS := setK ρ κ x y
@[simp] theorem kSb2_at {ρ : Rho} {x y : D} {κ : Kp} : kSb2 ρ x y κ = setK ρ κ x y := rfl
def kSb1 (m : SmE) (ρ : Rho) (x : D) (κ : Kp) : RS := (m ρ κ).stV (kSb2 ρ x)
@[simp] theorem kSb1_at {m : SmE} {ρ : Rho} {x : D} {κ : Kp} : kSb1 m ρ x κ = (m ρ κ).stV (kSb2 ρ x) := rfl
@[simp] theorem s_subK {Γ : Gam} {ρ : Rho} {κ : Kp} {i : Nat} {j e : E} (h : ρ[i]? = some (.val .cro)) : evS Γ (.sub i j e) ρ κ = (evE Γ e ρ κ).stV (kSb1 (evE Γ j) ρ) := by
  rw [s_subC h]
  unfold cSubC
  rw [h]
  rfl
@[simp] theorem s_setK0 {ρ : Rho} {κ : Kp} {x : Int} : setK ρ κ (.int x) (.int 0) = .next ρ ⟨x, κ.b, κ.c, κ.on⟩ := rfl
@[simp] theorem s_setK1 {ρ : Rho} {κ : Kp} {x : Int} : setK ρ κ (.int x) (.int 1) = .next ρ ⟨κ.a, x, κ.c, κ.on⟩ := rfl
@[simp] theorem s_setK2 {ρ : Rho} {κ : Kp} {x : Int} : setK ρ κ (.int x) (.int 2) = .next ρ ⟨κ.a, κ.b, x, κ.on⟩ := rfl
/-- the draw's list is in order, and n draws are left -/
structure Val (κ : Kp) (n : Nat) : Prop where
  on : κ.on = true
  c0 : 0 ≤ κ.c
  c1 : κ.c + n ≤ 2 ^ 63
theorem Val.less {κ : Kp} {n m : Nat} (v : Val κ n) (h : m ≤ n) : Val κ m := ⟨v.on, v.c0, by have := v.c1; omega⟩
theorem big63 {i : Int} (h0 : -2 ^ 63 ≤ i) (h : i ≤ 2 ^ 63) : big i = true := big_of (by omega)
/-- an item is put behind an own list -/
theorem app_at {Γ : Gam} {ρ : Rho} {κ κ' : Kp} {i : Nat} {e : E} {ds : List D} {x : D} {f : Bool} (h : ρ[i]? = some (.own (.lst ds))) (he : evE Γ e ρ κ = .ok x f κ') (hl : ds.length < LIM) : evS Γ (.app i e) ρ κ = .next (ρ.set i (.own (.lst (ds ++ [x])))) κ' := by
  rw [evS]
  unfold cApp ownL
  simp only [h, he, s_stV]
  unfold dApp upS
  rw [if_pos hl]
/-! ## loops -/
theorem for_run {tg : Tg} {b : SmS} (I : Nat → Rho → Kp → Prop) (J : Rho → Kp → Prop) (Dn : D → Bool → Kp → Prop) : ∀ (ds : List D) (k : Nat) (ρ : Rho) (κ : Kp), I k ρ κ →
    (∀ i d ρ κ, ds[i]? = some d → I (k + i) ρ κ → ∃ ρ1, tg d ρ = some ρ1 ∧ ((∃ ρ2 κ2, (b ρ1 κ = .next ρ2 κ2 ∨ b ρ1 κ = .cont ρ2 κ2) ∧ I (k + i + 1) ρ2 κ2) ∨ (∃ ρ2 κ2, b ρ1 κ = .brk ρ2 κ2 ∧ J ρ2 κ2) ∨ ∃ d fr κ', b ρ1 κ = .ret d fr κ' ∧ Dn d fr κ')) →
    (∃ ρ' κ', forRun tg b ds ρ κ = .next ρ' κ' ∧ (I (k + ds.length) ρ' κ' ∨ J ρ' κ')) ∨ ∃ d fr κ', forRun tg b ds ρ κ = .ret d fr κ' ∧ Dn d fr κ'
  | [], k, ρ, κ, h, _ => .inl ⟨ρ, κ, rfl, .inl h⟩
  | d :: ds, k, ρ, κ, h, st => by
    obtain ⟨ρ1, e1, h1⟩ := st 0 d ρ κ rfl h
    have ih := fun ρ2 κ2 (h2 : I (k + 1) ρ2 κ2) => for_run I J Dn ds (k + 1) ρ2 κ2 h2 (fun i d' ρ κ hi hI => by
      have := st (i + 1) d' ρ κ (by simpa using hi) (by rw [show k + (i + 1) = k + 1 + i from by omega]; exact hI)
      rw [show k + (i + 1) = k + 1 + i from by omega] at this
      exact this)
    rw [show k + 1 + ds.length = k + (d :: ds).length from by simp; omega] at ih
    unfold forRun
    rw [e1]
    rcases h1 with ⟨ρ2, κ2, e2, h2⟩ | ⟨ρ2, κ2, e2, h2⟩ | ⟨d', fr, κ', e2, h2⟩
    · rcases e2 with e2 | e2
      · simp only [e2]; exact ih ρ2 κ2 h2
      · simp only [e2]; exact ih ρ2 κ2 h2
    · simp only [e2]; exact .inl ⟨ρ2, κ2, rfl, .inr h2⟩
    · simp only [e2]; exact .inr ⟨d', fr, κ', rfl, h2⟩
theorem for_next {tg : Tg} {b : SmS} {d : D} {ds : List D} {ρ ρ1 ρ2 : Rho} {κ κ2 : Kp} (h : tg d ρ = some ρ1) (h2 : b ρ1 κ = .next ρ2 κ2) : forRun tg b (d :: ds) ρ κ = forRun tg b ds ρ2 κ2 := by
  rw [forRun]
  simp only [h, h2]
theorem rngD_length {lo : Int} {n : Nat} : (rngD lo n).length = n := by unfold rngD; simp
theorem rngD_at {lo : Int} {n i : Nat} {d : D} (h : (rngD lo n)[i]? = some d) : i < n ∧ d = .int (lo + (i : Int)) := by
  unfold rngD at h
  rw [List.getElem?_map] at h
  cases q : (List.range n)[i]? with
  | none => rw [q] at h; cases h
  | some j =>
    rw [q] at h
    obtain ⟨h1, h2⟩ := List.getElem?_eq_some_iff.mp q
    rw [List.length_range] at h1
    rw [List.getElem_range] at h2
    subst h2
    cases h
    exact ⟨h1, rfl⟩
/-- for name in range(..), no way out but the end -/
theorem for_rng {b : SmS} {j : Nat} {lo : Int} {n : Nat} (I : Nat → Rho → Kp → Prop) {ρ : Rho} {κ : Kp} (h : I 0 ρ κ)
    (st : ∀ i ρ κ, i < n → I i ρ κ → ∃ ρ2 κ2, (b (ρ.set j (.val (.int (lo + (i : Int))))) κ = .next ρ2 κ2 ∨ b (ρ.set j (.val (.int (lo + (i : Int))))) κ = .cont ρ2 κ2) ∧ I (i + 1) ρ2 κ2) :
    ∃ ρ' κ', forRun (tgName j) b (rngD lo n) ρ κ = .next ρ' κ' ∧ I n ρ' κ' := by
  rcases for_run (tg := tgName j) (b := b) I (fun _ _ => False) (fun _ _ _ => False) (rngD lo n) 0 ρ κ h (fun i d ρ κ hi hI => by
    obtain ⟨h1, rfl⟩ := rngD_at hi
    rw [Nat.zero_add] at hI ⊢
    exact ⟨_, rfl, .inl (st i ρ κ h1 hI)⟩) with ⟨ρ', κ', e, h' | h'⟩ | ⟨_, _, _, _, h'⟩
  · rw [Nat.zero_add, rngD_length] at h'
    exact ⟨ρ', κ', e, h'⟩
  · exact h'.elim
  · exact h'.elim
/-- a list comprehension without a test, its items by draws -/
theorem lc_all {tg : Tg} {e : SmE} (P : D → Prop) : ∀ (ds : List D) (ρ : Rho) (κ : Kp) (n : Nat), Val κ (n + ds.length) →
    (∀ d ∈ ds, ∀ (κ : Kp) (n : Nat), Val κ (n + 1) → ∃ ρ1 x fr κ1, tg d ρ = some ρ1 ∧ e ρ1 κ = .ok x fr κ1 ∧ Val κ1 n ∧ P x) →
    ∃ xs κ', lcRun tg cYes e ds ρ κ = .ok xs κ' ∧ Val κ' n ∧ xs.length = ds.length ∧ ∀ x ∈ xs, P x
  | [], ρ, κ, n, v, _ => ⟨[], κ, rfl, v, rfl, fun _ h => nomatch h⟩
  | d :: ds, ρ, κ, n, v, st => by
    obtain ⟨ρ1, x, fr, κ1, h1, h2, h3, h4⟩ := st d List.mem_cons_self κ (n + ds.length) (v.less (by simp; omega))
    obtain ⟨xs, κ', g1, g2, g3, g4⟩ := lc_all P ds ρ κ1 n h3 (fun d' hd => st d' (List.mem_cons_of_mem _ hd))
    refine ⟨x :: xs, κ', ?_, g2, by simp [g3], fun y hy => ?_⟩
    · unfold lcRun
      simp only [h1]
      unfold cYes
      simp only [truth, h2]
      rw [show (fun (_ : Rho) κ => R.ok (D.bl true) false κ) = cYes from rfl, g1]
    · rcases List.mem_cons.mp hy with z | z
      · rw [z]; exact h4
      · exact g4 y z
theorem lc_at {Γ : Gam} {it : It} {tg : Tt} {e : E} {own : List (Str × Nat)} {ρ : Rho} {κ κ1 κ' : Kp} {ds xs : List D} (h : evI Γ it ρ κ = .ok ds κ1) (hl : ds.length ≤ LIM) (h2 : lcRun (evT tg) cYes (evE Γ e) ds (wipeR ρ (own.map (·.2))) κ1 = .ok xs κ') :
    evE Γ (.lc it tg .no e own) ρ κ = .ok (.lst xs) true κ' := by
  rw [evE]
  unfold cLc
  rw [h]
  simp only [if_pos hl]
  rw [show evYes (evO Γ .no) = cYes from by rw [evO]; rfl, h2]
/-- a list comprehension that draws nothing -/
theorem lc_pure {tg : Tg} {t e : SmE} (p : D → Bool) (f : D → D) (κ : Kp) : ∀ (ds : List D) (ρ : Rho),
    (∀ d ∈ ds, ∃ ρ1, tg d ρ = some ρ1 ∧ (∃ b fr, t ρ1 κ = .ok b fr κ ∧ truth b = some (p d)) ∧ (p d = true → ∃ fr, e ρ1 κ = .ok (f d) fr κ)) →
    lcRun tg t e ds ρ κ = .ok ((ds.filter p).map f) κ
  | [], _, _ => rfl
  | d :: ds, ρ, h => by
    obtain ⟨ρ1, h1, ⟨b, fr, h2, h3⟩, h4⟩ := h d List.mem_cons_self
    have ih := lc_pure p f κ ds ρ (fun d' hd => h d' (List.mem_cons_of_mem _ hd))
    unfold lcRun
    simp only [h1, h2, h3]
    cases q : p d with
    | true =>
      obtain ⟨fr', h5⟩ := h4 q
      simp only [h5, ih]
      rw [List.filter_cons_of_pos q, List.map_cons]
    | false =>
      simp only [ih]
      rw [List.filter_cons_of_neg (by rw [q]; simp)]
theorem lc_atT {Γ : Gam} {it : It} {tg : Tt} {t e : E} {own : List (Str × Nat)} {ρ : Rho} {κ κ1 κ' : Kp} {ds xs : List D} (h : evI Γ it ρ κ = .ok ds κ1) (hl : ds.length ≤ LIM) (h2 : lcRun (evT tg) (evE Γ t) (evE Γ e) ds (wipeR ρ (own.map (·.2))) κ1 = .ok xs κ') :
    evE Γ (.lc it tg (.so t) e own) ρ κ = .ok (.lst xs) true κ' := by
  rw [evE]
  unfold cLc
  rw [h]
  simp only [if_pos hl]
  rw [show evYes (evO Γ (.so t)) = evE Γ t from by rw [evO]; rfl, h2]
theorem stT_of {d : D} {fr : Bool} {κ : Kp} {q : Bool} {g : Bool → Kp → RS} (h : truth d = some q) : (R.ok d fr κ).stT g = g q κ := by
  unfold R.stT
  simp only [h]
theorem wh_run {t : SmE} {b : SmS} (I : Nat → Rho → Kp → Prop) (J : Rho → Kp → Prop) : ∀ (n k : Nat) (ρ : Rho) (κ : Kp), k < n → I k ρ κ →
    (∀ k ρ κ, I k ρ κ → ∃ d fr κ1 q, t ρ κ = .ok d fr κ1 ∧ truth d = some q ∧ ((q = false ∧ J ρ κ1) ∨ (q = true ∧ ∃ ρ2 κ2, (b ρ κ1 = .next ρ2 κ2 ∨ b ρ κ1 = .cont ρ2 κ2) ∧ ∃ k', k' < k ∧ I k' ρ2 κ2))) →
    ∃ ρ' κ', whRun t b n ρ κ = .next ρ' κ' ∧ J ρ' κ'
  | 0, _, _, _, h, _, _ => by omega
  | n + 1, k, ρ, κ, hk, hI, st => by
    obtain ⟨d, fr, κ1, q, e1, e2, h⟩ := st k ρ κ hI
    unfold whRun
    rcases h with ⟨rfl, h⟩ | ⟨rfl, ρ2, κ2, e3, k', hk', h⟩
    · rw [e1, stT_of e2]
      exact ⟨ρ, κ1, rfl, h⟩
    · rw [e1, stT_of e2, if_pos rfl]
      rcases e3 with e3 | e3
      · simp only [e3]; exact wh_run I J n k' ρ2 κ2 (by omega) h st
      · simp only [e3]; exact wh_run I J n k' ρ2 κ2 (by omega) h st
/-! lemmas wanted by most laws -/
theorem big1 : big 1 = true := by decide +kernel
theorem bigN {n : Nat} (h : n ≤ 2 ^ 16) : big (n : Int) = true := big_of (by have : (2:Nat) ^ 16 < 2 ^ 64 := by decide
                                                                             omega)
theorem cast2 (n : Nat) : ((2 ^ n : Nat) : Int) = (2:Int) ^ n := by simp
theorem neg_mod {m W : Nat} (h0 : 0 < m) (h : m < W) : (-(m : Int)) % (W : Int) = ((W - m : Nat) : Int) := by
  rw [Int.neg_emod_eq_sub_emod, Int.emod_eq_of_lt (by omega) (by omega)]
  omega
theorem rng_it (l n : Nat) {e : E} {ρ : Rho} {κ κ' : Kp} {Γ : Gam} {f : Bool} (h : evE Γ e ρ κ = .ok (.int (n : Int)) f κ') (hn : n ≤ 1000000000) : evI Γ (.rng (.cons e .nil)) ρ κ = .ok (rngD 0 n) κ' := by
  rw [evI]
  unfold cRng
  have h1 : (n : Int) ≤ 1000000000 := by omega
  have h2 : -1000000000 ≤ (n : Int) := by omega
  simp [h, h1, h2]
theorem for_at {it : It} {tg : Tt} {b : List S} {ρ : Rho} {κ κ' : Kp} {Γ : Gam} {ds : List D} (h : evI Γ it ρ κ = .ok ds κ') : evS Γ (.for_ it tg b) ρ κ = forRun (evT tg) (evB Γ b) ds ρ κ' := by
  rw [s_for]; unfold cFor; rw [h]
theorem aug_at {i : Nat} {o : Aop} {e : E} {ρ : Rho} {κ κ' : Kp} {Γ : Gam} {d x z : D} {f : Bool} (h : ρ[i]? = some (.val d)) (he : evE Γ e ρ κ = .ok x f κ') (ho : o.f d x = some (z, false)) : evS Γ (.aug i o e) ρ κ = .next (ρ.set i (.val z)) κ' := by
  rw [s_aug]; unfold cAug; simp [h, he, ho]
theorem atI_nat {xs : List D} {i : Nat} {d : D} (h : xs[i]? = some d) : atI xs (i : Int) = some d := by
  have hl := (List.getElem?_eq_some_iff.mp h).1
  have e : ixN xs.length (i : Int) = some i := by
    unfold ixN
    rw [if_pos (by omega), if_pos (by omega)]
    simp
  unfold atI
  rw [e]
  exact h
theorem evB_append {Γ : Gam} {ρ : Rho} {κ : Kp} : ∀ {a b : List S}, evB Γ (a ++ b) ρ κ = (evB Γ a ρ κ).then_ (evB Γ b)
  | [], b => by simp
  | s :: a, b => by
    rw [List.cons_append, s_B1, s_B1]
    cases evS Γ s ρ κ with
    | next ρ κ => exact evB_append (a := a)
    | _ => rfl
theorem ncL_ints (ns : List Int) : ncL (ns.map D.int) = true := by
  induction ns with
  | nil => rfl
  | cons i ns ih => simpa [ncL, D.nc] using ih
theorem lendC_next {m : SmS} {ρ : Rho} {i : Nat} {a b c : Int} {ρ' : Rho} {κ' : Kp} (h : ρ[i]? = some (.own (.lst [.int a, .int b, .int c]))) (e : m (ρ.set i (.val .cro)) ⟨a, b, c, true⟩ = .next ρ' κ') (h2 : ρ'[i]? = some (.val .cro))
    (h3 : (ρ'.set i (.own (.lst [.int κ'.a, .int κ'.b, .int κ'.c]))).all Slot.nc = true) : cLendC i m ρ kOff = .next (ρ'.set i (.own (.lst [.int κ'.a, .int κ'.b, .int κ'.c]))) kOff := by
  unfold cLendC
  rw [if_neg (by decide)]
  simp only [h, e]
  unfold backC
  simp only [h2]
  rw [if_pos h3]
theorem two_split : ∀ p : Nat, 0 < p → ∃ v u, p = 2 ^ v * u ∧ u % 2 = 1 := by
  intro p
  induction p using Nat.strongRecOn with
  | _ p ih =>
    intro h
    by_cases ho : p % 2 = 1
    · exact ⟨0, p, by simp, ho⟩
    · obtain ⟨v, u, e, hu⟩ := ih (p / 2) (by omega) (by omega)
      refine ⟨v + 1, u, ?_, hu⟩
      have : p = 2 * (p / 2) := by omega
      rw [this, e, Nat.pow_succ]; grind
theorem lt_val {v u x : Nat} (h : 2 ^ v * u < 2 ^ x) (hu : u % 2 = 1) : v < x := by
  apply Decidable.byContradiction
  intro hn
  have h1 : 2 ^ x ≤ 2 ^ v := Nat.pow_le_pow_right (by decide) (by omega)
  have h2 : 2 ^ v * 1 ≤ 2 ^ v * u := Nat.mul_le_mul_left _ (by omega)
  omega
theorem two16 {n : Nat} (hn : n ≤ 16) : 2 ^ n ≤ 2 ^ 16 := Nat.pow_le_pow_right (by decide) hn
theorem bigB {x : Nat} (h : x < 2 ^ 4000) : big (x : Int) = true := by
  refine decide_eq_true ?_
  show ((x : Nat) : Int).natAbs < BIG
  rw [Int.natAbs_natCast]
  exact Nat.lt_of_lt_of_le h (by unfold BIG; exact Nat.pow_le_pow_right (by decide) (by decide))
theorem lt4000 {n k : Nat} (hn : n ≤ 3000) (h : k ≤ 2 ^ n) : k < 2 ^ 4000 := Nat.lt_of_le_of_lt (Nat.le_trans h (Nat.pow_le_pow_right (by decide) hn)) (Nat.pow_lt_pow_right (by decide) (by decide))
theorem neg_div {X d : Nat} (hd : 0 < d) : -(-(X : Int) / (d : Int)) = (((X + (d - 1)) / d : Nat) : Int) := by
  have h1 := Nat.div_add_mod (X + (d - 1)) d
  have h2 := Nat.mod_lt (X + (d - 1)) hd
  generalize (X + (d - 1)) / d = q at *
  generalize (X + (d - 1)) % d = r at *
  have e : -(X : Int) = ((d - 1 - r : Nat) : Int) + (-(q : Int)) * d := by
    have : (d : Int) * q = (q : Int) * d := Int.mul_comm _ _
    have h3 : ((d * q + r : Nat) : Int) = ((X + (d - 1) : Nat) : Int) := by rw [h1]
    rw [Int.natCast_add, Int.natCast_mul] at h3
    rw [Int.neg_mul]
    omega
  rw [e, Int.add_mul_ediv_right _ _ (by omega), Int.ediv_eq_zero_of_lt (by omega) (by omega)]
  omega
theorem isi_at {v : D} {t : Ty} {b : Bool} (h : v.isT t = some b) : Bi.isi.g [v, .ty t] = some (.bl b, false) := by
  cases v <;> (cases h <;> rfl)
@[simp] theorem isi_tup {xs : List D} : Bi.isi.g [.tup xs, .ty .tuple] = some (.bl true, false) := rfl
@[simp] theorem isi_str {x : Str} : Bi.isi.g [.str x, .ty .str] = some (.bl true, false) := rfl
theorem seq_str {x y : Str} : Cop.eq.f (.str x) (.str y) = if (PyData.strOk x && PyData.strOk y) = true then some (.bl (x == y), false) else none := rfl
theorem sne_str {x y : Str} : Cop.ne.f (.str x) (.str y) = if (PyData.strOk x && PyData.strOk y) = true then some (.bl (!(x == y)), false) else none := rfl
theorem ints_shp (l : List Nat) (k : Nat) : shpL (l.map fun (x : Nat) => D.int (x : Int)) k = true := by
  induction l with
  | nil => rfl
  | cons a l ih => rw [List.map_cons, s_sh1, ih, s_shi]; rfl
theorem ints_any (l : List Nat) (i : Int) : ((l.map fun (x : Nat) => D.int (x : Int)).any fun z => z.eqv (.int i)) = (decide (0 ≤ i) && decide (i.toNat ∈ l)) := by
  induction l with
  | nil => simp
  | cons a l ih =>
    rw [List.map_cons, List.any_cons, ih, s_evi]
    have : decide ((a : Int) = i) = (decide (0 ≤ i) && decide (i.toNat = a)) := by
      by_cases h : (a : Int) = i
      · subst h; simp
      · by_cases h0 : 0 ≤ i
        · have : ¬ i.toNat = a := by omega
          simp [h, this]
        · simp [h, h0]
    rw [this]
    by_cases h0 : 0 ≤ i <;> simp [h0]
theorem inA_ints (l : List Nat) (i : Int) : fInA (.int i) (.lst (l.map fun (x : Nat) => D.int (x : Int))) = some (.bl (decide (0 ≤ i) && decide (i.toNat ∈ l)), false) := by
  show (if isDict (.lst _) then _ else fIn _ _) = _
  rw [s_d2, if_neg (by simp)]
  show (if (D.shp (.int i) 50 && shpL _ 50) = true then _ else none) = _
  rw [s_shi, ints_shp, if_pos (by rfl), ints_any]
theorem eq_nil (l : List Nat) : Cop.eq.f (.lst (l.map fun (x : Nat) => D.int (x : Int))) (.lst []) = some (.bl (decide (l = [])), false) := by
  cases l with
  | nil => rfl
  | cons a l => rfl
theorem ne_nil (l : List Nat) : Cop.ne.f (.lst (l.map fun (x : Nat) => D.int (x : Int))) (.lst []) = some (.bl (!decide (l = [])), false) := by
  cases l with
  | nil => rfl
  | cons a l => rfl
@[simp] theorem repr_b {b : Bool} : Bi.repr.g [.bl b] = some (.str (boolStr b), false) := rfl
theorem ok_bs (b : Bool) : PyData.strOk (boolStr b) = true := by cases b <;> decide +kernel
theorem ne_bs (b : Bool) : Cop.ne.f (.str (boolStr b)) (.str (boolStr b)) = some (.bl false, false) := by
  rw [sne_str, ok_bs]
  simp
theorem frz_own {Γ : Gam} {ρ : Rho} {κ : Kp} {i : Nat} {d : D} (h : ρ[i]? = some (.own d)) : evS Γ (.frz i) ρ κ = .next (ρ.set i (.val d)) κ := by
  rw [evS]; unfold cFrz; simp only [h]
theorem seq_at {Γ : Gam} {ρ : Rho} {κ κ' : Kp} {e : E} {ds : List D} {fr : Bool} (h : evE Γ e ρ κ = .ok (.lst ds) fr κ' ∨ evE Γ e ρ κ = .ok (.tup ds) fr κ') : evI Γ (.seq e) ρ κ = .ok ds κ' := by
  rw [evI]
  unfold cItA
  rcases h with h | h <;> rw [h] <;> rfl
theorem lc_map {Γ : Gam} {it : It} {tg : Tt} {e : E} {own : List (Str × Nat)} {ρ : Rho} {κ κ1 : Kp} {ds : List D} (f : D → D) (h : evI Γ it ρ κ = .ok ds κ1) (hl : ds.length ≤ LIM)
    (h2 : ∀ d ∈ ds, ∃ ρ1 fr, evT tg d (wipeR ρ (own.map (·.2))) = some ρ1 ∧ evE Γ e ρ1 κ1 = .ok (f d) fr κ1) :
    evE Γ (.lc it tg .no e own) ρ κ = .ok (.lst (ds.map f)) true κ1 := by
  refine lc_at h hl ?_
  have := lc_pure (tg := evT tg) (t := cYes) (e := evE Γ e) (fun _ => true) f κ1 ds (wipeR ρ (own.map (·.2))) (fun d hd => by
    obtain ⟨ρ1, fr, a, b⟩ := h2 d hd
    exact ⟨ρ1, a, ⟨.bl true, false, rfl, rfl⟩, fun _ => ⟨fr, b⟩⟩)
  rw [this, List.filter_eq_self.mpr (fun _ _ => rfl)]
theorem lc_filter {Γ : Gam} {it : It} {tg : Tt} {t e : E} {own : List (Str × Nat)} {ρ : Rho} {κ κ1 : Kp} {ds : List D} (p : D → Bool) (f : D → D) (h : evI Γ it ρ κ = .ok ds κ1) (hl : ds.length ≤ LIM)
    (h2 : ∀ d ∈ ds, ∃ ρ1, evT tg d (wipeR ρ (own.map (·.2))) = some ρ1 ∧ (∃ b fr, evE Γ t ρ1 κ1 = .ok b fr κ1 ∧ truth b = some (p d)) ∧ (p d = true → ∃ fr, evE Γ e ρ1 κ1 = .ok (f d) fr κ1)) :
    evE Γ (.lc it tg (.so t) e own) ρ κ = .ok (.lst ((ds.filter p).map f)) true κ1 :=
  lc_atT h hl (lc_pure p f κ1 ds _ h2)
theorem cut_mem {xs : List D} {lo hi : Option Int} {d : D} (h : d ∈ cutD xs lo hi) : d ∈ xs := List.mem_of_mem_drop (List.mem_of_mem_take h)
theorem cut_len {xs : List D} {lo hi : Option Int} : (cutD xs lo hi).length ≤ xs.length := by
  unfold cutD
  rw [List.length_take, List.length_drop]
  omega
theorem filter_head {p : Nat → Bool} {K x : Nat} (h1 : p x = true) (h2 : ∀ y, y < x → p y = false) (h3 : x < K) : ∃ r, (List.range K).filter p = x :: r := by
  have e : K = x + ((K - x - 1) + 1) := by omega
  rw [e, List.range_add, List.filter_append]
  have : (List.range x).filter p = [] := by
    rw [List.filter_eq_nil_iff]
    intro y hy
    rw [h2 y (List.mem_range.mp hy)]; simp
  rw [this, List.nil_append, List.range_succ_eq_map, List.map_cons, List.filter_cons_of_pos (by simpa using h1)]
  exact ⟨_, rfl⟩
theorem niA_ints (l : List Nat) (i : Int) : fNiA (.int i) (.lst (l.map fun (x : Nat) => D.int (x : Int))) = some (.bl (!(decide (0 ≤ i) && decide (i.toNat ∈ l))), false) := by
  show (if isDict (.lst _) then _ else fNi _ _) = _
  rw [s_d2, if_neg (by simp)]
  show (if (D.shp (.int i) 50 && shpL _ 50) = true then _ else none) = _
  rw [s_shi, ints_shp, if_pos (by rfl), ints_any]
theorem filter_succ (p : Nat → Bool) (i : Nat) : (List.range (i + 1)).filter p = if p i = true then (List.range i).filter p ++ [i] else (List.range i).filter p := by
  rw [List.range_succ, List.filter_append]
  split
  · rename_i h; rw [List.filter_cons_of_pos h]; rfl
  · rename_i h; rw [List.filter_cons_of_neg h, List.filter_nil, List.append_nil]
theorem lend_own {Γ : Gam} {ρ : Rho} {κ κ' : Kp} {i : Nat} {d x : D} {fr : Bool} {e : E} (h : ρ[i]? = some (.own d)) (he : evE Γ e (ρ.set i (.val d)) κ = .ok x fr κ') (hf : flatR x fr = true) : evE Γ (.lend i e) ρ κ = .ok x fr κ' := by
  rw [evE]; unfold cLend; simp only [h, he, hf, if_true]
theorem retO_own {Γ : Gam} {ρ : Rho} {κ : Kp} {i : Nat} {d : D} (h : ρ[i]? = some (.own d)) : evS Γ (.retO i) ρ κ = .ret d true κ := by
  rw [evS]; unfold cRetO; simp only [h]
theorem frz_val {Γ : Gam} {ρ : Rho} {κ : Kp} {i : Nat} {d : D} (h : ρ[i]? = some (.val d)) : evS Γ (.frz i) ρ κ = .next ρ κ := by
  rw [evS]; unfold cFrz; simp only [h]
theorem subD_at {Γ : Gam} {ρ : Rho} {κ κ1 κ2 : Kp} {i : Nat} {e j : E} {kvs : List (Key × D)} {x y d : D} {f1 f2 : Bool} (h : ρ[i]? = some (.own (.dk kvs))) (he : evE Γ e ρ κ = .ok x f1 κ1) (hj : evE Γ j ρ κ1 = .ok y f2 κ2) (hs : dSubD (.dk kvs) y x = some d) :
    evS Γ (.sub i j e) ρ κ = .next (ρ.set i (.own d)) κ2 := by
  rw [evS]
  unfold cSub
  simp only [h]
  unfold cSubD ownAt
  simp only [h, he, s_stV, hj]
  unfold upS
  rw [hs]
theorem idx_ints (l : List Nat) (i : Nat) : fIdx (.lst (l.map fun (x : Nat) => D.int (x : Int))) (.int (i : Int)) = (l.findIdx? fun x => decide (x = i)).map fun j => (.int (j : Nat), false) := by
  show (if (D.shp (.int i) 50 && shpL _ 50) = true then _ else none) = _
  rw [s_shi, ints_shp, if_pos (by rfl)]
  congr 1
  rw [List.findIdx?_map]
  congr 1
  funext x
  show (D.int (x : Int)).eqv (.int (i : Int)) = _
  rw [s_evi]
  apply decide_eq_decide.mpr
  omega
theorem any_bls {α : Type} (p : α → Bool) : ∀ l : List α, Bi.any.g [.lst (l.map fun x => .bl (p x))] = some (.bl (l.any p), false) := by
  intro l
  have : asBools (l.map fun x => .bl (p x)) = some (l.map p) := by
    induction l with
    | nil => rfl
    | cons a l ih => rw [List.map_cons]; unfold asBools; rw [ih]; rfl
  show (asBools _).map _ = _
  rw [this]
  simp
theorem rng2_it (a c : Int) {e1 e2 : E} {ρ : Rho} {κ κ1 κ' : Kp} {Γ : Gam} {f1 f2 : Bool} (h1 : evE Γ e1 ρ κ = .ok (.int a) f1 κ1) (h2 : evE Γ e2 ρ κ1 = .ok (.int c) f2 κ') (ha : -1000000000 ≤ a ∧ a ≤ 1000000000) (hc : -1000000000 ≤ c ∧ c ≤ 1000000000) :
    evI Γ (.rng (.cons e1 (.cons e2 .nil))) ρ κ = .ok (rngD a (c - a).toNat) κ' := by
  rw [evI]
  unfold cRng
  simp [h1, h2, ha, hc]
theorem cut1_nil : cutD [] none (some 1) = [] := rfl
theorem cut1_cons (d : D) (ds : List D) : cutD (d :: ds) none (some 1) = [d] := by
  have h0 : HT.sIx (d :: ds).length 0 none = 0 := rfl
  have h1 : HT.sIx (d :: ds).length (d :: ds).length (some 1) = 1 := by
    unfold HT.sIx
    simp
    try omega
  unfold cutD
  rw [h0, h1]
  rfl
/-! bits -/
theorem ban_one {x : Int} : Bop.ban.f (.int x) (.int 1) = some (.int (x % 2), false) := by
  show some (D.int (Builtin.bitAnd x 1), false) = _
  rw [bitAnd_m1]
theorem ban_nat (a b : Nat) : Bop.ban.f (.int (a : Int)) (.int (b : Int)) = some (.int ((a &&& b : Nat) : Int), false) := by
  show some (D.int (Builtin.bitAnd (a : Int) (b : Int)), false) = _
  rw [bitAnd_pp (Int.natCast_nonneg a) (Int.natCast_nonneg b), Int.toNat_natCast, Int.toNat_natCast]
/-! ## what is raised and told: readings -/
section
variable {Γ : Gam} {ρ : Rho} {κ : Kp}
@[simp] theorem x_R {k : Nat} {d : D} {g : D → Kp → R} : (R.exc k d κ).bind g = .exc k d κ := rfl
@[simp] theorem x_St {k : Nat} {d : D} {g : D → Bool → Kp → RS} : (R.exc k d κ).st g = .exc k d κ := rfl
@[simp] theorem x_stT {k : Nat} {d : D} {g : Bool → Kp → RS} : (R.exc k d κ).stT g = .exc k d κ := rfl
@[simp] theorem x_L {k : Nat} {d : D} {g : List D → Kp → R} : (RL.exc k d κ).bind g = .exc k d κ := rfl
@[simp] theorem x_fn {k : Nat} {d : D} : (RS.exc k d κ).fn = .exc k d κ := rfl
@[simp] theorem x_then {k : Nat} {d : D} {g : SmS} : (RS.exc k d κ).then_ g = .exc k d κ := rfl
@[simp] theorem s_raise {k : Nat} : evS Γ (.raise k) ρ κ = .exc k .non κ := by rw [evS]; rfl
def kRs (k : Nat) (d : D) (fr : Bool) (κ : Kp) : RS := if fr then .bad else .exc k d κ
@[simp] theorem kRs_at {k : Nat} {d : D} : kRs k d false κ = .exc k d κ := rfl
@[simp] theorem s_raise1 {k : Nat} {e : E} : evS Γ (.raise1 k e) ρ κ = (evE Γ e ρ κ).st (kRs k) := by rw [evS]; rfl
def metX (M : MetD) (k : Nat) (d : D) (κ : Kp) : R := match M.hs.lookup k with
  | some h => (match h.d d with
    | some d' => .ok d' false κ
    | none => .bad)
  | none => .bad
def metR (M : MetD) : R → R
  | .ok d _ κ => .ok (.tup [.str M.tag, d]) false κ
  | .exc k d κ => metX M k d κ
  | .bad => .bad
@[simp] theorem metR_ok {M : MetD} {d : D} {fr : Bool} : metR M (.ok d fr κ) = .ok (.tup [.str M.tag, d]) false κ := rfl
@[simp] theorem metR_exc {M : MetD} {k : Nat} {d : D} : metR M (.exc k d κ) = metX M k d κ := rfl
@[simp] theorem s_fnv {i : Nat} : evE Γ (.fnv i) ρ κ = .ok (.fn i) false κ := by rw [evE]; rfl
@[simp] theorem s_met {M : MetD} {e : E} : evE Γ (.met M e) ρ κ = metR M (evE Γ e ρ κ) := by
  rw [evE]
  unfold metSem
  cases evE Γ e ρ κ <;> rfl
def callvR (Γ : Gam) (off : Nat) (s : Option Slot) (r : RL) : R := match s with
  | some (.val (.fn i)) => r.bind (Γ (off + i))
  | _ => .bad
@[simp] theorem callvR_at {off i : Nat} {r : RL} : callvR Γ off (some (.val (.fn i))) r = r.bind (Γ (off + i)) := rfl
@[simp] theorem s_callv {off j : Nat} {es : Es} : evE Γ (.callv off j es) ρ κ = callvR Γ off ρ[j]? (evEs Γ es ρ κ) := by
  rw [evE]
  unfold cCallV callvR
  split <;> simp_all
end
theorem down2 {P : Prog} (l i : Nat) (h : P.length ≤ 1000) (ds : List D) (κ : Kp) : run P (l + 2) (2000 + i) ds κ = run P l i ds κ := by rw [run_down2 h]
/-! ## what error laws want -/
theorem ok_app {a b : Str} : PyData.strOk (a ++ b) = (PyData.strOk a && PyData.strOk b) := by
  unfold PyData.strOk
  show (a.cps ++ b.cps).all _ = _
  rw [Array.all_append]
theorem txt_ok : ∀ (ts : List Str) (k : Nat) (acc : Str), PyData.strOk acc = true → (∀ t ∈ ts, PyData.strOk t = true) → PyData.strOk (textFrom k acc ts) = true
  | [], _, acc, h, _ => h
  | t :: r, k, acc, h, hs => by
    refine txt_ok r (k + 1) (acc ++ (if k > 0 then ", " else "" : String) ++ t) ?_ fun u hu => hs u (List.mem_cons_of_mem _ hu)
    rw [ok_app, ok_app, h, hs t List.mem_cons_self]
    split <;> decide +kernel
theorem list_ok {ts : List Str} (hs : ∀ t ∈ ts, PyData.strOk t = true) : PyData.strOk (listText ts) = true := by
  show PyData.strOk (textFrom 0 "[" ts ++ "]") = true
  rw [ok_app, txt_ok ts 0 "[" (by decide +kernel) hs]
  decide +kernel
theorem len_app (a b : Str) : (a ++ b).length = a.length + b.length := strLen_append a b
theorem txt_len : ∀ (ts : List Str) (k : Nat) (acc : Str), (textFrom k acc ts).length ≤ acc.length + piled ts
  | [], _, acc => by show acc.length ≤ acc.length + 0; omega
  | t :: r, k, acc => by
    have h := txt_len r (k + 1) (acc ++ (if k > 0 then ", " else "" : String) ++ t)
    have e : (acc ++ (if k > 0 then ", " else "" : String) ++ t).length ≤ acc.length + 2 + t.length := by
      rw [len_app, len_app]
      have : ((if k > 0 then ", " else "" : String) : Str).length ≤ 2 := by split <;> decide +kernel
      omega
    rw [piled_cons]
    exact Nat.le_trans h (by omega)
theorem list_len (ts : List Str) : (listText ts).length ≤ piled ts + 2 := by
  show (textFrom 0 "[" ts ++ "]").length ≤ _
  rw [len_app]
  have h := txt_len ts 0 "["
  have h1 : (("[" : String) : Str).length = 1 := rfl
  have h2 : (("]" : String) : Str).length = 1 := rfl
  omega
/-- a small value that may be shown -/
def smB (x : D) : Bool := x.shp 58 && x.toPy.showable && decide (x.toPy.shown.length ≤ 500) && PyData.strOk x.toPy.shown
theorem sm_all : ∀ xs : List D, (∀ x ∈ xs, smB x = true) → shpL xs 58 = true ∧ PyData.showableAll (toPyL xs) = true ∧ piled (PyData.shownAll (toPyL xs)) ≤ 502 * xs.length ∧ ∀ t ∈ PyData.shownAll (toPyL xs), PyData.strOk t = true
  | [], _ => ⟨rfl, rfl, Nat.le_refl _, fun t ht => nomatch ht⟩
  | x :: xs, h => by
    obtain ⟨h1, h2, h3, h4⟩ := sm_all xs fun y hy => h y (List.mem_cons_of_mem _ hy)
    have hx := h x List.mem_cons_self
    unfold smB at hx
    simp only [Bool.and_eq_true, decide_eq_true_eq] at hx
    obtain ⟨⟨⟨g1, g2⟩, g3⟩, g4⟩ := hx
    refine ⟨?_, ?_, ?_, ?_⟩
    · show (x.shp 58 && shpL xs 58) = true
      rw [g1, h1]; rfl
    · show (x.toPy.showable && PyData.showableAll (toPyL xs)) = true
      rw [g2, h2]; rfl
    · show piled (x.toPy.shown :: PyData.shownAll (toPyL xs)) ≤ _
      rw [piled_cons, List.length_cons]; omega
    · intro t ht
      rcases List.mem_cons.mp (show t ∈ x.toPy.shown :: PyData.shownAll (toPyL xs) from ht) with rfl | ht
      · exact g4
      · exact h4 t ht
theorem rep_list (xs : List D) (h : ∀ x ∈ xs, smB x = true) (hl : xs.length ≤ 1000) : ∃ s, Bi.rep.g [.lst xs] = some (.str s, false) ∧ Cop.ne.f (.str s) (.str s) = some (.bl false, false) := by
  obtain ⟨h1, h2, h3, h4⟩ := sm_all xs h
  refine ⟨(D.lst xs).toPy.shown, ?_, ?_⟩
  · show (fRep (.lst xs)).map (fun s => (D.str s, false)) = _
    have hlen : (D.lst xs).toPy.shown.length ≤ sizeLine := by
      have := list_len (PyData.shownAll (toPyL xs))
      show (listText (PyData.shownAll (toPyL xs))).length ≤ _
      rw [sizeLine_eq]; omega
    have : fRep (.lst xs) = some (D.lst xs).toPy.shown := by
      unfold fRep
      rw [if_pos]
      rw [show (D.lst xs).shp 59 = shpL xs 58 from rfl, h1, show (D.lst xs).toPy.showable = PyData.showableAll (toPyL xs) from rfl, h2, decide_eq_true hlen]
      rfl
    rw [this]; rfl
  · have hok : PyData.strOk (D.lst xs).toPy.shown = true := list_ok h4
    rw [sne_str, hok]
    simp
theorem ls_add {a b : List D} (h : a.length ≤ 1000) (h2 : b.length ≤ 1000) : Bop.add.f (.lst a) (.lst b) = some (.lst (a ++ b), true) := by
  show (if a.length + b.length ≤ LIM then some (D.lst (a ++ b), true) else none) = _
  rw [if_pos (by unfold LIM; omega)]
theorem ls_mul {a : List D} {k : Nat} (h : a.length ≤ 100) (h2 : k ≤ 100) : Bop.mul.f (.lst a) (.int (k : Int)) = some (.lst (List.replicate k a).flatten, true) := by
  show (if a.length * (k : Int).toNat ≤ LIM && decide (-(2 ^ 63) ≤ (k : Int)) && decide ((k : Int) < 2 ^ 63) then some (D.lst (List.replicate (k : Int).toNat a).flatten, true) else none) = _
  have h3 : a.length * k ≤ 100 * 100 := Nat.mul_le_mul h h2
  rw [Int.toNat_natCast, if_pos]
  rw [decide_eq_true (show a.length * k ≤ LIM by unfold LIM; omega), decide_eq_true (show -(2 ^ 63) ≤ (k : Int) by omega), decide_eq_true (show (k : Int) < 2 ^ 63 by omega)]
  rfl
/-- told.append(met(lambda: ..)) -/
theorem told_at {Γ : Gam} {M : MetD} {ρ : Rho} {i k : Nat} {κ : Kp} {d t : D} {e : E} {T : List D} (hi : ρ[i]? = some (.own (.lst T))) (h : evE Γ e ρ κ = .exc k d κ) (hm : metX M k d κ = .ok t false κ) (hl : T.length ≤ 1000) :
    evS Γ (.app i (.met M e)) ρ κ = .next (ρ.set i (.own (.lst (T ++ [t])))) κ :=
  app_at (x := t) (f := false) (κ' := κ) hi (by rw [s_met, h]; exact hm) (by unfold LIM; omega)
@[simp] theorem s_dd1l {Γ : Gam} {ρ : Rho} {κ : Kp} {s : Str} {b : E} : evE Γ (.dd1 (.lit (.str s)) b) ρ κ = (evE Γ b ρ κ).bind (kDd2 (.inr s)) := by
  rw [evE]; unfold cDd1
  rw [show evE Γ (.lit (.str s)) ρ κ = .ok (.str s) false κ from by rw [evE]; rfl]
  rfl
def kNd (d : D) (κ : Kp) : R := .ok .nd false κ
@[simp] theorem kNd_at {d : D} {κ : Kp} : kNd d κ = .ok .nd false κ := rfl
@[simp] theorem s_ndd {Γ : Gam} {ρ : Rho} {κ : Kp} {e : E} : evE Γ (.ndd e) ρ κ = (evE Γ e ρ κ).bind kNd := by
  rw [evE]; unfold cNdd R.bind kNd
  cases evE Γ e ρ κ <;> rfl
def kDdt2 (ks : List Key) (d : D) (κ : Kp) : R := .ok (.fdt [(ks, d)]) false κ
@[simp] theorem kDdt2_at {ks : List Key} {d : D} {κ : Kp} : kDdt2 ks d κ = .ok (.fdt [(ks, d)]) false κ := rfl
def oDdt (b : SmE) (ρ : Rho) (o : Option (List Key)) (κ : Kp) : R := match o with
  | some k => (b ρ κ).bind (kDdt2 k)
  | none => .bad
@[simp] theorem oDdt_at {b : SmE} {ρ : Rho} {k : List Key} {κ : Kp} : oDdt b ρ (some k) κ = (b ρ κ).bind (kDdt2 k) := rfl
def kDdt (b : SmE) (ρ : Rho) (d : D) (κ : Kp) : R := match d with
  | .tup ks => oDdt b ρ (asKeys ks) κ
  | _ => .bad
@[simp] theorem kDdt_at {b : SmE} {ρ : Rho} {ks : List D} {κ : Kp} : kDdt b ρ (.tup ks) κ = oDdt b ρ (asKeys ks) κ := rfl
@[simp] theorem asKeys_nil : asKeys [] = some [] := rfl
theorem asKeys_i {i : Int} {r : List D} {ks : List Key} (h : asKeys r = some ks) : asKeys (.int i :: r) = some (.inl i :: ks) := by
  unfold asKeys; rw [h]; rfl
@[simp] theorem asKeys_1 {i : Int} : asKeys [.int i] = some [.inl i] := rfl
@[simp] theorem asKeys_2 {i j : Int} : asKeys [.int i, .int j] = some [.inl i, .inl j] := rfl
@[simp] theorem s_ddt {Γ : Gam} {ρ : Rho} {κ : Kp} {es : Es} {b : E} : evE Γ (.ddt (.tup es) b) ρ κ = (evE Γ (.tup es) ρ κ).bind (kDdt (evE Γ b) ρ) := by
  conv => lhs; rw [evE]
  unfold cDdt
  rw [show evE Γ (.tup es) ρ κ = cTup (evEs Γ es) ρ κ from by rw [evE]]
  unfold cTup cAp RL.bind R.bind
  cases evEs Γ es ρ κ with
  | ok ds κ1 =>
    show (match asKeys ds with | some k => _ | none => _) = oDdt _ _ (asKeys ds) κ1
    cases asKeys ds with
    | none => rfl
    | some k =>
      show _ = R.bind _ _
      unfold R.bind
      cases evE Γ b ρ κ1 <;> rfl
  | exc k d κ => rfl
  | bad => rfl
@[simp] theorem s_snil {Γ : Gam} {ρ : Rho} {κ : Kp} : evSp Γ .nil ρ κ = .ok [] κ := by rw [evSp]; rfl
@[simp] theorem s_scons {Γ : Gam} {ρ : Rho} {κ : Kp} {a : E} {b : Sps} : evSp Γ (.cons a b) ρ κ = RL.cons (evE Γ a ρ κ) (evSp Γ b ρ) := by rw [evSp]; rfl
def RL.app (xs : List D) (r : RL) : RL := match r with
  | .ok ds κ => .ok (xs ++ ds) κ
  | .exc k d κ => .exc k d κ
  | .bad => .bad
@[simp] theorem s_rapp {xs ds : List D} {κ : Kp} : RL.app xs (.ok ds κ) = .ok (xs ++ ds) κ := rfl
def RL.star (r : R) (g : Kp → RL) : RL := match r with
  | .ok d _ κ => (match starOf d with
    | some xs => RL.app xs (g κ)
    | none => .bad)
  | .exc k d κ => .exc k d κ
  | .bad => .bad
@[simp] theorem s_rstt {xs : List D} {fr : Bool} {κ : Kp} {g : Kp → RL} : RL.star (.ok (.tup xs) fr κ) g = RL.app xs (g κ) := rfl
@[simp] theorem s_rstl {xs : List D} {fr : Bool} {κ : Kp} {g : Kp → RL} : RL.star (.ok (.lst xs) fr κ) g = RL.app xs (g κ) := rfl
@[simp] theorem s_sstar {Γ : Gam} {ρ : Rho} {κ : Kp} {a : E} {b : Sps} : evSp Γ (.star a b) ρ κ = RL.star (evE Γ a ρ κ) (evSp Γ b ρ) := by rw [evSp]; rfl
@[simp] theorem s_calls {Γ : Gam} {ρ : Rho} {κ : Kp} {f : Nat} {p : Sps} : evE Γ (.calls f p) ρ κ = (evSp Γ p ρ κ).bind (Γ f) := by rw [evE]; rfl
def kTups (ds : List D) (κ : Kp) : R := if ds.length ≤ LIM then .ok (.tup ds) false κ else .bad
def kLsts (ds : List D) (κ : Kp) : R := if ds.length ≤ LIM then .ok (.lst ds) true κ else .bad
@[simp] theorem s_tups {Γ : Gam} {ρ : Rho} {κ : Kp} {p : Sps} : evE Γ (.tups p) ρ κ = (evSp Γ p ρ κ).bind kTups := by rw [evE]; rfl
@[simp] theorem s_lsts {Γ : Gam} {ρ : Rho} {κ : Kp} {p : Sps} : evE Γ (.lsts p) ρ κ = (evSp Γ p ρ κ).bind kLsts := by rw [evE]; rfl
theorem kTups_at {ds : List D} {κ : Kp} (h : ds.length ≤ LIM) : kTups ds κ = .ok (.tup ds) false κ := if_pos h
theorem kLsts_at {ds : List D} {κ : Kp} (h : ds.length ≤ LIM) : kLsts ds κ = .ok (.lst ds) true κ := if_pos h
@[simp] theorem kLsts_0 {κ : Kp} : kLsts [] κ = .ok (.lst []) true κ := kLsts_at (by decide)
@[simp] theorem kLsts_1 {a : D} {κ : Kp} : kLsts [a] κ = .ok (.lst [a]) true κ := kLsts_at (by show 1 ≤ LIM; decide)
def FUEL : Nat := 1000000
def MT_law_met : MetD := ⟨"_law_met", "call", "e", "told", [(0, .one "width"), (1, .one "vector"), (2, .fld ["number"])]⟩
def f_law_jar : FnD := ⟨"_law_jar", ["script", "spot"], ["script", "spot", "cell", "great", "mixed"],
  [.set 2 false (.ite (.cmp .lt (.var 1) (.bi .len (.cons (.var 0) .nil))) (.bi .int (.cons (.ix (.var 0) (.var 1)) .nil)) (.bin .add (.bin .mul (.lit (.int 929)) (.var 1)) (.lit (.int 83)))), .set 3 false (.bin .mod (.bi .int (.cons (.bi .abs (.cons (.var 2) .nil)) .nil)) (.bin .pow (.bin .pow (.lit (.int 10)) (.lit (.int 55))) (.lit (.int 5)))), .set 4 false (.bin .add (.bin .add (.bin .add (.bin .mul (.bin .mod (.bi .int (.cons (.var 3) .nil)) (.lit (.int 2305843009213693907))) (.lit (.int 103))) (.bin .mul (.lit (.int 1061)) (.var 1))) (.bin .mul (.lit (.int 59)) (.bi .int (.cons (.cmp .lt (.var 2) (.lit (.int 0))) .nil)))) (.lit (.int 31))), .ret (.lst (.cons (.bi .max (.cons (.lit (.int 0)) (.cons (.bin .sub (.var 3) (.bin .pow (.lit (.int 10)) (.lit (.int 17)))) .nil))) (.cons (.var 4) (.cons (.lit (.int 0)) .nil))))]⟩
def f_is_integer : FnD := ⟨"is_integer", ["value"], ["value"],
  [.ret (.and (.bi .isi (.cons (.var 0) (.cons (.ty .int) .nil))) (.one (.nt (.bi .isi (.cons (.var 0) (.cons (.ty .bool) .nil))))))]⟩
def f_is_between : FnD := ⟨"is_between", ["value", "low", "high"], ["value", "low", "high"],
  [.ret (.and (.call 1 (.cons (.var 0) .nil)) (.one (.chain .le .le (.var 1) (.var 0) (.var 2))))]⟩
def f_is_width : FnD := ⟨"is_width", ["value"], ["value"],
  [.ret (.call 2 (.cons (.var 0) (.cons (.lit (.int 1)) (.cons (.glo (.int 16)) .nil))))]⟩
def f_require_width : FnD := ⟨"require_width", ["width"], ["width"],
  [.ite (.nt (.call 3 (.cons (.var 0) .nil))) [.raise 0] []]⟩
def f_modulus_of : FnD := ⟨"modulus_of", ["width"], ["width"],
  [.ret (.bin .shl (.lit (.int 1)) (.var 0))]⟩
def f_is_word_of : FnD := ⟨"is_word_of", ["width", "value"], ["width", "value"],
  [.ret (.call 2 (.cons (.var 1) (.cons (.lit (.int 0)) (.cons (.bin .sub (.call 5 (.cons (.var 0) .nil)) (.lit (.int 1))) .nil))))]⟩
def f_are_words : FnD := ⟨"are_words", ["width", "value"], ["width", "value", "word"],
  [.ret (.and (.bi .isi (.cons (.var 1) (.cons (.ty .tuple) .nil))) (.one (.bi .all (.cons (.lc (.seq (.var 1)) (.nm 2) .no (.call 6 (.cons (.var 0) (.cons (.var 2) .nil))) [("word", 2)]) .nil))))]⟩
def f_require_polynomial : FnD := ⟨"require_polynomial", ["width", "polynomial"], ["width", "polynomial"],
  [.exp (.call 4 (.cons (.var 0) .nil)), .ite (.or (.nt (.call 7 (.cons (.var 0) (.cons (.var 1) .nil)))) (.one (.nt (.chain .le .le (.lit (.int 1)) (.bi .len (.cons (.var 1) .nil)) (.glo (.int 20)))))) [.raise 1] []]⟩
def b_shifted_in_1 : List S := [.frz 4, .set 8 false (.lsts (.cons (.lit (.int 0)) (.star (.var 4) .nil))), .frz 4, .set 4 true (.lc (.zip (.cons (.var 4) (.cons (.var 8) .nil))) (.tp (.cons (.nm 9) (.cons (.nm 10) .nil))) .no (.bin .mod (.bin .add (.bin .mul (.var 2) (.var 9)) (.bin .mul (.var 7) (.var 10))) (.var 6)) [("low", 9), ("high", 10)]), .sub 4 (.lit (.int 0)) (.lend 4 (.bin .mod (.bin .add (.ix (.var 4) (.lit (.int 0))) (.var 5)) (.var 6)))]
def f_shifted_in : FnD := ⟨"shifted_in", ["width", "polynomial", "word", "level"], ["width", "polynomial", "word", "level", "found", "number", "modulus", "step", "longer", "low", "high"],
  [.unp (.tp (.cons (.nm 6) (.cons (.nm 7) .nil))) (.tup (.cons (.call 5 (.cons (.var 0) .nil)) (.cons (.bin .shl (.lit (.int 1)) (.var 3)) .nil))), .set 4 true (.bin .mul (.lst (.cons (.lit (.int 0)) .nil)) (.bi .len (.cons (.var 1) .nil))), .for_ (.seq (.rev (.var 1))) (.nm 5) b_shifted_in_1, .frz 4, .ret (.bi .tup (.cons (.var 4) .nil))]⟩
def f_halves_of : FnD := ⟨"halves_of", ["pair"], ["pair", "word", "level"],
  [.unp (.tp (.cons (.nm 1) (.cons (.nm 2) .nil))) (.var 0), .ret (.tup (.cons (.tup (.cons (.var 1) (.cons (.bin .add (.var 2) (.lit (.int 1))) .nil))) (.cons (.tup (.cons (.bin .add (.var 1) (.bin .shl (.lit (.int 1)) (.var 2))) (.cons (.bin .add (.var 2) (.lit (.int 1))) .nil))) .nil)))]⟩
def b_bar_in_1 : List S := [.ite (.cmp .ne (.bin .mod (.ix (.var 1) (.lit (.int 0))) (.bin .shl (.lit (.int 1)) (.var 2))) (.lit (.int 0))) [.ret (.ite (.bi .all (.cons (.lc (.seq (.sl (.var 1) (.so (.lit (.int 1))) .no)) (.nm 3) .no (.cmp .eq (.bin .mod (.var 3) (.bin .shl (.lit (.int 1)) (.var 2))) (.lit (.int 0))) [("number", 3)]) .nil)) (.var 2) (.lit .non))] []]
def f_bar_in : FnD := ⟨"bar_in", ["width", "polynomial"], ["width", "polynomial", "level", "number"],
  [.for_ (.rng (.cons (.lit (.int 1)) (.cons (.bin .add (.var 0) (.lit (.int 1))) .nil))) (.nm 2) b_bar_in_1, .ret (.lit .non)]⟩
def f_classes_in : FnD := ⟨"classes_in", ["width", "polynomial", "pair"], ["width", "polynomial", "pair", "here", "found", "low", "high"],
  [.set 3 false (.calls 9 (.cons (.var 0) (.cons (.var 1) (.star (.var 2) .nil)))), .ite (.nt (.bi .any (.cons (.var 3) .nil))) [.ret (.lst (.cons (.var 2) .nil))] [], .ite (.or (.cmp .notN (.call 11 (.cons (.var 0) (.cons (.var 3) .nil))) (.lit .non)) (.one (.cmp .eq (.ix (.var 2) (.lit (.int 1))) (.var 0)))) [.ret (.lst .nil)] [], .unp (.tp (.cons (.nm 5) (.cons (.nm 6) .nil))) (.call 10 (.cons (.var 2) .nil)), .set 4 false (.lsts (.star (.call 12 (.cons (.var 0) (.cons (.var 1) (.cons (.var 5) .nil)))) (.star (.call 12 (.cons (.var 0) (.cons (.var 1) (.cons (.var 6) .nil)))) .nil))), .ret (.ite (.cmp .eq (.var 4) (.lst (.cons (.var 5) (.cons (.var 6) .nil)))) (.lst (.cons (.var 2) .nil)) (.var 4))]⟩
def f_roots_of : FnD := ⟨"roots_of", ["width", "polynomial"], ["width", "polynomial"],
  [.exp (.call 8 (.cons (.var 0) (.cons (.var 1) .nil))), .ret (.bi .tup (.cons (.bi .srt (.cons (.call 12 (.cons (.var 0) (.cons (.var 1) (.cons (.tup (.cons (.lit (.int 0)) (.cons (.lit (.int 0)) .nil))) .nil)))) .nil)) .nil))]⟩
def f_root_in : FnD := ⟨"root_in", ["width", "polynomial", "pair"], ["width", "polynomial", "pair", "here", "found", "low", "high"],
  [.set 3 false (.calls 9 (.cons (.var 0) (.cons (.var 1) (.star (.var 2) .nil)))), .ite (.cmp .eq (.ix (.var 3) (.lit (.int 0))) (.lit (.int 0))) [.ret (.ix (.var 2) (.lit (.int 0)))] [], .ite (.cmp .notN (.call 11 (.cons (.var 0) (.cons (.var 3) .nil))) (.lit .non)) [.ret (.lit .non)] [], .unp (.tp (.cons (.nm 5) (.cons (.nm 6) .nil))) (.call 10 (.cons (.var 2) .nil)), .set 4 false (.call 14 (.cons (.var 0) (.cons (.var 1) (.cons (.var 5) .nil)))), .ret (.ite (.cmp .notN (.var 4) (.lit .non)) (.var 4) (.call 14 (.cons (.var 0) (.cons (.var 1) (.cons (.var 6) .nil)))))]⟩
def f_has_root : FnD := ⟨"has_root", ["width", "polynomial"], ["width", "polynomial"],
  [.exp (.call 8 (.cons (.var 0) (.cons (.var 1) .nil))), .ret (.cmp .notN (.call 14 (.cons (.var 0) (.cons (.var 1) (.cons (.tup (.cons (.lit (.int 0)) (.cons (.lit (.int 0)) .nil))) .nil)))) (.lit .non))]⟩
def f_derived_in : FnD := ⟨"derived_in", ["width", "polynomial"], ["width", "polynomial", "modulus", "found", "place", "number"],
  [.set 2 false (.call 5 (.cons (.var 0) .nil)), .set 3 false (.sl (.lc (.enm (.cons (.var 1) .nil)) (.tp (.cons (.nm 4) (.cons (.nm 5) .nil))) .no (.bin .mod (.bin .mul (.var 4) (.var 5)) (.var 2)) [("place", 4), ("number", 5)]) (.so (.lit (.int 1))) .no), .ret (.ite (.cmp .ne (.var 3) (.lst .nil)) (.bi .tup (.cons (.var 3) .nil)) (.tup (.cons (.lit (.int 0)) .nil)))]⟩
def b_value_in_1 : List S := [.set 4 false (.bin .mod (.bin .add (.bin .mul (.var 4) (.var 2)) (.var 3)) (.var 5))]
def f_value_in : FnD := ⟨"value_in", ["width", "polynomial", "word"], ["width", "polynomial", "word", "number", "found", "modulus"],
  [.par2 4 false (.lit (.int 0)) 5 false (.call 5 (.cons (.var 0) .nil)), .for_ (.seq (.rev (.var 1))) (.nm 3) b_value_in_1, .ret (.var 4)]⟩
def t_inverse_of_1 : E := (.cmp .lt (.var 4) (.var 0))
def b_inverse_of_1 : List S := [.set 3 false (.bin .mod (.bin .mul (.var 3) (.bin .sub (.lit (.int 2)) (.bin .mul (.var 1) (.var 3)))) (.var 2)), .aug 4 .mul (.lit (.int 2))]
def f_inverse_of : FnD := ⟨"inverse_of", ["width", "word"], ["width", "word", "modulus", "found", "bits"],
  [.set 2 false (.call 5 (.cons (.var 0) .nil)), .unp (.tp (.cons (.nm 3) (.cons (.nm 4) .nil))) (.tup (.cons (.lit (.int 1)) (.cons (.lit (.int 1)) .nil))), .whl FUEL t_inverse_of_1 b_inverse_of_1, .ret (.var 3)]⟩
def b_lifted_1 : List S := [.par2 6 false (.call 17 (.cons (.var 0) (.cons (.var 1) (.cons (.var 4) .nil)))) 7 false (.call 17 (.cons (.var 0) (.cons (.var 3) (.cons (.var 4) .nil)))), .set 4 false (.bin .mod (.bin .sub (.var 4) (.bin .mul (.var 6) (.call 18 (.cons (.var 0) (.cons (.var 7) .nil))))) (.call 5 (.cons (.var 0) .nil)))]
def f_lifted : FnD := ⟨"lifted", ["width", "polynomial", "bit"], ["width", "polynomial", "bit", "steep", "found", "turn", "height", "slope"],
  [.exp (.call 8 (.cons (.var 0) (.cons (.var 1) .nil))), .ite (.or (.nt (.call 2 (.cons (.var 2) (.cons (.lit (.int 0)) (.cons (.lit (.int 1)) .nil))))) (.one (.cmp .ne (.bin .mod (.call 17 (.cons (.var 0) (.cons (.var 1) (.cons (.var 2) .nil)))) (.lit (.int 2))) (.lit (.int 0))))) [.raise1 2 (.var 2)] [], .set 3 false (.call 16 (.cons (.var 0) (.cons (.var 1) .nil))), .ite (.cmp .eq (.bin .mod (.call 17 (.cons (.var 0) (.cons (.var 3) (.cons (.var 2) .nil)))) (.lit (.int 2))) (.lit (.int 0))) [.raise1 2 (.var 2)] [], .set 4 false (.var 2), .for_ (.rng (.cons (.var 0) .nil)) (.nm 5) b_lifted_1, .ret (.var 4)]⟩
def f_law_spoon : FnD := ⟨"_law_spoon", ["jar", "total"], ["jar", "total", "one", "two", "found"],
  [.ite (.cmp .gt (.ix (.var 0) (.lit (.int 0))) (.lit (.int 0))) [.set 4 false (.bin .mod (.bi .int (.cons (.ix (.var 0) (.lit (.int 0))) .nil)) (.var 1)), .sub 0 (.lit (.int 0)) (.bin .div (.ix (.var 0) (.lit (.int 0))) (.var 1)), .ret (.var 4)] [], .sub 0 (.lit (.int 2)) (.bin .add (.ix (.var 0) (.lit (.int 2))) (.lit (.int 1))), .set 2 false (.bin .mod (.bi .int (.cons (.bin .add (.ix (.var 0) (.lit (.int 1))) (.bin .mul (.lit (.int 32452867)) (.ix (.var 0) (.lit (.int 2))))) .nil)) (.lit (.int 2305843009213693951))), .set 3 false (.bin .add (.bin .mul (.bin .mod (.bi .int (.cons (.bin .add (.bin .mul (.var 2) (.var 2)) (.bin .mul (.lit (.int 311)) (.ix (.var 0) (.lit (.int 2))))) .nil)) (.lit (.int 2305843009213693921))) (.lit (.int 49979687))) (.var 2)), .ret (.bin .mod (.bi .int (.cons (.bin .div (.var 3) (.lit (.int 65617))) .nil)) (.var 1))]⟩
def f_law_polynomial : FnD := ⟨"_law_polynomial", ["jar", "width", "most"], ["jar", "width", "most", "size", "place"],
  [.set 3 false (.bin .add (.lit (.int 1)) (.call 20 (.cons (.var 0) (.cons (.var 2) .nil)))), .ret (.bi .tup (.cons (.lc (.rng (.cons (.var 3) .nil)) (.nm 4) .no (.call 20 (.cons (.var 0) (.cons (.bin .shl (.lit (.int 1)) (.var 1)) .nil))) [("place", 4)]) .nil))]⟩
def b_law_product_1 : List S := [.sub 3 (.bin .add (.var 4) (.var 6)) (.lend 3 (.bin .mod (.bi .int (.cons (.bin .add (.ix (.var 3) (.bin .add (.var 4) (.var 6))) (.bin .mul (.var 5) (.var 7))) .nil)) (.bin .shl (.lit (.int 1)) (.var 0))))]
def b_law_product_2 : List S := [.for_ (.enm (.cons (.var 2) .nil)) (.tp (.cons (.nm 6) (.cons (.nm 7) .nil))) b_law_product_1]
def f_law_product : FnD := ⟨"_law_product", ["width", "one", "other"], ["width", "one", "other", "found", "i", "number", "j", "more"],
  [.set 3 true (.bin .mul (.lst (.cons (.lit (.int 0)) .nil)) (.bin .sub (.bin .add (.bi .len (.cons (.var 1) .nil)) (.bi .len (.cons (.var 2) .nil))) (.lit (.int 1)))), .for_ (.enm (.cons (.var 1) .nil)) (.tp (.cons (.nm 4) (.cons (.nm 5) .nil))) b_law_product_2, .frz 3, .ret (.bi .tup (.cons (.var 3) .nil))]⟩
def f_law_one_of : FnD := ⟨"_law_one_of", ["jar", "items"], ["jar", "items"],
  [.ret (.ix (.var 1) (.call 20 (.cons (.var 0) (.cons (.bi .len (.cons (.var 1) .nil)) .nil))))]⟩
def b_law_rooted_1 : List S := [.set 2 false (.call 22 (.cons (.var 1) (.cons (.var 2) (.cons (.tup (.cons (.call 20 (.cons (.var 0) (.cons (.bin .shl (.lit (.int 1)) (.var 1)) .nil))) (.cons (.call 23 (.cons (.var 0) (.cons (.lst (.cons (.lit (.int 1)) (.cons (.lit (.int 1)) (.cons (.bin .mod (.lit (.int 2)) (.bin .shl (.lit (.int 1)) (.var 1))) (.cons (.bin .mod (.lit (.int 3)) (.bin .shl (.lit (.int 1)) (.var 1))) .nil))))) .nil))) .nil))) .nil))))]
def f_law_rooted : FnD := ⟨"_law_rooted", ["jar", "width"], ["jar", "width", "found", "turn"],
  [.set 2 false (.call 21 (.cons (.var 0) (.cons (.var 1) (.cons (.lit (.int 5)) .nil)))), .for_ (.rng (.cons (.call 20 (.cons (.var 0) (.cons (.lit (.int 4)) .nil))) .nil)) (.nm 3) b_law_rooted_1, .ret (.var 2)]⟩
def f_require_word : FnD := ⟨"require_word", ["width", "word"], ["width", "word"],
  [.ite (.nt (.call 6 (.cons (.var 0) (.cons (.var 1) .nil)))) [.raise1 2 (.var 1)] []]⟩
def f_shifted : FnD := ⟨"shifted", ["width", "polynomial", "word", "level"], ["width", "polynomial", "word", "level"],
  [.exp (.call 8 (.cons (.var 0) (.cons (.var 1) .nil))), .exp (.call 25 (.cons (.var 0) (.cons (.var 2) .nil))), .ite (.nt (.call 2 (.cons (.var 3) (.cons (.lit (.int 0)) (.cons (.var 0) .nil))))) [.raise1 2 (.var 3)] [], .ret (.call 9 (.cons (.var 0) (.cons (.var 1) (.cons (.var 2) (.cons (.var 3) .nil)))))]⟩
def f_derived : FnD := ⟨"derived", ["width", "polynomial"], ["width", "polynomial"],
  [.exp (.call 8 (.cons (.var 0) (.cons (.var 1) .nil))), .ret (.call 16 (.cons (.var 0) (.cons (.var 1) .nil)))]⟩
def f_count_zeros : FnD := ⟨"count_zeros", ["width", "polynomial"], ["width", "polynomial", "word", "level"],
  [.ret (.bi .sum (.cons (.lc (.seq (.call 13 (.cons (.var 0) (.cons (.var 1) .nil)))) (.tp (.cons (.nm 2) (.cons (.nm 3) .nil))) .no (.bin .shl (.lit (.int 1)) (.bin .sub (.var 0) (.var 3))) [("word", 2), ("level", 3)]) .nil))]⟩
def f_law_is_whole : FnD := ⟨"_law_is_whole", ["value"], ["value"],
  [.ret (.and (.bi .isi (.cons (.var 0) (.cons (.ty .int) .nil))) (.one (.nt (.bi .isi (.cons (.var 0) (.cons (.ty .bool) .nil))))))]⟩
def f_law_is_polynomial : FnD := ⟨"_law_is_polynomial", ["width", "value"], ["width", "value", "number"],
  [.ite (.or (.nt (.bi .isi (.cons (.var 1) (.cons (.ty .tuple) .nil)))) (.one (.nt (.chain .le .le (.lit (.int 1)) (.bi .len (.cons (.var 1) .nil)) (.lit (.int 20)))))) [.ret (.lit (.bl false))] [], .ret (.cmp .eq (.lc (.seq (.var 1)) (.nm 2) (.so (.or (.nt (.call 29 (.cons (.var 2) .nil))) (.one (.nt (.chain .le .lt (.lit (.int 0)) (.var 2) (.bin .shl (.lit (.int 1)) (.var 0))))))) (.lit (.int 1)) [("number", 2)]) (.lst .nil))]⟩
def b_law_at_1 : List S := [.set 3 false (.bin .mod (.bi .int (.cons (.bin .add (.bin .mul (.var 3) (.var 2)) (.var 4)) .nil)) (.bin .shl (.lit (.int 1)) (.var 0)))]
def f_law_at : FnD := ⟨"_law_at", ["width", "polynomial", "word"], ["width", "polynomial", "word", "found", "number"],
  [.set 3 false (.lit (.int 0)), .for_ (.seq (.rev (.var 1))) (.nm 4) b_law_at_1, .ret (.var 3)]⟩
def b_law_classes_1 : List S := [.set 5 false (.lc (.rng (.cons (.bin .shl (.lit (.int 1)) (.var 0)) .nil)) (.nm 6) (.so (.cmp .eq (.bin .mod (.bi .int (.cons (.bin .sub (.var 6) (.var 4)) .nil)) (.bin .shl (.lit (.int 1)) (.var 3))) (.lit (.int 0)))) (.var 6) [("one", 6)]), .ite (.and (.cmp .eq (.lc (.seq (.var 5)) (.nm 6) (.so (.niA (.var 6) (.var 1))) (.var 6) [("one", 6)]) (.lst .nil)) (.one (.cmp .eq (.lend 2 (.lc (.seq (.var 2)) (.tp (.cons (.nm 7) (.cons (.nm 8) .nil))) (.so (.cmp .eq (.bin .mod (.bi .int (.cons (.bin .sub (.var 4) (.var 7)) .nil)) (.bin .shl (.lit (.int 1)) (.var 8))) (.lit (.int 0)))) (.lit (.int 1)) [("r", 7), ("k", 8)])) (.lst .nil)))) [.app 2 (.tup (.cons (.var 4) (.cons (.var 3) .nil)))] []]
def b_law_classes_2 : List S := [.for_ (.rng (.cons (.bin .shl (.lit (.int 1)) (.var 3)) .nil)) (.nm 4) b_law_classes_1]
def f_law_classes : FnD := ⟨"_law_classes", ["width", "words"], ["width", "words", "found", "level", "word", "every", "one", "r", "k"],
  [.set 2 true (.lst .nil), .for_ (.rng (.cons (.bin .add (.var 0) (.lit (.int 1))) .nil)) (.nm 3) b_law_classes_2, .frz 2, .ret (.bi .srt (.cons (.var 2) .nil))]⟩
def b_law_right_1 : List S := [.ite (.cmp .ne (.call 31 (.cons (.var 1) (.cons (.var 4) (.cons (.var 5) .nil)))) (.call 31 (.cons (.var 1) (.cons (.var 2) (.cons (.bin .add (.var 8) (.bin .mul (.bin .shl (.lit (.int 1)) (.var 9)) (.var 5))) .nil))))) [.ret (.lit (.bl false))] []]
def b_law_right_2 : List S := [.set 4 false (.met MT_law_met (.call 2019 (.cons (.var 1) (.cons (.var 2) (.cons (.var 7) .nil))))), .set 10 false (.lc (.seq (.var 3)) (.nm 8) (.so (.cmp .eq (.bin .mod (.bi .int (.cons (.var 8) .nil)) (.lit (.int 2))) (.var 7))) (.var 8) [("word", 8)]), .set 11 false (.and (.cmp .eq (.bin .mod (.bi .int (.cons (.call 31 (.cons (.var 1) (.cons (.var 2) (.cons (.var 7) .nil)))) .nil)) (.lit (.int 2))) (.lit (.int 0))) (.one (.cmp .eq (.bin .mod (.bi .int (.cons (.call 31 (.cons (.var 1) (.cons (.ite (.cmp .ne (.var 6) (.tup .nil)) (.var 6) (.tup (.cons (.lit (.int 0)) .nil))) (.cons (.var 7) .nil)))) .nil)) (.lit (.int 2))) (.lit (.int 1))))), .ite (.or (.cmp .ne (.var 4) (.ite (.var 11) (.tup (.cons (.lit (.str "told")) (.cons (.ix (.var 10) (.lit (.int 0))) .nil))) (.tup (.cons (.lit (.str "number")) (.cons (.var 7) .nil))))) (.one (.and (.var 11) (.one (.cmp .ne (.bi .len (.cons (.var 10) .nil)) (.lit (.int 1))))))) [.ret (.lit (.bl false))] []]
def f_law_right : FnD := ⟨"_law_right", ["jar"], ["jar", "width", "polynomial", "words", "told", "x", "steep", "bit", "word", "level", "some", "is_plain", "at", "number"],
  [.set 1 false (.bin .add (.lit (.int 1)) (.call 20 (.cons (.var 0) (.cons (.lit (.int 6)) .nil)))), .set 2 false (.call 24 (.cons (.var 0) (.cons (.var 1) .nil))), .set 3 false (.lc (.rng (.cons (.bin .shl (.lit (.int 1)) (.var 1)) .nil)) (.nm 8) (.so (.cmp .eq (.call 31 (.cons (.var 1) (.cons (.var 2) (.cons (.var 8) .nil)))) (.lit (.int 0)))) (.var 8) [("word", 8)]), .ite (.or (.cmp .ne (.call 13 (.cons (.var 1) (.cons (.var 2) .nil))) (.bi .tup (.cons (.call 32 (.cons (.var 1) (.cons (.var 3) .nil))) .nil))) (.one (.cmp .ne (.call 28 (.cons (.var 1) (.cons (.var 2) .nil))) (.bi .len (.cons (.var 3) .nil))))) [.ret (.lit (.bl false))] [], .ite (.cmp .ne (.call 15 (.cons (.var 1) (.cons (.var 2) .nil))) (.cmp .ne (.var 3) (.lst .nil))) [.ret (.lit (.bl false))] [], .par2 8 false (.call 20 (.cons (.var 0) (.cons (.bin .shl (.lit (.int 1)) (.var 1)) .nil))) 9 false (.call 20 (.cons (.var 0) (.cons (.bin .add (.var 1) (.lit (.int 1))) .nil))), .set 4 false (.call 26 (.cons (.var 1) (.cons (.var 2) (.cons (.var 8) (.cons (.var 9) .nil))))), .ite (.or (.nt (.call 30 (.cons (.var 1) (.cons (.var 4) .nil)))) (.one (.cmp .ne (.bi .len (.cons (.var 4) .nil)) (.bi .len (.cons (.var 2) .nil))))) [.ret (.lit (.bl false))] [], .for_ (.rng (.cons (.bin .shl (.lit (.int 1)) (.var 1)) .nil)) (.nm 5) b_law_right_1, .set 6 false (.bi .tup (.cons (.sl (.lc (.enm (.cons (.var 2) .nil)) (.tp (.cons (.nm 12) (.cons (.nm 13) .nil))) .no (.bin .mod (.bi .int (.cons (.bin .mul (.var 12) (.var 13)) .nil)) (.bin .shl (.lit (.int 1)) (.var 1))) [("at", 12), ("number", 13)]) (.so (.lit (.int 1))) .no) .nil)), .ite (.cmp .ne (.call 27 (.cons (.var 1) (.cons (.var 2) .nil))) (.ite (.cmp .ne (.var 6) (.tup .nil)) (.var 6) (.tup (.cons (.lit (.int 0)) .nil)))) [.ret (.lit (.bl false))] [], .for_ (.seq (.tup (.cons (.lit (.int 0)) (.cons (.lit (.int 1)) .nil)))) (.nm 7) b_law_right_2, .ret (.lit (.bl true))]⟩
def b_law_1 : List S := [.ite (.nt (.call 33 (.cons (.var 3) .nil))) [.ret (.lit (.bl false))] []]
def b_law_2 : List S := [.set 3 true (.call 0 (.cons (.var 0) (.cons (.var 1) .nil))), .lendC 3 (.for_ (.rng (.cons (.lit (.int 4)) .nil)) (.nm 4) b_law_1)]
def f_law : FnD := ⟨"law", ["script"], ["script", "spot", "told", "jar", "turn", "word", "level"],
  [.for_ (.rng (.cons (.bi .max (.cons (.lit (.int 1)) (.cons (.bi .min (.cons (.lit (.int 3)) (.cons (.bi .len (.cons (.var 0) .nil)) .nil))) .nil))) .nil)) (.nm 1) b_law_2, .set 2 false (.lst (.cons (.call 13 (.cons (.lit (.int 3)) (.cons (.tup (.cons (.lit (.int 0)) (.cons (.lit (.int 0)) (.cons (.lit (.int 1)) .nil)))) .nil))) (.cons (.call 13 (.cons (.lit (.int 3)) (.cons (.tup (.cons (.lit (.int 7)) (.cons (.lit (.int 0)) (.cons (.lit (.int 1)) .nil)))) .nil))) (.cons (.call 13 (.cons (.lit (.int 4)) (.cons (.tup (.cons (.lit (.int 0)) .nil)) .nil))) (.cons (.call 15 (.cons (.lit (.int 3)) (.cons (.tup (.cons (.lit (.int 1)) (.cons (.lit (.int 1)) (.cons (.lit (.int 1)) .nil)))) .nil))) (.cons (.call 19 (.cons (.lit (.int 4)) (.cons (.tup (.cons (.lit (.int 2)) (.cons (.lit (.int 1)) .nil))) (.cons (.lit (.int 0)) .nil)))) .nil)))))), .ite (.cmp .ne (.var 2) (.lst (.cons (.tup (.cons (.tup (.cons (.lit (.int 0)) (.cons (.lit (.int 2)) .nil))) .nil)) (.cons (.tup (.cons (.tup (.cons (.lit (.int 1)) (.cons (.lit (.int 1)) .nil))) .nil)) (.cons (.tup (.cons (.tup (.cons (.lit (.int 0)) (.cons (.lit (.int 0)) .nil))) .nil)) (.cons (.lit (.bl false)) (.cons (.lit (.int 14)) .nil))))))) [.ret (.lit (.bl false))] [], .ret (.or (.cmp .eq (.call 13 (.cons (.lit (.int 16)) (.cons (.tup (.cons (.lit (.int 65519)) (.cons (.lit (.int 0)) (.cons (.lit (.int 1)) .nil)))) .nil))) (.tup .nil)) (.one (.cmp .eq (.lc (.seq (.call 13 (.cons (.lit (.int 16)) (.cons (.tup (.cons (.lit (.int 65519)) (.cons (.lit (.int 0)) (.cons (.lit (.int 1)) .nil)))) .nil)))) (.tp (.cons (.nm 5) (.cons (.nm 6) .nil))) (.so (.cmp .ne (.bin .mod (.bi .int (.cons (.bin .sub (.bin .mul (.var 5) (.var 5)) (.lit (.int 17))) .nil)) (.lit (.int 65536))) (.lit (.int 0)))) (.var 5) [("word", 5), ("level", 6)]) (.lst .nil))))]⟩
def CON : List (Str × Lit) := [("MAX_WIDTH", (.int 16)), ("MOST_TERMS", (.int 20))]
def CLS : List (Str × Option Str) := [("InvalidWidth", none), ("InvalidVector", none), ("InvalidNumber", some "value")]
def METS : List MetD := [MT_law_met]
def PRG : Prog := [f_law_jar, f_is_integer, f_is_between, f_is_width, f_require_width, f_modulus_of, f_is_word_of, f_are_words, f_require_polynomial, f_shifted_in, f_halves_of, f_bar_in, f_classes_in, f_roots_of, f_root_in, f_has_root, f_derived_in, f_value_in, f_inverse_of, f_lifted, f_law_spoon, f_law_polynomial, f_law_product, f_law_one_of, f_law_rooted, f_require_word, f_shifted, f_derived, f_count_zeros, f_law_is_whole, f_law_is_polynomial, f_law_at, f_law_classes, f_law_right, f_law]
/-! ## plain mathematics of polynomials and of classes -/
def pe : List Int → Int → Int
  | [], _ => 0
  | a :: r, x => a + x * pe r x
def hor (M : Int) (p : List Int) (x : Int) : Int := p.foldr (fun a acc => (acc * x + a) % M) 0
theorem cg_of {M a b : Int} (h : M ∣ a - b) : a % M = b % M := Int.emod_eq_emod_iff_emod_sub_eq_zero.mpr (Int.emod_eq_zero_of_dvd h)
theorem dv_of {M a b : Int} (h : a % M = b % M) : M ∣ a - b := Int.dvd_of_emod_eq_zero (Int.emod_eq_emod_iff_emod_sub_eq_zero.mp h)
theorem dv_mod (M a : Int) : M ∣ a % M - a := by
  have := Int.mul_ediv_add_emod a M
  exact ⟨-(a / M), by rw [Int.mul_neg]; omega⟩
theorem hor_eq (M : Int) : ∀ (p : List Int) (x : Int), hor M p x = pe p x % M
  | [], x => by simp [hor, pe]
  | a :: r, x => by
    show (hor M r x * x + a) % M = (a + x * pe r x) % M
    rw [hor_eq M r x]
    apply cg_of
    obtain ⟨q, hq⟩ := dv_mod M (pe r x)
    refine ⟨q * x, ?_⟩
    grind
theorem pe_mod {M : Int} : ∀ {p : List Int} {x y : Int}, M ∣ x - y → M ∣ pe p x - pe p y
  | [], x, y, _ => ⟨0, by simp [pe]⟩
  | a :: r, x, y, h => by
    obtain ⟨q, hq⟩ := pe_mod (p := r) h
    obtain ⟨u, hu⟩ := h
    refine ⟨u * pe r x + y * q, ?_⟩
    show (a + x * pe r x) - (a + y * pe r y) = _
    grind
/-! ### the shifted polynomial -/
def shS (M w st : Int) : List Int → Int → List Int
  | [], _ => []
  | a :: r, c => (w * a + st * c) % M :: shS M w st r a
def lastD : List Int → Int → Int
  | [], c => c
  | a :: r, _ => lastD r a
theorem shS_length (M w st : Int) : ∀ (f : List Int) (c : Int), (shS M w st f c).length = f.length
  | [], _ => rfl
  | a :: r, c => by simp [shS, shS_length M w st r a]
theorem shS_pe (M w st x : Int) : ∀ (f : List Int) (c : Int), M ∣ pe (shS M w st f c) x - (w * pe f x + st * (c + x * pe f x) - st * lastD f c * x ^ f.length)
  | [], c => ⟨0, by simp [shS, pe, lastD]⟩
  | a :: r, c => by
    obtain ⟨q, hq⟩ := shS_pe M w st x r a
    obtain ⟨u, hu⟩ := dv_mod M (w * a + st * c)
    refine ⟨u + x * q, ?_⟩
    show ((w * a + st * c) % M + x * pe (shS M w st r a) x) - (w * (a + x * pe r x) + st * (c + x * (a + x * pe r x)) - st * lastD r a * x ^ (r.length + 1)) = _
    rw [Int.pow_succ]
    grind
theorem shS_get (M w st : Int) : ∀ (f : List Int) (c : Int) (i : Nat) (v : Int), (shS M w st f c)[i]? = some v → ∃ a b, f[i]? = some a ∧ (c :: f)[i]? = some b ∧ v = (w * a + st * b) % M
  | [], _, i, v, h => by simp [shS] at h
  | a :: r, c, 0, v, h => by
    simp [shS] at h
    exact ⟨a, c, rfl, rfl, h.symm⟩
  | a :: r, c, i + 1, v, h => by
    simp only [shS, List.getElem?_cons_succ] at h
    obtain ⟨a', b', h1, h2, h3⟩ := shS_get M w st r a i v h
    exact ⟨a', b', h1, h2, h3⟩
theorem lastD_get : ∀ (f : List Int) (c : Int), (c :: f)[f.length]? = some (lastD f c)
  | [], c => rfl
  | a :: r, c => by
    show (a :: r)[r.length]? = _
    exact lastD_get r a
/-- all behind the first k are 0 -/
def Zer (k : Nat) (f : List Int) : Prop := ∀ i v, k ≤ i → f[i]? = some v → v = 0
def shStep (M w st : Int) (f : List Int) (n : Int) : List Int := match shS M w st f 0 with
  | [] => []
  | a :: r => (a + n) % M :: r
def shAll (M w st : Int) (n : Nat) (p : List Int) : List Int := p.foldr (fun a f => shStep M w st f a) (List.replicate n 0)
theorem shStep_length (M w st : Int) (f : List Int) (n : Int) : (shStep M w st f n).length = f.length := by
  unfold shStep
  have h := shS_length M w st f 0
  split
  · rename_i e; rw [e] at h; exact h
  · rename_i e; rw [e] at h; simpa using h
theorem shAll_length (M w st : Int) (n : Nat) : ∀ p, (shAll M w st n p).length = n
  | [] => by simp [shAll]
  | a :: r => by
    show (shStep M w st (shAll M w st n r) a).length = n
    rw [shStep_length, shAll_length M w st n r]
theorem shStep_tail {M w st : Int} {f : List Int} {n : Int} {i : Nat} {v : Int} (h : (shStep M w st f n)[i + 1]? = some v) : (shS M w st f 0)[i + 1]? = some v := by
  unfold shStep at h
  split at h
  · simp at h
  · rename_i e; rw [e]; simpa using h
theorem shAll_zer (M w st : Int) (n : Nat) : ∀ p, Zer p.length (shAll M w st n p)
  | [], i, v, _, h => by
    simp only [shAll, List.foldr_nil] at h
    exact (List.mem_replicate.mp (List.mem_of_getElem? h)).2
  | a :: r, i, v, hi, h => by
    have ih := shAll_zer M w st n r
    obtain ⟨j, rfl⟩ : ∃ j, i = j + 1 := ⟨i - 1, by simp at hi; omega⟩
    have h2 := shStep_tail (show (shStep M w st (shAll M w st n r) a)[j + 1]? = some v from h)
    obtain ⟨x, y, h3, h4, h5⟩ := shS_get _ _ _ _ _ _ _ h2
    simp at hi
    have e1 := ih (j + 1) x (by omega) h3
    have e2 := ih j y (by omega) (by simpa using h4)
    subst e1 e2
    rw [h5]; simp
theorem shAll_pe (M w st x : Int) (n : Nat) : ∀ p : List Int, p.length ≤ n → 1 ≤ n → M ∣ pe (shAll M w st n p) x - pe p (w + st * x)
  | [], _, _ => by
    have : ∀ n : Nat, pe (List.replicate n 0) x = 0 := by
      intro n
      induction n with
      | zero => rfl
      | succ n ih => rw [List.replicate_succ]; show 0 + x * _ = 0; rw [ih]; simp
    show M ∣ pe (List.replicate n 0) x - 0
    rw [this]; exact ⟨0, by simp⟩
  | a :: r, hn, h1 => by
    simp at hn
    obtain ⟨q, hq⟩ := shAll_pe M w st x n r (by omega) h1
    have hlen := shAll_length M w st n r
    have hz := shAll_zer M w st n r
    generalize hf : shAll M w st n r = f at *
    have hl : lastD f 0 = 0 := by
      have g := lastD_get f 0
      obtain ⟨m, hm⟩ : ∃ m, f.length = m + 1 := ⟨f.length - 1, by omega⟩
      rw [hm] at g
      exact hz m _ (by omega) (by simpa using g)
    obtain ⟨u, hu⟩ := shS_pe M w st x f 0
    rw [hl] at hu
    show M ∣ pe (shStep M w st (shAll M w st n r) a) x - (a + (w + st * x) * pe r (w + st * x))
    rw [hf]
    have hlen2 := shS_length M w st f 0
    unfold shStep
    split
    · rename_i e; rw [e] at hlen2; simp at hlen2; omega
    · rename_i b t e
      rw [e] at hu
      obtain ⟨z, hz2⟩ := dv_mod M (b + a)
      have hu' : b + x * pe t x - (w * pe f x + st * (0 + x * pe f x) - st * 0 * x ^ f.length) = M * u := hu
      show M ∣ ((b + a) % M + x * pe t x) - (a + (w + st * x) * pe r (w + st * x))
      refine ⟨z + u + (w + st * x) * q, ?_⟩
      grind
theorem shAll_rng (M w st : Int) (hM : 0 < M) (n : Nat) : ∀ p, ∀ v ∈ shAll M w st n p, 0 ≤ v ∧ v < M
  | [], v, h => by
    simp only [shAll, List.foldr_nil] at h
    rw [(List.mem_replicate.mp h).2]
    omega
  | a :: r, v, h => by
    have hS : ∀ (f : List Int) (c : Int), ∀ v ∈ shS M w st f c, 0 ≤ v ∧ v < M := by
      intro f
      induction f with
      | nil => intro c v h; simp [shS] at h
      | cons a r ih =>
        intro c v h
        rcases List.mem_cons.mp h with e | e
        · subst e; exact ⟨Int.emod_nonneg _ (by omega), Int.emod_lt_of_pos _ hM⟩
        · exact ih a v e
    have h' : v ∈ shStep M w st (shAll M w st n r) a := h
    unfold shStep at h'
    split at h'
    · simp at h'
    · rename_i b t e
      rcases List.mem_cons.mp h' with z | z
      · subst z; exact ⟨Int.emod_nonneg _ (by omega), Int.emod_lt_of_pos _ hM⟩
      · exact hS _ 0 v (by rw [e]; exact List.mem_cons_of_mem _ z)
/-- a step of 0: nothing but the value -/
theorem shAll_top (M w st : Int) (hs : st % M = 0) (n : Nat) : ∀ p, Zer 1 (shAll M w st n p)
  | [], i, v, hi, h => shAll_zer M w st n [] i v (by simp) h
  | a :: r, i, v, hi, h => by
    have ih := shAll_top M w st hs n r
    obtain ⟨j, rfl⟩ : ∃ j, i = j + 1 := ⟨i - 1, by omega⟩
    have h2 := shStep_tail (show (shStep M w st (shAll M w st n r) a)[j + 1]? = some v from h)
    obtain ⟨x, y, h3, h4, h5⟩ := shS_get _ _ _ _ _ _ _ h2
    have e1 := ih (j + 1) x (by omega) h3
    subst e1
    rw [h5, Int.mul_zero, Int.zero_add]
    exact Int.emod_eq_zero_of_dvd (Int.dvd_mul_of_dvd_left (Int.dvd_of_emod_eq_zero hs))
/-! ### slopes -/
def pd : List Int → Int → Int
  | [], _ => 0
  | a :: r, x => pe r x + x * pd r x
theorem taylor : ∀ (p : List Int) (x h : Int), ∃ q, pe p (x + h) = pe p x + h * pd p x + h * h * q
  | [], x, h => ⟨0, by simp [pe, pd]⟩
  | a :: r, x, h => by
    obtain ⟨q, hq⟩ := taylor r x h
    refine ⟨pd r x + (x + h) * q, ?_⟩
    show a + (x + h) * pe r (x + h) = a + x * pe r x + h * (pe r x + x * pd r x) + _
    rw [hq]
    grind
theorem pd_mod {M : Int} : ∀ {p : List Int} {x y : Int}, M ∣ x - y → M ∣ pd p x - pd p y
  | [], x, y, _ => ⟨0, by simp [pd]⟩
  | a :: r, x, y, h => by
    obtain ⟨u, hu⟩ := pe_mod (p := r) h
    obtain ⟨q, hq⟩ := pd_mod (p := r) h
    obtain ⟨v, hv⟩ := h
    refine ⟨u + v * pd r x + y * q, ?_⟩
    show (pe r x + x * pd r x) - (pe r y + y * pd r y) = _
    grind
/-- the numbers times their places, from i on -/
def enm (M : Int) : Int → List Int → List Int
  | _, [] => []
  | i, a :: r => (i * a) % M :: enm M (i + 1) r
theorem enm_pe (M x : Int) : ∀ (r : List Int) (i : Int), M ∣ pe (enm M i r) x - (i * pe r x + x * pd r x)
  | [], i => ⟨0, by simp [enm, pe, pd]⟩
  | a :: r, i => by
    obtain ⟨q, hq⟩ := enm_pe M x r (i + 1)
    obtain ⟨u, hu⟩ := dv_mod M (i * a)
    refine ⟨u + x * q, ?_⟩
    show (i * a) % M + x * pe (enm M (i + 1) r) x - (i * (a + x * pe r x) + x * (pe r x + x * pd r x)) = _
    grind
/-- the derived polynomial -/
def steep (M : Int) (p : List Int) : List Int := match (enm M 0 p).drop 1 with
  | [] => [0]
  | a :: r => a :: r
theorem steep_pe (M x : Int) (p : List Int) : M ∣ pe (steep M p) x - pd p x := by
  cases p with
  | nil => exact ⟨0, by simp [steep, enm, pe, pd]⟩
  | cons a r =>
    have h := enm_pe M x r 1
    unfold steep
    simp only [enm, List.drop_succ_cons, List.drop_zero, Int.zero_add]
    show M ∣ pe (match enm M 1 r with | [] => [0] | a :: r => a :: r) x - (pe r x + x * pd r x)
    rw [Int.one_mul] at h
    split
    · rename_i e
      rw [e] at h
      simpa [pe] using h
    · rename_i b t e
      rw [e] at h
      exact h
/-! ### roots that are lifted -/
theorem odd_cancel {w : Nat} {h c : Int} (hd : (2:Int) ^ w ∣ h * c) (hc : c % 2 = 1) : (2:Int) ^ w ∣ h := by
  induction w generalizing h with
  | zero => simp
  | succ n ih =>
    have h2 : (2:Int) ∣ h * c := Int.dvd_trans ⟨2 ^ n, by rw [Int.pow_succ, Int.mul_comm]⟩ hd
    have he : h % 2 = 0 := by
      have h3 := Int.emod_eq_zero_of_dvd h2
      rw [Int.mul_emod, hc, Int.mul_one, Int.emod_emod] at h3
      exact h3
    obtain ⟨k, rfl⟩ := Int.dvd_of_emod_eq_zero he
    rw [Int.pow_succ, Int.mul_comm _ 2, Int.mul_assoc] at hd
    have hk := ih (Int.dvd_of_mul_dvd_mul_left (by decide) hd)
    rw [Int.pow_succ, Int.mul_comm _ 2]
    exact Int.mul_dvd_mul_left 2 hk
theorem two_dvd {w : Nat} (h : 1 ≤ w) : (2:Int) ∣ 2 ^ w := by
  obtain ⟨n, rfl⟩ : ∃ n, w = n + 1 := ⟨w - 1, by omega⟩
  exact ⟨2 ^ n, by rw [Int.pow_succ, Int.mul_comm]⟩
theorem par_of {x y : Int} (h : (2:Int) ∣ x - y) : x % 2 = y % 2 := cg_of h
/-- one root with a slope that is odd -/
theorem root_uniq {w : Nat} (hw : 1 ≤ w) {p : List Int} {x y : Int} (hx : (2:Int) ^ w ∣ pe p x) (hy : (2:Int) ^ w ∣ pe p y) (hb : (2:Int) ∣ y - x) (hd : pd p x % 2 = 1) : (2:Int) ^ w ∣ y - x := by
  obtain ⟨q, hq⟩ := taylor p x (y - x)
  rw [show x + (y - x) = y by omega] at hq
  obtain ⟨u, hu⟩ := hx
  obtain ⟨v, hv⟩ := hy
  obtain ⟨k, hk⟩ := hb
  refine odd_cancel (c := pd p x + (y - x) * q) ⟨v - u, ?_⟩ ?_
  · rw [Int.mul_sub, ← hu, ← hv, hq]
    grind
  · rw [hk, Int.mul_assoc, Int.add_mul_emod_self_left]
    exact hd
theorem ring1 (h i q : Int) : h * i * (h * i) * q = h * h * (i * i * q) := by grind
theorem ring2 (h N b c a z : Int) : h - N * b + -(h * (1 - N * c)) + N * a * z = N * (-b + h * c + a * z) := by grind
/-- one step nearer -/
theorem newton {w t : Nat} {p : List Int} {x hgt iv : Int} (ht : 1 ≤ t) (h1 : (2:Int) ^ (min t w) ∣ pe p x) (h2 : (2:Int) ^ w ∣ hgt - pe p x) (h3 : (2:Int) ^ w ∣ 1 - pd p x * iv) : (2:Int) ^ (min (t + 1) w) ∣ pe p (x - hgt * iv) := by
  obtain ⟨q, hq⟩ := taylor p x (-(hgt * iv))
  rw [show x + -(hgt * iv) = x - hgt * iv by omega] at hq
  have hd : ∀ {a b : Nat}, a ≤ b → (2:Int) ^ a ∣ 2 ^ b := fun {a b} h => ⟨2 ^ (b - a), by rw [← Int.pow_add, Nat.add_sub_cancel' h]⟩
  -- hgt is divided by 2 ^ min t w
  have h4 : (2:Int) ^ (min t w) ∣ hgt := by
    have := Int.dvd_add (Int.dvd_trans (hd (Nat.min_le_right t w)) h2) h1
    rwa [show hgt - pe p x + pe p x = hgt by omega] at this
  have h5 : (2:Int) ^ (min (t + 1) w) ∣ hgt * hgt := by
    refine Int.dvd_trans (hd (show min (t + 1) w ≤ min t w + min t w by omega)) ?_
    rw [Int.pow_add]
    exact Int.mul_dvd_mul h4 h4
  have hw2 := hd (Nat.min_le_right (t + 1) w)
  have h6 := Int.dvd_trans hw2 h2
  have h7 := Int.dvd_trans hw2 h3
  generalize (2:Int) ^ (min (t + 1) w) = N at *
  obtain ⟨a, ha⟩ := h5
  obtain ⟨b, hb⟩ := h6
  obtain ⟨c, hc⟩ := h7
  refine ⟨-b + hgt * c + a * (iv * iv * q), ?_⟩
  rw [hq]
  have e1 : pe p x = hgt - N * b := by omega
  have e2 : pd p x * iv = 1 - N * c := by omega
  have e3 : -(hgt * iv) * pd p x = -(hgt * (pd p x * iv)) := by rw [Int.neg_mul, Int.mul_assoc, Int.mul_comm iv]
  have e4 : -(hgt * iv) * -(hgt * iv) * q = (hgt * hgt) * (iv * iv * q) := by
    rw [Int.neg_mul_neg]
    exact ring1 hgt iv q
  rw [e3, e4, e2, ha, e1]
  exact ring2 hgt N b c a _
theorem newton_par {t w : Nat} {p : List Int} {x hgt iv : Int} (ht : 1 ≤ t) (hw : 1 ≤ w) (h1 : (2:Int) ^ (min t w) ∣ pe p x) (h2 : (2:Int) ^ w ∣ hgt - pe p x) : (2:Int) ∣ (x - hgt * iv) - x := by
  have e1 : (2:Int) ∣ pe p x := Int.dvd_trans (two_dvd (by omega)) h1
  have e2 : (2:Int) ∣ hgt - pe p x := Int.dvd_trans (two_dvd hw) h2
  obtain ⟨a, ha⟩ := e1
  obtain ⟨b, hb⟩ := e2
  exact ⟨-((a + b) * iv), by grind⟩
/-! ### classes: (a, k) are the words a + 2^k x below 2^w -/
section
variable (R : Nat → Bool) (w : Nat)
def allC (a k : Nat) : Bool := (List.range (2 ^ (w - k))).all fun x => R (a + 2 ^ k * x)
def G : Nat → Nat → Nat → List (Nat × Nat)
  | 0, a, k => if R a then [(a, k)] else []
  | n + 1, a, k => if allC R w a k then [(a, k)] else G n a (k + 1) ++ G n (a + 2 ^ k) (k + 1)
end
section
variable {R : Nat → Bool} {w : Nat}
theorem allC_iff {a k : Nat} : allC R w a k = true ↔ ∀ x, x < 2 ^ (w - k) → R (a + 2 ^ k * x) = true := by
  unfold allC
  rw [List.all_eq_true]
  exact ⟨fun h x hx => h x (List.mem_range.mpr hx), fun h x hx => h x (List.mem_range.mp hx)⟩
theorem p2 (n : Nat) : 0 < 2 ^ n := Nat.pow_pos (by decide)
theorem allC_top {a : Nat} : allC R w a w = R a := by
  unfold allC
  rw [Nat.sub_self]
  simp
theorem sub_pow {k : Nat} (h : k < w) : 2 ^ (w - k) = 2 * 2 ^ (w - (k + 1)) := by
  rw [show w - k = (w - (k + 1)) + 1 by omega, Nat.pow_succ, Nat.mul_comm]
theorem lo_word (a k x : Nat) : a + 2 ^ (k + 1) * x = a + 2 ^ k * (2 * x) := by rw [Nat.pow_succ, Nat.mul_assoc]
theorem hi_word (a k x : Nat) : a + 2 ^ k + 2 ^ (k + 1) * x = a + 2 ^ k * (2 * x + 1) := by rw [Nat.pow_succ, Nat.mul_assoc, Nat.mul_add, Nat.mul_one]; omega
theorem allC_halves {a k : Nat} (h : k < w) : allC R w a k = (allC R w a (k + 1) && allC R w (a + 2 ^ k) (k + 1)) := by
  rw [Bool.eq_iff_iff, Bool.and_eq_true, allC_iff, allC_iff, allC_iff, sub_pow h]
  constructor
  · intro g
    refine ⟨fun x hx => ?_, fun x hx => ?_⟩
    · rw [lo_word]; exact g _ (by omega)
    · rw [hi_word]; exact g _ (by omega)
  · rintro ⟨g1, g2⟩ x hx
    rcases Nat.mod_two_eq_zero_or_one x with e | e
    · have := g1 (x / 2) (by omega)
      rw [lo_word, show 2 * (x / 2) = x by omega] at this
      exact this
    · have := g2 (x / 2) (by omega)
      rw [hi_word, show 2 * (x / 2) + 1 = x by omega] at this
      exact this
/-- a class within one whose words are all roots -/
theorem allC_down {a k b j : Nat} (h : allC R w a k = true) (hkj : k ≤ j) (hj : j ≤ w) (hb : b < 2 ^ j) (ha : b % 2 ^ k = a) : allC R w b j = true := by
  rw [allC_iff] at h ⊢
  intro x hx
  have e : b = a + 2 ^ k * (b / 2 ^ k) := by rw [← ha]; exact (Nat.mod_add_div b (2 ^ k)).symm
  have e2 : 2 ^ j = 2 ^ k * 2 ^ (j - k) := by rw [← Nat.pow_add, Nat.add_sub_cancel' hkj]
  have e3 : 2 ^ (w - k) = 2 ^ (j - k) * 2 ^ (w - j) := by rw [← Nat.pow_add]; congr 1; omega
  have hd : b / 2 ^ k < 2 ^ (j - k) := by
    rw [Nat.div_lt_iff_lt_mul (p2 k), Nat.mul_comm, ← e2]
    exact hb
  have := h (b / 2 ^ k + 2 ^ (j - k) * x) (by
    rw [e3]
    calc b / 2 ^ k + 2 ^ (j - k) * x < 2 ^ (j - k) + 2 ^ (j - k) * x := by omega
      _ = 2 ^ (j - k) * (x + 1) := by rw [Nat.mul_add, Nat.mul_one, Nat.add_comm]
      _ ≤ _ := Nat.mul_le_mul_left _ hx)
  rw [Nat.mul_add, ← Nat.mul_assoc, ← e2, ← Nat.add_assoc, ← e] at this
  exact this
theorem mod_split {b k a : Nat} (ha : a < 2 ^ k) : b % 2 ^ k = a ↔ b % 2 ^ (k + 1) = a ∨ b % 2 ^ (k + 1) = a + 2 ^ k := by
  have h1 : b % 2 ^ (k + 1) % 2 ^ k = b % 2 ^ k := Nat.mod_mod_of_dvd _ ⟨2, by rw [Nat.pow_succ]⟩
  have h2 : b % 2 ^ (k + 1) < 2 ^ (k + 1) := Nat.mod_lt _ (p2 _)
  have h3 : 2 ^ (k + 1) = 2 ^ k + 2 ^ k := by rw [Nat.pow_succ]; omega
  rw [h3] at h2
  rw [← h3] at h2
  generalize hc : b % 2 ^ (k + 1) = c at *
  rw [h3] at h2
  constructor
  · intro e
    rw [e] at h1
    rcases Nat.lt_or_ge c (2 ^ k) with q | q
    · rw [Nat.mod_eq_of_lt q] at h1; exact .inl h1
    · rw [Nat.mod_eq_sub_mod q, Nat.mod_eq_of_lt (by omega)] at h1
      exact .inr (by omega)
  · rintro (e | e)
    · rw [← h1, e, Nat.mod_eq_of_lt ha]
    · rw [← h1, e, Nat.add_mod_right, Nat.mod_eq_of_lt ha]
/-- which classes G names -/
theorem G_mem : ∀ (n a k b j : Nat), n + k = w → a < 2 ^ k → ((b, j) ∈ G R w n a k ↔ k ≤ j ∧ j ≤ w ∧ b < 2 ^ j ∧ b % 2 ^ k = a ∧ allC R w b j = true ∧ (j = k ∨ allC R w (b % 2 ^ (j - 1)) (j - 1) = false))
  | 0, a, k, b, j, hn, ha => by
    obtain rfl : k = w := by omega
    unfold G
    constructor
    · intro h
      split at h
      · rename_i hr
        simp only [List.mem_singleton, Prod.mk.injEq] at h
        obtain ⟨rfl, rfl⟩ := h
        exact ⟨Nat.le_refl _, Nat.le_refl _, ha, Nat.mod_eq_of_lt ha, by rw [allC_top]; exact hr, .inl rfl⟩
      · simp at h
    · rintro ⟨h1, h2, h3, h4, h5, _⟩
      obtain rfl : j = k := by omega
      rw [Nat.mod_eq_of_lt h3] at h4
      subst h4
      rw [allC_top] at h5
      rw [if_pos h5]
      simp
  | n + 1, a, k, b, j, hn, ha => by
    unfold G
    have hk : k < w := by omega
    have hp : 2 ^ (k + 1) = 2 ^ k + 2 ^ k := by rw [Nat.pow_succ]; omega
    cases hc : allC R w a k with
    | true =>
      rw [if_pos rfl]
      constructor
      · intro h
        simp only [List.mem_singleton, Prod.mk.injEq] at h
        obtain ⟨rfl, rfl⟩ := h
        exact ⟨Nat.le_refl _, by omega, ha, Nat.mod_eq_of_lt ha, hc, .inl rfl⟩
      · rintro ⟨h1, h2, h3, h4, h5, h6⟩
        rcases Nat.lt_or_ge k j with q | q
        · exfalso
          rcases h6 with h6 | h6
          · omega
          · have e : b % 2 ^ (j - 1) % 2 ^ k = a := by
              rw [Nat.mod_mod_of_dvd _ (Nat.pow_dvd_pow 2 (by omega))]; exact h4
            have := allC_down hc (show k ≤ j - 1 by omega) (by omega) (Nat.mod_lt b (p2 (j - 1))) e
            rw [this] at h6; cases h6
        · obtain rfl : j = k := by omega
          rw [Nat.mod_eq_of_lt h3] at h4
          subst h4
          simp
    | false =>
      rw [if_neg (by simp), List.mem_append, G_mem n a (k + 1) b j (by omega) (by omega), G_mem n (a + 2 ^ k) (k + 1) b j (by omega) (by omega)]
      constructor
      · intro h
        have hh : k + 1 ≤ j ∧ j ≤ w ∧ b < 2 ^ j ∧ b % 2 ^ k = a ∧ allC R w b j = true ∧ (j = k + 1 ∨ allC R w (b % 2 ^ (j - 1)) (j - 1) = false) := by
          rcases h with ⟨h1, h2, h3, h4, h5, h6⟩ | ⟨h1, h2, h3, h4, h5, h6⟩
          · exact ⟨h1, h2, h3, (mod_split ha).mpr (.inl h4), h5, h6⟩
          · exact ⟨h1, h2, h3, (mod_split ha).mpr (.inr h4), h5, h6⟩
        obtain ⟨h1, h2, h3, h4, h5, h6⟩ := hh
        refine ⟨by omega, h2, h3, h4, h5, .inr ?_⟩
        rcases h6 with h6 | h6
        · subst h6
          rw [Nat.add_sub_cancel, h4]; exact hc
        · exact h6
      · rintro ⟨h1, h2, h3, h4, h5, h6⟩
        have hj : j ≠ k := by
          rintro rfl
          rw [Nat.mod_eq_of_lt h3] at h4
          subst h4
          rw [hc] at h5; cases h5
        have h6' : allC R w (b % 2 ^ (j - 1)) (j - 1) = false := h6.resolve_left hj
        rcases (mod_split ha).mp h4 with e | e
        · exact .inl ⟨by omega, h2, h3, e, h5, .inr h6'⟩
        · exact .inr ⟨by omega, h2, h3, e, h5, .inr h6'⟩
theorem G_nodup : ∀ (n a k : Nat), n + k = w → a < 2 ^ k → (G R w n a k).Nodup
  | 0, a, k, _, _ => by unfold G; split <;> simp
  | n + 1, a, k, hn, ha => by
    have hp : 2 ^ (k + 1) = 2 ^ k + 2 ^ k := by rw [Nat.pow_succ]; omega
    unfold G
    split
    · simp
    · refine List.nodup_append.mpr ⟨G_nodup n a (k + 1) (by omega) (by omega), G_nodup n (a + 2 ^ k) (k + 1) (by omega) (by omega), fun p hp1 q hq1 e => ?_⟩
      subst e
      obtain ⟨b, j⟩ := p
      have h1 := (G_mem n a (k + 1) b j (by omega) (by omega)).mp hp1
      have h2 := (G_mem n (a + 2 ^ k) (k + 1) b j (by omega) (by omega)).mp hq1
      have := p2 k
      omega
theorem G_none {n a k : Nat} (hn : n + k = w) (ha : a < 2 ^ k) (h : ∀ x, x < 2 ^ (w - k) → R (a + 2 ^ k * x) = false) : G R w n a k = [] := by
  cases e : G R w n a k with
  | nil => rfl
  | cons p r =>
    obtain ⟨b, j⟩ := p
    obtain ⟨h1, h2, h3, h4, h5, h6⟩ := (G_mem n a k b j hn ha).mp (by rw [e]; simp)
    have := allC_iff.mp h5 0 (p2 _)
    rw [Nat.mul_zero, Nat.add_zero] at this
    have e2 : b = a + 2 ^ k * (b / 2 ^ k) := by rw [← h4]; exact (Nat.mod_add_div b (2 ^ k)).symm
    have e3 : b / 2 ^ k < 2 ^ (w - k) := by
      rw [Nat.div_lt_iff_lt_mul (p2 k), ← Nat.pow_add, Nat.sub_add_cancel (by omega)]
      exact Nat.lt_of_lt_of_le h3 (Nat.pow_le_pow_right (by decide) h2)
    rw [e2, h _ e3] at this
    cases this
theorem G_all {n a k : Nat} (hn : n + k = w) (h : allC R w a k = true) : G R w n a k = [(a, k)] := by
  cases n with
  | zero =>
    obtain rfl : k = w := by omega
    rw [allC_top] at h
    unfold G
    rw [if_pos h]
  | succ n => unfold G; rw [if_pos h]
/-- the step that the program takes -/
theorem G_both {n a k : Nat} (hn : n + 1 + k = w) (ha : a < 2 ^ k) : (G R w n a (k + 1) ++ G R w n (a + 2 ^ k) (k + 1) = [(a, k + 1), (a + 2 ^ k, k + 1)]) ↔ allC R w a k = true := by
  have hp : 2 ^ (k + 1) = 2 ^ k + 2 ^ k := by rw [Nat.pow_succ]; omega
  constructor
  · intro h
    have h1 : (a, k + 1) ∈ G R w n a (k + 1) ++ G R w n (a + 2 ^ k) (k + 1) := by rw [h]; simp
    have h2 : (a + 2 ^ k, k + 1) ∈ G R w n a (k + 1) ++ G R w n (a + 2 ^ k) (k + 1) := by rw [h]; simp
    rw [List.mem_append, G_mem n a (k + 1) _ _ (by omega) (by omega), G_mem n (a + 2 ^ k) (k + 1) _ _ (by omega) (by omega)] at h1 h2
    rw [allC_halves (by omega), Bool.and_eq_true]
    constructor
    · rcases h1 with h | h <;> exact h.2.2.2.2.1
    · rcases h2 with h | h <;> exact h.2.2.2.2.1
  · intro h
    rw [allC_halves (by omega), Bool.and_eq_true] at h
    rw [G_all (by omega) h.1, G_all (by omega) h.2]; rfl
/-! ### how many -/
theorem cnt_two (p : Nat → Bool) : ∀ m : Nat, (List.range (2 * m)).countP p = (List.range m).countP (fun x => p (2 * x)) + (List.range m).countP (fun x => p (2 * x + 1))
  | 0 => rfl
  | m + 1 => by
    rw [show 2 * (m + 1) = 2 * m + 1 + 1 by omega, List.range_succ, List.range_succ, List.range_succ, List.countP_append, List.countP_append, List.countP_append, List.countP_append, cnt_two p m]
    simp only [List.countP_singleton]
    omega
theorem G_sum : ∀ (n a k : Nat), n + k = w → ((G R w n a k).map fun p => 2 ^ (w - p.2)).sum = (List.range (2 ^ (w - k))).countP fun x => R (a + 2 ^ k * x)
  | 0, a, k, hn => by
    obtain rfl : k = w := by omega
    unfold G
    rw [Nat.sub_self]
    cases h : R a <;> simp [h]
  | n + 1, a, k, hn => by
    unfold G
    cases hc : allC R w a k with
    | true =>
      rw [if_pos rfl]
      have : (List.range (2 ^ (w - k))).countP (fun x => R (a + 2 ^ k * x)) = (List.range (2 ^ (w - k))).length := List.countP_eq_length.mpr fun x hx => allC_iff.mp hc x (List.mem_range.mp hx)
      rw [this]; simp
    | false =>
      rw [if_neg (by simp), List.map_append, List.sum_append, G_sum n a (k + 1) (by omega), G_sum n (a + 2 ^ k) (k + 1) (by omega), sub_pow (show k < w by omega), cnt_two (fun x => R (a + 2 ^ k * x))]
      congr 1
      · congr 1; funext x; rw [lo_word]
      · congr 1; funext x; rw [hi_word]
end
/-! ### the law's own list of classes -/
section
variable (R : Nat → Bool) (w : Nat)
def condL (j b : Nat) : Bool := allC R w b j && (decide (j = 0) || !allC R w (b % 2 ^ (j - 1)) (j - 1))
def lev (j : Nat) : List (Nat × Nat) := ((List.range (2 ^ j)).filter (condL R w j)).map fun b => (b, j)
def Lto (j : Nat) : List (Nat × Nat) := (List.range j).flatMap (lev R w)
def Lpt (j m : Nat) : List (Nat × Nat) := Lto R w j ++ ((List.range m).filter (condL R w j)).map fun b => (b, j)
end
section
variable {R : Nat → Bool} {w : Nat}
theorem Lto_succ (j : Nat) : Lto R w (j + 1) = Lpt R w j (2 ^ j) := by
  unfold Lto Lpt Lto lev
  rw [List.range_succ, List.flatMap_append]
  simp
theorem Lpt_zero (j : Nat) : Lpt R w j 0 = Lto R w j := by simp [Lpt]
theorem Lpt_succ (j m : Nat) : Lpt R w j (m + 1) = Lpt R w j m ++ (if condL R w j m then [(m, j)] else []) := by
  unfold Lpt
  rw [List.range_succ, List.filter_append, List.map_append, List.append_assoc]
  congr 2
  cases h : condL R w j m <;> simp [h]
theorem Lto_mem {j b i : Nat} : (b, i) ∈ Lto R w j ↔ i < j ∧ b < 2 ^ i ∧ condL R w i b = true := by
  unfold Lto lev
  rw [List.mem_flatMap]
  constructor
  · rintro ⟨k, h1, h2⟩
    obtain ⟨c, h3, h4⟩ := List.mem_map.mp h2
    cases h4
    obtain ⟨h5, h6⟩ := List.mem_filter.mp h3
    exact ⟨List.mem_range.mp h1, List.mem_range.mp h5, h6⟩
  · rintro ⟨h1, h2, h3⟩
    exact ⟨i, List.mem_range.mpr h1, List.mem_map.mpr ⟨b, List.mem_filter.mpr ⟨List.mem_range.mpr h2, h3⟩, rfl⟩⟩
theorem Lpt_mem {j m b i : Nat} : (b, i) ∈ Lpt R w j m ↔ (b, i) ∈ Lto R w j ∨ (i = j ∧ b < m ∧ condL R w j b = true) := by
  unfold Lpt
  rw [List.mem_append]
  constructor
  · rintro (h | h)
    · exact .inl h
    · obtain ⟨c, h3, h4⟩ := List.mem_map.mp h
      cases h4
      obtain ⟨h5, h6⟩ := List.mem_filter.mp h3
      exact .inr ⟨rfl, List.mem_range.mp h5, h6⟩
  · rintro (h | ⟨rfl, h2, h3⟩)
    · exact .inl h
    · exact .inr (List.mem_map.mpr ⟨b, List.mem_filter.mpr ⟨List.mem_range.mpr h2, h3⟩, rfl⟩)
theorem lev_nodup (m j : Nat) : (((List.range m).filter (condL R w j)).map fun b => (b, j)).Nodup := by
  refine List.pairwise_map.mpr ?_
  exact (List.nodup_range.filter _).imp fun {a b} h e => h (by cases e; rfl)
theorem Lto_nodup : ∀ j, (Lto R w j).Nodup
  | 0 => by simp [Lto]
  | j + 1 => by
    rw [Lto_succ]
    unfold Lpt
    refine List.nodup_append.mpr ⟨Lto_nodup j, lev_nodup _ j, fun p hp q hq e => ?_⟩
    subst e
    obtain ⟨b, i⟩ := p
    have h1 := (Lto_mem.mp hp).1
    obtain ⟨c, _, h4⟩ := List.mem_map.mp hq
    cases h4
    omega
theorem Lto_perm : (Lto R w (w + 1)).Perm (G R w w 0 0) := by
  refine (List.perm_ext_iff_of_nodup (Lto_nodup _) (G_nodup w 0 0 (by omega) (by decide))).mpr fun p => ?_
  obtain ⟨b, j⟩ := p
  rw [Lto_mem, G_mem w 0 0 b j (by omega) (by decide)]
  unfold condL
  rw [Bool.and_eq_true, Bool.or_eq_true, decide_eq_true_eq, Bool.not_eq_true']
  constructor
  · rintro ⟨h1, h2, h3, h4⟩
    exact ⟨by omega, by omega, h2, by rw [Nat.pow_zero, Nat.mod_one], h3, h4⟩
  · rintro ⟨_, h2, h3, _, h5, h6⟩
    exact ⟨by omega, h3, h5, h6⟩
/-- the topmost class -/
theorem top_of {b : Nat} : ∀ i, allC R w (b % 2 ^ i) i = true → ∃ i0, i0 ≤ i ∧ condL R w i0 (b % 2 ^ i0) = true
  | 0, h => ⟨0, Nat.le_refl _, by unfold condL; rw [h]; rfl⟩
  | i + 1, h => by
    cases hc : allC R w (b % 2 ^ i) i with
    | true =>
      obtain ⟨i0, h1, h2⟩ := top_of i hc
      exact ⟨i0, by omega, h2⟩
    | false =>
      refine ⟨i + 1, Nat.le_refl _, ?_⟩
      unfold condL
      rw [h, Nat.add_sub_cancel, Nat.mod_mod_of_dvd _ (Nat.pow_dvd_pow 2 (Nat.le_succ i)), hc]
      rfl
theorem cgI {b r k : Nat} (h : r < 2 ^ k) : (((b : Int) - (r : Int)) % (2:Int) ^ k = 0) ↔ b % 2 ^ k = r := by
  have e : ((2:Int) ^ k) = ((2 ^ k : Nat) : Int) := by simp
  rw [e]
  constructor
  · intro q
    have h1 : (b : Int) % ((2 ^ k : Nat) : Int) = (r : Int) % ((2 ^ k : Nat) : Int) := Int.emod_eq_emod_iff_emod_sub_eq_zero.mpr q
    rw [← Int.natCast_emod, ← Int.natCast_emod, Nat.mod_eq_of_lt h] at h1
    exact Int.ofNat_inj.mp h1
  · intro q
    refine Int.emod_eq_emod_iff_emod_sub_eq_zero.mp ?_
    rw [← Int.natCast_emod, ← Int.natCast_emod, q, Nat.mod_eq_of_lt h]
/-- what the law asks of a class is what it asks of the class above -/
theorem law_cond {j b : Nat} (hj : j ≤ w) (hb : b < 2 ^ j) (h : allC R w b j = true) : (∃ p ∈ Lpt R w j b, (((b : Int) - (p.1 : Int)) % (2:Int) ^ p.2 = 0)) ↔ condL R w j b = false := by
  have hl : condL R w j b = false ↔ j ≠ 0 ∧ allC R w (b % 2 ^ (j - 1)) (j - 1) = true := by
    unfold condL
    rw [h, Bool.true_and, Bool.or_eq_false_iff, decide_eq_false_iff_not, Bool.not_eq_false']
  rw [hl]
  constructor
  · rintro ⟨⟨r, k⟩, hp, hc⟩
    rcases Lpt_mem.mp hp with q | ⟨q1, q2, q3⟩
    · obtain ⟨h1, h2, h3⟩ := Lto_mem.mp q
      have e := (cgI h2).mp hc
      unfold condL at h3
      rw [Bool.and_eq_true] at h3
      refine ⟨by omega, allC_down h3.1 (show k ≤ j - 1 by omega) (by omega) (Nat.mod_lt _ (p2 _)) ?_⟩
      rw [Nat.mod_mod_of_dvd _ (Nat.pow_dvd_pow 2 (by omega))]
      exact e
    · subst q1
      have e := (cgI (b := b) (show r < 2 ^ k by omega)).mp hc
      rw [Nat.mod_eq_of_lt hb] at e
      omega
  · rintro ⟨h1, h2⟩
    obtain ⟨i0, h3, h4⟩ := top_of (j - 1) h2
    have h5 : b % 2 ^ i0 < 2 ^ i0 := Nat.mod_lt _ (p2 _)
    exact ⟨(b % 2 ^ i0, i0), Lpt_mem.mpr (.inl (Lto_mem.mpr ⟨by omega, h5, h4⟩)), (cgI h5).mpr rfl⟩
end
theorem r_int (l : Nat) (v : Int) (κ : Kp) : run PRG (l+1) 1 [.int v] κ = .ok (.bl true) false κ := rfl
theorem r_int_at (l : Nat) (y : D) (κ : Kp) : ∀ (b c : Bool), y.isT .int = some b → y.isT .bool = some c → run PRG (l+1) 1 [y] κ = .ok (.bl (b && !c)) false κ := by
  intro b c hb hc
  rw [run_at (f := f_is_integer) rfl rfl]
  cases b <;> cases c <;> simp [f_is_integer, isi_at hb, isi_at hc]
theorem r_btw (l : Nat) (v a b : Int) (κ : Kp) : run PRG (l+2) 2 [.int v, .int a, .int b] κ = .ok (.bl (decide (a ≤ v) && decide (v ≤ b))) false κ := by
  rw [run_at (f := f_is_between) rfl rfl]
  simp [f_is_between, r_int]
theorem r_btw_no (l : Nat) (y : D) (a b : Int) (κ : Kp) (c d : Bool) (hc : y.isT .int = some c) (hd : y.isT .bool = some d) (h : (c && !d) = false) : run PRG (l+2) 2 [y, .int a, .int b] κ = .ok (.bl false) false κ := by
  have g := r_int_at l y κ c d hc hd
  rw [h] at g
  rw [run_at (f := f_is_between) rfl rfl]
  simp [f_is_between, g]
theorem r_wid (l : Nat) (w : Int) (κ : Kp) : run PRG (l+3) 3 [.int w] κ = .ok (.bl (decide (1 ≤ w) && decide (w ≤ 16))) false κ := by
  rw [run_at (f := f_is_width) rfl rfl]
  simp [f_is_width, r_btw]
theorem r_rw (l : Nat) (w : Int) (κ : Kp) (h1 : 1 ≤ w) (h2 : w ≤ 16) : run PRG (l+4) 4 [.int w] κ = .ok .non false κ := by
  rw [run_at (f := f_require_width) rfl rfl]
  simp [f_require_width, r_wid, h1, h2]
theorem r_mod (l n : Nat) (κ : Kp) (h : n ≤ 1000) : run PRG (l+1) 5 [.int (n : Int)] κ = .ok (.int ((2 ^ n : Nat) : Int)) false κ := by
  rw [run_at (f := f_modulus_of) rfl rfl]
  have h2 : (n : Int) ≤ 100000 := by omega
  simp [f_modulus_of, big1, h2]
theorem r_isw (l n m : Nat) (κ : Kp) (h : n ≤ 1000) (hm : m < 2 ^ n) : run PRG (l+3) 6 [.int (n : Int), .int (m : Int)] κ = .ok (.bl true) false κ := by
  rw [run_at (f := f_is_word_of) rfl rfl]
  have : (m : Int) ≤ (2:Int) ^ n - 1 := by have := cast2 n; omega
  simp [f_is_word_of, r_btw, r_mod _ _ _ h, this]
theorem r_iswI (l n : Nat) (i : Int) (κ : Kp) (h : n ≤ 1000) : run PRG (l+3) 6 [.int (n : Int), .int i] κ = .ok (.bl (decide (0 ≤ i) && decide (i ≤ 2 ^ n - 1))) false κ := by
  have gm := r_mod (l + 1) n κ h
  rw [cast2] at gm
  rw [run_at (f := f_is_word_of) rfl rfl]
  simp [f_is_word_of, gm, r_btw]
theorem r_isw_no (l n : Nat) (y : D) (κ : Kp) (c d : Bool) (hc : y.isT .int = some c) (hd : y.isT .bool = some d) (h : (c && !d) = false) (hn : n ≤ 1000) : run PRG (l+3) 6 [.int (n : Int), y] κ = .ok (.bl false) false κ := by
  have gm := r_mod (l + 1) n κ hn
  rw [cast2] at gm
  rw [run_at (f := f_is_word_of) rfl rfl]
  simp [f_is_word_of, gm, r_btw_no _ _ _ _ _ _ _ hc hd h]
theorem r_rwd (l n m : Nat) (κ : Kp) (h : n ≤ 1000) (hm : m < 2 ^ n) : run PRG (l+4) 25 [.int (n : Int), .int (m : Int)] κ = .ok .non false κ := by
  rw [run_at (f := f_require_word) rfl rfl]
  simp [f_require_word, r_isw _ _ _ _ h hm]
theorem r_pull (l n total : Nat) (κ : Kp) (v : Val κ (n + 1)) (ht : 0 < total) (ht2 : total ≤ 10 ^ 60) : ∃ (r : Nat) (κ' : Kp), r < total ∧ Val κ' n ∧ run PRG (l+1) 20 [.cro, .int (total : Int)] κ = .ok (.int (r : Int)) false κ' := by
  obtain ⟨v1, v2, v3⟩ := v
  rw [run_at (f := f_law_spoon) rfl rfl]
  have hbt : big (total : Int) = true := by
    refine decide_eq_true ?_
    show ((total : Nat) : Int).natAbs < BIG
    rw [Int.natAbs_natCast]
    exact Nat.lt_of_le_of_lt ht2 (by unfold BIG; decide +kernel)
  have ht' : (0:Int) < total := by omega
  by_cases ha : 0 < κ.a
  · refine ⟨(κ.a % total).toNat, ⟨κ.a / total, κ.b, κ.c, κ.on⟩, ?_, ⟨v1, v2, by show κ.c + n ≤ 2 ^ 63; omega⟩, ?_⟩
    · have := Int.emod_lt_of_pos κ.a ht'
      have := Int.emod_nonneg κ.a (show (total : Int) ≠ 0 by omega)
      omega
    · have h0 := Int.emod_nonneg κ.a (show (total : Int) ≠ 0 by omega)
      simp [f_law_spoon, ha, ht, hbt, Int.max_eq_left h0]
  · have b1 : big 32452867 = true := by decide +kernel
    have b2 : big 311 = true := by decide +kernel
    have b3 : big 49979687 = true := by decide +kernel
    have b4 : big 65617 = true := by decide +kernel
    have b5 : big (κ.c + 1) = true := big63 (by omega) (by omega)
    have b6 : big ((κ.b + 32452867 * (κ.c + 1)) % 2305843009213693951) = true := big63 (by omega) (by omega)
    have b7 : big (((κ.b + 32452867 * (κ.c + 1)) % 2305843009213693951 * ((κ.b + 32452867 * (κ.c + 1)) % 2305843009213693951) + 311 * (κ.c + 1)) % 2305843009213693921) = true := big63 (by omega) (by omega)
    simp only [f_law_spoon, s_B1, s_if, s_cmp, s_ix, s_var]
    simp [ha, ht, hbt, b1, b2, b3, b4, b5, b6, b7]
    generalize ((κ.b + 32452867 * (κ.c + 1)) % 2305843009213693951 * ((κ.b + 32452867 * (κ.c + 1)) % 2305843009213693951) + 311 * (κ.c + 1)) % 2305843009213693921 * 49979687 + (κ.b + 32452867 * (κ.c + 1)) % 2305843009213693951 = X
    have h1 := Int.emod_lt_of_pos (X / 65617) ht'
    have h2 := Int.emod_nonneg (X / 65617) (show (total : Int) ≠ 0 by omega)
    exact ⟨(X / 65617 % total).toNat, by omega, ⟨v1, by show 0 ≤ κ.c + 1; omega, by show κ.c + 1 + n ≤ 2 ^ 63; omega⟩, by omega⟩
theorem r_choose (l n : Nat) (xs : List D) (κ : Kp) (v : Val κ (n + 1)) (h0 : 0 < xs.length) (h1 : xs.length ≤ 100000) : ∃ (d : D) (κ' : Kp), d ∈ xs ∧ Val κ' n ∧ run PRG (l+2) 23 [.cro, .lst xs] κ = .ok d false κ' := by
  obtain ⟨r, κ', hr, v', e⟩ := r_pull l n xs.length κ v h0 (Nat.le_trans h1 (by decide))
  obtain ⟨d, hd⟩ : ∃ d, xs[r]? = some d := ⟨_, List.getElem?_eq_getElem hr⟩
  refine ⟨d, κ', List.mem_of_getElem? hd, v', ?_⟩
  rw [run_at (f := f_law_one_of) rfl rfl]
  simp [f_law_one_of, e, atI_nat hd]
theorem whole_at (l : Nat) (y : D) (κ : Kp) : ∀ (b c : Bool), y.isT .int = some b → y.isT .bool = some c → run PRG (l+1) 29 [y] κ = .ok (.bl (b && !c)) false κ := by
  intro b c hb hc
  rw [run_at (f := f_law_is_whole) rfl rfl]
  cases b <;> cases c <;> simp [f_law_is_whole, isi_at hb, isi_at hc]
theorem r_bag (l spot : Nat) (ns : List Int) (hs : spot ≤ 100) (κ : Kp) : ∃ A B : Int, run PRG (l + 1) 0 [.scr (ns.map D.int), .int (spot : Int)] κ = .ok (.lst [.int A, .int B, .int 0]) true κ := by
  rw [run_at (f := f_law_jar) rfl rfl]
  have b1 := bigN (show spot ≤ 2 ^ 16 by omega)
  have b2 : big 929 = true := by decide +kernel
  have b3 : big 10 = true := by decide +kernel
  have b4 : big 10000000000000000000000000000000000000000000000000000000 = true := by decide +kernel
  have b5 : big 103 = true := by decide +kernel
  have b6 : big 1061 = true := by decide +kernel
  have b7 : big 59 = true := by decide +kernel
  have b8 : ∀ x : Int, big (x % 2305843009213693907) = true := fun x => big63 (by omega) (by omega)
  have b9 : ∀ (p : Prop) [Decidable p], big (if p then 1 else 0) = true := fun p _ => by split <;> decide +kernel
  have b0 : big 1 = true := by decide +kernel
  have b00 : big 0 = true := by decide +kernel
  have b10 : (0:Int) < (10 ^ 55) ^ 5 := by decide +kernel
  by_cases h : spot < ns.length
  · have e := atI_nat (xs := ns.map D.int) (i := spot) (d := .int ns[spot]) (by simp [h])
    simp [f_law_jar, h, e, b3, b4, b5, b6, b7, b8, b9, b1]
  · simp [f_law_jar, h, b3, b4, b5, b6, b7, b8, b9, b1, b2]
def ID (p : List Int) : List D := p.map D.int
theorem for_rev {b : SmS} {j : Nat} {κ : Kp} (p : List Int) (A : List Int → Slot → Rho) (hA : ∀ s z d, (A s z).set j (.val d) = A s (.val d)) (st : ∀ a r, (a :: r) <:+ p → b (A r (.val (.int a))) κ = .next (A (a :: r) (.val (.int a))) κ) (z : Slot) :
    ∃ z', forRun (tgName j) b (ID p).reverse (A [] z) κ = .next (A p z') κ := by
  have g : ∀ s, s <:+ p → ∃ z', ∀ ys, forRun (tgName j) b ((ID s).reverse ++ ys) (A [] z) κ = forRun (tgName j) b ys (A s z') κ := by
    intro s
    induction s with
    | nil => intro _; exact ⟨z, fun ys => rfl⟩
    | cons a r ih =>
      intro hs
      obtain ⟨z', e⟩ := ih ((List.suffix_cons a r).trans hs)
      refine ⟨.val (.int a), fun ys => ?_⟩
      have e2 : (ID (a :: r)).reverse ++ ys = (ID r).reverse ++ (.int a :: ys) := by simp [ID]
      rw [e2, e]
      refine for_next (ρ1 := A r (.val (.int a))) ?_ (st a r hs)
      show some ((A r z').set j (.val (.int a))) = _
      rw [hA]
  obtain ⟨z', e⟩ := g p (List.suffix_refl p)
  refine ⟨z', ?_⟩
  have := e []
  rw [List.append_nil] at this
  rw [this]; rfl
/-- a polynomial of the width w -/
def Pol (w : Nat) (p : List Int) : Prop := ∀ v ∈ p, 0 ≤ v ∧ v < (2:Int) ^ w
theorem pw16 {w : Nat} (h : w ≤ 16) : (2:Int) ^ w ≤ 65536 := by
  have := Nat.pow_le_pow_right (n := 2) (by decide) h
  have e : ((2:Int) ^ w) = ((2 ^ w : Nat) : Int) := by simp
  rw [e]; omega
theorem pwp (w : Nat) : (0:Int) < 2 ^ w := Int.pow_pos (by decide)
theorem pwc (w : Nat) : ((2 ^ w : Nat) : Int) = (2:Int) ^ w := by simp
theorem hor_rng {w : Nat} (p : List Int) (x : Int) : 0 ≤ hor (2 ^ w) p x ∧ hor (2 ^ w) p x < 2 ^ w := by
  rw [hor_eq]
  exact ⟨Int.emod_nonneg _ (by have := pwp w; omega), Int.emod_lt_of_pos _ (pwp w)⟩
theorem mulb {a b A B : Int} (ha : 0 ≤ a) (ha2 : a ≤ A) (hb : 0 ≤ b) (hb2 : b ≤ B) : 0 ≤ a * b ∧ a * b ≤ A * B := ⟨Int.mul_nonneg ha hb, Int.mul_le_mul ha2 hb2 hb (by omega)⟩
theorem bigR {i : Int} (h : 0 ≤ i) (h2 : i ≤ 2 ^ 62) : big i = true := big63 (by omega) (by omega)
theorem r_val (l w : Nat) (hw : w ≤ 16) (p : List Int) (hp : Pol w p) (x : Int) (hx : 0 ≤ x) (hx2 : x ≤ 2 ^ 30) (κ : Kp) : run PRG (l+2) 17 [.int (w : Int), .tup (ID p), .int x] κ = .ok (.int (hor (2 ^ w) p x)) false κ := by
  have h16 := pw16 hw
  have hP := pwp w
  obtain ⟨z', e⟩ := for_rev (b := evB (run PRG (l+1)) b_value_in_1) (j := 3) (κ := κ) p (fun s z => [.val (.int (w : Int)), .val (.tup (ID p)), .val (.int x), z, .val (.int (hor (2 ^ w) s x)), .val (.int ((2:Int) ^ w))]) (fun s z d => rfl) (fun a r hs => by
    have ha := hp a (hs.subset List.mem_cons_self)
    obtain ⟨h1, h2⟩ := hor_rng (w := w) r x
    obtain ⟨h3, h4⟩ := mulb h1 (show hor (2 ^ w) r x ≤ 65536 by omega) hx hx2
    have b1 : big (hor (2 ^ w) r x) = true := bigR h1 (by omega)
    have b2 : big x = true := bigR hx (by omega)
    have b3 : big (hor (2 ^ w) r x * x) = true := bigR h3 (by omega)
    have b4 : big a = true := bigR ha.1 (by omega)
    have b5 : big (hor (2 ^ w) r x * x + a) = true := bigR (by omega) (by omega)
    simp [b_value_in_1, b1, b2, b3, b4, b5, hP]
    rfl) .no
  have gm := r_mod l w κ (by omega)
  rw [pwc] at gm
  rw [run_at (f := f_value_in) rfl rfl]
  simp [f_value_in, gm]
  have e0 : hor (2 ^ w) [] x = 0 := rfl
  rw [e0] at e
  rw [e]
  simp
theorem r_at (l w : Nat) (hw : w ≤ 16) (p : List Int) (hp : Pol w p) (x : Int) (hx : 0 ≤ x) (hx2 : x ≤ 2 ^ 30) (κ : Kp) : run PRG (l+1) 31 [.int (w : Int), .tup (ID p), .int x] κ = .ok (.int (hor (2 ^ w) p x)) false κ := by
  have h16 := pw16 hw
  have hP := pwp w
  have hw3 : (w : Int) ≤ 100000 := by omega
  obtain ⟨z', e⟩ := for_rev (b := evB (run PRG l) b_law_at_1) (j := 4) (κ := κ) p (fun s z => [.val (.int (w : Int)), .val (.tup (ID p)), .val (.int x), .val (.int (hor (2 ^ w) s x)), z]) (fun s z d => rfl) (fun a r hs => by
    have ha := hp a (hs.subset List.mem_cons_self)
    obtain ⟨h1, h2⟩ := hor_rng (w := w) r x
    obtain ⟨h3, h4⟩ := mulb h1 (show hor (2 ^ w) r x ≤ 65536 by omega) hx hx2
    have b1 : big (hor (2 ^ w) r x) = true := bigR h1 (by omega)
    have b2 : big x = true := bigR hx (by omega)
    have b3 : big (hor (2 ^ w) r x * x) = true := bigR h3 (by omega)
    have b4 : big a = true := bigR ha.1 (by omega)
    have b5 : big (hor (2 ^ w) r x * x + a) = true := bigR (by omega) (by omega)
    simp [b_law_at_1, b1, b2, b3, b4, b5, hP, big1, hw3]
    rfl) .no
  rw [run_at (f := f_law_at) rfl rfl]
  simp [f_law_at]
  have e0 : hor (2 ^ w) [] x = 0 := rfl
  rw [e0] at e
  rw [e]
  simp
/-- one row of a shifted polynomial -/
theorem rowsD (M w st : Int) : ∀ (f : List Int) (c : Int), (List.zipWith (fun a b => (w * a + st * b) % M) f (c :: f)) = shS M w st f c
  | [], _ => rfl
  | a :: r, c => by
    show (w * a + st * c) % M :: List.zipWith _ r (a :: r) = _
    rw [rowsD M w st r a]; rfl
theorem subL_at {Γ : Gam} {ρ : Rho} {κ κ1 κ2 : Kp} {i : Nat} {e j : E} {xs : List D} {x y d : D} {f1 f2 : Bool} (h : ρ[i]? = some (.own (.lst xs))) (he : evE Γ e ρ κ = .ok x f1 κ1) (hj : evE Γ j ρ κ1 = .ok y f2 κ2) (hs : dSubL xs y x = some d) :
    evS Γ (.sub i j e) ρ κ = .next (ρ.set i (.own d)) κ2 := by
  rw [evS]
  unfold cSub
  simp only [h]
  unfold cSubL ownL
  simp only [h, he, s_stV, hj]
  unfold upS
  rw [hs]
theorem zip_at {Γ : Gam} {ρ : Rho} {κ κ' : Kp} {es : Es} {xs ys : List D} (h : evEs Γ es ρ κ = .ok [.lst xs, .lst ys] κ') : evI Γ (.zip es) ρ κ = .ok (prs xs ys) κ' := by
  rw [evI]; unfold cZip; rw [h]; rfl
/-- the comprehension's item -/
def shF (M w st : Int) : D → D
  | .tup [.int a, .int b] => .int ((w * a + st * b) % M)
  | _ => .non
theorem sh_map (M w st : Int) : ∀ (f : List Int) (c : Int), (prs (ID f) (ID (c :: f))).map (shF M w st) = ID (shS M w st f c)
  | [], _ => rfl
  | a :: r, c => by
    have := sh_map M w st r a
    show shF M w st (.tup [.int a, .int c]) :: (prs (ID r) (ID (a :: r))).map _ = _
    rw [this]; rfl
theorem prs_mem : ∀ (f : List Int) (c : Int) (d : D), d ∈ prs (ID f) (ID (c :: f)) → ∃ a b, a ∈ f ∧ b ∈ c :: f ∧ d = .tup [.int a, .int b]
  | [], _, d, h => by simp [prs, ID] at h
  | a :: r, c, d, h => by
    have h' : d ∈ D.tup [.int a, .int c] :: prs (ID r) (ID (a :: r)) := h
    rcases List.mem_cons.mp h' with e | e
    · exact ⟨a, c, by simp, by simp, e⟩
    · obtain ⟨x, y, h1, h2, h3⟩ := prs_mem r a d e
      exact ⟨x, y, List.mem_cons_of_mem _ h1, List.mem_cons_of_mem _ h2, h3⟩
theorem prs_len : ∀ (f : List Int) (c : Int), (prs (ID f) (ID (c :: f))).length = f.length
  | [], _ => rfl
  | a :: r, c => by
    have := prs_len r a
    show (prs (ID r) (ID (a :: r))).length + 1 = _
    rw [this]; rfl
def lgr (M w st : Int) (n : Nat) : List Int → Slot
  | [] => .no
  | _ :: r => .val (.lst (ID (0 :: shAll M w st n r)))
theorem tp2E {i j : Nat} {a b : D} {ρ : Rho} : evT (.tp (.cons (.nm i) (.cons (.nm j) .nil))) (.tup [a, b]) ρ = some ((ρ.set i (.val a)).set j (.val b)) := s_tp2
theorem shStep_eq (M w st : Int) (f : List Int) (n : Int) (h : 0 < f.length) : ∃ b t, shS M w st f 0 = b :: t ∧ shStep M w st f n = (b + n) % M :: t := by
  have := shS_length M w st f 0
  cases e : shS M w st f 0 with
  | nil => rw [e] at this; simp at this; omega
  | cons b t => exact ⟨b, t, rfl, by unfold shStep; rw [e]⟩
theorem sub0 (b : Int) (t : List Int) (c : Int) : dSubL (ID (b :: t)) (.int 0) (.int c) = some (.lst (ID (c :: t))) := by
  have h : ixN (ID (b :: t)).length 0 = some 0 := by
    unfold ixN
    simp [ID]
  unfold dSubL
  simp only [h]
  rfl
theorem sh_body (l w : Nat) (hw : w ≤ 16) (D0 : D) (x k : Nat) (hx : x ≤ 65536) (hk : k ≤ 16) (n : Nat) (hn : 1 ≤ n) (hn2 : n ≤ 1000) (κ : Kp) (a : Int) (r : List Int) (ha : 0 ≤ a ∧ a < 2 ^ w) :
    evB (run PRG (l+1)) b_shifted_in_1 [.val (.int (w : Int)), .val D0, .val (.int (x : Int)), .val (.int (k : Int)), .own (.lst (ID (shAll (2 ^ w) x (2 ^ k) n r))), .val (.int a), .val (.int ((2:Int) ^ w)), .val (.int ((2:Int) ^ k)), lgr (2 ^ w) x (2 ^ k) n r, .no, .no] κ =
      .next [.val (.int (w : Int)), .val D0, .val (.int (x : Int)), .val (.int (k : Int)), .own (.lst (ID (shAll (2 ^ w) x (2 ^ k) n (a :: r)))), .val (.int a), .val (.int ((2:Int) ^ w)), .val (.int ((2:Int) ^ k)), lgr (2 ^ w) x (2 ^ k) n (a :: r), .no, .no] κ := by
  have h16 := pw16 hw
  have k16 := pw16 hk
  have hP := pwp w
  have hK := pwp k
  have hlen := shAll_length (2 ^ w) x (2 ^ k) n r
  have hrg := shAll_rng (2 ^ w) x (2 ^ k) hP n r
  show _ = RS.next [_, _, _, _, .own (.lst (ID (shStep (2 ^ w) x (2 ^ k) (shAll (2 ^ w) x (2 ^ k) n r) a))), _, _, _, .val (.lst (ID (0 :: shAll (2 ^ w) x (2 ^ k) n r))), _, _] κ
  generalize hf : shAll (2 ^ w) x (2 ^ k) n r = f at *
  obtain ⟨b, t, e1, e2⟩ := shStep_eq (2 ^ w) x (2 ^ k) f a (by omega)
  rw [e2]
  let S1 : Rho := [.val (.int (w : Int)), .val D0, .val (.int (x : Int)), .val (.int (k : Int)), .val (.lst (ID f)), .val (.int a), .val (.int ((2:Int) ^ w)), .val (.int ((2:Int) ^ k)), lgr (2 ^ w) x (2 ^ k) n r, .no, .no]
  let S2 : Rho := [.val (.int (w : Int)), .val D0, .val (.int (x : Int)), .val (.int (k : Int)), .val (.lst (ID f)), .val (.int a), .val (.int ((2:Int) ^ w)), .val (.int ((2:Int) ^ k)), .val (.lst (ID (0 :: f))), .no, .no]
  let S3 : Rho := [.val (.int (w : Int)), .val D0, .val (.int (x : Int)), .val (.int (k : Int)), .own (.lst (ID (b :: t))), .val (.int a), .val (.int ((2:Int) ^ w)), .val (.int ((2:Int) ^ k)), .val (.lst (ID (0 :: f))), .no, .no]
  have h1 : evS (run PRG (l+1)) (.set 8 false (.lsts (.cons (.lit (.int 0)) (.star (.var 4) .nil)))) S1 κ = .next S2 κ := by
    have hz : (D.int 0 :: ID f).length ≤ LIM := by simp [ID]; unfold LIM; omega
    simp [S1, S2, kLsts_at hz]
    rfl
  have h2 : evS (run PRG (l+1)) (.frz 4) S2 κ = .next S2 κ := frz_val rfl
  have h3 : evS (run PRG (l+1)) (.set 4 true (.lc (.zip (.cons (.var 4) (.cons (.var 8) .nil))) (.tp (.cons (.nm 9) (.cons (.nm 10) .nil))) .no (.bin .mod (.bin .add (.bin .mul (.var 2) (.var 9)) (.bin .mul (.var 7) (.var 10))) (.var 6)) [("low", 9), ("high", 10)])) S2 κ = .next S3 κ := by
    have hm := lc_map (Γ := run PRG (l+1)) (it := .zip (.cons (.var 4) (.cons (.var 8) .nil))) (tg := .tp (.cons (.nm 9) (.cons (.nm 10) .nil))) (e := .bin .mod (.bin .add (.bin .mul (.var 2) (.var 9)) (.bin .mul (.var 7) (.var 10))) (.var 6)) (own := [("low", 9), ("high", 10)]) (ρ := S2) (κ := κ) (κ1 := κ) (ds := prs (ID f) (ID (0 :: f))) (shF (2 ^ w) x (2 ^ k)) (zip_at (by simp [S2])) (by rw [prs_len]; unfold LIM; omega) (fun d hd => by
      obtain ⟨u, v, hu, hv, rfl⟩ := prs_mem f 0 d hd
      refine ⟨_, false, tp2E, ?_⟩
      have hu' := hrg u hu
      have hv' : 0 ≤ v ∧ v < 2 ^ w := by
        rcases List.mem_cons.mp hv with e | e
        · subst e; omega
        · exact hrg v e
      obtain ⟨g1, g2⟩ := mulb (a := (x : Int)) (b := u) (A := 65536) (B := 65536) (by omega) (by omega) hu'.1 (by omega)
      obtain ⟨g3, g4⟩ := mulb (a := (2:Int) ^ k) (b := v) (A := 65536) (B := 65536) (by omega) (by omega) hv'.1 (by omega)
      have b1 : big (x : Int) = true := bigR (by omega) (by omega)
      have b2 : big u = true := bigR (by omega) (by omega)
      have b3 : big v = true := bigR (by omega) (by omega)
      have b4 : big ((2:Int) ^ k) = true := bigR (by omega) (by omega)
      have b5 : big ((x : Int) * u) = true := bigR g1 (by omega)
      have b6 : big ((2:Int) ^ k * v) = true := bigR g3 (by omega)
      have b7 : big ((x : Int) * u + (2:Int) ^ k * v) = true := bigR (by omega) (by omega)
      simp [S2, wipeR, b1, b2, b3, b4, b5, b6, b7, hP, shF])
    rw [sh_map, e1] at hm
    rw [s_set, hm]
    rfl
  have h4 : evS (run PRG (l+1)) (.sub 4 (.lit (.int 0)) (.lend 4 (.bin .mod (.bin .add (.ix (.var 4) (.lit (.int 0))) (.var 5)) (.var 6)))) S3 κ = .next (S3.set 4 (.own (.lst (ID ((b + a) % 2 ^ w :: t))))) κ := by
    have hb : 0 ≤ b ∧ b < 2 ^ w := by
      have := List.mem_cons_self (a := b) (l := t)
      rw [← e1] at this
      cases f with
      | nil => simp [shS] at this
      | cons f0 fr =>
        have e5 : b = ((x : Int) * f0 + 2 ^ k * 0) % 2 ^ w := by
          have e1' : ((x : Int) * f0 + 2 ^ k * 0) % 2 ^ w :: shS (2 ^ w) x (2 ^ k) fr f0 = b :: t := e1
          cases e1'; rfl
        rw [e5]
        exact ⟨Int.emod_nonneg _ (by omega), Int.emod_lt_of_pos _ hP⟩
    have b1 : big b = true := bigR (by omega) (by omega)
    have b2 : big a = true := bigR (by omega) (by omega)
    have b3 : big (b + a) = true := bigR (by omega) (by omega)
    refine subL_at (x := .int ((b + a) % 2 ^ w)) (y := .int 0) (f1 := false) (f2 := false) (κ1 := κ) rfl (lend_own (d := .lst (ID (b :: t))) rfl ?_ rfl) (by simp) ?_
    · simp [S3, ID, b1, b2, b3, hP]
    · exact sub0 b t _
  simp only [b_shifted_in_1]
  rw [s_B1, frz_own (d := .lst (ID f)) rfl, s_t1]
  show evB (run PRG (l+1)) _ S1 κ = _
  rw [s_B1, h1, s_t1, s_B1, h2, s_t1, s_B1, h3, s_t1, s_B1, h4, s_t1, s_B0]
  rfl
theorem r_shift (l w : Nat) (hw : w ≤ 16) (p : List Int) (hp : Pol w p) (hn : 1 ≤ p.length) (hn2 : p.length ≤ 100) (x k : Nat) (hx : x ≤ 65536) (hk : k ≤ 16) (κ : Kp) : run PRG (l+2) 9 [.int (w : Int), .tup (ID p), .int (x : Int), .int (k : Int)] κ = .ok (.tup (ID (shAll (2 ^ w) x (2 ^ k) p.length p))) false κ := by
  have hk3 : (k : Int) ≤ 100000 := by omega
  obtain ⟨z', e⟩ := for_rev (b := evB (run PRG (l+1)) b_shifted_in_1) (j := 5) (κ := κ) p (fun s z => [.val (.int (w : Int)), .val (.tup (ID p)), .val (.int (x : Int)), .val (.int (k : Int)), .own (.lst (ID (shAll (2 ^ w) x (2 ^ k) p.length s))), z, .val (.int ((2:Int) ^ w)), .val (.int ((2:Int) ^ k)), lgr (2 ^ w) x (2 ^ k) p.length s, .no, .no]) (fun s z d => rfl) (fun a r hs =>
    sh_body l w hw _ x k hx hk p.length hn (by omega) κ a r (hp a (hs.subset List.mem_cons_self))) .no
  have gm := r_mod l w κ (by omega)
  rw [pwc] at gm
  have ez : ID (shAll (2 ^ w) x (2 ^ k) p.length []) = List.replicate p.length (.int 0) := by simp [ID, shAll]
  have em : Bop.mul.f (.lst [.int 0]) (.int (p.length : Int)) = some (.lst (List.replicate p.length (.int 0)), true) := by
    rw [ls_mul (by simp) hn2]; simp
  rw [run_at (f := f_shifted_in) rfl rfl]
  rw [ez] at e
  rw [show lgr (2 ^ w) (x : Int) (2 ^ k) p.length [] = Slot.no from rfl] at e
  have el : (ID p).length = p.length := by simp [ID]
  simp [f_shifted_in, gm, big1, hk3, em, el]
  rw [e]
  rw [s_t1, s_B1, frz_own (d := .lst (ID (shAll (2 ^ w) x (2 ^ k) p.length p))) rfl, s_t1]
  simp
theorem cut_tail (d : D) (ds : List D) : cutD (d :: ds) (some 1) none = ds := by
  unfold cutD
  have h1 : HT.sIx (d :: ds).length 0 (some 1) = 1 := by
    simp [HT.sIx]
    try omega
  have h2 : HT.sIx (d :: ds).length (d :: ds).length none = (d :: ds).length := by simp [HT.sIx]
  rw [h1, h2]
  simp
def BarOk (w : Nat) (h0 : Int) (t : List Int) : Option Nat → Prop
  | some L => 1 ≤ L ∧ L ≤ w ∧ h0 % 2 ^ L ≠ 0 ∧ ∀ v ∈ t, v % 2 ^ L = 0
  | none => (∀ j, j < w → h0 % 2 ^ (j + 1) = 0) ∨ ∃ v ∈ t, v ≠ 0
def oD : Option Nat → D
  | some L => .int (L : Int)
  | none => .non
theorem all_bls (p : Int → Bool) (t : List Int) : Bi.all.g [.lst ((ID t).map fun d => match d with | .int v => .bl (p v) | _ => .non)] = some (.bl (t.all p), false) := by
  have h : asBools ((ID t).map fun d => match d with | .int v => .bl (p v) | _ => .non) = some (t.map p) := by
    induction t with
    | nil => rfl
    | cons a r ih =>
      show asBools (.bl (p a) :: (ID r).map _) = _
      unfold asBools
      rw [ih]; rfl
  show (asBools _).map _ = _
  rw [h]
  simp [List.all_map]
theorem ID_mem {t : List Int} {d : D} (h : d ∈ ID t) : ∃ v ∈ t, d = .int v := by
  obtain ⟨v, h1, h2⟩ := List.mem_map.mp h
  exact ⟨v, h1, h2.symm⟩
theorem ID_len (t : List Int) : (ID t).length = t.length := by simp [ID]
theorem r_bar (l w : Nat) (hw : w ≤ 16) (h0 : Int) (t : List Int) (hp : Pol w (h0 :: t)) (ht : t.length ≤ 1000) (κ : Kp) : ∃ o, run PRG (l+1) 11 [.int (w : Int), .tup (ID (h0 :: t))] κ = .ok (oD o) false κ ∧ BarOk w h0 t o := by
  have h16 := pw16 hw
  have hr := for_run (tg := tgName 2) (b := evB (run PRG l) b_bar_in_1) (fun i ρ κ0 => (∀ j, j < i → h0 % 2 ^ (j + 1) = 0) ∧ κ0 = κ ∧ ∃ z, ρ = [.val (.int (w : Int)), .val (.tup (ID (h0 :: t))), z, .no]) (fun _ _ => False) (fun d fr κ0 => fr = false ∧ κ0 = κ ∧ ∃ o, d = oD o ∧ BarOk w h0 t o) (rngD 1 w) 0 [.val (.int (w : Int)), .val (.tup (ID (h0 :: t))), .no, .no] κ ⟨fun j hj => absurd hj (by omega), rfl, .no, rfl⟩ (by
    rintro i d ρ κ0 hi ⟨hz, rfl, z, rfl⟩
    obtain ⟨h1, rfl⟩ := rngD_at hi
    rw [Nat.zero_add] at hz ⊢
    have hL : (1 : Int) + (i : Int) = ((i + 1 : Nat) : Int) := by omega
    rw [hL]
    refine ⟨[.val (.int (w : Int)), .val (.tup (ID (h0 :: t))), .val (.int ((i + 1 : Nat) : Int)), .no], rfl, ?_⟩
    have g1 : ((i + 1 : Nat) : Int) ≤ 100000 := by omega
    generalize hi1 : i + 1 = L at *
    have hP := pwp L
    have b0 : big h0 = true := by have := hp h0 (by simp); exact bigR (by omega) (by omega)
    have e0 : evE (run PRG l) (.cmp .ne (.bin .mod (.ix (.var 1) (.lit (.int 0))) (.bin .shl (.lit (.int 1)) (.var 2))) (.lit (.int 0))) [.val (.int (w : Int)), .val (.tup (ID (h0 :: t))), .val (.int (L : Int)), .no] κ0 = .ok (.bl (!decide (h0 % 2 ^ L = 0))) false κ0 := by
      simp [ID, big1, g1, hP, b0]
    by_cases hq : h0 % 2 ^ L = 0
    · refine .inl ⟨[.val (.int (w : Int)), .val (.tup (ID (h0 :: t))), .val (.int (L : Int)), .no], κ0, .inl ?_, fun j hj => ?_, rfl, _, rfl⟩
      · simp only [b_bar_in_1, s_B1, s_if, e0, hq]
        simp
      · rcases Nat.lt_or_ge j i with q | q
        · exact hz j q
        · obtain rfl : j = i := by omega
          rw [hi1]; exact hq
    · have e1 : evE (run PRG l) (.lc (.seq (.sl (.var 1) (.so (.lit (.int 1))) .no)) (.nm 3) .no (.cmp .eq (.bin .mod (.var 3) (.bin .shl (.lit (.int 1)) (.var 2))) (.lit (.int 0))) [("number", 3)]) [.val (.int (w : Int)), .val (.tup (ID (h0 :: t))), .val (.int (L : Int)), .no] κ0 = .ok (.lst ((ID t).map fun d => match d with | .int v => .bl (decide (v % 2 ^ L = 0)) | _ => .non)) true κ0 := by
        refine lc_map (ds := ID t) (κ1 := κ0) _ (seq_at (fr := false) (.inr (by simp [ID, cut_tail]))) (by rw [ID_len]; unfold LIM; omega) fun d hd => ?_
        obtain ⟨v, hv, rfl⟩ := ID_mem hd
        have bv : big v = true := by have := hp v (List.mem_cons_of_mem _ hv); exact bigR (by omega) (by omega)
        exact ⟨_, false, rfl, by simp [wipeR, big1, g1, hP, bv]⟩
      refine .inr (.inr ⟨oD (if (t.all fun v => decide (v % 2 ^ L = 0)) = true then some L else none), false, κ0, ?_, rfl, rfl, _, rfl, ?_⟩)
      · simp only [b_bar_in_1, s_B1, s_if, e0, hq]
        simp [e1, all_bls]
        by_cases hh : (∀ (x : Int), x ∈ t → x % 2 ^ L = 0)
        · rw [if_pos hh, if_pos hh]; rfl
        · rw [if_neg hh, if_neg hh]; rfl
      · split
        · rename_i ha
          exact ⟨by omega, by omega, hq, fun v hv => of_decide_eq_true (List.all_eq_true.mp ha v hv)⟩
        · rename_i ha
          refine .inr ?_
          have ha' : t.all (fun v => decide (v % 2 ^ L = 0)) = false := by simpa using ha
          obtain ⟨v, hv, h⟩ := List.all_eq_false.mp ha'
          exact ⟨v, hv, fun z => h (by rw [z]; simp)⟩)
  have hw2 : (w : Int) + 1 = ((w : Int) + 1) := rfl
  rcases hr with ⟨ρ', κ', e, h | h⟩ | ⟨d, fr, κ', e, rfl, rfl, o, rfl, ho⟩
  · obtain ⟨hz, rfl, z, rfl⟩ := h
    rw [Nat.zero_add, rngD_length] at hz
    refine ⟨none, ?_, .inl hz⟩
    rw [run_at (f := f_bar_in) rfl rfl]
    simp [f_bar_in]
    rw [for_at (rng2_it 1 ((w : Int) + 1) (f1 := false) (f2 := false) (κ1 := κ') (κ' := κ') (by simp) (by simp) (by omega) (by omega)), s_nm, show ((w : Int) + 1 - 1).toNat = w by omega, e]
    simp [oD]
  · exact h.elim
  · refine ⟨o, ?_, ho⟩
    rw [run_at (f := f_bar_in) rfl rfl]
    simp [f_bar_in]
    rw [for_at (rng2_it 1 ((w : Int) + 1) (f1 := false) (f2 := false) (κ1 := κ') (κ' := κ') (by simp) (by simp) (by omega) (by omega)), s_nm, show ((w : Int) + 1 - 1).toNat = w by omega, e]
    simp
def pN (p : Nat × Nat) : D := .tup [.int (p.1 : Int), .int (p.2 : Int)]
theorem pN_shp (n : Nat) : ∀ L : List (Nat × Nat), shpL (L.map pN) (n + 1) = true
  | [] => rfl
  | p :: r => by
    rw [List.map_cons, s_sh1, pN_shp n r, Bool.and_true]
    show shpL [.int (p.1 : Int), .int (p.2 : Int)] n = true
    simp
theorem pN_eqv (p q : Nat × Nat) : (pN p).eqv (pN q) = decide (p = q) := by
  obtain ⟨a, b⟩ := p
  obtain ⟨c, d⟩ := q
  show eqvL [.int (a : Int), .int (b : Int)] [.int (c : Int), .int (d : Int)] = _
  unfold eqvL eqvL eqvL
  show (((a : Int) == (c : Int)) && (((b : Int) == (d : Int)) && true)) = _
  rw [Bool.eq_iff_iff]
  simp
  omega
theorem pN_eqvL : ∀ L M : List (Nat × Nat), eqvL (L.map pN) (M.map pN) = decide (L = M)
  | [], [] => rfl
  | [], q :: M => by simp [eqvL]
  | p :: L, [] => by simp [eqvL]
  | p :: L, q :: M => by
    show ((pN p).eqv (pN q) && eqvL (L.map pN) (M.map pN)) = _
    rw [pN_eqv, pN_eqvL L M, Bool.eq_iff_iff]
    simp
theorem eqL_pN (L : List (Nat × Nat)) (q : Nat × Nat) (M : List (Nat × Nat)) : Cop.eq.f (.lst (L.map pN)) (.lst ((q :: M).map pN)) = some (.bl (decide (L = q :: M)), false) := by
  have e : Cop.eq.f (.lst (L.map pN)) (.lst ((q :: M).map pN)) = fEq (.lst (L.map pN)) (.lst ((q :: M).map pN)) := by cases L <;> rfl
  rw [e]
  show (if (shpL (L.map pN) 59 && shpL ((q :: M).map pN) 59) = true then some (D.bl (eqvL (L.map pN) ((q :: M).map pN)), false) else none) = _
  rw [pN_shp 58, pN_shp 58, pN_eqvL]
  rfl
/-! ### the steps of classes_in -/
section
variable {Γ : Gam} {p : D} {w a d : Int} {h : List D} {κ : Kp}
theorem stepC (h9 : Γ 9 [.int w, p, .int a, .int d] κ = .ok (.tup h) false κ) (ha : Bi.any.g [.tup h] = some (.bl false, false)) :
    (evB Γ f_classes_in.body (List.map Slot.val [.int w, p, .tup [.int a, .int d]] ++ List.replicate (f_classes_in.N.length - f_classes_in.ps.length) Slot.no) κ).fn = .ok (.lst [.tup [.int a, .int d]]) true κ := by
  simp [f_classes_in, h9, ha]
theorem stepA {b : Int} (h9 : Γ 9 [.int w, p, .int a, .int d] κ = .ok (.tup h) false κ) (ha : Bi.any.g [.tup h] = some (.bl true, false)) (h11 : Γ 11 [.int w, .tup h] κ = .ok (.int b) false κ) :
    (evB Γ f_classes_in.body (List.map Slot.val [.int w, p, .tup [.int a, .int d]] ++ List.replicate (f_classes_in.N.length - f_classes_in.ps.length) Slot.no) κ).fn = .ok (.lst []) true κ := by
  simp [f_classes_in, h9, ha, h11]
theorem stepW (h9 : Γ 9 [.int w, p, .int a, .int w] κ = .ok (.tup h) false κ) (ha : Bi.any.g [.tup h] = some (.bl true, false)) (h11 : Γ 11 [.int w, .tup h] κ = .ok .non false κ) :
    (evB Γ f_classes_in.body (List.map Slot.val [.int w, p, .tup [.int a, .int w]] ++ List.replicate (f_classes_in.N.length - f_classes_in.ps.length) Slot.no) κ).fn = .ok (.lst []) true κ := by
  simp [f_classes_in, h9, ha, h11]
theorem stepB {lo hi : D} {r1 r2 : List D} {f1 f2 b : Bool} (h9 : Γ 9 [.int w, p, .int a, .int d] κ = .ok (.tup h) false κ) (ha : Bi.any.g [.tup h] = some (.bl true, false)) (h11 : Γ 11 [.int w, .tup h] κ = .ok .non false κ) (hd : d ≠ w)
    (h10 : Γ 10 [.tup [.int a, .int d]] κ = .ok (.tup [lo, hi]) false κ) (hl : Γ 12 [.int w, p, lo] κ = .ok (.lst r1) f1 κ) (hh : Γ 12 [.int w, p, hi] κ = .ok (.lst r2) f2 κ) (hlen : (r1 ++ r2).length ≤ LIM)
    (he : Cop.eq.f (.lst (r1 ++ r2)) (.lst [lo, hi]) = some (.bl b, false)) :
    (evB Γ f_classes_in.body (List.map Slot.val [.int w, p, .tup [.int a, .int d]] ++ List.replicate (f_classes_in.N.length - f_classes_in.ps.length) Slot.no) κ).fn = (if b then .ok (.lst [.tup [.int a, .int d]]) true κ else .ok (.lst (r1 ++ r2)) false κ) := by
  cases b <;> simp [f_classes_in, h9, ha, h11, hd, h10, hl, hh, kLsts_at hlen, he]
end
theorem r_half (l a k : Nat) (hk : k ≤ 1000) (κ : Kp) : run PRG (l+1) 10 [.tup [.int (a : Int), .int (k : Int)]] κ = .ok (.tup [pN (a, k + 1), pN (a + 2 ^ k, k + 1)]) false κ := by
  have hk3 : (k : Int) ≤ 100000 := by omega
  rw [run_at (f := f_halves_of) rfl rfl]
  simp [f_halves_of, big1, hk3, pN]
/-! ### roots -/
def Rt (w : Nat) (p : List Int) (x : Nat) : Bool := decide (hor (2 ^ w) p (x : Int) = 0)
theorem Rt_iff {w : Nat} {p : List Int} {x : Nat} : Rt w p x = true ↔ (2:Int) ^ w ∣ pe p x := by
  unfold Rt
  rw [decide_eq_true_eq, hor_eq]
  exact ⟨Int.dvd_of_emod_eq_zero, Int.emod_eq_zero_of_dvd⟩
theorem Rt_no {w : Nat} {p : List Int} {x : Nat} : Rt w p x = false ↔ ¬ (2:Int) ^ w ∣ pe p x := by
  rw [← Rt_iff]; simp
/-- the value at a word of a class, by the shifted polynomial -/
theorem sh_root {w : Nat} {p : List Int} (hn : 1 ≤ p.length) (a k x : Nat) : (2:Int) ^ w ∣ pe p ((a + 2 ^ k * x : Nat) : Int) ↔ (2:Int) ^ w ∣ pe (shAll (2 ^ w) a (2 ^ k) p.length p) x := by
  have h := shAll_pe ((2:Int) ^ w) a (2 ^ k) x p.length p (Nat.le_refl _) hn
  have e : ((a + 2 ^ k * x : Nat) : Int) = (a : Int) + 2 ^ k * (x : Int) := by simp
  rw [e]
  constructor
  · intro g
    have := Int.dvd_add h g
    rwa [Int.sub_add_cancel] at this
  · intro g
    have := Int.dvd_sub g h
    rwa [Int.sub_sub_self] at this
theorem pe_zero {p : List Int} (h : ∀ v ∈ p, v = 0) (x : Int) : pe p x = 0 := by
  induction p with
  | nil => rfl
  | cons a r ih =>
    show a + x * pe r x = 0
    rw [ih fun v hv => h v (List.mem_cons_of_mem _ hv), h a List.mem_cons_self]; simp
theorem any_ID (t : List Int) : Bi.any.g [.tup (ID t)] = some (.bl (t.any fun n => n != 0), false) := by
  have h : asInts (ID t) = some t := by
    induction t with
    | nil => rfl
    | cons a r ih =>
      show asInts (.int a :: ID r) = _
      unfold asInts
      rw [ih]; rfl
  show (asInts (ID t)).map _ = _
  rw [h]; rfl
/-- a level bars all words -/
theorem bar_no {w : Nat} {h0 : Int} {t : List Int} {L : Nat} (hb : BarOk w h0 t (some L)) (x : Int) : ¬ (2:Int) ^ w ∣ pe (h0 :: t) x := by
  obtain ⟨h1, h2, h3, h4⟩ := hb
  intro hd
  have hd2 : (2:Int) ^ L ∣ pe (h0 :: t) x := Int.dvd_trans ⟨2 ^ (w - L), by rw [← Int.pow_add, Nat.add_sub_cancel' h2]⟩ hd
  have ht : (2:Int) ^ L ∣ pe t x := by
    clear hd hd2 h3
    induction t with
    | nil => exact ⟨0, by simp [pe]⟩
    | cons b r ih =>
      have e1 := Int.dvd_of_emod_eq_zero (h4 b List.mem_cons_self)
      have e2 := ih fun v hv => h4 v (List.mem_cons_of_mem _ hv)
      exact Int.dvd_add e1 (Int.dvd_mul_of_dvd_right e2)
  have e : h0 = pe (h0 :: t) x - x * pe t x := by show h0 = h0 + x * pe t x - x * pe t x; omega
  exact h3 (by rw [e]; exact Int.emod_eq_zero_of_dvd (Int.dvd_sub hd2 (Int.dvd_mul_of_dvd_right ht)))
theorem G_len {R : Nat → Bool} {w : Nat} : ∀ (n a k : Nat), (G R w n a k).length ≤ 2 ^ n
  | 0, a, k => by unfold G; split <;> simp
  | n + 1, a, k => by
    have := p2 n
    have e : 2 ^ (n + 1) = 2 ^ n + 2 ^ n := by rw [Nat.pow_succ]; omega
    unfold G
    split
    · simp; omega
    · rw [List.length_append, e]
      exact Nat.add_le_add (G_len n _ _) (G_len n _ _)
theorem r_cls (l w : Nat) (hw1 : 1 ≤ w) (hw : w ≤ 16) (p : List Int) (hp : Pol w p) (hn : 1 ≤ p.length) (hn2 : p.length ≤ 100) : ∀ (n a k : Nat) (κ : Kp), n + k = w → a < 2 ^ k →
    ∃ fr, run PRG (l + n + 3) 12 [.int (w : Int), .tup (ID p), .tup [.int (a : Int), .int (k : Int)]] κ = .ok (.lst ((G (Rt w p) w n a k).map pN)) fr κ := by
  intro n
  induction n with
  | zero => 
    intro a k κ hk ha
    obtain rfl : k = w := by omega
    have ha16 : a ≤ 65536 := by have := Nat.pow_le_pow_right (n := 2) (by decide) hw; omega
    have h9 := r_shift l k hw p hp hn hn2 a k ha16 hw κ
    have hrt := fun x => sh_root (w := k) hn a k x
    have hrg := shAll_rng ((2:Int) ^ k) a (2 ^ k) (pwp k) p.length p
    have hlen := shAll_length ((2:Int) ^ k) a (2 ^ k) p.length p
    have htop := shAll_top ((2:Int) ^ k) a (2 ^ k) (Int.emod_self) p.length p
    generalize shAll ((2:Int) ^ k) a (2 ^ k) p.length p = h at *
    obtain ⟨h0, t, rfl⟩ : ∃ h0 t, h = h0 :: t := by
      cases h with
      | nil => simp at hlen; omega
      | cons h0 t => exact ⟨h0, t, rfl⟩
    have hz : ∀ v ∈ t, v = 0 := fun v hv => by
      obtain ⟨i, hi⟩ := List.mem_iff_getElem?.mp hv
      exact htop (i + 1) v (by omega) (by simpa using hi)
    have hr0 := hrt 0
    rw [Nat.mul_zero, Nat.add_zero] at hr0
    have e0 : pe (h0 :: t) ((0 : Nat) : Int) = h0 := by show h0 + 0 * _ = h0; omega
    rw [e0] at hr0
    have hb0 := hrg h0 (by simp)
    rw [run_at (f := f_classes_in) rfl rfl]
    by_cases hq : h0 = 0
    · have hany : Bi.any.g [.tup (ID (h0 :: t))] = some (.bl false, false) := by
        rw [any_ID]
        have : (h0 :: t).any (fun n => n != 0) = false := List.any_eq_false.mpr fun v hv => by
          rcases List.mem_cons.mp hv with e | e
          · subst e; simp [hq]
          · simp [hz v e]
        rw [this]
      have hG : G (Rt k p) k 0 a k = [(a, k)] := by
        unfold G
        rw [if_pos (Rt_iff.mpr (hr0.mpr (by rw [hq]; exact ⟨0, by simp⟩)))]
      exact ⟨true, by rw [hG]; exact stepC h9 hany⟩
    · have hany : Bi.any.g [.tup (ID (h0 :: t))] = some (.bl true, false) := by
        rw [any_ID]
        have : (h0 :: t).any (fun n => n != 0) = true := List.any_eq_true.mpr ⟨h0, by simp, by simpa using hq⟩
        rw [this]
      have hG : G (Rt k p) k 0 a k = [] := by
        unfold G
        rw [if_neg]
        intro g
        have := hr0.mp (Rt_iff.mp g)
        have := Int.emod_eq_zero_of_dvd this
        rw [Int.emod_eq_of_lt hb0.1 hb0.2] at this
        exact hq this
      obtain ⟨o, h11, ho⟩ := r_bar (l + 1) k hw h0 t hrg (by simp at hlen; omega) κ
      refine ⟨true, ?_⟩
      rw [hG]
      cases o with
      | none => exact stepW h9 hany h11
      | some L => exact stepA h9 hany h11
  | succ n ih =>
    intro a k κ hk ha
    have hkw : k < w := by omega
    have hp2 : 2 ^ (k + 1) = 2 ^ k + 2 ^ k := by rw [Nat.pow_succ]; omega
    have ha16 : a ≤ 65536 := by have := Nat.pow_le_pow_right (n := 2) (by decide) (show k ≤ 16 by omega); omega
    have h9 := r_shift (l + n + 1) w hw p hp hn hn2 a k ha16 (by omega) κ
    have hrt := fun x => sh_root (w := w) hn a k x
    have hrg := shAll_rng ((2:Int) ^ w) a (2 ^ k) (pwp w) p.length p
    have hlen := shAll_length ((2:Int) ^ w) a (2 ^ k) p.length p
    generalize shAll ((2:Int) ^ w) a (2 ^ k) p.length p = h at *
    obtain ⟨h0, t, rfl⟩ : ∃ h0 t, h = h0 :: t := by
      cases h with
      | nil => simp at hlen; omega
      | cons h0 t => exact ⟨h0, t, rfl⟩
    rw [show l + (n + 1) + 3 = (l + n + 3) + 1 by omega, run_at (f := f_classes_in) rfl rfl]
    cases hq : (h0 :: t).any (fun n => n != 0) with
    | false =>
      have hany : Bi.any.g [.tup (ID (h0 :: t))] = some (.bl false, false) := by rw [any_ID, hq]
      have hz : ∀ v ∈ h0 :: t, v = 0 := fun v hv => by have := List.any_eq_false.mp hq v hv; simpa using this
      have hall : allC (Rt w p) w a k = true := allC_iff.mpr fun x _ => Rt_iff.mpr ((hrt x).mpr (by rw [pe_zero hz]; exact ⟨0, by simp⟩))
      refine ⟨true, ?_⟩
      rw [G_all (by omega) hall]
      exact stepC h9 hany
    | true =>
      have hany : Bi.any.g [.tup (ID (h0 :: t))] = some (.bl true, false) := by rw [any_ID, hq]
      obtain ⟨o, h11, ho⟩ := r_bar (l + n + 2) w hw h0 t hrg (by simp at hlen; omega) κ
      cases o with
      | some L =>
        refine ⟨true, ?_⟩
        rw [G_none (by omega) ha fun x _ => Rt_no.mpr fun g => bar_no ho _ ((hrt x).mp g)]
        exact stepA h9 hany h11
      | none =>
        obtain ⟨f1, hl⟩ := ih a (k + 1) κ (by omega) (by omega)
        obtain ⟨f2, hh⟩ := ih (a + 2 ^ k) (k + 1) κ (by omega) (by omega)
        have h10 := r_half (l + n + 2) a k (by omega) κ
        have he := eqL_pN (G (Rt w p) w n a (k + 1) ++ G (Rt w p) w n (a + 2 ^ k) (k + 1)) (a, k + 1) [(a + 2 ^ k, k + 1)]
        rw [List.map_append] at he
        have hlen2 : ((G (Rt w p) w n a (k + 1)).map pN ++ (G (Rt w p) w n (a + 2 ^ k) (k + 1)).map pN).length ≤ LIM := by
          rw [List.length_append, List.length_map, List.length_map]
          have h1 := G_len (R := Rt w p) (w := w) n a (k + 1)
          have h2 := G_len (R := Rt w p) (w := w) n (a + 2 ^ k) (k + 1)
          have := Nat.pow_le_pow_right (n := 2) (by decide) (show n ≤ 16 by omega)
          unfold LIM; omega
        have st := stepB (b := decide (G (Rt w p) w n a (k + 1) ++ G (Rt w p) w n (a + 2 ^ k) (k + 1) = [(a, k + 1), (a + 2 ^ k, k + 1)])) h9 hany h11 (by omega) h10 hl hh hlen2 he
        have hb := G_both (R := Rt w p) (w := w) (n := n) (a := a) (k := k) (by omega) ha
        cases hc : allC (Rt w p) w a k with
        | true =>
          refine ⟨true, ?_⟩
          rw [decide_eq_true (hb.mpr hc)] at st
          rw [G_all (by omega) hc]
          exact st
        | false =>
          refine ⟨false, ?_⟩
          rw [decide_eq_false (fun z => by have := hb.mp z; rw [hc] at this; cases this)] at st
          have hG : G (Rt w p) w (n + 1) a k = G (Rt w p) w n a (k + 1) ++ G (Rt w p) w n (a + 2 ^ k) (k + 1) := by
            rw [G, hc]; rfl
          rw [hG, List.map_append]
          exact st
def cst (p : Nat × Nat) : Int × Int := ((p.1 : Int), (p.2 : Int))
def srt (L : List (Nat × Nat)) : List (Int × Int) := psort (L.map cst)
theorem pN_eq (p : Nat × Nat) : pN p = pairD (cst p) := rfl
theorem srt_len (L : List (Nat × Nat)) : (srt L).length = L.length := by unfold srt; rw [(psort_perm _).length_eq, List.length_map]
theorem srt_pN (L : List (Nat × Nat)) : Bi.srt.g [.lst (L.map pN)] = some (.lst ((srt L).map pairD), true) := by
  have h : asPairs (L.map pN) = some (L.map cst) := by
    induction L with
    | nil => rfl
    | cons p r ih =>
      show asPairs (.tup [.int (p.1 : Int), .int (p.2 : Int)] :: r.map pN) = _
      unfold asPairs
      rw [ih]; rfl
  show gSorted [.lst (L.map pN)] = _
  unfold gSorted
  cases L with
  | nil => rfl
  | cons p r =>
    have e : asInts ((p :: r).map pN) = none := rfl
    simp only [e, h]
    rfl
theorem srt_perm {L M : List (Nat × Nat)} (h : L.Perm M) : srt L = srt M :=
  psrt_uniq _ _ ((psort_perm _).trans ((h.map cst).trans (psort_perm _).symm)) (psort_srt _) (psort_srt _)
theorem pD_shp (n : Nat) : ∀ L : List (Int × Int), shpL (L.map pairD) (n + 1) = true
  | [] => rfl
  | p :: r => by
    rw [List.map_cons, s_sh1, pD_shp n r, Bool.and_true]
    show shpL [.int p.1, .int p.2] n = true
    simp
theorem pD_eqv : ∀ L : List (Int × Int), eqvL (L.map pairD) (L.map pairD) = true
  | [] => rfl
  | p :: r => by
    show ((pairD p).eqv (pairD p) && eqvL (r.map pairD) (r.map pairD)) = true
    rw [pD_eqv r, Bool.and_true]
    show (((p.1 == p.1) && ((p.2 == p.2) && true)) : Bool) = true
    simp
theorem ne_srt (L : List (Int × Int)) : Cop.ne.f (.tup (L.map pairD)) (.tup (L.map pairD)) = some (.bl false, false) := by
  rw [s_net, pD_shp 58, if_pos (by rfl), pD_eqv]; rfl
/-! ### requirements -/
theorem r_are (l w : Nat) (hw : w ≤ 16) (p : List Int) (hp : Pol w p) (hn2 : p.length ≤ 1000) (κ : Kp) : run PRG (l+4) 7 [.int (w : Int), .tup (ID p)] κ = .ok (.bl true) false κ := by
  have e1 : evE (run PRG (l+3)) (.lc (.seq (.var 1)) (.nm 2) .no (.call 6 (.cons (.var 0) (.cons (.var 2) .nil))) [("word", 2)]) [.val (.int (w : Int)), .val (.tup (ID p)), .no] κ = .ok (.lst ((ID p).map fun d => match d with | .int v => .bl true | _ => .non)) true κ := by
    refine lc_map (ds := ID p) (κ1 := κ) _ (seq_at (fr := false) (.inr (by simp))) (by rw [ID_len]; unfold LIM; omega) fun d hd => ?_
    obtain ⟨v, hv, rfl⟩ := ID_mem hd
    have h := hp v hv
    obtain ⟨m, rfl⟩ := Int.eq_ofNat_of_zero_le h.1
    have hm : m < 2 ^ w := by have := h.2; rw [← pwc] at this; exact Int.ofNat_lt.mp this
    exact ⟨_, false, rfl, by simp [wipeR, r_isw _ _ _ _ (show w ≤ 1000 by omega) hm]⟩
  rw [run_at (f := f_are_words) rfl rfl]
  simp only [f_are_words]
  have e2 : Bi.all.g [.lst ((ID p).map fun d => match d with | .int v => .bl true | _ => .non)] = some (.bl true, false) := by
    have := all_bls (fun _ => true) p
    rw [show p.all (fun _ => true) = true from List.all_eq_true.mpr fun _ _ => rfl] at this
    exact this
  simp [e1, e2]
theorem r_rp (l w : Nat) (hw1 : 1 ≤ w) (hw : w ≤ 16) (p : List Int) (hp : Pol w p) (hn : 1 ≤ p.length) (hn2 : p.length ≤ 20) (κ : Kp) : run PRG (l+5) 8 [.int (w : Int), .tup (ID p)] κ = .ok .non false κ := by
  have h1 := r_rw l w κ (by omega) (by omega)
  have h2 := r_are l w hw p hp (by omega) κ
  have h3 : (1 : Int) ≤ (p.length : Int) := by omega
  have h4 : (p.length : Int) ≤ 20 := by omega
  rw [run_at (f := f_require_polynomial) rfl rfl]
  simp [f_require_polynomial, h1, h2, ID_len, h3, h4]
theorem r_roots (l w : Nat) (hw1 : 1 ≤ w) (hw : w ≤ 16) (p : List Int) (hp : Pol w p) (hn : 1 ≤ p.length) (hn2 : p.length ≤ 20) (κ : Kp) : run PRG (l + w + 6) 13 [.int (w : Int), .tup (ID p)] κ = .ok (.tup ((srt (G (Rt w p) w w 0 0)).map pairD)) false κ := by
  have h1 := r_rp (l + w) w hw1 hw p hp hn hn2 κ
  obtain ⟨fr, h2⟩ := r_cls (l + 2) w hw1 hw p hp hn (by omega) w 0 0 κ (by omega) (by decide)
  rw [show l + 2 + w + 3 = l + w + 5 by omega] at h2
  have h3 := srt_pN (G (Rt w p) w w 0 0)
  rw [run_at (f := f_roots_of) rfl rfl]
  simp at h2
  simp [f_roots_of, h1, h2, h3]
/-! ### how many -/
theorem sum_ints (xs : List Int) : Bi.sum.g [.lst (ID xs)] = some (.int xs.sum, false) := by
  have h : asInts (ID xs) = some xs := by
    induction xs with
    | nil => rfl
    | cons a r ih =>
      show asInts (.int a :: ID r) = _
      unfold asInts
      rw [ih]; rfl
  show (asInts (ID xs)).map _ = _
  rw [h]; rfl
theorem perm_sumI {a b : List Int} (h : a.Perm b) : a.sum = b.sum := by
  induction h with
  | nil => rfl
  | cons x _ ih => simp [ih]
  | swap x y l => simp; omega
  | trans _ _ ih1 ih2 => exact ih1.trans ih2
theorem r_count (l w : Nat) (hw1 : 1 ≤ w) (hw : w ≤ 16) (p : List Int) (hp : Pol w p) (hn : 1 ≤ p.length) (hn2 : p.length ≤ 20) (κ : Kp) : run PRG (l + w + 7) 28 [.int (w : Int), .tup (ID p)] κ = .ok (.int (((List.range (2 ^ w)).countP (Rt w p) : Nat) : Int)) false κ := by
  have h1 := r_roots l w hw1 hw p hp hn hn2 κ
  have hmem : ∀ q ∈ srt (G (Rt w p) w w 0 0), ∃ r : Nat × Nat, q = cst r ∧ r.2 ≤ w := fun q hq => by
    obtain ⟨r, h2, h3⟩ := List.mem_map.mp ((psort_perm _).mem_iff.mp hq)
    obtain ⟨b, j⟩ := r
    exact ⟨(b, j), h3.symm, ((G_mem w 0 0 b j (by omega) (by decide)).mp h2).2.1⟩
  have hlen : (srt (G (Rt w p) w w 0 0)).length ≤ 65536 := by
    rw [srt_len]
    have h1 := G_len (R := Rt w p) (w := w) w 0 0
    have := Nat.pow_le_pow_right (n := 2) (by decide) hw
    omega
  have e1 : evE (run PRG (l + w + 6)) (.lc (.seq (.call 13 (.cons (.var 0) (.cons (.var 1) .nil)))) (.tp (.cons (.nm 2) (.cons (.nm 3) .nil))) .no (.bin .shl (.lit (.int 1)) (.bin .sub (.var 0) (.var 3))) [("word", 2), ("level", 3)]) [.val (.int (w : Int)), .val (.tup (ID p)), .no, .no] κ =
      .ok (.lst (((srt (G (Rt w p) w w 0 0)).map pairD).map fun d => match d with | .tup [.int a, .int b] => .int (2 ^ (w - b.toNat)) | _ => .non)) true κ := by
    refine lc_map (ds := (srt (G (Rt w p) w w 0 0)).map pairD) (κ1 := κ) _ (seq_at (fr := false) (.inr (by simp [h1]))) (by rw [List.length_map]; unfold LIM; omega) fun d hd => ?_
    obtain ⟨q, hq, rfl⟩ := List.mem_map.mp hd
    obtain ⟨r, rfl, hr⟩ := hmem q hq
    refine ⟨_, false, tp2E, ?_⟩
    have g1 : (w : Int) - (r.2 : Int) = ((w - r.2 : Nat) : Int) := by omega
    have g2 : ((w - r.2 : Nat) : Int) ≤ 100000 := by omega
    simp [wipeR, g1, big1, g2, cst]
    rfl
  have e2 : ((srt (G (Rt w p) w w 0 0)).map pairD).map (fun d => match d with | .tup [.int a, .int b] => D.int (2 ^ (w - b.toNat)) | _ => .non) = ID ((srt (G (Rt w p) w w 0 0)).map fun q => 2 ^ (w - q.2.toNat)) := by
    rw [List.map_map]; unfold ID; rw [List.map_map]; rfl
  have e3 : ((srt (G (Rt w p) w w 0 0)).map fun q => (2:Int) ^ (w - q.2.toNat)).sum = (((List.range (2 ^ w)).countP (Rt w p) : Nat) : Int) := by
    unfold srt
    rw [perm_sumI ((psort_perm _).map _), List.map_map]
    have := G_sum (R := Rt w p) (w := w) w 0 0 (by omega)
    simp only [Nat.sub_zero, Nat.pow_zero, Nat.one_mul, Nat.zero_add] at this
    rw [← this]
    generalize G (Rt w p) w w 0 0 = L
    induction L with
    | nil => rfl
    | cons q r ih =>
      simp only [List.map_cons, List.sum_cons, Int.natCast_add]
      rw [ih]
      simp [cst]
  rw [run_at (f := f_count_zeros) rfl rfl]
  simp only [f_count_zeros]
  rw [e2] at e1
  have e4 := sum_ints ((srt (G (Rt w p) w w 0 0)).map fun q => (2:Int) ^ (w - q.2.toNat))
  rw [e3] at e4
  simp [e1, e4]
section
variable {Γ : Gam} {p : D} {w a d : Int} {h0 : Int} {h : List D} {κ : Kp}
theorem rsC (h9 : Γ 9 [.int w, p, .int a, .int d] κ = .ok (.tup (.int h0 :: h)) false κ) (ha : h0 = 0) :
    (evB Γ f_root_in.body (List.map Slot.val [.int w, p, .tup [.int a, .int d]] ++ List.replicate (f_root_in.N.length - f_root_in.ps.length) Slot.no) κ).fn = .ok (.int a) false κ := by
  simp [f_root_in, h9, ha]
theorem rsA {b : Int} (h9 : Γ 9 [.int w, p, .int a, .int d] κ = .ok (.tup (.int h0 :: h)) false κ) (ha : h0 ≠ 0) (h11 : Γ 11 [.int w, .tup (.int h0 :: h)] κ = .ok (.int b) false κ) :
    (evB Γ f_root_in.body (List.map Slot.val [.int w, p, .tup [.int a, .int d]] ++ List.replicate (f_root_in.N.length - f_root_in.ps.length) Slot.no) κ).fn = .ok .non false κ := by
  simp [f_root_in, h9, ha, h11]
theorem rsB {lo hi : D} {r : Int} (h9 : Γ 9 [.int w, p, .int a, .int d] κ = .ok (.tup (.int h0 :: h)) false κ) (ha : h0 ≠ 0) (h11 : Γ 11 [.int w, .tup (.int h0 :: h)] κ = .ok .non false κ)
    (h10 : Γ 10 [.tup [.int a, .int d]] κ = .ok (.tup [lo, hi]) false κ) (hl : Γ 14 [.int w, p, lo] κ = .ok (.int r) false κ) :
    (evB Γ f_root_in.body (List.map Slot.val [.int w, p, .tup [.int a, .int d]] ++ List.replicate (f_root_in.N.length - f_root_in.ps.length) Slot.no) κ).fn = .ok (.int r) false κ := by
  simp [f_root_in, h9, ha, h11, h10, hl]
theorem rsD {lo hi x : D} (h9 : Γ 9 [.int w, p, .int a, .int d] κ = .ok (.tup (.int h0 :: h)) false κ) (ha : h0 ≠ 0) (h11 : Γ 11 [.int w, .tup (.int h0 :: h)] κ = .ok .non false κ)
    (h10 : Γ 10 [.tup [.int a, .int d]] κ = .ok (.tup [lo, hi]) false κ) (hl : Γ 14 [.int w, p, lo] κ = .ok .non false κ) (hh : Γ 14 [.int w, p, hi] κ = .ok x false κ) :
    (evB Γ f_root_in.body (List.map Slot.val [.int w, p, .tup [.int a, .int d]] ++ List.replicate (f_root_in.N.length - f_root_in.ps.length) Slot.no) κ).fn = .ok x false κ := by
  simp [f_root_in, h9, ha, h11, h10, hl, hh]
end
/-- what root_in tells -/
def RinOk (R : Nat → Bool) (w a k : Nat) (d : D) : Prop := (d = .non ∧ ∀ x, x < 2 ^ (w - k) → R (a + 2 ^ k * x) = false) ∨ ∃ r : Int, d = .int r ∧ ∃ x, x < 2 ^ (w - k) ∧ R (a + 2 ^ k * x) = true
theorem r_rin (l w : Nat) (hw1 : 1 ≤ w) (hw : w ≤ 16) (p : List Int) (hp : Pol w p) (hn : 1 ≤ p.length) (hn2 : p.length ≤ 100) : ∀ (n a k : Nat) (κ : Kp), n + k = w → a < 2 ^ k →
    ∃ d, run PRG (l + n + 3) 14 [.int (w : Int), .tup (ID p), .tup [.int (a : Int), .int (k : Int)]] κ = .ok d false κ ∧ RinOk (Rt w p) w a k d := by
  intro n
  induction n with
  | zero =>
    intro a k κ hk ha
    obtain rfl : k = w := by omega
    have ha16 : a ≤ 65536 := by have := Nat.pow_le_pow_right (n := 2) (by decide) hw; omega
    have h9 := r_shift l k hw p hp hn hn2 a k ha16 hw κ
    have hrt := fun x => sh_root (w := k) hn a k x
    have hrg := shAll_rng ((2:Int) ^ k) a (2 ^ k) (pwp k) p.length p
    have hlen := shAll_length ((2:Int) ^ k) a (2 ^ k) p.length p
    have htop := shAll_top ((2:Int) ^ k) a (2 ^ k) (Int.emod_self) p.length p
    generalize shAll ((2:Int) ^ k) a (2 ^ k) p.length p = h at *
    obtain ⟨h0, t, rfl⟩ : ∃ h0 t, h = h0 :: t := by
      cases h with
      | nil => simp at hlen; omega
      | cons h0 t => exact ⟨h0, t, rfl⟩
    have hz : ∀ v ∈ t, v = 0 := fun v hv => by
      obtain ⟨i, hi⟩ := List.mem_iff_getElem?.mp hv
      exact htop (i + 1) v (by omega) (by simpa using hi)
    have hr0 := hrt 0
    have e0 : pe (h0 :: t) ((0 : Nat) : Int) = h0 := by show h0 + 0 * _ = h0; omega
    rw [e0] at hr0
    have hb0 := hrg h0 (by simp)
    rw [run_at (f := f_root_in) rfl rfl]
    by_cases hq : h0 = 0
    · exact ⟨_, rsC h9 hq, .inr ⟨_, rfl, 0, p2 _, Rt_iff.mpr (hr0.mpr (by rw [hq]; exact ⟨0, by simp⟩))⟩⟩
    · obtain ⟨o, h11, ho⟩ := r_bar (l + 1) k hw h0 t hrg (by simp at hlen; omega) κ
      have hno : ∀ x, x < 2 ^ (k - k) → Rt k p (a + 2 ^ k * x) = false := fun x hx => by
        rw [Nat.sub_self, Nat.pow_zero] at hx
        obtain rfl : x = 0 := by omega
        refine Rt_no.mpr fun g => ?_
        have := Int.emod_eq_zero_of_dvd (hr0.mp g)
        rw [Int.emod_eq_of_lt hb0.1 hb0.2] at this
        exact hq this
      cases o with
      | some L => exact ⟨_, rsA h9 hq h11, .inl ⟨rfl, hno⟩⟩
      | none =>
        exfalso
        rcases ho with g | ⟨v, hv, g⟩
        · have := g (k - 1) (by omega)
          rw [show k - 1 + 1 = k by omega, Int.emod_eq_of_lt hb0.1 hb0.2] at this
          exact hq this
        · exact g (hz v hv)
  | succ n ih =>
    intro a k κ hk ha
    have hkw : k < w := by omega
    have hp2 : 2 ^ (k + 1) = 2 ^ k + 2 ^ k := by rw [Nat.pow_succ]; omega
    have ha16 : a ≤ 65536 := by have := Nat.pow_le_pow_right (n := 2) (by decide) (show k ≤ 16 by omega); omega
    have h9 := r_shift (l + n + 1) w hw p hp hn hn2 a k ha16 (by omega) κ
    have hrt := fun x => sh_root (w := w) hn a k x
    have hrg := shAll_rng ((2:Int) ^ w) a (2 ^ k) (pwp w) p.length p
    have hlen := shAll_length ((2:Int) ^ w) a (2 ^ k) p.length p
    generalize shAll ((2:Int) ^ w) a (2 ^ k) p.length p = h at *
    obtain ⟨h0, t, rfl⟩ : ∃ h0 t, h = h0 :: t := by
      cases h with
      | nil => simp at hlen; omega
      | cons h0 t => exact ⟨h0, t, rfl⟩
    have hr0 := hrt 0
    have e0 : pe (h0 :: t) ((0 : Nat) : Int) = h0 := by show h0 + 0 * _ = h0; omega
    rw [e0] at hr0
    rw [show l + (n + 1) + 3 = (l + n + 3) + 1 by omega, run_at (f := f_root_in) rfl rfl]
    by_cases hq : h0 = 0
    · exact ⟨_, rsC h9 hq, .inr ⟨_, rfl, 0, p2 _, Rt_iff.mpr (hr0.mpr (by rw [hq]; exact ⟨0, by simp⟩))⟩⟩
    · obtain ⟨o, h11, ho⟩ := r_bar (l + n + 2) w hw h0 t hrg (by simp at hlen; omega) κ
      cases o with
      | some L => exact ⟨_, rsA h9 hq h11, .inl ⟨rfl, fun x _ => Rt_no.mpr fun g => bar_no ho _ ((hrt x).mp g)⟩⟩
      | none =>
        have h10 := r_half (l + n + 2) a k (by omega) κ
        obtain ⟨d1, hl, g1⟩ := ih a (k + 1) κ (by omega) (by omega)
        obtain ⟨d2, hh, g2⟩ := ih (a + 2 ^ k) (k + 1) κ (by omega) (by omega)
        rcases g1 with ⟨rfl, g1⟩ | ⟨r, rfl, x, g1, g3⟩
        · refine ⟨d2, rsD h9 hq h11 h10 hl hh, ?_⟩
          rcases g2 with ⟨rfl, g2⟩ | ⟨r, rfl, x, g2, g3⟩
          · refine .inl ⟨rfl, fun x hx => ?_⟩
            rw [sub_pow hkw] at hx
            rcases Nat.mod_two_eq_zero_or_one x with e | e
            · have := g1 (x / 2) (by omega)
              rw [lo_word, show 2 * (x / 2) = x by omega] at this
              exact this
            · have := g2 (x / 2) (by omega)
              rw [hi_word, show 2 * (x / 2) + 1 = x by omega] at this
              exact this
          · refine .inr ⟨r, rfl, 2 * x + 1, by rw [sub_pow hkw]; omega, ?_⟩
            rw [← hi_word]; exact g3
        · refine ⟨_, rsB h9 hq h11 h10 hl, .inr ⟨r, rfl, 2 * x, by rw [sub_pow hkw]; omega, ?_⟩⟩
          rw [← lo_word]; exact g3
theorem r_has (l w : Nat) (hw1 : 1 ≤ w) (hw : w ≤ 16) (p : List Int) (hp : Pol w p) (hn : 1 ≤ p.length) (hn2 : p.length ≤ 20) (κ : Kp) : run PRG (l + w + 6) 15 [.int (w : Int), .tup (ID p)] κ = .ok (.bl (decide ((List.range (2 ^ w)).filter (Rt w p) ≠ []))) false κ := by
  have h1 := r_rp (l + w) w hw1 hw p hp hn hn2 κ
  obtain ⟨d, h2, h3⟩ := r_rin (l + 2) w hw1 hw p hp hn (by omega) w 0 0 κ (by omega) (by decide)
  rw [show l + 2 + w + 3 = l + w + 5 by omega] at h2
  rw [run_at (f := f_has_root) rfl rfl]
  simp at h2
  unfold RinOk at h3
  simp only [Nat.sub_zero, Nat.pow_zero, Nat.one_mul, Nat.zero_add] at h3
  rcases h3 with ⟨rfl, g⟩ | ⟨r, rfl, x, g1, g2⟩
  · have e : (List.range (2 ^ w)).filter (Rt w p) = [] := List.filter_eq_nil_iff.mpr fun x hx => by rw [g x (List.mem_range.mp hx)]; simp
    simp [f_has_root, h1, h2, e]
  · have e : (List.range (2 ^ w)).filter (Rt w p) ≠ [] := fun z => by
      have := List.filter_eq_nil_iff.mp z x (List.mem_range.mpr g1)
      exact this g2
    rw [decide_eq_true e]
    simp [f_has_root, h1, h2]
def nd (L : List Nat) : List D := L.map fun (x : Nat) => D.int (x : Int)
theorem lc_nat {Γ : Gam} {it : It} {i : Nat} {t : E} {own : List (Str × Nat)} {ρ : Rho} {κ κ1 : Kp} {L : List Nat} (q : Nat → Bool) (h : evI Γ it ρ κ = .ok (nd L) κ1) (hn : L.length ≤ LIM) (hi : i < ρ.length)
    (h2 : ∀ x ∈ L, ∃ fr, evE Γ t ((wipeR ρ (own.map (·.2))).set i (.val (.int (x : Int)))) κ1 = .ok (.bl (q x)) fr κ1) : evE Γ (.lc it (.nm i) (.so t) (.var i) own) ρ κ = .ok (.lst (nd (L.filter q))) true κ1 := by
  have := lc_filter (Γ := Γ) (it := it) (tg := .nm i) (t := t) (e := .var i) (own := own) (fun d => match d with | .int v => q v.toNat | _ => false) id h (by unfold nd; rw [List.length_map]; exact hn) (fun d hd => by
    obtain ⟨x, hx, rfl⟩ := List.mem_map.mp hd
    obtain ⟨fr, e⟩ := h2 x hx
    refine ⟨_, by rw [s_nm]; rfl, ⟨_, fr, e, rfl⟩, fun _ => ⟨false, ?_⟩⟩
    have hl : i < (wipeR ρ (own.map (·.2))).length := by rw [wipeR_length]; exact hi
    simp [List.getElem?_set_self hl])
  rw [this]
  unfold nd
  rw [List.map_id, List.filter_map]
  rfl
theorem rngD_nd (n : Nat) : rngD 0 n = nd (List.range n) := by
  unfold rngD nd
  congr 1
  funext x
  rw [Int.zero_add]
theorem flat_ones (n : Nat) : flatL (List.replicate n (.int 1)) = true := by
  induction n with
  | zero => rfl
  | succ n ih => rw [List.replicate_succ]; show ((D.int 1).flat && flatL _) = true; rw [ih]; rfl
/-- a class of the law's list holds the word -/
def hitP (b : Nat) (p : Nat × Nat) : Bool := decide (((b : Int) - (p.1 : Int)) % (2:Int) ^ p.2 = 0)
theorem every_iff {R : Nat → Bool} {w j b : Nat} (hj : j ≤ w) (hb : b < 2 ^ j) : ((((List.range (2 ^ w)).filter fun x => decide (x % 2 ^ j = b)).filter fun x => !R x) = []) ↔ allC R w b j = true := by
  rw [List.filter_eq_nil_iff, allC_iff]
  have e3 : 2 ^ w = 2 ^ j * 2 ^ (w - j) := by rw [← Nat.pow_add, Nat.add_sub_cancel' hj]
  constructor
  · intro h x hx
    have hm : b + 2 ^ j * x ∈ (List.range (2 ^ w)).filter fun x => decide (x % 2 ^ j = b) := by
      refine List.mem_filter.mpr ⟨List.mem_range.mpr ?_, ?_⟩
      · rw [e3]
        calc b + 2 ^ j * x < 2 ^ j + 2 ^ j * x := by omega
          _ = 2 ^ j * (x + 1) := by rw [Nat.mul_add, Nat.mul_one, Nat.add_comm]
          _ ≤ _ := Nat.mul_le_mul_left _ hx
      · rw [decide_eq_true_eq, Nat.add_mul_mod_self_left, Nat.mod_eq_of_lt hb]
    have := h _ hm
    simpa using this
  · intro h x hx
    obtain ⟨h1, h2⟩ := List.mem_filter.mp hx
    have h2 : x % 2 ^ j = b := of_decide_eq_true h2
    have e : x = b + 2 ^ j * (x / 2 ^ j) := by rw [← h2]; exact (Nat.mod_add_div x (2 ^ j)).symm
    have hd : x / 2 ^ j < 2 ^ (w - j) := by
      rw [Nat.div_lt_iff_lt_mul (p2 j), Nat.mul_comm, ← e3]
      exact List.mem_range.mp h1
    have := h _ hd
    rw [← e] at this
    rw [this]; simp
theorem Lpt_len {R : Nat → Bool} {w : Nat} : ∀ j m, (Lto R w j).length ≤ 2 ^ j ∧ (Lpt R w j m).length ≤ 2 ^ j + m
  | 0, m => by
    have h0 : (Lto R w 0).length = 0 := by simp [Lto]
    refine ⟨by omega, ?_⟩
    unfold Lpt
    rw [List.length_append, List.length_map, h0]
    have := List.length_filter_le (condL R w 0) (List.range m)
    rw [List.length_range] at this
    omega
  | j + 1, m => by
    have h1 : (Lto R w (j + 1)).length ≤ 2 ^ (j + 1) := by
      rw [Lto_succ]
      have := (Lpt_len (R := R) (w := w) j (2 ^ j)).2
      rw [Nat.pow_succ]; omega
    refine ⟨h1, ?_⟩
    unfold Lpt
    rw [List.length_append, List.length_map]
    have := List.length_filter_le (condL R w (j + 1)) (List.range m)
    rw [List.length_range] at this
    omega
theorem lawc_body (l w : Nat) (hw : w ≤ 16) (R : Nat → Bool) (j b : Nat) (hj : j ≤ w) (hb : b < 2 ^ j) (z : Slot) (κ : Kp) :
    evB (run PRG l) b_law_classes_1 [.val (.int (w : Int)), .val (.lst (nd ((List.range (2 ^ w)).filter R))), .own (.lst ((Lpt R w j b).map pN)), .val (.int (j : Int)), .val (.int (b : Int)), z, .no, .no, .no] κ =
      .next [.val (.int (w : Int)), .val (.lst (nd ((List.range (2 ^ w)).filter R))), .own (.lst ((Lpt R w j (b + 1)).map pN)), .val (.int (j : Int)), .val (.int (b : Int)), .val (.lst (nd ((List.range (2 ^ w)).filter fun x => decide (x % 2 ^ j = b)))), .no, .no, .no] κ := by
  have h2w := Nat.pow_le_pow_right (n := 2) (by decide) hw
  have h2j := Nat.pow_le_pow_right (n := 2) (by decide) hj
  have g1 : (w : Int) ≤ 100000 := by omega
  have g2 : (j : Int) ≤ 100000 := by omega
  have hPj := pwp j
  have bb : big (b : Int) = true := bigR (by omega) (by omega)
  have hll := (Lpt_len (R := R) (w := w) j b).2
  let WS : D := .lst (nd ((List.range (2 ^ w)).filter R))
  let EV : List Nat := (List.range (2 ^ w)).filter fun x => decide (x % 2 ^ j = b)
  have e1 : evS (run PRG l) (.set 5 false (.lc (.rng (.cons (.bin .shl (.lit (.int 1)) (.var 0)) .nil)) (.nm 6) (.so (.cmp .eq (.bin .mod (.bi .int (.cons (.bin .sub (.var 6) (.var 4)) .nil)) (.bin .shl (.lit (.int 1)) (.var 3))) (.lit (.int 0)))) (.var 6) [("one", 6)]))
      [.val (.int (w : Int)), .val WS, .own (.lst ((Lpt R w j b).map pN)), .val (.int (j : Int)), .val (.int (b : Int)), z, .no, .no, .no] κ =
      .next [.val (.int (w : Int)), .val WS, .own (.lst ((Lpt R w j b).map pN)), .val (.int (j : Int)), .val (.int (b : Int)), .val (.lst (nd EV)), .no, .no, .no] κ := by
    have hc := lc_nat (Γ := run PRG l) (it := .rng (.cons (.bin .shl (.lit (.int 1)) (.var 0)) .nil)) (i := 6) (t := .cmp .eq (.bin .mod (.bi .int (.cons (.bin .sub (.var 6) (.var 4)) .nil)) (.bin .shl (.lit (.int 1)) (.var 3))) (.lit (.int 0))) (own := [("one", 6)])
      (ρ := [.val (.int (w : Int)), .val WS, .own (.lst ((Lpt R w j b).map pN)), .val (.int (j : Int)), .val (.int (b : Int)), z, .no, .no, .no]) (κ := κ) (κ1 := κ) (L := List.range (2 ^ w)) (fun x => decide (x % 2 ^ j = b)) (by
        rw [← rngD_nd]
        exact rng_it l (2 ^ w) (f := false) (by simp [big1, g1]) (by omega)) (by rw [List.length_range]; unfold LIM; omega) (by simp) (fun x hx => by
        have hx' := List.mem_range.mp hx
        have bx : big (x : Int) = true := bigR (by omega) (by omega)
        have bs : big ((x : Int) - (b : Int)) = true := big63 (by omega) (by omega)
        refine ⟨false, ?_⟩
        have hcg := cgI (b := x) (r := b) (k := j) hb
        simp [wipeR, bb, bx, bs, big1, g2, hPj]
        exact hcg)
    rw [s_set, hc]
    rfl
  have e2 : evE (run PRG l) (.cmp .eq (.lc (.seq (.var 5)) (.nm 6) (.so (.niA (.var 6) (.var 1))) (.var 6) [("one", 6)]) (.lst .nil))
      [.val (.int (w : Int)), .val WS, .own (.lst ((Lpt R w j b).map pN)), .val (.int (j : Int)), .val (.int (b : Int)), .val (.lst (nd EV)), .no, .no, .no] κ = .ok (.bl (allC R w b j)) false κ := by
    have hc := lc_nat (Γ := run PRG l) (it := .seq (.var 5)) (i := 6) (t := .niA (.var 6) (.var 1)) (own := [("one", 6)])
      (ρ := [.val (.int (w : Int)), .val WS, .own (.lst ((Lpt R w j b).map pN)), .val (.int (j : Int)), .val (.int (b : Int)), .val (.lst (nd EV)), .no, .no, .no]) (κ := κ) (κ1 := κ) (L := EV) (fun x => !R x) (seq_at (fr := false) (.inl (by simp)))
      (by have := List.length_filter_le (fun x => decide (x % 2 ^ j = b)) (List.range (2 ^ w)); rw [List.length_range] at this; have h2 : EV.length ≤ 2 ^ w := this; unfold LIM; omega) (by simp) (fun x hx => by
        have hx' := List.mem_range.mp (List.mem_filter.mp hx).1
        refine ⟨false, ?_⟩
        have hni := niA_ints ((List.range (2 ^ w)).filter R) (x : Int)
        have hm : decide (x ∈ (List.range (2 ^ w)).filter R) = R x := by
          cases h : R x with
          | true => exact decide_eq_true (List.mem_filter.mpr ⟨List.mem_range.mpr hx', h⟩)
          | false => exact decide_eq_false fun g => by have := (List.mem_filter.mp g).2; rw [h] at this; cases this
        rw [Int.toNat_natCast, hm, decide_eq_true (show (0:Int) ≤ (x : Int) by omega), Bool.true_and] at hni
        have hni' : fNiA (.int (x : Int)) WS = some (.bl (!R x), false) := hni
        simp [wipeR, hni'])
    have hq := eq_nil (EV.filter fun x => !R x)
    have hb2 : decide ((EV.filter fun x => !R x) = []) = allC R w b j := by
      rw [Bool.eq_iff_iff, decide_eq_true_eq]
      exact every_iff hj hb
    rw [hb2] at hq
    have hq' : Cop.eq.f (.lst (nd (EV.filter fun x => !R x))) (.lst []) = some (.bl (allC R w b j), false) := hq
    simp [hc, hq']
  let HP : D → Bool := fun d => match d with | .tup [.int r, .int k] => decide (((b : Int) - r) % (2:Int) ^ k.toNat = 0) | _ => false
  have e3 : evE (run PRG l) (.cmp .eq (.lend 2 (.lc (.seq (.var 2)) (.tp (.cons (.nm 7) (.cons (.nm 8) .nil))) (.so (.cmp .eq (.bin .mod (.bi .int (.cons (.bin .sub (.var 4) (.var 7)) .nil)) (.bin .shl (.lit (.int 1)) (.var 8))) (.lit (.int 0)))) (.lit (.int 1)) [("r", 7), ("k", 8)])) (.lst .nil))
      [.val (.int (w : Int)), .val WS, .own (.lst ((Lpt R w j b).map pN)), .val (.int (j : Int)), .val (.int (b : Int)), .val (.lst (nd EV)), .no, .no, .no] κ = .ok (.bl ((((Lpt R w j b).map pN).filter HP).map (fun _ => D.int 1)).isEmpty) false κ := by
    have hc := lc_filter (Γ := run PRG l) (it := .seq (.var 2)) (tg := .tp (.cons (.nm 7) (.cons (.nm 8) .nil))) (t := .cmp .eq (.bin .mod (.bi .int (.cons (.bin .sub (.var 4) (.var 7)) .nil)) (.bin .shl (.lit (.int 1)) (.var 8))) (.lit (.int 0))) (e := .lit (.int 1)) (own := [("r", 7), ("k", 8)])
      (ρ := [.val (.int (w : Int)), .val WS, .val (.lst ((Lpt R w j b).map pN)), .val (.int (j : Int)), .val (.int (b : Int)), .val (.lst (nd EV)), .no, .no, .no]) (κ := κ) (κ1 := κ) (ds := (Lpt R w j b).map pN) HP (fun _ => D.int 1) (seq_at (fr := false) (.inl (by simp)))
      (by rw [List.length_map]; unfold LIM; omega) (fun d hd => by
        obtain ⟨q, hq, rfl⟩ := List.mem_map.mp hd
        obtain ⟨r, k⟩ := q
        have hrk : k ≤ w ∧ r < 2 ^ k := by
          rcases Lpt_mem.mp hq with h | ⟨rfl, h2, _⟩
          · have := Lto_mem.mp h; exact ⟨by omega, this.2.1⟩
          · exact ⟨hj, by omega⟩
        have h2k := Nat.pow_le_pow_right (n := 2) (by decide) hrk.1
        have br : big (r : Int) = true := bigR (by omega) (by omega)
        have bs : big ((b : Int) - (r : Int)) = true := big63 (by omega) (by omega)
        have g3 : (k : Int) ≤ 100000 := by omega
        have hPk := pwp k
        refine ⟨_, tp2E, ⟨.bl (decide (((b : Int) - (r : Int)) % (2:Int) ^ k = 0)), false, ?_, ?_⟩, fun _ => ⟨false, by simp⟩⟩
        · simp [wipeR, bb, br, bs, big1, g3, hPk]
        · show some _ = some (decide (((b : Int) - (r : Int)) % (2:Int) ^ ((k : Int)).toNat = 0))
          rw [Int.toNat_natCast])
    have hl : evE (run PRG l) (.lend 2 (.lc (.seq (.var 2)) (.tp (.cons (.nm 7) (.cons (.nm 8) .nil))) (.so (.cmp .eq (.bin .mod (.bi .int (.cons (.bin .sub (.var 4) (.var 7)) .nil)) (.bin .shl (.lit (.int 1)) (.var 8))) (.lit (.int 0)))) (.lit (.int 1)) [("r", 7), ("k", 8)]))
      [.val (.int (w : Int)), .val WS, .own (.lst ((Lpt R w j b).map pN)), .val (.int (j : Int)), .val (.int (b : Int)), .val (.lst (nd EV)), .no, .no, .no] κ = _ := lend_own (d := .lst ((Lpt R w j b).map pN)) rfl hc (by
        rw [List.map_const']
        exact flat_ones _)
    have hq : ∀ xs : List D, Cop.eq.f (.lst xs) (.lst []) = some (.bl xs.isEmpty, false) := fun _ => rfl
    simp [hl, hq]
  have hHP : ((((Lpt R w j b).map pN).filter HP).map (fun _ => D.int 1)).isEmpty = true ↔ ¬ ∃ p ∈ Lpt R w j b, (((b : Int) - (p.1 : Int)) % (2:Int) ^ p.2 = 0) := by
    rw [List.isEmpty_iff, List.map_eq_nil_iff, List.filter_eq_nil_iff]
    constructor
    · rintro h ⟨p, hp, hq⟩
      refine h (pN p) (List.mem_map.mpr ⟨p, hp, rfl⟩) ?_
      show decide (((b : Int) - (p.1 : Int)) % (2:Int) ^ ((p.2 : Int)).toNat = 0) = true
      rw [Int.toNat_natCast, hq]; rfl
    · intro h d hd hq
      obtain ⟨p, hp, rfl⟩ := List.mem_map.mp hd
      refine h ⟨p, hp, ?_⟩
      have hq' : decide (((b : Int) - (p.1 : Int)) % (2:Int) ^ ((p.2 : Int)).toNat = 0) = true := hq
      rw [Int.toNat_natCast] at hq'
      exact of_decide_eq_true hq'
  have hval : allC R w b j = true → ((((Lpt R w j b).map pN).filter HP).map (fun _ => D.int 1)).isEmpty = condL R w j b := fun h => by
    have hl := law_cond hj hb h
    rw [Bool.eq_iff_iff, hHP, hl]
    cases condL R w j b <;> simp
  have hno : allC R w b j = false → condL R w j b = false := fun h => by unfold condL; rw [h]; rfl
  show evB (run PRG l) b_law_classes_1 [.val (.int (w : Int)), .val WS, .own (.lst ((Lpt R w j b).map pN)), .val (.int (j : Int)), .val (.int (b : Int)), z, .no, .no, .no] κ = .next [.val (.int (w : Int)), .val WS, .own (.lst ((Lpt R w j (b + 1)).map pN)), .val (.int (j : Int)), .val (.int (b : Int)), .val (.lst (nd EV)), .no, .no, .no] κ
  simp only [b_law_classes_1]
  rw [s_B1, e1, s_t1, s_B1, s_if, Lpt_succ]
  have happ : evS (run PRG l) (.app 2 (.tup (.cons (.var 4) (.cons (.var 3) .nil)))) [.val (.int (w : Int)), .val WS, .own (.lst ((Lpt R w j b).map pN)), .val (.int (j : Int)), .val (.int (b : Int)), .val (.lst (nd EV)), .no, .no, .no] κ = .next [.val (.int (w : Int)), .val WS, .own (.lst ((Lpt R w j b).map pN ++ [pN (b, j)])), .val (.int (j : Int)), .val (.int (b : Int)), .val (.lst (nd EV)), .no, .no, .no] κ :=
    app_at (x := pN (b, j)) (f := false) (κ' := κ) rfl (by simp [pN]) (by rw [List.length_map]; unfold LIM; omega)
  cases ha : allC R w b j with
  | false =>
    rw [ha] at e2
    rw [hno ha]
    simp [e2]
  | true =>
    rw [ha] at e2
    rw [hval ha] at e3
    cases hcd : condL R w j b with
    | false =>
      rw [hcd] at e3
      simp [e2, e3]
    | true =>
      rw [hcd] at e3
      simp [e2, e3, happ]
theorem r_lawc (l w : Nat) (hw : w ≤ 16) (R : Nat → Bool) (κ : Kp) : run PRG (l+1) 32 [.int (w : Int), .lst (nd ((List.range (2 ^ w)).filter R))] κ = .ok (.lst ((srt (Lto R w (w + 1))).map pairD)) true κ := by
  obtain ⟨ρ', κ', e, rfl, z1, z2, z3, rfl⟩ := for_rng (b := evB (run PRG l) b_law_classes_2) (j := 3) (lo := 0) (n := w + 1) (fun j ρ κ0 => κ0 = κ ∧ ∃ z1 z2 z3, ρ = [.val (.int (w : Int)), .val (.lst (nd ((List.range (2 ^ w)).filter R))), .own (.lst ((Lto R w j).map pN)), z1, z2, z3, .no, .no, .no])
    (ρ := [.val (.int (w : Int)), .val (.lst (nd ((List.range (2 ^ w)).filter R))), .own (.lst []), .no, .no, .no, .no, .no, .no]) (κ := κ) ⟨rfl, .no, .no, .no, by simp [Lto]⟩ (by
    rintro j ρ κ0 hj ⟨rfl, z1, z2, z3, rfl⟩
    have g1 : (j : Int) ≤ 100000 := by omega
    have h2j := Nat.pow_le_pow_right (n := 2) (by decide) (show j ≤ 16 by omega)
    obtain ⟨ρ', κ', e, rfl, y2, y3, rfl⟩ := for_rng (b := evB (run PRG l) b_law_classes_1) (j := 4) (lo := 0) (n := 2 ^ j) (fun b ρ κ1 => κ1 = κ0 ∧ ∃ z2 z3, ρ = [.val (.int (w : Int)), .val (.lst (nd ((List.range (2 ^ w)).filter R))), .own (.lst ((Lpt R w j b).map pN)), .val (.int (j : Int)), z2, z3, .no, .no, .no])
      (ρ := [.val (.int (w : Int)), .val (.lst (nd ((List.range (2 ^ w)).filter R))), .own (.lst ((Lto R w j).map pN)), .val (.int (j : Int)), z2, z3, .no, .no, .no]) (κ := κ0) ⟨rfl, z2, z3, by rw [Lpt_zero]⟩ (by
      rintro b ρ κ1 hb ⟨rfl, z2, z3, rfl⟩
      have := lawc_body l w hw R j b (by omega) hb z3 κ1
      rw [Int.zero_add]
      exact ⟨_, κ1, .inl this, rfl, _, _, rfl⟩)
    refine ⟨[.val (.int (w : Int)), .val (.lst (nd ((List.range (2 ^ w)).filter R))), .own (.lst ((Lto R w (j + 1)).map pN)), .val (.int (j : Int)), y2, y3, .no, .no, .no], κ', .inl ?_, rfl, _, _, _, rfl⟩
    rw [Int.zero_add]
    simp only [b_law_classes_2, List.set_cons_succ, List.set_cons_zero]
    rw [s_B1, for_at (rng_it l (2 ^ j) (f := false) (κ' := κ') (by simp [big1, g1]) (by omega)), s_nm, e, Lto_succ]
    simp -implicitDefEqProofs)
  rw [run_at (f := f_law_classes) rfl rfl]
  simp -implicitDefEqProofs [f_law_classes]
  rw [for_at (rng_it l (w + 1) (f := false) (κ' := κ') (by simp) (by omega)), s_nm, e, s_t1, s_B1, frz_own (d := .lst ((Lto R w (w + 1)).map pN)) rfl, s_t1]
  have h3 := srt_pN (Lto R w (w + 1))
  simp -implicitDefEqProofs [h3]
theorem enm_at {Γ : Gam} {ρ : Rho} {κ κ' : Kp} {es : Es} {xs : List D} (h : evEs Γ es ρ κ = .ok [.tup xs] κ') : evI Γ (.enm es) ρ κ = .ok (numd 0 xs) κ' := by
  rw [evI]; unfold cEnm; rw [h]; rfl
def enF (M : Int) : D → D
  | .tup [.int a, .int b] => .int ((a * b) % M)
  | _ => .non
theorem enm_map (M : Int) : ∀ (p : List Int) (n : Nat), (numd n (ID p)).map (enF M) = ID (enm M n p)
  | [], _ => rfl
  | a :: r, n => by
    have := enm_map M r (n + 1)
    show enF M (.tup [.int (n : Int), .int a]) :: (numd (n + 1) (ID r)).map _ = _
    rw [this]
    show _ = D.int (((n : Int) * a) % M) :: ID (enm M ((n : Int) + 1) r)
    rfl
theorem numd_mem : ∀ (p : List Int) (n : Nat) (d : D), d ∈ numd n (ID p) → ∃ (i : Nat) (v : Int), i < n + p.length ∧ v ∈ p ∧ d = .tup [.int (i : Int), .int v]
  | [], _, d, h => by simp [numd, ID] at h
  | a :: r, n, d, h => by
    have h' : d ∈ D.tup [.int (n : Int), .int a] :: numd (n + 1) (ID r) := h
    rcases List.mem_cons.mp h' with e | e
    · exact ⟨n, a, by simp, by simp, e⟩
    · obtain ⟨i, v, h1, h2, h3⟩ := numd_mem r (n + 1) d e
      exact ⟨i, v, by simp; omega, List.mem_cons_of_mem _ h2, h3⟩
def nzl : List Int → List Int
  | [] => [0]
  | a :: r => a :: r
theorem steep_nzl (M : Int) (p : List Int) : steep M p = nzl ((enm M 0 p).drop 1) := by
  unfold steep nzl; rfl
theorem enm_cons (M : Int) (p : List Int) (h : 1 ≤ p.length) : ∃ b t, enm M 0 p = b :: t := by
  cases p with
  | nil => simp at h
  | cons a r => exact ⟨_, _, rfl⟩
theorem ne_nilI (t : List Int) : Cop.ne.f (.lst (ID t)) (.lst []) = some (.bl (!t.isEmpty), false) := by
  cases t <;> rfl
theorem ne_nilT (t : List Int) : Cop.ne.f (.tup (ID t)) (.tup []) = some (.bl (!t.isEmpty), false) := by
  cases t with
  | nil => rfl
  | cons a r =>
    rw [s_net]
    have h : shpL (ID (a :: r)) 59 = true := by
      have : ∀ t : List Int, shpL (ID t) 59 = true := by
        intro t
        induction t with
        | nil => rfl
        | cons a r ih => show ((D.int a).shp 59 && shpL (ID r) 59) = true; rw [ih]; simp
      exact this _
    rw [h]; rfl
theorem r_derin (l w : Nat) (hw : w ≤ 16) (p : List Int) (hp : Pol w p) (hn : 1 ≤ p.length) (hn2 : p.length ≤ 100) (κ : Kp) : run PRG (l+2) 16 [.int (w : Int), .tup (ID p)] κ = .ok (.tup (ID (steep (2 ^ w) p))) false κ := by
  have gm := r_mod l w κ (by omega)
  rw [pwc] at gm
  have h16 := pw16 hw
  have hP := pwp w
  have e1 : evE (run PRG (l+1)) (.lc (.enm (.cons (.var 1) .nil)) (.tp (.cons (.nm 4) (.cons (.nm 5) .nil))) .no (.bin .mod (.bin .mul (.var 4) (.var 5)) (.var 2)) [("place", 4), ("number", 5)]) [.val (.int (w : Int)), .val (.tup (ID p)), .val (.int ((2:Int) ^ w)), .no, .no, .no] κ = .ok (.lst (ID (enm (2 ^ w) 0 p))) true κ := by
    have := lc_map (Γ := run PRG (l+1)) (it := .enm (.cons (.var 1) .nil)) (tg := .tp (.cons (.nm 4) (.cons (.nm 5) .nil))) (e := .bin .mod (.bin .mul (.var 4) (.var 5)) (.var 2)) (own := [("place", 4), ("number", 5)]) (ρ := [.val (.int (w : Int)), .val (.tup (ID p)), .val (.int ((2:Int) ^ w)), .no, .no, .no]) (κ := κ) (κ1 := κ) (ds := numd 0 (ID p)) (enF (2 ^ w)) (enm_at (by simp)) (by rw [numd_len, ID_len]; unfold LIM; omega) (fun d hd => by
      obtain ⟨i, v, h1, h2, rfl⟩ := numd_mem p 0 d hd
      have hv := hp v h2
      have b1 : big (i : Int) = true := bigR (by omega) (by omega)
      have b2 : big v = true := bigR (by omega) (by omega)
      obtain ⟨g1, g2⟩ := mulb (a := (i : Int)) (b := v) (A := 100) (B := 65536) (by omega) (by omega) hv.1 (by omega)
      have b3 : big ((i : Int) * v) = true := bigR g1 (by omega)
      exact ⟨_, false, tp2E, by simp [wipeR, b1, b2, b3, hP, enF]⟩)
    rw [this]
    have e := enm_map (2 ^ w) p 0
    rw [e]; rfl
  obtain ⟨b, t, et⟩ := enm_cons (2 ^ w) p hn
  rw [run_at (f := f_derived_in) rfl rfl]
  rw [et] at e1
  have ec : cutD (ID (b :: t)) (some 1) none = ID t := cut_tail _ _
  have es : steep (2 ^ w) p = nzl t := by rw [steep_nzl, et]; rfl
  have en := ne_nilI t
  rw [es]
  simp only [f_derived_in]
  cases t with
  | nil =>
    have en' : Cop.ne.f (.lst (ID [])) (.lst []) = some (.bl false, false) := en
    simp [gm, e1, ec, en', nzl]
    rfl
  | cons c r =>
    have en' : Cop.ne.f (.lst (ID (c :: r))) (.lst []) = some (.bl true, false) := en
    simp [gm, e1, ec, en', nzl]
theorem r_der (l w : Nat) (hw1 : 1 ≤ w) (hw : w ≤ 16) (p : List Int) (hp : Pol w p) (hn : 1 ≤ p.length) (hn2 : p.length ≤ 20) (κ : Kp) : run PRG (l+6) 27 [.int (w : Int), .tup (ID p)] κ = .ok (.tup (ID (steep (2 ^ w) p))) false κ := by
  have h1 := r_rp l w hw1 hw p hp hn hn2 κ
  have h2 := r_derin (l + 3) w hw p hp hn (by omega) κ
  rw [run_at (f := f_derived) rfl rfl]
  simp [f_derived, h1, h2]
theorem enm_pol (w : Nat) : ∀ (p : List Int) (i : Int), Pol w (enm (2 ^ w) i p)
  | [], i, v, h => by simp [enm] at h
  | a :: r, i, v, h => by
    rcases List.mem_cons.mp h with e | e
    · subst e; exact ⟨Int.emod_nonneg _ (by have := pwp w; omega), Int.emod_lt_of_pos _ (pwp w)⟩
    · exact enm_pol w r (i + 1) v e
theorem steep_pol (w : Nat) (p : List Int) : Pol w (steep (2 ^ w) p) := by
  unfold steep
  split
  · intro v hv
    have : v = 0 := by simpa using hv
    subst this
    exact ⟨by omega, pwp w⟩
  · rename_i a r e
    intro v hv
    rw [← e] at hv
    exact enm_pol w p 0 v (List.mem_of_mem_drop hv)
theorem enm_len (M : Int) : ∀ (p : List Int) (i : Int), (enm M i p).length = p.length
  | [], _ => rfl
  | a :: r, i => by simp [enm, enm_len M r (i + 1)]
theorem steep_len (M : Int) (p : List Int) : 1 ≤ (steep M p).length ∧ (steep M p).length ≤ p.length + 1 := by
  unfold steep
  have := enm_len M p 0
  split
  · simp
  · rename_i a r e
    have h := congrArg List.length e
    rw [List.length_drop, this] at h
    simp at h ⊢
    omega
theorem ipow_dvd {a b : Nat} (h : a ≤ b) : (2:Int) ^ a ∣ (2:Int) ^ b := ⟨(2:Int) ^ (b - a), by rw [← Int.pow_add]; congr 1; omega⟩
theorem r_inv (l n u : Nat) (κ : Kp) (h1 : 1 ≤ n) (hn : n ≤ 16) (hu : u < 2 ^ n) (ho : u % 2 = 1) : ∃ x, x < 2 ^ n ∧ u * x % 2 ^ n = 1 % 2 ^ n ∧ run PRG (l+2) 18 [.int (n : Int), .int (u : Int)] κ = .ok (.int (x : Int)) false κ := by
  have hM : 0 < 2 ^ n := Nat.pow_pos (by decide)
  have hM2 := two16 hn
  have hq : (0:Int) < 2 ^ n := Int.pow_pos (by decide)
  have hh := wh_run (t := evE (run PRG (l+1)) t_inverse_of_1) (b := evB (run PRG (l+1)) b_inverse_of_1)
    (fun k ρ κ0 => ∃ (i f : Nat), k + i = 5 ∧ f < 2 ^ n ∧ ρ = [.val (.int (n : Int)), .val (.int (u : Int)), .val (.int ((2:Int) ^ n)), .val (.int (f : Int)), .val (.int ((2 ^ i : Nat) : Int))] ∧ ((2:Int) ^ (min (2 ^ i) n)) ∣ 1 - u * f ∧ κ0 = κ)
    (fun ρ κ0 => (∃ f : Nat, f < 2 ^ n ∧ ρ[3]? = some (.val (.int (f : Int))) ∧ ((2:Int) ^ n) ∣ 1 - u * f) ∧ κ0 = κ) FUEL 5 [.val (.int (n : Int)), .val (.int (u : Int)), .val (.int ((2:Int) ^ n)), .val (.int 1), .val (.int 1)] κ (by unfold FUEL; omega)
    ⟨0, 1, rfl, Nat.one_lt_two_pow (by omega), rfl, by
      rw [show min (2 ^ 0) n = 1 from by omega]
      omega, rfl⟩ ?_
  · obtain ⟨ρ', κ', e, ⟨f, hf, h3, hd⟩, rfl⟩ := hh
    refine ⟨f, hf, ?_, ?_⟩
    · have h2 : ((u * f : Nat) : Int) % ((2 ^ n : Nat) : Int) = (1 : Int) % ((2 ^ n : Nat) : Int) := by
        rw [Int.emod_eq_emod_iff_emod_sub_eq_zero, cast2]
        apply Int.emod_eq_zero_of_dvd
        have : ((u * f : Nat) : Int) - 1 = -(1 - (u : Int) * f) := by rw [Int.natCast_mul]; omega
        rw [this]
        exact Int.dvd_neg.mpr hd
      have h5 : ((u * f % 2 ^ n : Nat) : Int) = ((1 % 2 ^ n : Nat) : Int) := by rw [Int.natCast_emod, h2]; rfl
      omega
    · rw [run_at (f := f_inverse_of) rfl rfl]
      have hmod := r_mod l n κ' (by omega)
      rw [cast2] at hmod
      simp [f_inverse_of, hmod, s_whl, e, h3]
  · rintro k ρ κ0 ⟨i, f, hk, hf, rfl, hd, rfl⟩
    have b1 := bigN (show u ≤ 2 ^ 16 by omega)
    have b2 := bigN (show f ≤ 2 ^ 16 by omega)
    by_cases hc : 2 ^ i < n
    · have hi : i ≤ 4 := by
        apply Decidable.byContradiction
        intro z
        have : 2 ^ 5 ≤ 2 ^ i := Nat.pow_le_pow_right (by decide) (by omega)
        omega
      have hc' : (2:Int) ^ i < (n : Int) := by have := cast2 i; omega
      have b3 : big (2 - (u : Int) * f) = true := by
        have : u * f ≤ 2 ^ 16 * 2 ^ 16 := Nat.mul_le_mul (by omega) (by omega)
        rw [← Int.natCast_mul]
        exact big63 (by omega) (by omega)
      have b4 : big ((2:Int) ^ i) = true := by rw [← cast2]; exact bigN (Nat.pow_le_pow_right (by decide) (by omega))
      have b5 : big 2 = true := by decide +kernel
      have hnn : 0 ≤ (f : Int) * (2 - (u : Int) * f) % 2 ^ n := Int.emod_nonneg _ (by omega)
      have hlt := Int.emod_lt_of_pos ((f : Int) * (2 - (u : Int) * f)) hq
      obtain ⟨g, hg⟩ := Int.eq_ofNat_of_zero_le hnn
      have hg' : (f : Int) * (2 - (u : Int) * f) % 2 ^ n = (g : Int) := hg
      refine ⟨.bl true, false, κ0, true, by simp [t_inverse_of_1, hc'], rfl, .inr ⟨rfl, [.val (.int (n : Int)), .val (.int (u : Int)), .val (.int ((2:Int) ^ n)), .val (.int (g : Int)), .val (.int ((2 ^ (i + 1) : Nat) : Int))], κ0, .inl ?_, k - 1, by omega, i + 1, g, by omega, ?_, rfl, ?_, rfl⟩⟩
      · have hau : evS (run PRG (l + 1)) (S.aug 4 Aop.mul (E.lit (Lit.int 2))) [.val (.int (n : Int)), .val (.int (u : Int)), .val (.int ((2:Int) ^ n)), .val (.int (g : Int)), .val (.int ((2:Int) ^ i))] κ0 = .next [.val (.int (n : Int)), .val (.int (u : Int)), .val (.int ((2:Int) ^ n)), .val (.int (g : Int)), .val (.int ((2:Int) ^ i * 2))] κ0 := by
          rw [aug_at (d := .int ((2:Int) ^ i)) (x := .int 2) (z := .int ((2:Int) ^ i * 2)) (f := false) (κ' := κ0) rfl (by simp) (by simp [b4, b5])]
          rfl
        simp [b_inverse_of_1, b1, b2, b3, hq, hg', hau, -s_aug, Int.pow_succ]
      · have := cast2 n; omega
      · -- the error is squared
        rw [Nat.min_eq_left (Nat.le_of_lt hc)] at hd
        obtain ⟨c, hcc⟩ := hd
        have h5 : (2:Int) ^ n ∣ (f : Int) * (2 - (u : Int) * f) - g := by
          rw [← hg']
          exact Int.dvd_self_sub_emod
        have h6 : (2:Int) ^ min (2 ^ (i + 1)) n ∣ (2:Int) ^ n := ipow_dvd (Nat.min_le_right _ _)
        have h7 : (2:Int) ^ min (2 ^ (i + 1)) n ∣ (2:Int) ^ (2 ^ (i + 1)) := ipow_dvd (Nat.min_le_left _ _)
        have h8 : (2:Int) ^ (2 ^ (i + 1)) = (2:Int) ^ (2 ^ i) * (2:Int) ^ (2 ^ i) := by rw [← Int.pow_add]; congr 1; rw [Nat.pow_succ]; omega
        have h9 : 1 - (u : Int) * g = (2:Int) ^ (2 ^ (i + 1)) * (c * c) + u * ((f : Int) * (2 - (u : Int) * f) - g) := by
          rw [h8]
          grind
        rw [h9]
        exact Int.dvd_add (Int.dvd_trans h7 (Int.dvd_mul_right _ _)) (Int.dvd_trans h6 (Int.dvd_trans h5 (Int.dvd_mul_left _ _)))
    · have hc' : ¬ (2:Int) ^ i < (n : Int) := by have := cast2 i; omega
      refine ⟨.bl false, false, κ0, false, by simp [t_inverse_of_1, hc'], rfl, .inl ⟨rfl, ⟨f, hf, by simp, ?_⟩, rfl⟩⟩
      rw [Nat.min_eq_right (by omega)] at hd
      exact hd
theorem newt_body (l w : Nat) (hw1 : 1 ≤ w) (hw : w ≤ 16) (p : List Int) (hp : Pol w p) (b t x : Nat) (D0 z1 z2 z3 : Slot) (κ : Kp) (hx : x < 2 ^ w) (hd : (2:Int) ^ (min (t + 1) w) ∣ pe p x) (hxb : x % 2 = b) (hs : ∀ y : Nat, y % 2 = b → pd p y % 2 = 1) :
    ∃ x' : Nat, x' < 2 ^ w ∧ (2:Int) ^ (min (t + 2) w) ∣ pe p x' ∧ x' % 2 = b ∧ ∃ y2 y3, evB (run PRG (l+3)) b_lifted_1 [.val (.int (w : Int)), .val (.tup (ID p)), D0, .val (.tup (ID (steep (2 ^ w) p))), .val (.int (x : Int)), z1, z2, z3] κ = .next [.val (.int (w : Int)), .val (.tup (ID p)), D0, .val (.tup (ID (steep (2 ^ w) p))), .val (.int (x' : Int)), z1, y2, y3] κ := by
  have h16 := pw16 hw
  have hP := pwp w
  have h2w := two16 hw
  have e1 := r_val (l + 1) w hw p hp (x : Int) (by omega) (by omega) κ
  have e2 := r_val (l + 1) w hw (steep (2 ^ w) p) (steep_pol w p) (x : Int) (by omega) (by omega) κ
  have gm := r_mod (l + 2) w κ (by omega)
  rw [pwc] at gm
  obtain ⟨h1, h2⟩ := hor_rng (w := w) p (x : Int)
  obtain ⟨s1, s2⟩ := hor_rng (w := w) (steep (2 ^ w) p) (x : Int)
  obtain ⟨hgt, eh⟩ := Int.eq_ofNat_of_zero_le h1
  obtain ⟨slp, es⟩ := Int.eq_ofNat_of_zero_le s1
  have eh : hor (2 ^ w) p (x : Int) = (hgt : Int) := eh
  have es : hor (2 ^ w) (steep (2 ^ w) p) (x : Int) = (slp : Int) := es
  have hh : (2:Int) ^ w ∣ (hgt : Int) - pe p x := by rw [← eh, hor_eq]; exact dv_mod _ _
  have hsl : (2:Int) ^ w ∣ (slp : Int) - pd p x := by
    have a1 : (2:Int) ^ w ∣ (slp : Int) - pe (steep (2 ^ w) p) x := by rw [← es, hor_eq]; exact dv_mod _ _
    have := Int.dvd_add a1 (steep_pe ((2:Int) ^ w) x p)
    rwa [show (slp : Int) - pe (steep (2 ^ w) p) x + (pe (steep (2 ^ w) p) x - pd p x) = (slp : Int) - pd p x by omega] at this
  have hodd : slp % 2 = 1 := by
    have := par_of (Int.dvd_trans (two_dvd hw1) hsl)
    rw [hs x hxb] at this
    omega
  obtain ⟨y, hy, hyy, e3⟩ := r_inv (l + 1) w slp κ hw1 hw (by rw [es, ← pwc] at s2; exact Int.ofNat_lt.mp s2) hodd
  have hiv : (2:Int) ^ w ∣ 1 - pd p x * y := by
    have a1 : (2:Int) ^ w ∣ (1 : Int) - (slp : Int) * y := by
      have : ((slp * y % 2 ^ w : Nat) : Int) = ((1 % 2 ^ w : Nat) : Int) := by rw [hyy]
      rw [Int.natCast_emod, Int.natCast_emod, pwc, Int.natCast_mul] at this
      exact dv_of this.symm
    obtain ⟨u, hu⟩ := a1
    obtain ⟨v, hv⟩ := hsl
    exact ⟨u + v * y, by grind⟩
  have hn := newton (t := t + 1) (w := w) (by omega) hd hh hiv
  have hpar := newton_par (iv := (y : Int)) (t := t + 1) (by omega) hw1 hd hh
  obtain ⟨g1, g2⟩ := mulb (a := (hgt : Int)) (b := (y : Int)) (A := 65536) (B := 65536) (by omega) (by omega) (by omega) (by omega)
  have hnn : 0 ≤ ((x : Int) - (hgt : Int) * y) % 2 ^ w := Int.emod_nonneg _ (by omega)
  have hlt := Int.emod_lt_of_pos ((x : Int) - (hgt : Int) * y) hP
  obtain ⟨x', hx'⟩ := Int.eq_ofNat_of_zero_le hnn
  have hx' : ((x : Int) - (hgt : Int) * y) % 2 ^ w = (x' : Int) := hx'
  have hdm : (2:Int) ^ w ∣ (x' : Int) - ((x : Int) - (hgt : Int) * y) := by rw [← hx']; exact dv_mod _ _
  refine ⟨x', by rw [hx', ← pwc] at hlt; exact Int.ofNat_lt.mp hlt, ?_, ?_, .val (.int (hgt : Int)), .val (.int (slp : Int)), ?_⟩
  · have := Int.dvd_add (Int.dvd_trans (ipow_dvd (Nat.min_le_right (t + 2) w)) (pe_mod (p := p) hdm)) hn
    rwa [Int.sub_add_cancel] at this
  · have a1 := Int.dvd_add (Int.dvd_trans (two_dvd hw1) hdm) hpar
    rw [show (x' : Int) - ((x : Int) - (hgt : Int) * y) + ((x : Int) - (hgt : Int) * y - (x : Int)) = (x' : Int) - x by omega] at a1
    have := par_of a1
    omega
  · have b1 : big (hgt : Int) = true := bigR (by omega) (by omega)
    have b2 : big (y : Int) = true := bigR (by omega) (by omega)
    have b3 : big ((hgt : Int) * y) = true := bigR g1 (by omega)
    have b4 : big ((x : Int) - (hgt : Int) * y) = true := big63 (by omega) (by omega)
    rw [eh] at e1
    rw [es] at e2
    simp [b_lifted_1, e1, e2, e3, gm, b1, b2, b3, b4, hP, hx']
theorem hor_par {w : Nat} (hw1 : 1 ≤ w) (p : List Int) (x : Int) : hor (2 ^ w) p x % 2 = pe p x % 2 := by
  rw [hor_eq]
  exact par_of (Int.dvd_trans (two_dvd hw1) (dv_mod _ _))
theorem r_lift (l w : Nat) (hw1 : 1 ≤ w) (hw : w ≤ 16) (p : List Int) (hp : Pol w p) (hn : 1 ≤ p.length) (hn2 : p.length ≤ 20) (b : Nat) (hb : b ≤ 1) (κ : Kp) :
    (hor (2 ^ w) p (b : Int) % 2 = 0 → hor (2 ^ w) (steep (2 ^ w) p) (b : Int) % 2 = 1 → ∃ x : Nat, x < 2 ^ w ∧ (2:Int) ^ w ∣ pe p x ∧ x % 2 = b ∧ run PRG (l+6) 19 [.int (w : Int), .tup (ID p), .int (b : Int)] κ = .ok (.int (x : Int)) false κ) ∧
    (¬ (hor (2 ^ w) p (b : Int) % 2 = 0 ∧ hor (2 ^ w) (steep (2 ^ w) p) (b : Int) % 2 = 1) → run PRG (l+6) 19 [.int (w : Int), .tup (ID p), .int (b : Int)] κ = .exc 2 (.int (b : Int)) κ) := by
  have h16 := pw16 hw
  have hlen := steep_len ((2:Int) ^ w) p
  have e0 := r_rp l w hw1 hw p hp hn hn2 κ
  have e1 := r_btw (l + 3) (b : Int) 0 1 κ
  rw [decide_eq_true (show (0:Int) ≤ (b : Int) by omega), decide_eq_true (show (b : Int) ≤ 1 by omega)] at e1
  have e2 := r_val (l + 3) w hw p hp (b : Int) (by omega) (by omega) κ
  have e3 := r_derin (l + 3) w hw p hp hn (by omega) κ
  have e4 := r_val (l + 3) w hw (steep (2 ^ w) p) (steep_pol w p) (b : Int) (by omega) (by omega) κ
  obtain ⟨h1, h2⟩ := hor_rng (w := w) p (b : Int)
  obtain ⟨s1, s2⟩ := hor_rng (w := w) (steep (2 ^ w) p) (b : Int)
  have b1 : big (hor (2 ^ w) p (b : Int)) = true := bigR h1 (by omega)
  have b2 : big (hor (2 ^ w) (steep (2 ^ w) p) (b : Int)) = true := bigR s1 (by omega)
  constructor
  · intro q1 q2
    have hsl : pd p (b : Int) % 2 = 1 := by
      rw [hor_par hw1] at q2
      have := par_of (Int.dvd_trans (two_dvd hw1) (steep_pe ((2:Int) ^ w) (b : Int) p))
      omega
    have hs : ∀ y : Nat, y % 2 = b → pd p (y : Int) % 2 = 1 := fun y hy => by
      have : (2:Int) ∣ (y : Int) - (b : Int) := ⟨((y / 2 : Nat) : Int), by omega⟩
      have := par_of (pd_mod (p := p) this)
      omega
    have hb2 : b < 2 ^ w := by have := Nat.pow_le_pow_right (n := 2) (by decide) hw1; omega
    have hd0 : (2:Int) ^ (min 1 w) ∣ pe p (b : Int) := by
      rw [Nat.min_eq_left hw1, hor_par hw1] at *
      exact Int.dvd_of_emod_eq_zero q1
    obtain ⟨ρ', κ', e, rfl, x, y1, y2, y3, g1, g2, g3, rfl⟩ := for_rng (b := evB (run PRG (l+5)) b_lifted_1) (j := 5) (lo := 0) (n := w) (fun t ρ κ0 => κ0 = κ ∧ ∃ (x : Nat) (y1 y2 y3 : Slot), x < 2 ^ w ∧ (2:Int) ^ (min (t + 1) w) ∣ pe p x ∧ x % 2 = b ∧ ρ = [.val (.int (w : Int)), .val (.tup (ID p)), .val (.int (b : Int)), .val (.tup (ID (steep (2 ^ w) p))), .val (.int (x : Int)), y1, y2, y3])
      (ρ := [.val (.int (w : Int)), .val (.tup (ID p)), .val (.int (b : Int)), .val (.tup (ID (steep (2 ^ w) p))), .val (.int (b : Int)), .no, .no, .no]) (κ := κ) ⟨rfl, b, .no, .no, .no, hb2, hd0, by omega, rfl⟩ (by
      rintro t ρ κ0 ht ⟨rfl, x, y1, y2, y3, g1, g2, g3, rfl⟩
      obtain ⟨x', k1, k2, k3, z2, z3, k4⟩ := newt_body (l + 2) w hw1 hw p hp b t x (.val (.int (b : Int))) (.val (.int (0 + (t : Int)))) y2 y3 κ0 g1 g2 g3 hs
      exact ⟨_, κ0, .inl k4, rfl, x', _, _, _, k1, k2, k3, rfl⟩)
    refine ⟨x, g1, ?_, g3, ?_⟩
    · rwa [show min (w + 1) w = w by omega] at g2
    · rw [run_at (f := f_lifted) rfl rfl]
      simp -implicitDefEqProofs [f_lifted, e0, e1, e2, e3, e4, b1, b2, q1, q2]
      rw [for_at (rng_it l w (f := false) (κ' := κ') (by simp) (by omega)), s_nm, e]
      simp
  · intro q
    rw [run_at (f := f_lifted) rfl rfl]
    by_cases q1 : hor (2 ^ w) p (b : Int) % 2 = 0
    · have q2 : hor (2 ^ w) (steep (2 ^ w) p) (b : Int) % 2 = 0 := by
        have : ¬ hor (2 ^ w) (steep (2 ^ w) p) (b : Int) % 2 = 1 := fun z => q ⟨q1, z⟩
        omega
      simp -implicitDefEqProofs [f_lifted, e0, e1, e2, e3, e4, b1, b2, q1, q2]
    · simp -implicitDefEqProofs [f_lifted, e0, e1, e2, e3, e4, b1, b2, q1]
theorem r_isp (l w : Nat) (hw : w ≤ 16) (q : List Int) (hq : Pol w q) (hn : 1 ≤ q.length) (hn2 : q.length ≤ 20) (κ : Kp) : run PRG (l+2) 30 [.int (w : Int), .tup (ID q)] κ = .ok (.bl true) false κ := by
  have g1 : (w : Int) ≤ 100000 := by omega
  have hc := lc_filter (Γ := run PRG (l+1)) (it := .seq (.var 1)) (tg := .nm 2) (t := .or (.nt (.call 29 (.cons (.var 2) .nil))) (.one (.nt (.chain .le .lt (.lit (.int 0)) (.var 2) (.bin .shl (.lit (.int 1)) (.var 0)))))) (e := .lit (.int 1)) (own := [("number", 2)])
    (ρ := [.val (.int (w : Int)), .val (.tup (ID q)), .no]) (κ := κ) (κ1 := κ) (ds := ID q) (fun _ => false) (fun _ => D.int 1) (seq_at (fr := false) (.inr (by simp))) (by rw [ID_len]; unfold LIM; omega) (fun d hd => by
      obtain ⟨v, hv, rfl⟩ := ID_mem hd
      have h := hq v hv
      have hwh := whole_at l (.int v) κ true false rfl rfl
      refine ⟨_, by rw [s_nm]; rfl, ⟨.bl false, false, ?_, rfl⟩, fun z => by cases z⟩
      simp [wipeR, hwh, big1, g1, h.1, h.2])
  rw [List.filter_eq_nil_iff.mpr (fun _ _ => by simp)] at hc
  have h3 : (1 : Int) ≤ (q.length : Int) := by omega
  have h4 : (q.length : Int) ≤ 20 := by omega
  have he : Cop.eq.f (.lst []) (.lst []) = some (.bl true, false) := rfl
  rw [run_at (f := f_law_is_polynomial) rfl rfl]
  simp [f_law_is_polynomial, ID_len, h3, h4, hc, he]
theorem shAll_pol {w : Nat} (x k n : Nat) (p : List Int) : Pol w (shAll (2 ^ w) x (2 ^ k) n p) := shAll_rng _ _ _ (pwp w) _ _
theorem r_shifted (l w : Nat) (hw1 : 1 ≤ w) (hw : w ≤ 16) (p : List Int) (hp : Pol w p) (hn : 1 ≤ p.length) (hn2 : p.length ≤ 20) (x k : Nat) (hx : x < 2 ^ w) (hk : k ≤ w) (κ : Kp) : run PRG (l+6) 26 [.int (w : Int), .tup (ID p), .int (x : Int), .int (k : Int)] κ = .ok (.tup (ID (shAll (2 ^ w) x (2 ^ k) p.length p))) false κ := by
  have h2w := two16 hw
  have e0 := r_rp l w hw1 hw p hp hn hn2 κ
  have e1 := r_rwd (l + 1) w x κ (by omega) hx
  have e2 := r_btw (l + 3) (k : Int) 0 (w : Int) κ
  rw [decide_eq_true (show (0:Int) ≤ (k : Int) by omega), decide_eq_true (show (k : Int) ≤ (w : Int) by omega)] at e2
  have e3 := r_shift (l + 3) w hw p hp hn (by omega) x k (by omega) (by omega) κ
  rw [run_at (f := f_shifted) rfl rfl]
  simp [f_shifted, e0, e1, e2, e3]
/-! ### what is drawn -/
theorem ID_of {w : Nat} : ∀ {xs : List D}, (∀ d ∈ xs, ∃ v : Int, d = .int v ∧ 0 ≤ v ∧ v < 2 ^ w) → ∃ q, xs = ID q ∧ Pol w q
  | [], _ => ⟨[], rfl, fun v h => nomatch h⟩
  | d :: r, h => by
    obtain ⟨v, rfl, h1⟩ := h d List.mem_cons_self
    obtain ⟨q, rfl, h2⟩ := ID_of fun x hx => h x (List.mem_cons_of_mem _ hx)
    exact ⟨v :: q, rfl, fun u hu => by
      rcases List.mem_cons.mp hu with e | e
      · subst e; exact h1
      · exact h2 u e⟩
theorem r_pullw (l n w : Nat) (hw : w ≤ 16) (κ : Kp) (v : Val κ (n + 1)) : ∃ (r : Nat) (κ' : Kp), r < 2 ^ w ∧ Val κ' n ∧ run PRG (l+1) 20 [.cro, .int ((2:Int) ^ w)] κ = .ok (.int (r : Int)) false κ' := by
  have h2w := two16 hw
  obtain ⟨r, κ', h1, h2, h3⟩ := r_pull l n (2 ^ w) κ v (p2 w) (Nat.le_trans h2w (by decide))
  rw [pwc] at h3
  exact ⟨r, κ', h1, h2, h3⟩
theorem r_poly (l n w most : Nat) (hw : w ≤ 16) (hm : 1 ≤ most) (hm2 : most ≤ 20) (κ : Kp) (v : Val κ (n + most + 1)) : ∃ (q : List Int) (κ' : Kp), Pol w q ∧ 1 ≤ q.length ∧ q.length ≤ most ∧ Val κ' n ∧ run PRG (l+2) 21 [.cro, .int (w : Int), .int (most : Int)] κ = .ok (.tup (ID q)) false κ' := by
  have g1 : (w : Int) ≤ 100000 := by omega
  obtain ⟨r, κ1, h1, h2, h3⟩ := r_pull l (n + most) most κ v (by omega) (Nat.le_trans hm2 (by decide))
  have hsz : (1 : Int) + (r : Int) = ((r + 1 : Nat) : Int) := by omega
  obtain ⟨xs, κ2, g2, g3, g4, g5⟩ := lc_all (tg := evT (.nm 4)) (e := evE (run PRG (l+1)) (.call 20 (.cons (.var 0) (.cons (.bin .shl (.lit (.int 1)) (.var 1)) .nil)))) (fun d => ∃ v : Int, d = .int v ∧ 0 ≤ v ∧ v < 2 ^ w) (rngD 0 (r + 1)) [.val .cro, .val (.int (w : Int)), .val (.int (most : Int)), .val (.int ((r + 1 : Nat) : Int)), .no] κ1 n (by rw [rngD_length]; exact h2.less (by omega)) (fun d hd κ n v => by
    obtain ⟨i, hi⟩ := List.mem_iff_getElem?.mp hd
    obtain ⟨_, rfl⟩ := rngD_at hi
    obtain ⟨u, κ', k1, k2, k3⟩ := r_pullw l n w hw κ v
    refine ⟨_, .int (u : Int), false, κ', by rw [s_nm]; rfl, by simp [k3, big1, g1], k2, (u : Int), rfl, by omega, ?_⟩
    rw [← pwc]; exact Int.ofNat_lt.mpr k1)
  obtain ⟨q, rfl, hq⟩ := ID_of g5
  rw [ID_len, rngD_length] at g4
  refine ⟨q, κ2, hq, by omega, by omega, g3, ?_⟩
  have hc := lc_at (Γ := run PRG (l+1)) (it := .rng (.cons (.var 3) .nil)) (tg := .nm 4) (e := .call 20 (.cons (.var 0) (.cons (.bin .shl (.lit (.int 1)) (.var 1)) .nil))) (own := [("place", 4)]) (ρ := [.val .cro, .val (.int (w : Int)), .val (.int (most : Int)), .val (.int ((r + 1 : Nat) : Int)), .no]) (κ := κ1) (κ1 := κ1) (rng_it l (r + 1) (f := false) (by simp) (by omega)) (by rw [rngD_length]; unfold LIM; omega) g2
  rw [run_at (f := f_law_polynomial) rfl rfl]
  simp -implicitDefEqProofs [f_law_polynomial, h3, hsz]
  simp -implicitDefEqProofs at hc
  simp -implicitDefEqProofs [hc]
theorem subN (f : List Int) (k : Nat) (hk : k < f.length) (c : Int) : dSubL (ID f) (.int (k : Int)) (.int c) = some (.lst (ID (f.set k c))) := by
  have h : ixN (ID f).length (k : Int) = some k := by
    unfold ixN
    rw [ID_len]
    simp
    omega
  unfold dSubL
  simp only [h]
  show some (D.lst ((ID f).set k (.int c))) = _
  unfold ID
  rw [List.map_set]
theorem prod_body (l w : Nat) (hw : w ≤ 16) (D1 D2 : D) (f : List Int) (hf : Pol w f) (i j : Nat) (hij : i + j < f.length) (hfl : f.length ≤ 100) (a b : Int) (ha : 0 ≤ a ∧ a < 2 ^ w) (hb : 0 ≤ b ∧ b < 2 ^ w) (κ : Kp) :
    ∃ f', Pol w f' ∧ f'.length = f.length ∧ evB (run PRG l) b_law_product_1 [.val (.int (w : Int)), .val D1, .val D2, .own (.lst (ID f)), .val (.int (i : Int)), .val (.int a), .val (.int (j : Int)), .val (.int b)] κ = .next [.val (.int (w : Int)), .val D1, .val D2, .own (.lst (ID f')), .val (.int (i : Int)), .val (.int a), .val (.int (j : Int)), .val (.int b)] κ := by
  have h16 := pw16 hw
  have hP := pwp w
  have g1 : (w : Int) ≤ 100000 := by omega
  obtain ⟨v, hv⟩ : ∃ v, f[i + j]? = some v := ⟨_, List.getElem?_eq_getElem hij⟩
  have hvr := hf v (List.mem_of_getElem? hv)
  obtain ⟨m1, m2⟩ := mulb (a := a) (b := b) (A := 65536) (B := 65536) ha.1 (by omega) hb.1 (by omega)
  have b1 : big a = true := bigR (by omega) (by omega)
  have b2 : big b = true := bigR (by omega) (by omega)
  have b3 : big v = true := bigR (by omega) (by omega)
  have b4 : big (a * b) = true := bigR m1 (by omega)
  have b5 : big (v + a * b) = true := bigR (by omega) (by omega)
  have b6 : big (i : Int) = true := bigR (by omega) (by omega)
  have b7 : big (j : Int) = true := bigR (by omega) (by omega)
  have hs : (i : Int) + (j : Int) = ((i + j : Nat) : Int) := by omega
  have hat : atI (ID f) ((i : Int) + (j : Int)) = some (.int v) := by rw [hs]; exact atI_nat (by unfold ID; rw [List.getElem?_map, hv]; rfl)
  have hsub := subN f (i + j) hij ((v + a * b) % 2 ^ w)
  rw [← hs] at hsub
  refine ⟨f.set (i + j) ((v + a * b) % 2 ^ w), fun u hu => ?_, by simp, ?_⟩
  · rcases List.mem_or_eq_of_mem_set hu with e | e
    · exact hf u e
    · subst e; exact ⟨Int.emod_nonneg _ (by omega), Int.emod_lt_of_pos _ hP⟩
  · simp only [b_law_product_1]
    rw [s_B1, subL_at (x := .int ((v + a * b) % 2 ^ w)) (y := .int ((i : Int) + (j : Int))) (f1 := false) (f2 := false) (κ1 := κ) (κ2 := κ) (xs := ID f) rfl (lend_own (d := .lst (ID f)) rfl (by
      simp only [List.set_cons_succ, List.set_cons_zero]
      simp -implicitDefEqProofs [hat, b1, b2, b3, b4, b5, b6, b7, big1, g1, hP]) rfl) (by simp -implicitDefEqProofs [b6, b7]) hsub, s_t1, s_B0]
    rfl
theorem r_prod (l w : Nat) (hw : w ≤ 16) (p q : List Int) (hp : Pol w p) (hq : Pol w q) (h1 : 1 ≤ p.length) (h2 : 1 ≤ q.length) (hl1 : p.length ≤ 40) (hl2 : q.length ≤ 40) (κ : Kp) : ∃ f, Pol w f ∧ f.length = p.length + q.length - 1 ∧ run PRG (l+1) 22 [.int (w : Int), .tup (ID p), .tup (ID q)] κ = .ok (.tup (ID f)) false κ := by
  have hin : ∀ (i : Nat) (a : Int) (f : List Int) (z6 z7 : Slot) (κ0 : Kp), i < p.length → (0 ≤ a ∧ a < 2 ^ w) → Pol w f → f.length = p.length + q.length - 1 →
      ∃ f' z6' z7', Pol w f' ∧ f'.length = p.length + q.length - 1 ∧ evB (run PRG l) b_law_product_2 [.val (.int (w : Int)), .val (.tup (ID p)), .val (.tup (ID q)), .own (.lst (ID f)), .val (.int (i : Int)), .val (.int a), z6, z7] κ0 = .next [.val (.int (w : Int)), .val (.tup (ID p)), .val (.tup (ID q)), .own (.lst (ID f')), .val (.int (i : Int)), .val (.int a), z6', z7'] κ0 := by
    intro i a f z6 z7 κ0 hi ha hf hfl
    have hr := for_run (tg := evT (.tp (.cons (.nm 6) (.cons (.nm 7) .nil)))) (b := evB (run PRG l) b_law_product_1) (fun k ρ κ1 => κ1 = κ0 ∧ ∃ f' y6 y7, Pol w f' ∧ f'.length = p.length + q.length - 1 ∧ ρ = [.val (.int (w : Int)), .val (.tup (ID p)), .val (.tup (ID q)), .own (.lst (ID f')), .val (.int (i : Int)), .val (.int a), y6, y7]) (fun _ _ => False) (fun _ _ _ => False) (numd 0 (ID q)) 0 [.val (.int (w : Int)), .val (.tup (ID p)), .val (.tup (ID q)), .own (.lst (ID f)), .val (.int (i : Int)), .val (.int a), z6, z7] κ0 ⟨rfl, f, z6, z7, hf, hfl, rfl⟩ (by
      rintro k d ρ κ1 hk ⟨rfl, f1, y6, y7, g1, g2, rfl⟩
      obtain ⟨j, v, k1, k2, rfl⟩ := numd_mem q 0 d (List.mem_of_getElem? hk)
      obtain ⟨f', k3, k4, k5⟩ := prod_body l w hw (.tup (ID p)) (.tup (ID q)) f1 g1 i j (by omega) (by omega) a v ha (hq v k2) κ1
      exact ⟨_, tp2E, .inl ⟨_, κ1, .inl k5, rfl, f', _, _, k3, by omega, rfl⟩⟩)
    rcases hr with ⟨ρ', κ', e, ⟨rfl, f', y6, y7, g1, g2, rfl⟩ | h⟩ | ⟨_, _, _, _, h⟩
    · refine ⟨f', y6, y7, g1, g2, ?_⟩
      simp only [b_law_product_2]
      rw [s_B1, for_at (enm_at (κ' := κ') (xs := ID q) (by simp)), e, s_t1, s_B0]
    · exact h.elim
    · exact h.elim
  have hz : Pol w (List.replicate (p.length + q.length - 1) 0) := fun v hv => by
    rw [(List.mem_replicate.mp hv).2]
    exact ⟨by omega, pwp w⟩
  have hr := for_run (tg := evT (.tp (.cons (.nm 4) (.cons (.nm 5) .nil)))) (b := evB (run PRG l) b_law_product_2) (fun k ρ κ1 => κ1 = κ ∧ ∃ f' y4 y5 y6 y7, Pol w f' ∧ f'.length = p.length + q.length - 1 ∧ ρ = [.val (.int (w : Int)), .val (.tup (ID p)), .val (.tup (ID q)), .own (.lst (ID f')), y4, y5, y6, y7]) (fun _ _ => False) (fun _ _ _ => False) (numd 0 (ID p)) 0 [.val (.int (w : Int)), .val (.tup (ID p)), .val (.tup (ID q)), .own (.lst (ID (List.replicate (p.length + q.length - 1) 0))), .no, .no, .no, .no] κ ⟨rfl, _, _, _, _, _, hz, by simp, rfl⟩ (by
      rintro k d ρ κ1 hk ⟨rfl, f1, y4, y5, y6, y7, g1, g2, rfl⟩
      obtain ⟨j, v, k1, k2, rfl⟩ := numd_mem p 0 d (List.mem_of_getElem? hk)
      obtain ⟨f', z6, z7, k3, k4, k5⟩ := hin j v f1 y6 y7 κ1 (by omega) (hp v k2) g1 g2
      exact ⟨_, tp2E, .inl ⟨_, κ1, .inl k5, rfl, f', _, _, _, _, k3, k4, rfl⟩⟩)
  rcases hr with ⟨ρ', κ', e, ⟨rfl, f', y4, y5, y6, y7, g1, g2, rfl⟩ | h⟩ | ⟨_, _, _, _, h⟩
  · refine ⟨f', g1, g2, ?_⟩
    have hs : (p.length : Int) + (q.length : Int) - 1 = ((p.length + q.length - 1 : Nat) : Int) := by omega
    have em : Bop.mul.f (.lst [.int 0]) (.int ((p.length + q.length - 1 : Nat) : Int)) = some (.lst (ID (List.replicate (p.length + q.length - 1) 0)), true) := by
      rw [ls_mul (by simp) (by omega)]; simp [ID]
    rw [← hs] at em
    rw [run_at (f := f_law_product) rfl rfl]
    simp -implicitDefEqProofs [f_law_product, ID_len, em]
    rw [for_at (enm_at (κ' := κ') (xs := ID p) (by simp -implicitDefEqProofs)), e, s_t1, s_B1, frz_own (d := .lst (ID f')) rfl, s_t1]
    simp -implicitDefEqProofs
  · exact h.elim
  · exact h.elim
theorem md_rng {w : Nat} (a : Int) : 0 ≤ a % 2 ^ w ∧ a % 2 ^ w < 2 ^ w := ⟨Int.emod_nonneg _ (by have := pwp w; omega), Int.emod_lt_of_pos _ (pwp w)⟩
theorem r_rooted (l n w : Nat) (hw1 : 1 ≤ w) (hw : w ≤ 16) (κ : Kp) (v : Val κ (n + 13)) : ∃ (q : List Int) (κ' : Kp), Pol w q ∧ 1 ≤ q.length ∧ q.length ≤ 8 ∧ Val κ' n ∧ run PRG (l+3) 24 [.cro, .int (w : Int)] κ = .ok (.tup (ID q)) false κ' := by
  have g1 : (w : Int) ≤ 100000 := by omega
  have hP := pwp w
  have h2 : (2:Int) ≤ 2 ^ w := by
    have := Nat.pow_le_pow_right (n := 2) (by decide) hw1
    rw [← pwc]; omega
  obtain ⟨q0, κ1, a1, a2, a3, a4, a5⟩ := r_poly l (n + 7) w 5 hw (by decide) (by decide) κ (v.less (by omega))
  obtain ⟨c, κ2, b1, b2, b3⟩ := r_pull (l + 1) (n + 6) 4 κ1 (a4.less (by omega)) (by decide) (by decide)
  obtain ⟨ρ', κ', e, c1, q, y, c2, c3, c4, rfl⟩ := for_rng (b := evB (run PRG (l+2)) b_law_rooted_1) (j := 3) (lo := 0) (n := c) (fun t ρ κ0 => Val κ0 (n + 2 * (c - t)) ∧ ∃ (q : List Int) (y : Slot), Pol w q ∧ 1 ≤ q.length ∧ q.length ≤ 5 + t ∧ ρ = [.val .cro, .val (.int (w : Int)), .val (.tup (ID q)), y])
    (ρ := [.val .cro, .val (.int (w : Int)), .val (.tup (ID q0)), .no]) (κ := κ2) ⟨b2.less (by omega), q0, .no, a1, a2, by omega, rfl⟩ (by
    rintro t ρ κ0 ht ⟨d1, q, y, d2, d3, d4, rfl⟩
    obtain ⟨r, κ3, e1, e2, e3⟩ := r_pullw (l + 1) (n + 2 * (c - (t + 1)) + 1) w hw κ0 (d1.less (by omega))
    obtain ⟨d, κ4, f1, f2, f3⟩ := r_choose l (n + 2 * (c - (t + 1))) [.int 1, .int 1, .int (2 % 2 ^ w), .int (3 % 2 ^ w)] κ3 e2 (by simp) (by simp)
    obtain ⟨u, rfl, hu⟩ : ∃ u : Int, d = .int u ∧ 0 ≤ u ∧ u < 2 ^ w := by
      simp only [List.mem_cons, List.not_mem_nil, or_false] at f1
      rcases f1 with rfl | rfl | rfl | rfl
      · exact ⟨1, rfl, by omega⟩
      · exact ⟨1, rfl, by omega⟩
      · exact ⟨_, rfl, md_rng 2⟩
      · exact ⟨_, rfl, md_rng 3⟩
    have hr2 : (0:Int) ≤ (r : Int) ∧ (r : Int) < 2 ^ w := ⟨by omega, by rw [← pwc]; exact Int.ofNat_lt.mpr e1⟩
    obtain ⟨f, k1, k2, k3⟩ := r_prod (l + 1) w hw q [(r : Int), u] d2 (fun x hx => by
      rcases List.mem_cons.mp hx with e | e
      · subst e; exact hr2
      · have : x = u := by simpa using e
        subst this; exact hu) d3 (by simp) (by omega) (by simp) κ4
    have k3' : run PRG (l + 2) 22 [.int (w : Int), .tup (ID q), .tup [.int (r : Int), .int u]] κ4 = .ok (.tup (ID f)) false κ4 := k3
    refine ⟨[.val .cro, .val (.int (w : Int)), .val (.tup (ID f)), .val (.int (0 + (t : Int)))], κ4, .inl ?_, f2, f, _, k1, ?_, ?_, rfl⟩
    · have bb2 : big 2 = true := by decide +kernel
      have bb3 : big 3 = true := by decide +kernel
      simp -implicitDefEqProofs [b_law_rooted_1, big1, g1, e3, hP, bb2, bb3, f3, k3']
    · rw [k2]; simp only [List.length_cons, List.length_nil]; omega
    · rw [k2]; simp only [List.length_cons, List.length_nil]; omega)
  refine ⟨q, κ', c2, c3, by omega, c1.less (by omega), ?_⟩
  have a5' : run PRG (l + 2) 21 [.cro, .int (w : Int), .int 5] κ = .ok (.tup (ID q0)) false κ1 := a5
  have b3' : run PRG (l + 2) 20 [.cro, .int 4] κ1 = .ok (.int (c : Int)) false κ2 := b3
  rw [run_at (f := f_law_rooted) rfl rfl]
  simp -implicitDefEqProofs [f_law_rooted, a5']
  rw [for_at (rng_it l c (f := false) (κ' := κ2) (by simp -implicitDefEqProofs [b3']) (by omega)), s_nm, e]
  simp -implicitDefEqProofs
def Wd (w : Nat) (p : List Int) : List Nat := (List.range (2 ^ w)).filter (Rt w p)
theorem ne_bb (x : Bool) : Cop.ne.f (.bl x) (.bl x) = some (.bl false, false) := by cases x <;> rfl
theorem words_at (w : Nat) (hw1 : 1 ≤ w) (hw : w ≤ 6) (p : List Int) (hp : Pol w p) (r : Rho) (hr : r.length = 11) (κ : Kp) :
    evE (run PRG 22) (.lc (.rng (.cons (.bin .shl (.lit (.int 1)) (.var 1)) .nil)) (.nm 8) (.so (.cmp .eq (.call 31 (.cons (.var 1) (.cons (.var 2) (.cons (.var 8) .nil)))) (.lit (.int 0)))) (.var 8) [("word", 8)]) (.val .cro :: .val (.int (w : Int)) :: .val (.tup (ID p)) :: r) κ = .ok (.lst (nd (Wd w p))) true κ := by
  have g1 : (w : Int) ≤ 100000 := by omega
  have h2w := Nat.pow_le_pow_right (n := 2) (by decide) hw
  refine lc_nat (κ1 := κ) (L := List.range (2 ^ w)) (Rt w p) ?_ (by rw [List.length_range]; unfold LIM; omega) (by simp [hr]) (fun x hx => ?_)
  · rw [← rngD_nd]
    exact rng_it 22 (2 ^ w) (f := false) (by simp [big1, g1]) (by omega)
  · have hx' := List.mem_range.mp hx
    have e := r_at 21 w (by omega) p hp (x : Int) (by omega) (by omega) κ
    have e' : run PRG 22 31 [.int (w : Int), .tup (ID p), .int (x : Int)] κ = .ok (.int (hor (2 ^ w) p (x : Int))) false κ := e
    have hl : ((Slot.val .cro :: .val (.int (w : Int)) :: .val (.tup (ID p)) :: r).set 8 .no).length = 14 := by simp [hr]
    refine ⟨false, ?_⟩
    obtain ⟨a0, a1, a2, a3, a4, a5, a6, a7, a8, a9, a10, rfl⟩ : ∃ a0 a1 a2 a3 a4 a5 a6 a7 a8 a9 a10, r = [a0, a1, a2, a3, a4, a5, a6, a7, a8, a9, a10] := by
      match r, hr with
      | [a0, a1, a2, a3, a4, a5, a6, a7, a8, a9, a10], _ => exact ⟨_, _, _, _, _, _, _, _, _, _, _, rfl⟩
    simp -implicitDefEqProofs [wipeR, e', Rt]
theorem chk1 (w : Nat) (hw1 : 1 ≤ w) (hw : w ≤ 6) (p : List Int) (hp : Pol w p) (hn : 1 ≤ p.length) (hn2 : p.length ≤ 8) (r : Rho) (κ : Kp) :
    evS (run PRG 22) (.ite (.or (.cmp .ne (.call 13 (.cons (.var 1) (.cons (.var 2) .nil))) (.bi .tup (.cons (.call 32 (.cons (.var 1) (.cons (.var 3) .nil))) .nil))) (.one (.cmp .ne (.call 28 (.cons (.var 1) (.cons (.var 2) .nil))) (.bi .len (.cons (.var 3) .nil))))) [.ret (.lit (.bl false))] [])
      (.val .cro :: .val (.int (w : Int)) :: .val (.tup (ID p)) :: .val (.lst (nd (Wd w p))) :: r) κ = .next (.val .cro :: .val (.int (w : Int)) :: .val (.tup (ID p)) :: .val (.lst (nd (Wd w p))) :: r) κ := by
  have e1 := r_roots (16 - w) w hw1 (by omega) p hp hn (by omega) κ
  rw [show 16 - w + w + 6 = 22 by omega] at e1
  have e2 := r_lawc 21 w (by omega) (Rt w p) κ
  have e2' : run PRG 22 32 [.int (w : Int), .lst (nd (Wd w p))] κ = .ok (.lst ((srt (G (Rt w p) w w 0 0)).map pairD)) true κ := by
    rw [← srt_perm (Lto_perm (R := Rt w p) (w := w))]; exact e2
  have e3 := r_count (15 - w) w hw1 (by omega) p hp hn (by omega) κ
  rw [show 15 - w + w + 7 = 22 by omega] at e3
  have e4 := ne_srt (srt (G (Rt w p) w w 0 0))
  have e5 : (nd (Wd w p)).length = (List.range (2 ^ w)).countP (Rt w p) := by
    unfold nd Wd
    rw [List.length_map, List.countP_eq_length_filter]
  simp -implicitDefEqProofs [e1, e2', e3, e4, e5]
theorem chk2 (w : Nat) (hw1 : 1 ≤ w) (hw : w ≤ 6) (p : List Int) (hp : Pol w p) (hn : 1 ≤ p.length) (hn2 : p.length ≤ 8) (r : Rho) (κ : Kp) :
    evS (run PRG 22) (.ite (.cmp .ne (.call 15 (.cons (.var 1) (.cons (.var 2) .nil))) (.cmp .ne (.var 3) (.lst .nil))) [.ret (.lit (.bl false))] [])
      (.val .cro :: .val (.int (w : Int)) :: .val (.tup (ID p)) :: .val (.lst (nd (Wd w p))) :: r) κ = .next (.val .cro :: .val (.int (w : Int)) :: .val (.tup (ID p)) :: .val (.lst (nd (Wd w p))) :: r) κ := by
  have e1 := r_has (16 - w) w hw1 (by omega) p hp hn (by omega) κ
  rw [show 16 - w + w + 6 = 22 by omega] at e1
  have e1' : run PRG 22 15 [.int (w : Int), .tup (ID p)] κ = .ok (.bl (!decide (Wd w p = []))) false κ := by
    rw [e1]
    congr 2
    show decide (¬ Wd w p = []) = _
    rw [decide_not]
  have e2 : Cop.ne.f (.lst (nd (Wd w p))) (.lst []) = some (.bl (!decide (Wd w p = [])), false) := ne_nil (Wd w p)
  have e3 := ne_bb (!decide (Wd w p = []))
  simp -implicitDefEqProofs [e1', e2, e3]
theorem sh_loop (w : Nat) (hw1 : 1 ≤ w) (hw : w ≤ 6) (p : List Int) (hp : Pol w p) (hn : 1 ≤ p.length) (x k : Nat) (hx : x < 2 ^ w) (hk : k ≤ w) (s6 s7 s10 s11 s12 s13 : Slot) (z : Slot) (κ : Kp) :
    ∃ z', forRun (tgName 5) (evB (run PRG 22) b_law_right_1) (rngD 0 (2 ^ w)) [.val .cro, .val (.int (w : Int)), .val (.tup (ID p)), .val (.lst (nd (Wd w p))), .val (.tup (ID (shAll (2 ^ w) x (2 ^ k) p.length p))), z, s6, s7, .val (.int (x : Int)), .val (.int (k : Int)), s10, s11, s12, s13] κ =
      .next [.val .cro, .val (.int (w : Int)), .val (.tup (ID p)), .val (.lst (nd (Wd w p))), .val (.tup (ID (shAll (2 ^ w) x (2 ^ k) p.length p))), z', s6, s7, .val (.int (x : Int)), .val (.int (k : Int)), s10, s11, s12, s13] κ := by
  have h2w := Nat.pow_le_pow_right (n := 2) (by decide) hw
  have h2k := Nat.pow_le_pow_right (n := 2) (by decide) hk
  have g2 : (k : Int) ≤ 100000 := by omega
  obtain ⟨ρ', κ', e, rfl, z', rfl⟩ := for_rng (b := evB (run PRG 22) b_law_right_1) (j := 5) (lo := 0) (n := 2 ^ w) (fun t ρ κ0 => κ0 = κ ∧ ∃ z, ρ = [.val .cro, .val (.int (w : Int)), .val (.tup (ID p)), .val (.lst (nd (Wd w p))), .val (.tup (ID (shAll (2 ^ w) x (2 ^ k) p.length p))), z, s6, s7, .val (.int (x : Int)), .val (.int (k : Int)), s10, s11, s12, s13])
    (ρ := [.val .cro, .val (.int (w : Int)), .val (.tup (ID p)), .val (.lst (nd (Wd w p))), .val (.tup (ID (shAll (2 ^ w) x (2 ^ k) p.length p))), z, s6, s7, .val (.int (x : Int)), .val (.int (k : Int)), s10, s11, s12, s13]) (κ := κ) ⟨rfl, z, rfl⟩ (by
    rintro t ρ κ0 ht ⟨rfl, z, rfl⟩
    rw [Int.zero_add]
    have hk2 : (2:Int) ^ k ≤ 64 := by rw [← pwc]; omega
    have hkp := pwp k
    obtain ⟨m1, m2⟩ := mulb (a := (2:Int) ^ k) (b := (t : Int)) (A := 64) (B := 64) (by omega) (by omega) (by omega) (by omega)
    have e1 := r_at 21 w (by omega) (shAll (2 ^ w) x (2 ^ k) p.length p) (shAll_pol x k p.length p) (t : Int) (by omega) (by omega) κ0
    have e1' : run PRG 22 31 [.int (w : Int), .tup (ID (shAll (2 ^ w) x (2 ^ k) p.length p)), .int (t : Int)] κ0 = .ok (.int (hor (2 ^ w) (shAll (2 ^ w) x (2 ^ k) p.length p) (t : Int))) false κ0 := e1
    have e2 := r_at 21 w (by omega) p hp ((x : Int) + 2 ^ k * (t : Int)) (by omega) (by omega) κ0
    have e2' : run PRG 22 31 [.int (w : Int), .tup (ID p), .int ((x : Int) + 2 ^ k * (t : Int))] κ0 = .ok (.int (hor (2 ^ w) p ((x : Int) + 2 ^ k * (t : Int)))) false κ0 := e2
    have he : hor (2 ^ w) (shAll (2 ^ w) x (2 ^ k) p.length p) (t : Int) = hor (2 ^ w) p ((x : Int) + 2 ^ k * (t : Int)) := by
      rw [hor_eq, hor_eq]
      exact cg_of (shAll_pe ((2:Int) ^ w) x (2 ^ k) t p.length p (Nat.le_refl _) hn)
    rw [he] at e1'
    have b1 : big ((2:Int) ^ k) = true := bigR (by omega) (by omega)
    have b2 : big (t : Int) = true := bigR (by omega) (by omega)
    refine ⟨[.val .cro, .val (.int (w : Int)), .val (.tup (ID p)), .val (.lst (nd (Wd w p))), .val (.tup (ID (shAll (2 ^ w) x (2 ^ k) p.length p))), .val (.int (t : Int)), s6, s7, .val (.int (x : Int)), .val (.int (k : Int)), s10, s11, s12, s13], κ0, .inl ?_, rfl, _, rfl⟩
    simp only [List.set_cons_succ, List.set_cons_zero, b_law_right_1]
    simp -implicitDefEqProofs [e1', e2', big1, g2, b1, b2])
  exact ⟨z', e⟩
theorem steep_at (w : Nat) (hw : w ≤ 6) (p : List Int) (hp : Pol w p) (hn : 1 ≤ p.length) (hn2 : p.length ≤ 8) (a0 a3 a4 a5 a6 a7 a8 a9 a10 a11 : Slot) (κ : Kp) :
    evE (run PRG 22) (.bi .tup (.cons (.sl (.lc (.enm (.cons (.var 2) .nil)) (.tp (.cons (.nm 12) (.cons (.nm 13) .nil))) .no (.bin .mod (.bi .int (.cons (.bin .mul (.var 12) (.var 13)) .nil)) (.bin .shl (.lit (.int 1)) (.var 1))) [("at", 12), ("number", 13)]) (.so (.lit (.int 1))) .no) .nil)) [a0, .val (.int (w : Int)), .val (.tup (ID p)), a3, a4, a5, a6, a7, a8, a9, a10, a11, .no, .no] κ = .ok (.tup (ID ((enm (2 ^ w) 0 p).drop 1))) false κ := by
  have g1 : (w : Int) ≤ 100000 := by omega
  have h16 := pw16 (show w ≤ 16 by omega)
  have hP := pwp w
  have e1 : evE (run PRG 22) (.lc (.enm (.cons (.var 2) .nil)) (.tp (.cons (.nm 12) (.cons (.nm 13) .nil))) .no (.bin .mod (.bi .int (.cons (.bin .mul (.var 12) (.var 13)) .nil)) (.bin .shl (.lit (.int 1)) (.var 1))) [("at", 12), ("number", 13)]) [a0, .val (.int (w : Int)), .val (.tup (ID p)), a3, a4, a5, a6, a7, a8, a9, a10, a11, .no, .no] κ = .ok (.lst (ID (enm (2 ^ w) 0 p))) true κ := by
    have := lc_map (Γ := run PRG 22) (it := .enm (.cons (.var 2) .nil)) (tg := .tp (.cons (.nm 12) (.cons (.nm 13) .nil))) (e := .bin .mod (.bi .int (.cons (.bin .mul (.var 12) (.var 13)) .nil)) (.bin .shl (.lit (.int 1)) (.var 1))) (own := [("at", 12), ("number", 13)]) (ρ := [a0, .val (.int (w : Int)), .val (.tup (ID p)), a3, a4, a5, a6, a7, a8, a9, a10, a11, .no, .no]) (κ := κ) (κ1 := κ) (ds := numd 0 (ID p)) (enF (2 ^ w)) (enm_at (by simp)) (by rw [numd_len, ID_len]; unfold LIM; omega) (fun d hd => by
      obtain ⟨i, v, h1, h2, rfl⟩ := numd_mem p 0 d hd
      have hv := hp v h2
      have b1 : big (i : Int) = true := bigR (by omega) (by omega)
      have b2 : big v = true := bigR (by omega) (by omega)
      obtain ⟨g1', g2'⟩ := mulb (a := (i : Int)) (b := v) (A := 100) (B := 65536) (by omega) (by omega) hv.1 (by omega)
      have b3 : big ((i : Int) * v) = true := bigR g1' (by omega)
      exact ⟨_, false, tp2E, by simp -implicitDefEqProofs [wipeR, b1, b2, b3, hP, enF, big1, g1]⟩)
    rw [this]
    have e := enm_map (2 ^ w) p 0
    rw [e]; rfl
  obtain ⟨b, t, et⟩ := enm_cons (2 ^ w) p hn
  rw [et] at e1 ⊢
  have ec : cutD (ID (b :: t)) (some 1) none = ID t := cut_tail _ _
  simp -implicitDefEqProofs [e1, ec]
theorem stp_ite {Γ : Gam} {ρ : Rho} {κ : Kp} (M : Int) (p : List Int) (h : ρ[6]? = some (.val (.tup (ID ((enm M 0 p).drop 1))))) :
    evE Γ (.ite (.cmp .ne (.var 6) (.tup .nil)) (.var 6) (.tup (.cons (.lit (.int 0)) .nil))) ρ κ = .ok (.tup (ID (steep M p))) false κ := by
  rw [steep_nzl]
  generalize (enm M 0 p).drop 1 = t at h
  have en := ne_nilT t
  cases t with
  | nil =>
    have en' : Cop.ne.f (.tup (ID [])) (.tup []) = some (.bl false, false) := en
    simp [h, en', nzl]
    rfl
  | cons c r =>
    have en' : Cop.ne.f (.tup (ID (c :: r))) (.tup []) = some (.bl true, false) := en
    simp [h, en', nzl]
theorem ne_tag (s : Str) (hs : PyData.strOk s = true) (x : Int) : Cop.ne.f (.tup [.str s, .int x]) (.tup [.str s, .int x]) = some (.bl false, false) := by
  rw [s_net]
  have h : shpL [.str s, .int x] 59 = true := by
    show (PyData.strOk s && ((D.int x).shp 59 && true)) = true
    rw [hs]; simp
  have h2 : eqvL [.str s, .int x] [.str s, .int x] = true := by
    show ((s == s) && ((x == x) && true)) = true
    simp
  rw [h, h2]; rfl
theorem ok_told : PyData.strOk (Str.ofString "told") = true := by decide +kernel
theorem ok_number : PyData.strOk (Str.ofString "number") = true := by decide +kernel
theorem uniq_one {x : Nat} : ∀ {L : List Nat}, L.Nodup → x ∈ L → (∀ y ∈ L, y = x) → L = [x]
  | [], _, h, _ => nomatch h
  | a :: r, hn, _, hu => by
    have e := hu a List.mem_cons_self
    subst e
    cases r with
    | nil => rfl
    | cons b r =>
      have e2 := hu b (by simp)
      have := (List.nodup_cons.mp hn).1
      exact absurd (by rw [e2]; simp) this
theorem es_cons {Γ : Gam} {a : E} {b : Es} {ρ : Rho} {κ κ1 κ2 : Kp} {d : D} {fr : Bool} {ds : List D} (h : evE Γ a ρ κ = .ok d fr κ1) (h2 : evEs Γ b ρ κ1 = .ok ds κ2) : evEs Γ (.cons a b) ρ κ = .ok (d :: ds) κ2 := by
  rw [s_cons, h]
  show RL.push d (evEs Γ b ρ κ1) = _
  rw [h2]; rfl
theorem one_at {Γ : Gam} {a : E} {ρ : Rho} {κ : Kp} {r : R} (h : evE Γ a ρ κ = r) : evE Γ (.one a) ρ κ = r := by rw [s_one]; exact h
theorem bit_body (w : Nat) (hw1 : 1 ≤ w) (hw : w ≤ 6) (p : List Int) (hp : Pol w p) (hn : 1 ≤ p.length) (hn2 : p.length ≤ 8) (b : Nat) (hb : b ≤ 1) (s4 s5 s8 s9 s10 s11 : Slot) (κ : Kp) :
    ∃ y4 y10 y11, evB (run PRG 22) b_law_right_2 [.val .cro, .val (.int (w : Int)), .val (.tup (ID p)), .val (.lst (nd (Wd w p))), s4, s5, .val (.tup (ID ((enm (2 ^ w) 0 p).drop 1))), .val (.int (b : Int)), s8, s9, s10, s11, .no, .no] κ =
      .next [.val .cro, .val (.int (w : Int)), .val (.tup (ID p)), .val (.lst (nd (Wd w p))), y4, s5, .val (.tup (ID ((enm (2 ^ w) 0 p).drop 1))), .val (.int (b : Int)), s8, s9, y10, y11, .no, .no] κ := by
  have h16 := pw16 (show w ≤ 16 by omega)
  have h2w := Nat.pow_le_pow_right (n := 2) (by decide) hw
  have hsl := steep_len ((2:Int) ^ w) p
  have bb2 : big 2 = true := by decide +kernel
  obtain ⟨L1, L2⟩ := r_lift 14 w hw1 (by omega) p hp hn (by omega) b hb κ
  have dn : ∀ ds κ, run PRG 22 2019 ds κ = run PRG 20 19 ds κ := fun ds κ => down2 (P := PRG) 20 19 (by decide) ds κ
  have a1 := r_at 21 w (by omega) p hp (b : Int) (by omega) (by omega) κ
  have a1' : run PRG 22 31 [.int (w : Int), .tup (ID p), .int (b : Int)] κ = .ok (.int (hor (2 ^ w) p (b : Int))) false κ := a1
  have a2 := r_at 21 w (by omega) (steep (2 ^ w) p) (steep_pol w p) (b : Int) (by omega) (by omega) κ
  have a2' : run PRG 22 31 [.int (w : Int), .tup (ID (steep (2 ^ w) p)), .int (b : Int)] κ = .ok (.int (hor (2 ^ w) (steep (2 ^ w) p) (b : Int))) false κ := a2
  obtain ⟨h1, h2⟩ := hor_rng (w := w) p (b : Int)
  obtain ⟨s1, s2⟩ := hor_rng (w := w) (steep (2 ^ w) p) (b : Int)
  have b1 : big (hor (2 ^ w) p (b : Int)) = true := bigR h1 (by omega)
  have b2 : big (hor (2 ^ w) (steep (2 ^ w) p) (b : Int)) = true := bigR s1 (by omega)
  let SM := (Wd w p).filter fun x => decide (x % 2 = b)
  have hsome : ∀ s4 s10 s11 : Slot, evE (run PRG 22) (.lc (.seq (.var 3)) (.nm 8) (.so (.cmp .eq (.bin .mod (.bi .int (.cons (.var 8) .nil)) (.lit (.int 2))) (.var 7))) (.var 8) [("word", 8)]) [.val .cro, .val (.int (w : Int)), .val (.tup (ID p)), .val (.lst (nd (Wd w p))), s4, s5, .val (.tup (ID ((enm (2 ^ w) 0 p).drop 1))), .val (.int (b : Int)), s8, s9, s10, s11, .no, .no] κ = .ok (.lst (nd SM)) true κ := fun s4 s10 s11 => by
    refine lc_nat (κ1 := κ) (L := Wd w p) _ (seq_at (fr := false) (.inl (by simp))) ?_ (by simp) (fun x hx => ?_)
    · have := List.length_filter_le (Rt w p) (List.range (2 ^ w))
      rw [List.length_range] at this
      have h3 : (Wd w p).length ≤ 2 ^ w := this
      unfold LIM; omega
    · have hx' := List.mem_range.mp (List.mem_filter.mp hx).1
      have bx : big (x : Int) = true := bigR (by omega) (by omega)
      have hm : ((x : Int) % 2 = (b : Int)) ↔ (x % 2 = b) := by omega
      refine ⟨false, ?_⟩
      simp -implicitDefEqProofs [wipeR, bx, bb2, hm]
  have hpl : ∀ s4 s10 s11 : Slot, evE (run PRG 22) (.and (.cmp .eq (.bin .mod (.bi .int (.cons (.call 31 (.cons (.var 1) (.cons (.var 2) (.cons (.var 7) .nil)))) .nil)) (.lit (.int 2))) (.lit (.int 0))) (.one (.cmp .eq (.bin .mod (.bi .int (.cons (.call 31 (.cons (.var 1) (.cons (.ite (.cmp .ne (.var 6) (.tup .nil)) (.var 6) (.tup (.cons (.lit (.int 0)) .nil))) (.cons (.var 7) .nil)))) .nil)) (.lit (.int 2))) (.lit (.int 1)))))
      [.val .cro, .val (.int (w : Int)), .val (.tup (ID p)), .val (.lst (nd (Wd w p))), s4, s5, .val (.tup (ID ((enm (2 ^ w) 0 p).drop 1))), .val (.int (b : Int)), s8, s9, s10, s11, .no, .no] κ = .ok (.bl (decide (hor (2 ^ w) p (b : Int) % 2 = 0) && decide (hor (2 ^ w) (steep (2 ^ w) p) (b : Int) % 2 = 1))) false κ := fun s4 s10 s11 => by
    have e := stp_ite (Γ := run PRG 22) (κ := κ) (ρ := [.val .cro, .val (.int (w : Int)), .val (.tup (ID p)), .val (.lst (nd (Wd w p))), s4, s5, .val (.tup (ID ((enm (2 ^ w) 0 p).drop 1))), .val (.int (b : Int)), s8, s9, s10, s11, .no, .no]) (2 ^ w) p rfl
    have e5 : evE (run PRG 22) (.call 31 (.cons (.var 1) (.cons (.ite (.cmp .ne (.var 6) (.tup .nil)) (.var 6) (.tup (.cons (.lit (.int 0)) .nil))) (.cons (.var 7) .nil)))) [.val .cro, .val (.int (w : Int)), .val (.tup (ID p)), .val (.lst (nd (Wd w p))), s4, s5, .val (.tup (ID ((enm (2 ^ w) 0 p).drop 1))), .val (.int (b : Int)), s8, s9, s10, s11, .no, .no] κ = .ok (.int (hor (2 ^ w) (steep (2 ^ w) p) (b : Int))) false κ := by
      rw [s_call, es_cons (d := .int (w : Int)) (fr := false) (κ1 := κ) (by simp) (es_cons e (es_cons (d := .int (b : Int)) (fr := false) (κ1 := κ) (by simp) s_nil))]
      exact a2'
    cases q : decide (hor (2 ^ w) p (b : Int) % 2 = 0) with
    | false =>
      have q' := of_decide_eq_false q
      simp -implicitDefEqProofs [a1', b1, bb2, q']
    | true =>
      have q' := of_decide_eq_true q
      have ea : evE (run PRG 22) (.cmp .eq (.bin .mod (.bi .int (.cons (.call 31 (.cons (.var 1) (.cons (.var 2) (.cons (.var 7) .nil)))) .nil)) (.lit (.int 2))) (.lit (.int 0))) [.val .cro, .val (.int (w : Int)), .val (.tup (ID p)), .val (.lst (nd (Wd w p))), s4, s5, .val (.tup (ID ((enm (2 ^ w) 0 p).drop 1))), .val (.int (b : Int)), s8, s9, s10, s11, .no, .no] κ = .ok (.bl true) false κ := by
        simp -implicitDefEqProofs [a1', b1, bb2, q']
      rw [s_and, ea]
      have hand : ∀ m ρ, (R.ok (.bl true) false κ).bool (kAnd m ρ) = m ρ κ := fun _ _ => rfl
      rw [hand]
      refine one_at ?_
      rw [s_cmp, s_bin, s_bi, es_cons e5 s_nil]
      simp -implicitDefEqProofs [b2, bb2]
  let S0 : Slot → Slot → Slot → Rho := fun y4 y10 y11 => [.val .cro, .val (.int (w : Int)), .val (.tup (ID p)), .val (.lst (nd (Wd w p))), y4, s5, .val (.tup (ID ((enm (2 ^ w) 0 p).drop 1))), .val (.int (b : Int)), s8, s9, y10, y11, .no, .no]
  have st2 : ∀ y4, evS (run PRG 22) (.set 10 false (.lc (.seq (.var 3)) (.nm 8) (.so (.cmp .eq (.bin .mod (.bi .int (.cons (.var 8) .nil)) (.lit (.int 2))) (.var 7))) (.var 8) [("word", 8)])) (S0 y4 s10 s11) κ = .next (S0 y4 (.val (.lst (nd SM))) s11) κ := fun y4 => by
    rw [s_set, hsome]; rfl
  have st3 : ∀ y4 y10, evS (run PRG 22) (.set 11 false (.and (.cmp .eq (.bin .mod (.bi .int (.cons (.call 31 (.cons (.var 1) (.cons (.var 2) (.cons (.var 7) .nil)))) .nil)) (.lit (.int 2))) (.lit (.int 0))) (.one (.cmp .eq (.bin .mod (.bi .int (.cons (.call 31 (.cons (.var 1) (.cons (.ite (.cmp .ne (.var 6) (.tup .nil)) (.var 6) (.tup (.cons (.lit (.int 0)) .nil))) (.cons (.var 7) .nil)))) .nil)) (.lit (.int 2))) (.lit (.int 1)))))) (S0 y4 y10 s11) κ = .next (S0 y4 y10 (.val (.bl (decide (hor (2 ^ w) p (b : Int) % 2 = 0) && decide (hor (2 ^ w) (steep (2 ^ w) p) (b : Int) % 2 = 1))))) κ := fun y4 y10 => by
    rw [s_set, hpl]; rfl
  by_cases hq : hor (2 ^ w) p (b : Int) % 2 = 0 ∧ hor (2 ^ w) (steep (2 ^ w) p) (b : Int) % 2 = 1
  · obtain ⟨x, x1, x2, x3, x4⟩ := L1 hq.1 hq.2
    have hSM : SM = [x] := by
      have hpd : pd p (x : Int) % 2 = 1 := by
        have q2 := hq.2
        rw [hor_par hw1] at q2
        have g1 := par_of (Int.dvd_trans (two_dvd hw1) (steep_pe ((2:Int) ^ w) (b : Int) p))
        have g2 : (2:Int) ∣ (x : Int) - (b : Int) := ⟨((x / 2 : Nat) : Int), by omega⟩
        have g3 := par_of (pd_mod (p := p) g2)
        omega
      refine uniq_one ((List.nodup_range.filter _).filter _) (List.mem_filter.mpr ⟨List.mem_filter.mpr ⟨List.mem_range.mpr x1, Rt_iff.mpr x2⟩, by rw [x3]; simp⟩) fun y hy => ?_
      obtain ⟨y1, y2⟩ := List.mem_filter.mp hy
      obtain ⟨y3, y4⟩ := List.mem_filter.mp y1
      have y2 : y % 2 = b := of_decide_eq_true y2
      have hd := root_uniq hw1 x2 (Rt_iff.mp y4) ⟨((y / 2 : Nat) : Int) - ((x / 2 : Nat) : Int), by omega⟩ hpd
      have e1 := cg_of hd
      rw [← pwc, ← Int.natCast_emod, ← Int.natCast_emod, Nat.mod_eq_of_lt (List.mem_range.mp y3), Nat.mod_eq_of_lt x1] at e1
      omega
    have x4' := dn [.int (w : Int), .tup (ID p), .int (b : Int)] κ
    rw [x4] at x4'
    have st1 : evS (run PRG 22) (.set 4 false (.met MT_law_met (.call 2019 (.cons (.var 1) (.cons (.var 2) (.cons (.var 7) .nil)))))) (S0 s4 s10 s11) κ = .next (S0 (.val (.tup [.str MT_law_met.tag, .int (x : Int)])) s10 s11) κ := by
      simp -implicitDefEqProofs [S0, x4']
    have hne := ne_tag (Str.ofString "told") ok_told (x : Int)
    refine ⟨.val (.tup [.str (Str.ofString "told"), .int (x : Int)]), .val (.lst (nd [x])), .val (.bl true), ?_⟩
    show evB (run PRG 22) b_law_right_2 (S0 s4 s10 s11) κ = .next (S0 _ _ _) κ
    simp only [b_law_right_2]
    rw [s_B1, st1, s_t1, s_B1, st2, s_t1, s_B1, st3, s_t1, hSM]
    rw [decide_eq_true hq.1, decide_eq_true hq.2, Bool.and_self]
    have ht : MT_law_met.tag = Str.ofString "told" := rfl
    simp -implicitDefEqProofs [S0, nd, ht, hne, -s_net]
  · have x4 := L2 hq
    have x4' := dn [.int (w : Int), .tup (ID p), .int (b : Int)] κ
    rw [x4] at x4'
    have hm : metX MT_law_met 2 (.int (b : Int)) κ = .ok (.tup [.str (Str.ofString "number"), .int (b : Int)]) false κ := rfl
    have st1 : evS (run PRG 22) (.set 4 false (.met MT_law_met (.call 2019 (.cons (.var 1) (.cons (.var 2) (.cons (.var 7) .nil)))))) (S0 s4 s10 s11) κ = .next (S0 (.val (.tup [.str (Str.ofString "number"), .int (b : Int)])) s10 s11) κ := by
      simp -implicitDefEqProofs [S0, x4', hm]
    have hne := ne_tag (Str.ofString "number") ok_number (b : Int)
    have hf : (decide (hor (2 ^ w) p (b : Int) % 2 = 0) && decide (hor (2 ^ w) (steep (2 ^ w) p) (b : Int) % 2 = 1)) = false := by
      rw [Bool.eq_false_iff, ne_eq, Bool.and_eq_true, decide_eq_true_eq, decide_eq_true_eq]; exact hq
    refine ⟨.val (.tup [.str (Str.ofString "number"), .int (b : Int)]), .val (.lst (nd SM)), .val (.bl false), ?_⟩
    show evB (run PRG 22) b_law_right_2 (S0 s4 s10 s11) κ = .next (S0 _ _ _) κ
    simp only [b_law_right_2]
    rw [s_B1, st1, s_t1, s_B1, st2, s_t1, s_B1, st3, s_t1, hf]
    simp -implicitDefEqProofs [S0, hne, -s_net]
theorem r_right (n : Nat) (κ : Kp) (v : Val κ (n + 16)) : ∃ κ', Val κ' n ∧ run PRG 23 33 [.cro] κ = .ok (.bl true) false κ' := by
  obtain ⟨r, κ1, a1, a2, a3⟩ := r_pull 21 (n + 15) 6 κ v (by decide) (by decide)
  obtain ⟨w, rfl⟩ : ∃ w, w = r + 1 := ⟨_, rfl⟩
  obtain ⟨w, hwr⟩ : ∃ w, w = r + 1 := ⟨_, rfl⟩
  have hw1 : 1 ≤ w := by omega
  have hw : w ≤ 6 := by omega
  have h2w := Nat.pow_le_pow_right (n := 2) (by decide) hw
  have g1 : (w : Int) ≤ 100000 := by omega
  obtain ⟨p, κ2, b1, b2, b3, b4, b5⟩ := r_rooted 19 (n + 2) w hw1 (by omega) κ1 a2
  obtain ⟨x, κ3, c1, c2, c3⟩ := r_pullw 21 (n + 1) w (by omega) κ2 b4
  obtain ⟨k, κ4, d1, d2, d3⟩ := r_pull 21 n (w + 1) κ3 c2 (by omega) (Nat.le_trans (show w + 1 ≤ 7 by omega) (by decide))
  have d3' : run PRG 22 20 [.cro, .int ((w : Int) + 1)] κ3 = .ok (.int (k : Int)) false κ4 := by
    have e : ((w + 1 : Nat) : Int) = (w : Int) + 1 := by omega
    rw [← e]; exact d3
  have a3' : run PRG 22 20 [.cro, .int 6] κ = .ok (.int (r : Int)) false κ1 := a3
  have hrw : (1 : Int) + (r : Int) = (w : Int) := by omega
  have hk : k ≤ w := by omega
  refine ⟨κ4, d2, ?_⟩
  have e0 : evS (run PRG 22) (.set 1 false (.bin .add (.lit (.int 1)) (.call 20 (.cons (.var 0) (.cons (.lit (.int 6)) .nil))))) [.val .cro, .no, .no, .no, .no, .no, .no, .no, .no, .no, .no, .no, .no, .no] κ = .next [.val .cro, .val (.int (w : Int)), .no, .no, .no, .no, .no, .no, .no, .no, .no, .no, .no, .no] κ1 := by
    simp -implicitDefEqProofs [a3', hrw]
  have e1 : evS (run PRG 22) (.set 2 false (.call 24 (.cons (.var 0) (.cons (.var 1) .nil)))) [.val .cro, .val (.int (w : Int)), .no, .no, .no, .no, .no, .no, .no, .no, .no, .no, .no, .no] κ1 = .next [.val .cro, .val (.int (w : Int)), .val (.tup (ID p)), .no, .no, .no, .no, .no, .no, .no, .no, .no, .no, .no] κ2 := by
    simp -implicitDefEqProofs [b5]
  have e2 : evS (run PRG 22) (.set 3 false (.lc (.rng (.cons (.bin .shl (.lit (.int 1)) (.var 1)) .nil)) (.nm 8) (.so (.cmp .eq (.call 31 (.cons (.var 1) (.cons (.var 2) (.cons (.var 8) .nil)))) (.lit (.int 0)))) (.var 8) [("word", 8)])) [.val .cro, .val (.int (w : Int)), .val (.tup (ID p)), .no, .no, .no, .no, .no, .no, .no, .no, .no, .no, .no] κ2 = .next [.val .cro, .val (.int (w : Int)), .val (.tup (ID p)), .val (.lst (nd (Wd w p))), .no, .no, .no, .no, .no, .no, .no, .no, .no, .no] κ2 := by
    rw [s_set, words_at w hw1 hw p b1 [.no, .no, .no, .no, .no, .no, .no, .no, .no, .no, .no] rfl κ2]; rfl
  have e3 := chk1 w hw1 hw p b1 b2 b3 [.no, .no, .no, .no, .no, .no, .no, .no, .no, .no] κ2
  have e4 := chk2 w hw1 hw p b1 b2 b3 [.no, .no, .no, .no, .no, .no, .no, .no, .no, .no] κ2
  have e5 : evS (run PRG 22) (.par2 8 false (.call 20 (.cons (.var 0) (.cons (.bin .shl (.lit (.int 1)) (.var 1)) .nil))) 9 false (.call 20 (.cons (.var 0) (.cons (.bin .add (.var 1) (.lit (.int 1))) .nil)))) [.val .cro, .val (.int (w : Int)), .val (.tup (ID p)), .val (.lst (nd (Wd w p))), .no, .no, .no, .no, .no, .no, .no, .no, .no, .no] κ2 = .next [.val .cro, .val (.int (w : Int)), .val (.tup (ID p)), .val (.lst (nd (Wd w p))), .no, .no, .no, .no, .val (.int (x : Int)), .val (.int (k : Int)), .no, .no, .no, .no] κ4 := by
    simp -implicitDefEqProofs [big1, g1, c3, d3']
  have f6 := r_shifted 16 w hw1 (by omega) p b1 b2 (by omega) x k c1 hk κ4
  have e6 : evS (run PRG 22) (.set 4 false (.call 26 (.cons (.var 1) (.cons (.var 2) (.cons (.var 8) (.cons (.var 9) .nil)))))) [.val .cro, .val (.int (w : Int)), .val (.tup (ID p)), .val (.lst (nd (Wd w p))), .no, .no, .no, .no, .val (.int (x : Int)), .val (.int (k : Int)), .no, .no, .no, .no] κ4 = .next [.val .cro, .val (.int (w : Int)), .val (.tup (ID p)), .val (.lst (nd (Wd w p))), .val (.tup (ID (shAll (2 ^ w) x (2 ^ k) p.length p))), .no, .no, .no, .val (.int (x : Int)), .val (.int (k : Int)), .no, .no, .no, .no] κ4 := by
    simp -implicitDefEqProofs [f6]
  have hsl := shAll_length ((2:Int) ^ w) x (2 ^ k) p.length p
  have f7 := r_isp 20 w (by omega) (shAll (2 ^ w) x (2 ^ k) p.length p) (shAll_pol x k p.length p) (by omega) (by omega) κ4
  have e7 : evS (run PRG 22) (.ite (.or (.nt (.call 30 (.cons (.var 1) (.cons (.var 4) .nil)))) (.one (.cmp .ne (.bi .len (.cons (.var 4) .nil)) (.bi .len (.cons (.var 2) .nil))))) [.ret (.lit (.bl false))] []) [.val .cro, .val (.int (w : Int)), .val (.tup (ID p)), .val (.lst (nd (Wd w p))), .val (.tup (ID (shAll (2 ^ w) x (2 ^ k) p.length p))), .no, .no, .no, .val (.int (x : Int)), .val (.int (k : Int)), .no, .no, .no, .no] κ4 = .next [.val .cro, .val (.int (w : Int)), .val (.tup (ID p)), .val (.lst (nd (Wd w p))), .val (.tup (ID (shAll (2 ^ w) x (2 ^ k) p.length p))), .no, .no, .no, .val (.int (x : Int)), .val (.int (k : Int)), .no, .no, .no, .no] κ4 := by
    simp -implicitDefEqProofs [f7, ID_len, hsl]
  obtain ⟨z, f8⟩ := sh_loop w hw1 hw p b1 b2 x k c1 hk .no .no .no .no .no .no .no κ4
  have e8 : evS (run PRG 22) (.for_ (.rng (.cons (.bin .shl (.lit (.int 1)) (.var 1)) .nil)) (.nm 5) b_law_right_1) [.val .cro, .val (.int (w : Int)), .val (.tup (ID p)), .val (.lst (nd (Wd w p))), .val (.tup (ID (shAll (2 ^ w) x (2 ^ k) p.length p))), .no, .no, .no, .val (.int (x : Int)), .val (.int (k : Int)), .no, .no, .no, .no] κ4 = .next [.val .cro, .val (.int (w : Int)), .val (.tup (ID p)), .val (.lst (nd (Wd w p))), .val (.tup (ID (shAll (2 ^ w) x (2 ^ k) p.length p))), z, .no, .no, .val (.int (x : Int)), .val (.int (k : Int)), .no, .no, .no, .no] κ4 := by
    rw [for_at (rng_it 22 (2 ^ w) (f := false) (κ' := κ4) (by simp -implicitDefEqProofs [big1, g1]) (by omega)), s_nm, f8]
  have f9 := steep_at w hw p b1 b2 b3 (.val .cro) (.val (.lst (nd (Wd w p)))) (.val (.tup (ID (shAll (2 ^ w) x (2 ^ k) p.length p)))) z .no .no (.val (.int (x : Int))) (.val (.int (k : Int))) .no .no κ4
  have e9 : evS (run PRG 22) (.set 6 false (.bi .tup (.cons (.sl (.lc (.enm (.cons (.var 2) .nil)) (.tp (.cons (.nm 12) (.cons (.nm 13) .nil))) .no (.bin .mod (.bi .int (.cons (.bin .mul (.var 12) (.var 13)) .nil)) (.bin .shl (.lit (.int 1)) (.var 1))) [("at", 12), ("number", 13)]) (.so (.lit (.int 1))) .no) .nil))) [.val .cro, .val (.int (w : Int)), .val (.tup (ID p)), .val (.lst (nd (Wd w p))), .val (.tup (ID (shAll (2 ^ w) x (2 ^ k) p.length p))), z, .no, .no, .val (.int (x : Int)), .val (.int (k : Int)), .no, .no, .no, .no] κ4 = .next [.val .cro, .val (.int (w : Int)), .val (.tup (ID p)), .val (.lst (nd (Wd w p))), .val (.tup (ID (shAll (2 ^ w) x (2 ^ k) p.length p))), z, .val (.tup (ID ((enm (2 ^ w) 0 p).drop 1))), .no, .val (.int (x : Int)), .val (.int (k : Int)), .no, .no, .no, .no] κ4 := by
    rw [s_set, f9]; rfl
  have f10 := r_der 16 w hw1 (by omega) p b1 b2 (by omega) κ4
  have g10 := stp_ite (Γ := run PRG 22) (κ := κ4) (ρ := [.val .cro, .val (.int (w : Int)), .val (.tup (ID p)), .val (.lst (nd (Wd w p))), .val (.tup (ID (shAll (2 ^ w) x (2 ^ k) p.length p))), z, .val (.tup (ID ((enm (2 ^ w) 0 p).drop 1))), .no, .val (.int (x : Int)), .val (.int (k : Int)), .no, .no, .no, .no]) (2 ^ w) p rfl
  have hne : Cop.ne.f (.tup (ID (steep (2 ^ w) p))) (.tup (ID (steep (2 ^ w) p))) = some (.bl false, false) := by
    generalize steep (2 ^ w) p = t
    have h1 : shpL (ID t) 59 = true := by
      induction t with
      | nil => rfl
      | cons a r ih => show ((D.int a).shp 59 && shpL (ID r) 59) = true; rw [ih]; simp
    have h2 : eqvL (ID t) (ID t) = true := by
      clear h1
      induction t with
      | nil => rfl
      | cons a r ih => show ((a == a) && eqvL (ID r) (ID r)) = true; rw [ih]; simp
    rw [s_net, h1, h2]; rfl
  have e10 : evS (run PRG 22) (.ite (.cmp .ne (.call 27 (.cons (.var 1) (.cons (.var 2) .nil))) (.ite (.cmp .ne (.var 6) (.tup .nil)) (.var 6) (.tup (.cons (.lit (.int 0)) .nil)))) [.ret (.lit (.bl false))] []) [.val .cro, .val (.int (w : Int)), .val (.tup (ID p)), .val (.lst (nd (Wd w p))), .val (.tup (ID (shAll (2 ^ w) x (2 ^ k) p.length p))), z, .val (.tup (ID ((enm (2 ^ w) 0 p).drop 1))), .no, .val (.int (x : Int)), .val (.int (k : Int)), .no, .no, .no, .no] κ4 = .next [.val .cro, .val (.int (w : Int)), .val (.tup (ID p)), .val (.lst (nd (Wd w p))), .val (.tup (ID (shAll (2 ^ w) x (2 ^ k) p.length p))), z, .val (.tup (ID ((enm (2 ^ w) 0 p).drop 1))), .no, .val (.int (x : Int)), .val (.int (k : Int)), .no, .no, .no, .no] κ4 := by
    have hc : evE (run PRG 22) (.cmp .ne (.call 27 (.cons (.var 1) (.cons (.var 2) .nil))) (.ite (.cmp .ne (.var 6) (.tup .nil)) (.var 6) (.tup (.cons (.lit (.int 0)) .nil)))) [.val .cro, .val (.int (w : Int)), .val (.tup (ID p)), .val (.lst (nd (Wd w p))), .val (.tup (ID (shAll (2 ^ w) x (2 ^ k) p.length p))), z, .val (.tup (ID ((enm (2 ^ w) 0 p).drop 1))), .no, .val (.int (x : Int)), .val (.int (k : Int)), .no, .no, .no, .no] κ4 = .ok (.bl false) false κ4 := by
      have hl : evE (run PRG 22) (.call 27 (.cons (.var 1) (.cons (.var 2) .nil))) [.val .cro, .val (.int (w : Int)), .val (.tup (ID p)), .val (.lst (nd (Wd w p))), .val (.tup (ID (shAll (2 ^ w) x (2 ^ k) p.length p))), z, .val (.tup (ID ((enm (2 ^ w) 0 p).drop 1))), .no, .val (.int (x : Int)), .val (.int (k : Int)), .no, .no, .no, .no] κ4 = .ok (.tup (ID (steep (2 ^ w) p))) false κ4 := by
        simp -implicitDefEqProofs [f10]
      rw [s_cmp, hl]
      show R.bind (evE (run PRG 22) _ _ κ4) _ = _
      rw [g10]
      show lift (Cop.ne.f _ _) κ4 = _
      rw [hne]; rfl
    rw [s_if, hc]
    simp
  obtain ⟨y4, y10, y11, h0⟩ := bit_body w hw1 hw p b1 b2 b3 0 (by decide) (.val (.tup (ID (shAll (2 ^ w) x (2 ^ k) p.length p)))) z (.val (.int (x : Int))) (.val (.int (k : Int))) .no .no κ4
  obtain ⟨z4, z10, z11, h1⟩ := bit_body w hw1 hw p b1 b2 b3 1 (by decide) y4 z (.val (.int (x : Int))) (.val (.int (k : Int))) y10 y11 κ4
  have e11 : evS (run PRG 22) (.for_ (.seq (.tup (.cons (.lit (.int 0)) (.cons (.lit (.int 1)) .nil)))) (.nm 7) b_law_right_2) [.val .cro, .val (.int (w : Int)), .val (.tup (ID p)), .val (.lst (nd (Wd w p))), .val (.tup (ID (shAll (2 ^ w) x (2 ^ k) p.length p))), z, .val (.tup (ID ((enm (2 ^ w) 0 p).drop 1))), .no, .val (.int (x : Int)), .val (.int (k : Int)), .no, .no, .no, .no] κ4 = .next [.val .cro, .val (.int (w : Int)), .val (.tup (ID p)), .val (.lst (nd (Wd w p))), z4, z, .val (.tup (ID ((enm (2 ^ w) 0 p).drop 1))), .val (.int 1), .val (.int (x : Int)), .val (.int (k : Int)), z10, z11, .no, .no] κ4 := by
    rw [for_at (seq_at (fr := false) (κ' := κ4) (ds := [.int 0, .int 1]) (.inr (by simp))), s_nm, for_next (ρ1 := _) rfl h0, for_next (ρ1 := _) rfl h1]
    rfl
  rw [run_at (f := f_law_right) rfl rfl]
  show (evB (run PRG 22) f_law_right.body [.val .cro, .no, .no, .no, .no, .no, .no, .no, .no, .no, .no, .no, .no, .no] κ).fn = _
  simp only [f_law_right]
  rw [s_B1, e0, s_t1, s_B1, e1, s_t1, s_B1, e2, s_t1, s_B1, e3, s_t1, s_B1, e4, s_t1, s_B1, e5, s_t1, s_B1, e6, s_t1, s_B1, e7, s_t1, s_B1, e8, s_t1, s_B1, e9, s_t1, s_B1, e10, s_t1, s_B1, e11, s_t1]
  simp -implicitDefEqProofs
def LV : Nat := 24
def LI : Nat := 34
theorem turns (x1 x2 x4 x5 x6 : Slot) (x0 : Slot) (κ : Kp) (v : Val κ 2000) (h4 : x4.nc = true) : ∃ κ' y, y.nc = true ∧ forRun (tgName 4) (evB (run PRG 23) b_law_1) (rngD 0 4) [x0, x1, x2, .val .cro, x4, x5, x6] κ = .next [x0, x1, x2, .val .cro, y, x5, x6] κ' := by
  obtain ⟨ρ', κ', e, κv, y, hy, rfl⟩ := for_rng (j := 4) (lo := 0) (n := 4) (fun i ρ κ0 => Val κ0 (2000 - 300 * i) ∧ ∃ y, y.nc = true ∧ ρ = [x0, x1, x2, .val .cro, y, x5, x6]) (b := evB (run PRG 23) b_law_1) (ρ := [x0, x1, x2, .val .cro, x4, x5, x6]) (κ := κ) ⟨v.less (by omega), x4, h4, rfl⟩ (by
    rintro i ρ κ0 hi ⟨v, y, hy, rfl⟩
    obtain ⟨κ', v', e⟩ := r_right (2000 - 300 * (i + 1)) κ0 (v.less (by omega))
    exact ⟨[x0, x1, x2, .val .cro, .val (.int (i : Int)), x5, x6], κ', .inl (by simp [b_law_1, e]), v', _, rfl, rfl⟩)
  exact ⟨κ', y, hy, e⟩
theorem cells (ns : List Int) (n : Nat) (hn : n ≤ 100) : ∃ x1 x2 x3 x4, forRun (tgName 1) (evB (run PRG 23) b_law_2) (rngD 0 n) [.val (.scr (ns.map D.int)), .no, .no, .no, .no, .no, .no] kOff = .next [.val (.scr (ns.map D.int)), x1, x2, x3, x4, .no, .no] kOff := by
  obtain ⟨ρ', κ', e, rfl, x1, x3, x4, c1, c3, c4, rfl⟩ := for_rng (j := 1) (lo := 0) (n := n) (fun i ρ κ0 => κ0 = kOff ∧ ∃ x1 x3 x4, x1.nc = true ∧ x3.nc = true ∧ x4.nc = true ∧ ρ = [.val (.scr (ns.map D.int)), x1, .no, x3, x4, .no, .no]) (b := evB (run PRG 23) b_law_2) (ρ := [.val (.scr (ns.map D.int)), .no, .no, .no, .no, .no, .no]) (κ := kOff) ⟨rfl, .no, .no, .no, rfl, rfl, rfl, rfl⟩ (by
    rintro i ρ κ0 hi ⟨rfl, x1, x3, x4, c1, c3, c4, rfl⟩
    obtain ⟨A, B, e⟩ := r_bag 22 i ns (by omega) kOff
    obtain ⟨κ', y, hy, e2⟩ := turns (.val (.int (i : Int))) .no x4 .no .no (.val (.scr (ns.map D.int))) ⟨A, B, 0, true⟩ ⟨rfl, Int.le_refl _, by show (0:Int) + 2000 ≤ 2 ^ 63; decide⟩ c4
    have e3 : evS (run PRG 23) (.for_ (.rng (.cons (.lit (.int 4)) .nil)) (.nm 4) b_law_1) [.val (.scr (ns.map D.int)), .val (.int (i : Int)), .no, .val .cro, x4, .no, .no] ⟨A, B, 0, true⟩ = .next [.val (.scr (ns.map D.int)), .val (.int (i : Int)), .no, .val .cro, y, .no, .no] κ' := by
      rw [for_at (rng_it 22 4 (f := false) (κ' := ⟨A, B, 0, true⟩) (by simp) (by omega)), s_nm, e2]
    have e4 := lendC_next (i := 3) (ρ := [.val (.scr (ns.map D.int)), .val (.int (i : Int)), .no, .own (.lst [.int A, .int B, .int 0]), x4, .no, .no]) rfl e3 rfl (by
      have := ncL_ints ns
      simp [Slot.nc, D.nc, ncL, this]
      exact hy)
    refine ⟨[.val (.scr (ns.map D.int)), .val (.int (i : Int)), .no, .own (.lst [.int κ'.a, .int κ'.b, .int κ'.c]), y, .no, .no], kOff, .inl ?_, rfl, _, _, _, rfl, rfl, hy, rfl⟩
    have e5 : evS (run PRG 23) (.lendC 3 (.for_ (.rng (.cons (.lit (.int 4)) .nil)) (.nm 4) b_law_1)) [.val (.scr (ns.map D.int)), .val (.int (i : Int)), .no, .own (.lst [.int A, .int B, .int 0]), x4, .no, .no] kOff = .next [.val (.scr (ns.map D.int)), .val (.int (i : Int)), .no, .own (.lst [.int κ'.a, .int κ'.b, .int κ'.c]), y, .no, .no] kOff := by
      rw [evS, e4]; rfl
    simp only [b_law_2]
    simp [e, e5])
  exact ⟨x1, .no, x3, x4, e⟩
theorem law_run : ∀ ns : List Int, ns.length ≤ 63 → ∃ fr κ, run PRG LV LI [.scr (ns.map D.int)] kOff = .ok (.bl true) fr κ := by
  intro ns hn
  obtain ⟨m, hm, hm2⟩ : ∃ m : Nat, max 1 (min 3 (ns.length : Int)) = (m : Int) ∧ m ≤ 100 := ⟨max 1 (min 3 ns.length), by omega, by omega⟩
  obtain ⟨x1, x2, x3, x4, e⟩ := cells ns m hm2
  refine ⟨false, kOff, ?_⟩
  show run PRG (23 + 1) 34 [.scr (ns.map D.int)] kOff = _
  rw [run_at (f := f_law) rfl rfl]
  rw [show f_law.body = f_law.body.take 1 ++ f_law.body.drop 1 from rfl, evB_append]
  have e1 : evB (run PRG 23) (f_law.body.take 1) [.val (.scr (ns.map D.int)), .no, .no, .no, .no, .no, .no] kOff = .next [.val (.scr (ns.map D.int)), x1, x2, x3, x4, .no, .no] kOff := by
    show evB (run PRG 23) [.for_ (.rng (.cons (.bi .max (.cons (.lit (.int 1)) (.cons (.bi .min (.cons (.lit (.int 3)) (.cons (.bi .len (.cons (.var 0) .nil)) .nil))) .nil))) .nil)) (.nm 1) b_law_2] _ _ = _
    rw [s_B1, for_at (rng_it 0 m (f := false) (κ' := kOff) (by simp [hm]) (by omega)), s_nm, e]
    simp
  have e2 : evB (run PRG 23) (f_law.body.drop 1) [.val (.scr (ns.map D.int)), x1, x2, x3, x4, .no, .no] kOff = .ret (.bl true) false kOff := by
    kernel_rfl
  show ((evB (run PRG 23) (f_law.body.take 1) [.val (.scr (ns.map D.int)), .no, .no, .no, .no, .no, .no] kOff).then_ _).fn = _
  rw [e1, s_t1, e2]
  rfl

end PV
open PySem PySem.W PyProof.Rows
set_option maxRecDepth 100000 in
set_option maxHeartbeats 0 in
theorem PySem.Challenge.cw_wordwide_k66_whole_roots_as_classes_holds : PySem.Challenge.rw_wordwide_k66_whole_roots_as_classes.Holds := by
  w_on; o_law; k_head; (case hw => w_witness2)
  k_fill
  first
    | refine PV.walk (l := PySem.Challenge.rw_wordwide_k66_whole_roots_as_classes) (con := PV.CON) (CL := PV.CLS) (MS := PV.METS) (P := PV.PRG) (f := PV.f_law) (x := "script") (lv := PV.LV) (li := PV.LI) (n := 63) rfl (by decide) rfl ⟨rfl, by decide, by decide⟩ rfl rfl rfl (fun p => by kernel_rfl) (fun w h Y => PySem.W.kIn_of Y) (fun p => by kernel_rfl) PV.law_run
    | refine PV.walk (l := PySem.Challenge.rw_wordwide_k66_whole_roots_as_classes) (con := PV.CON) (CL := PV.CLS) (MS := PV.METS) (P := PV.PRG) (f := PV.f_law) (x := "script") (lv := PV.LV) (li := PV.LI) (n := 63) rfl (by decide) rfl ⟨rfl, by decide, by decide⟩ rfl rfl rfl (fun p => by kernel_rfl) (fun w h Y => PySem.W.km_in_of Y) (fun p => by kernel_rfl) PV.law_run
#print axioms PySem.Challenge.cw_wordwide_k66_whole_roots_as_classes_holds
