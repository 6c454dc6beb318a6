import PyProof.Rows.All
import Wide.All
import OpenK.AllK
import Wide.FinOn
import HandS.ForMost
import HandS.ForExc
import HandS.TupAny
import HandS.TupMul
import HandS.Wide
import HandS.EndBits
import HandS.Lambda
import HandS.EndTab
import HandS.ExcInit
import HandS.ExcValue
import HandS.ExcIs
import HandS.ExcField
import HandS.IsInst
import HandS.Style
import HandS.SortInts
import KE.KTupSum
import KE.KExcIs
import HandS.Conv
import HandS.Iter
import HandS.TupSets
import PyProof.WalksS
import PyProof.ConsumeS
import PyProof.WalkInts
import HandS.SortKw
import HandS.SetFor
import HandS.Strs
import HandS.Deep
import KE.DataMinMax
import HandS.Dict
import HandS.Small
import HandS.TryMany
import HandS.ClsMeth
import PySem.Challenge.RW_anyparcels_k19_errors_and_their_classes
set_option Elab.async false
set_option linter.all false
set_option autoImplicit false
set_option maxRecDepth 100000
namespace Pz
open PySem PySem.Spec PyProof.Rows L2

/-! ## data, heaps -/
abbrev D := PyData
mutual
/-- no dict in it -/
def noD : D → Bool
  | .dict _ => false
  | .list xs => noDs xs
  | .tuple xs => noDs xs
  | _ => true
def noDs : List D → Bool
  | [] => true
  | x :: xs => noD x && noDs xs
end
theorem noDs_all : ∀ {xs : List D}, noDs xs = true ↔ ∀ x ∈ xs, noD x = true
  | [] => by simp [noDs]
  | x :: xs => by
    unfold noDs
    rw [Bool.and_eq_true, noDs_all (xs := xs)]
    simp
/-- what a slot holds: nothing known, data (frozen), the draws' list, a list of our own, the script -/
inductive L where
  | no | val (d : D) | hat | own (xs : List D) | scr (ns : List Int)
abbrev En := List L
/-- what may change, and which of it are tables of code objects -/
structure Tr where
  m : Addr → Prop
  q : Addr → Option Str
instance : CoeFun Tr fun _ => Addr → Prop := ⟨Tr.m⟩
def Tr.hat (T : Tr) (a : Addr) : Prop := T a ∧ T.q a = none

/-- types of data -/
abbrev tyL : List String := ["bool", "int", "str", "list", "tuple"]
/-- what an own exception class, and another own class, must say -/
structure ExK1 (K : PySem.W.Frag) (C : Addr) : Prop where
  c : L2.ExcC K C
  k : ∀ t ∈ tyL, PySem.W.kitOne K (.ref C) (.type t) = some false
structure InK1 (K : PySem.W.Frag) (C : Addr) : Prop where
  cl : L2.Cls K C
  ha : PySem.W.findIn K (.ref C) "__class__" = some (some (.builtin "object.__class__"))
  hn : PySem.W.specialIn K (.builtin "object.__class__") "__get__" = some (some (.builtin "getset_descriptor.__get__"))
  ht : PySem.W.takesIn K (.builtin "object.__class__") = some true
  hm : PySem.W.mroIn K C (.type "object") = some true
  k : ∀ t ∈ tyL, PySem.W.kitOne K (.ref C) (.type t) = some false
def ClsAt (K : PySem.W.Frag) (nm : Str) (C : Addr) : Prop := PySem.W.nsIn K mainGlobals nm = some (some (.ref C))
/-- an exception, one with a number, an instance that keeps data -/
def excD (nm : Str) : D := .dict [(.none, .str nm)]
def exlD (nm : Str) (n : Int) : D := .dict [(.none, .str nm), (.none, .int n)]
def insD (nm : Str) (d : D) : D := .dict [(.bool true, .str nm), (.none, d)]
mutual
inductive Rp (K : PySem.W.Frag) (B : Hp) : V → D → Prop
  | non : Rp K B .non .none
  | bl (b : Bool) : Rp K B (.bl b) (.bool b)
  | int (i : Int) : Rp K B (.int i) (.int i)
  | str (x : Str) : Rp K B (.str x) (.str x)
  | lst {a : Addr} {vs : List V} {ds : List D} : B a = some (.lst vs) → RpA K B vs ds → Rp K B (.ref a) (.list ds)
  | tup {a : Addr} {vs : List V} {ds : List D} : SqT K B a vs → RpA K B vs ds → Rp K B (.ref a) (.tuple ds)
  | dsi {a : Addr} {ps : List (Str × Int)} : B a = some (.dK (ps.map fun p => (.inr p.1, .int p.2))) → Rp K B (.ref a) (.dict (ps.map fun p => (.str p.1, .int p.2)))
  | exc {a C : Addr} {nm : Str} : ClsAt K nm C → ExK1 K C → B a = some (L2.ExO (.ref C) a) → Rp K B (.ref a) (excD nm)
  | exl {a C d : Addr} {nm : Str} {n : Int} : ClsAt K nm C → ExK1 K C → B a = some (L2.exo a C (some d)) → B d = some (L2.exd d [("limit", .int n)]) → Rp K B (.ref a) (exlD nm n)
  | ins {a C dx : Addr} {nm : Str} {v : V} {d : D} : ClsAt K nm C → InK1 K C → B a = some (.ins C dx [("moves_so", v)]) → Rp K B v d → Rp K B (.ref a) (insD nm d)
inductive RpA (K : PySem.W.Frag) (B : Hp) : List V → List D → Prop
  | nil : RpA K B [] []
  | cons {v : V} {vs : List V} {d : D} {ds : List D} : Rp K B v d → RpA K B vs ds → RpA K B (v :: vs) (d :: ds)
end

theorem same_upd {H : Hp} {p : Addr} {o : HO} (h : H p = none) : Same H (upd H p o) := fun b x e => by
  rw [upd_ne (ne_of_none e h)]
  exact e
theorem same_tup {K : PySem.W.Frag} {H H' : Hp} {a : Addr} {xs : List V} (e : Same H H') (h : SqT K H a xs) : SqT K H' a xs := by
  rcases h with (h | ⟨o, h⟩) | h
  · exact .inl (.inl (e _ _ h))
  · exact .inl (.inr ⟨o, e _ _ h⟩)
  · exact .inr h
section
variable {K : PySem.W.Frag} {B B' H H' : Hp}
mutual
theorem Rp.mono (e : Same B B') : ∀ {v : V} {d : D}, Rp K B v d → Rp K B' v d
  | _, _, .non => .non
  | _, _, .bl b => .bl b
  | _, _, .int i => .int i
  | _, _, .str x => .str x
  | _, _, .lst h r => .lst (e _ _ h) (RpA.mono e r)
  | _, _, .tup h r => .tup (same_tup e h) (RpA.mono e r)
  | _, _, .dsi h => .dsi (e _ _ h)
  | _, _, .exc h k q => .exc h k (e _ _ q)
  | _, _, .exl h k q r => .exl h k (e _ _ q) (e _ _ r)
  | _, _, .ins h k q r => .ins h k (e _ _ q) (Rp.mono e r)
theorem RpA.mono (e : Same B B') : ∀ {vs : List V} {ds : List D}, RpA K B vs ds → RpA K B' vs ds
  | _, _, .nil => .nil
  | _, _, .cons h r => .cons (Rp.mono e h) (RpA.mono e r)
end
mutual
theorem Rp.dp (e : Same B H) : ∀ {v : V} {d : D}, Rp K B v d → noD d = true → Dp K H v d
  | _, _, .non, _ => .non
  | _, _, .bl b, _ => .bl b
  | _, _, .int i, _ => .int i
  | _, _, .str x, _ => .str x
  | _, _, .lst h r, n => .lst (.of (e _ _ h)) (RpA.dp e r n)
  | _, _, .tup h r, n => .tup (same_tup e h) (RpA.dp e r n)
  | _, _, .dsi h, n => nomatch n
  | _, _, .exc _ _ _, n => nomatch n
  | _, _, .exl _ _ _ _, n => nomatch n
  | _, _, .ins _ _ _ _, n => nomatch n
theorem RpA.dp (e : Same B H) : ∀ {vs : List V} {ds : List D}, RpA K B vs ds → noDs ds = true → DpAll K H vs ds
  | _, _, .nil, _ => .nil
  | _, _, .cons h r, n => .cons (Rp.dp e h ((Bool.and_eq_true _ _).mp n).1) (RpA.dp e r ((Bool.and_eq_true _ _).mp n).2)
end
theorem RpA.length : ∀ {vs : List V} {ds : List D}, RpA K B vs ds → vs.length = ds.length
  | _, _, .nil => rfl
  | _, _, .cons _ r => by simp [RpA.length r]
theorem RpA.get : ∀ {vs : List V} {ds : List D} {i : Nat} {d : D}, RpA K B vs ds → ds[i]? = some d → ∃ v, vs[i]? = some v ∧ Rp K B v d
  | _, _, _, _, .nil, e => by simp at e
  | _, _, 0, _, .cons h _, e => by simp at e; subst e; exact ⟨_, rfl, h⟩
  | _, _, i + 1, d, .cons _ t, e => by
    obtain ⟨u, h1, h2⟩ := RpA.get (i := i) (d := d) t (by simpa using e)
    exact ⟨u, by simpa using h1, h2⟩
theorem RpA.get' : ∀ {vs : List V} {ds : List D} {i : Nat} {v : V}, RpA K B vs ds → vs[i]? = some v → ∃ d, ds[i]? = some d ∧ Rp K B v d
  | _, _, _, _, .nil, e => by simp at e
  | _, _, 0, _, .cons h _, e => by simp at e; subst e; exact ⟨_, rfl, h⟩
  | _, _, i + 1, d, .cons _ t, e => by
    obtain ⟨u, h1, h2⟩ := RpA.get' (i := i) (v := d) t (by simpa using e)
    exact ⟨u, by simpa using h1, h2⟩
theorem RpA.append : ∀ {vs ws : List V} {ds es : List D}, RpA K B vs ds → RpA K B ws es → RpA K B (vs ++ ws) (ds ++ es)
  | _, _, _, _, .nil, s => s
  | _, _, _, _, .cons r t, s => .cons r (RpA.append t s)
theorem RpA.take : ∀ {vs : List V} {ds : List D} (n : Nat), RpA K B vs ds → RpA K B (vs.take n) (ds.take n)
  | _, _, 0, _ => .nil
  | _, _, _ + 1, .nil => .nil
  | _, _, n + 1, .cons r t => .cons r (RpA.take n t)
theorem RpA.drop : ∀ {vs : List V} {ds : List D} (n : Nat), RpA K B vs ds → RpA K B (vs.drop n) (ds.drop n)
  | _, _, 0, r => r
  | _, _, _ + 1, .nil => .nil
  | _, _, n + 1, .cons _ t => RpA.drop n t
theorem RpA.rep {vs : List V} {ds : List D} (r : RpA K B vs ds) : ∀ k : Nat, RpA K B (List.replicate k vs).flatten (List.replicate k ds).flatten
  | 0 => .nil
  | k + 1 => by
    rw [List.replicate_succ, List.replicate_succ, List.flatten_cons, List.flatten_cons]
    exact r.append (RpA.rep r k)
/-- ints, texts, bools -/
theorem RpA.ints : ∀ {vs : List V} {ns : List Int}, RpA K B vs (ns.map .int) → vs = ns.map .int
  | _, [], .nil => rfl
  | _, _ :: _, .cons (.int i) r => by rw [RpA.ints r]; rfl
theorem RpA.of_ints : ∀ ns : List Int, RpA K B (ns.map .int) (ns.map .int)
  | [] => .nil
  | n :: ns => .cons (.int n) (RpA.of_ints ns)
theorem RpA.bools : ∀ {vs : List V} {ns : List Bool}, RpA K B vs (ns.map .bool) → vs = ns.map .bl
  | _, [], .nil => rfl
  | _, _ :: _, .cons (.bl i) r => by rw [RpA.bools r]; rfl
theorem RpA.strs : ∀ {vs : List V} {ns : List Str}, RpA K B vs (ns.map .str) → vs = ns.map .str
  | _, [], .nil => rfl
  | _, _ :: _, .cons (.str i) r => by rw [RpA.strs r]; rfl
end

/-- a list of draws: two numbers -/
def HatB (x y : Int) : Prop := 0 ≤ x ∧ x < 10 ^ 240 ∧ 0 ≤ y ∧ y < 2147482740
def HatAt (H : Hp) (a : Addr) : Prop := ∃ x y, H a = some (.lst [.int x, .int y]) ∧ HatB x y

/-- no table of code objects -/
def NT (o : HO) : Prop := ∀ ps, o ≠ .tbl ps
theorem nt_lst (vs : List V) : NT (.lst vs) := fun _ z => by cases z
theorem nt_tup (vs : List V) : NT (.tup vs) := fun _ z => by cases z
/-- nothing of ours -/
def Fr (H : Hp) (a : Addr) : Prop := ∀ o, H a = some o → ∃ ps, o = .tbl ps
theorem Fr.of {H : Hp} {a : Addr} (h : H a = none) : Fr H a := fun o z => by rw [h] at z; cases z
theorem Fr.no {H : Hp} {a : Addr} {o : HO} (f : Fr H a) (h : H a = some o) (n : NT o) : False := by
  obtain ⟨ps, e⟩ := f o h
  exact n ps e
def NoCode (H : Hp) (p : Addr) : Prop := ∀ c q, H p ≠ some (LamX.CodeO c q)
theorem NoCode.lst {H : Hp} {p : Addr} {vs : List V} (h : H p = some (.lst vs)) : NoCode H p := fun c q z => by
  rw [h] at z
  unfold LamX.CodeO at z
  cases z
theorem NoCode.dk {H : Hp} {p : Addr} {vs : List (Key × V)} (h : H p = some (.dK vs)) : NoCode H p := fun c q z => by
  rw [h] at z
  unfold LamX.CodeO at z
  cases z
/-- what may change stands as it should -/
def MutAt (T : Tr) (H : Hp) (a : Addr) : Prop := match T.q a with
  | none => HatAt H a
  | some q => LamX.TabS H a q
section
variable {T : Tr} {H H' : Hp} {a p : Addr} {u : HO}
theorem MutAt.some (h : MutAt T H a) : ∃ o, H a = some o := by
  unfold MutAt at h
  split at h
  · obtain ⟨x, y, z, _⟩ := h; exact ⟨_, z⟩
  · obtain ⟨ps, z, _⟩ := h; exact ⟨_, z⟩
theorem MutAt.ext (h : MutAt T H a) (e : Same H H') : MutAt T H' a := by
  unfold MutAt at h ⊢
  split at h
  · obtain ⟨x, y, z, w⟩ := h; exact ⟨x, y, e _ _ z, w⟩
  · exact h.ext e
theorem MutAt.hat (h : MutAt T H a) (t : T.hat a) : HatAt H a := by
  unfold MutAt at h
  rw [t.2] at h
  exact h
theorem MutAt.upd (h : MutAt T H a) (ne : a ≠ p) (n : NoCode H p) : MutAt T (upd H p u) a := by
  unfold MutAt at h ⊢
  split at h
  · obtain ⟨x, y, z, w⟩ := h; exact ⟨x, y, by rw [upd_ne ne]; exact z, w⟩
  · obtain ⟨ps, h1, h2, h3⟩ := h
    refine ⟨ps, by rw [upd_ne ne]; exact h1, h2, fun pos cv hc => ?_⟩
    obtain ⟨c, e1, e2⟩ := h3 pos cv hc
    refine ⟨c, e1, ?_⟩
    have nc : c ≠ p := fun z => by subst z; exact n _ _ e2
    rw [upd_ne nc]; exact e2
end
def NoTab (B : Hp) : Prop := ∀ a ps, B a ≠ some (.tbl ps)
theorem NoTab.nt {B : Hp} (n : NoTab B) {a : Addr} {o : HO} (h : B a = some o) : NT o := fun ps z => by subst z; exact n _ _ h
theorem NoTab.upd {B : Hp} {p : Addr} {o : HO} (n : NoTab B) (h : NT o) : NoTab (upd B p o) := fun a ps z => by
  by_cases q : a = p
  · subst q; rw [upd_same] at z; exact h ps (Option.some.inj z)
  · rw [upd_ne q] at z; exact n _ _ z

/-- the frozen part and the heap have grown; the draws' lists may have turned, and the tables -/
structure Ext (T : Tr) (B H B' H' : Hp) : Prop where
  b : Same B B'
  s : Same B' H'
  k : ∀ a o, H a = some o → NT o → B a = none → B' a = none ∧ (H' a = some o ∨ T.hat a)
  t : ∀ a, T a → MutAt T H' a
  n : NoTab B → NoTab B'
section
variable {T T' : Tr} {B H B1 H1 B2 H2 : Hp}
theorem Ext.free (e : Ext T B H B1 H1) (hs : Same B H) {a : Addr} (h : Fr H1 a) : Fr H a := fun o z => by
  refine Classical.byContradiction fun hn => ?_
  have n : NT o := fun ps w => hn ⟨ps, w⟩
  cases q : B a with
  | some u =>
    have y := hs _ _ q
    rw [z] at y
    cases y
    exact h.no (e.s _ _ (e.b _ _ q)) n
  | none =>
    rcases (e.k a o z n q).2 with y | y
    · exact h.no y n
    · obtain ⟨x, w, y, _⟩ := (e.t a y.1).hat y
      exact h.no y (nt_lst _)
theorem Ext.trans (e : Ext T B H B1 H1) (f : Ext T B1 H1 B2 H2) : Ext T B H B2 H2 where
  b := e.b.trans f.b
  s := f.s
  k := fun a o h n hb => by
    obtain ⟨z1, z2⟩ := e.k a o h n hb
    rcases z2 with z2 | z2
    · obtain ⟨y1, y2⟩ := f.k a o z2 n z1
      exact ⟨y1, y2⟩
    · obtain ⟨x, y, hx, _⟩ := (e.t a z2.1).hat z2
      exact ⟨(f.k a _ hx (nt_lst _) z1).1, .inr z2⟩
  t := f.t
  n := fun z => f.n (e.n z)
theorem Ext.refl (s : Same B H) (t : ∀ a, T a → MutAt T H a) : Ext T B H B H := ⟨Same.refl B, s, fun a o h _ hb => ⟨hb, .inl h⟩, t, id⟩
end
/-- .. and nothing of the old heap is another -/
structure PExt (B H B' H' : Hp) : Prop where
  b : Same B B'
  s : Same B' H'
  h : Same H H'
  k : ∀ a o, H a = some o → B a = none → B' a = none
  n : NoTab B → NoTab B'
theorem PExt.ext {T : Tr} {B H B' H' : Hp} (e : PExt B H B' H') (t : ∀ a, T a → MutAt T H a) : Ext T B H B' H' :=
  ⟨e.b, e.s, fun a o h _ hb => ⟨e.k a o h hb, .inl (e.h _ _ h)⟩, fun a ha => (t a ha).ext e.h, e.n⟩
theorem PExt.refl {B H : Hp} (s : Same B H) : PExt B H B H := ⟨Same.refl B, s, Same.refl H, fun _ _ _ hb => hb, id⟩
/-- a new frozen object -/
theorem PExt.new {B H : Hp} {p : Addr} {o : HO} (s : Same B H) (hp : H p = none) (ho : NT o := by intro _ z; cases z) : PExt B H (upd B p o) (upd H p o) := by
  have hb : B p = none := s.free hp
  refine ⟨same_upd hb, fun a x e => ?_, same_upd hp, fun a x h hb => ?_, fun n => n.upd ho⟩
  · by_cases q : a = p
    · subst q; rw [upd_same] at e ⊢; exact e
    · rw [upd_ne q] at e ⊢; exact s _ _ e
  · by_cases q : a = p
    · subst q; rw [hp] at h; cases h
    · rw [upd_ne q]; exact hb
/-- a new object of our own -/
theorem PExt.newOwn {B H : Hp} {p : Addr} {o : HO} (s : Same B H) (hp : H p = none) : PExt B H B (upd H p o) := by
  refine ⟨Same.refl B, s.trans (same_upd hp), same_upd hp, fun a x h hb => hb, id⟩

/-- a value's or argument's standing; H0: the heap at the start -/
def RpL (K : PySem.W.Frag) (T : Tr) (H0 B H : Hp) (v : V) : L → Prop
  | .no => False
  | .val d => Rp K B v d
  | .hat => ∃ a, v = .ref a ∧ T.hat a
  | .own xs => ∃ a vs, v = .ref a ∧ Fr H0 a ∧ B a = none ∧ ¬ T a ∧ H a = some (.lst vs) ∧ RpA K B vs xs
  | .scr ns => ∃ a, v = .ref a ∧ SqL K B a (ns.map .int)
/-- as an argument (nothing of our own) -/
def RpG (K : PySem.W.Frag) (T : Tr) (B : Hp) (v : V) : L → Prop
  | .no => False
  | .val d => Rp K B v d
  | .hat => ∃ a, v = .ref a ∧ T.hat a
  | .own _ => False
  | .scr ns => ∃ a, v = .ref a ∧ SqL K B a (ns.map .int)
def SlotR (K : PySem.W.Frag) (T : Tr) (H0 B H : Hp) (s : Option (Option V)) : L → Prop
  | .no => True
  | l => ∃ v, s = some (some v) ∧ RpL K T H0 B H v l
def L.d? : L → Option D
  | .val d => some d
  | .own xs => some (.list xs)
  | _ => none
/-- what is handed on: a list of our own is frozen -/
def L.arg : L → L
  | .own xs => .val (.list xs)
  | l => l
/-- the tables of code objects of the text's own defs -/
def lamDefs : List Str := ["law", "_law_tried", "_law_called", "_law_shows", "_law_ended", "_law_nested", "_law_back", "_law_full_right", "_law_signs_right", "_law_refused", "_law_first_calls", "_law_size_calls", "_law_child_calls", "_law_stop_calls"]
def tabsOf (K : PySem.W.Frag) : List (Addr × Str) := lamDefs.filterMap fun x => (PySem.W.tabIn K x).map fun p => (p.2, x ++ ".<locals>." ++ "<lambda>")
structure OK (K : PySem.W.Frag) (T0 : Tr) (B0 H0 : Hp) (T : Tr) (B H : Hp) (σ : L2.St) (ρ : En) : Prop where
  x : Ext T0 B0 H0 B H
  fr : ∀ a, Fr H a → Fr H0 a
  t0 : ∀ a, T0 a → T a
  t1 : ∀ a o, T a → H0 a = some o → NT o → T0 a
  tq : ∀ a, T0 a → T.q a = T0.q a
  tw : ∀ P q, (P, q) ∈ tabsOf K ↔ T P ∧ T.q P = some q
  nt : NoTab B0
  tb : ∀ a, T a → B a = none
  th : ∀ a, T a → MutAt T H a
  len : ρ.length = σ.length
  sl : ∀ (i : Nat) (l : L), ρ[i]? = some l → SlotR K T H0 B H σ[i]? l
  ap : ∀ (i j : Nat) (xs ys : List D) (a : Addr), ρ[i]? = some (.own xs) → ρ[j]? = some (.own ys) → σ[i]? = some (some (.ref a)) → σ[j]? = some (some (.ref a)) → i = j
section
variable {K : PySem.W.Frag} {T0 T : Tr} {B0 H0 B H B1 H1 B2 H2 : Hp} {σ : L2.St} {ρ : En} {v : V} {l : L}
theorem OK.sub (o : OK K T0 B0 H0 T B H σ ρ) : Same B H := o.x.s
theorem OK.ntB (o : OK K T0 B0 H0 T B H σ ρ) : NoTab B := o.x.n o.nt
theorem OK.hat0 (o : OK K T0 B0 H0 T B H σ ρ) {a : Addr} (h : T0.hat a) : T.hat a := ⟨o.t0 a h.1, (o.tq a h.1).trans h.2⟩
theorem OK.hat1 (o : OK K T0 B0 H0 T B H σ ρ) {a : Addr} {u : HO} (h : T.hat a) (h0 : H0 a = some u) (n : NT u) : T0.hat a := by
  have z := o.t1 a u h.1 h0 n
  exact ⟨z, (o.tq a z).symm.trans h.2⟩
theorem OK.mut0 (o : OK K T0 B0 H0 T B H σ ρ) {a : Addr} (h : T0 a) {H' : Hp} (m : MutAt T H' a) : MutAt T0 H' a := by
  unfold MutAt at m ⊢
  rw [o.tq a h] at m
  exact m
/-- the hats' extension as one of the entry's -/
theorem OK.ext (o : OK K T0 B0 H0 T B H σ ρ) (e : Ext T B H B1 H1) : Ext T0 B0 H0 B1 H1 where
  b := o.x.b.trans e.b
  s := e.s
  k := fun a u h n hb => by
    obtain ⟨z1, z2⟩ := o.x.k a u h n hb
    rcases z2 with z2 | z2
    · obtain ⟨y1, y2⟩ := e.k a u z2 n z1
      refine ⟨y1, y2.elim .inl fun t => .inr (o.hat1 t h n)⟩
    · obtain ⟨x, y, hx, _⟩ := (o.x.t a z2.1).hat z2
      exact ⟨(e.k a _ hx (nt_lst _) z1).1, .inr z2⟩
  t := fun a ha => o.mut0 ha (e.t a (o.t0 a ha))
  n := fun z => e.n (o.x.n z)
/-- what may change is never frozen -/
theorem OK.tbE (o : OK K T0 B0 H0 T B H σ ρ) (e : Ext T B H B1 H1) (a : Addr) (ha : T a) : B1 a = none := by
  have m := o.th a ha
  unfold MutAt at m
  split at m
  · obtain ⟨x, y, h, _⟩ := m
    exact (e.k a _ h (nt_lst _) (o.tb a ha)).1
  · rename_i q hq
    have m2 := e.t a ha
    unfold MutAt at m2
    rw [hq] at m2
    obtain ⟨ps, h, _⟩ := m2
    cases w : B1 a with
    | none => rfl
    | some u =>
      have y := e.s _ _ w
      rw [h] at y
      cases y
      exact absurd w (e.n o.ntB _ _)
theorem OK.step (o : OK K T0 B0 H0 T B H σ ρ) (e : Ext T B H B1 H1) : OK K T0 B0 H0 T B1 H1 σ ρ where
  x := o.ext e
  fr := fun a ha => o.fr a (e.free o.sub ha)
  t0 := o.t0
  t1 := o.t1
  tq := o.tq
  tw := o.tw
  nt := o.nt
  tb := o.tbE e
  th := e.t
  len := o.len
  sl := fun i l hl => by
    have q := o.sl i l hl
    cases l with
    | no => trivial
    | val d => obtain ⟨v, h1, h2⟩ := q; exact ⟨v, h1, Rp.mono e.b h2⟩
    | hat => exact q
    | own xs =>
      obtain ⟨v, h1, a, vs, h2, h3, h4, h5, h6, h7⟩ := q
      obtain ⟨z1, z2⟩ := e.k a _ h6 (nt_lst _) h4
      exact ⟨v, h1, a, vs, h2, h3, z1, h5, z2.resolve_right fun z => h5 z.1, RpA.mono e.b h7⟩
    | scr ns => obtain ⟨v, h1, a, h2, h3⟩ := q; exact ⟨v, h1, a, h2, e.b.seq h3⟩
  ap := o.ap
theorem OK.pstep (o : OK K T0 B0 H0 T B H σ ρ) (e : PExt B H B1 H1) : OK K T0 B0 H0 T B1 H1 σ ρ := o.step (e.ext o.th)
/-- a list of our own that was made behind the start is frozen -/
theorem Ext.frz {a : Addr} {vs : List V} (e : Ext T B H B1 H1) (h0 : Fr H a) (hT : ¬ T a) (h1 : B1 a = none) (h2 : H1 a = some (.lst vs)) : Ext T B H (upd B1 a (.lst vs)) H1 where
  b := e.b.trans (same_upd h1)
  s := fun b x q => by
    by_cases z : b = a
    · subst z; rw [upd_same] at q; rw [h2]; exact q
    · rw [upd_ne z] at q; exact e.s _ _ q
  k := fun b o h n hb => by
    have ne : b ≠ a := fun z => by subst z; exact h0.no h n
    rw [upd_ne ne]
    exact e.k b o h n hb
  t := e.t
  n := fun z => (e.n z).upd (nt_lst _)
/-- a result as data: frozen if need be -/
theorem to_d {d : D} (e : Ext T B H B1 H1) (r : RpL K T H B1 H1 v l) (hd : l.d? = some d) : ∃ B2, Ext T B H B2 H1 ∧ Same B1 B2 ∧ Rp K B2 v d := by
  cases l with
  | no => cases r
  | val x => cases hd; exact ⟨B1, e, Same.refl _, r⟩
  | hat => cases hd
  | scr ns => cases hd
  | own xs =>
    cases hd
    obtain ⟨a, vs, rfl, h0, hb, hT, h2, rr⟩ := r
    exact ⟨_, e.frz h0 hT hb h2, same_upd hb, .lst upd_same (rr.mono (same_upd hb))⟩
theorem to_arg (e : Ext T B H B1 H1) (r : RpL K T H B1 H1 v l) : ∃ B2, Ext T B H B2 H1 ∧ Same B1 B2 ∧ RpG K T B2 v l.arg := by
  cases l with
  | no => cases r
  | val x => exact ⟨B1, e, Same.refl _, r⟩
  | hat => exact ⟨B1, e, Same.refl _, r⟩
  | scr ns => exact ⟨B1, e, Same.refl _, r⟩
  | own xs =>
    obtain ⟨a, vs, rfl, h0, hb, hT, h2, rr⟩ := r
    exact ⟨_, e.frz h0 hT hb h2, same_upd hb, .lst upd_same (rr.mono (same_upd hb))⟩
theorem RpG.mono {v : V} {l : L} (e : Same B B1) (r : RpG K T B v l) : RpG K T B1 v l := by
  cases l with
  | no => exact r
  | val d => exact Rp.mono e r
  | hat => exact r
  | own _ => exact r
  | scr ns => obtain ⟨a, h1, h2⟩ := r; exact ⟨a, h1, e.seq h2⟩
/-- a result of a later start is one of an earlier start -/
theorem RpL.back (s : Same B H) (e : Ext T B H B1 H1) (r : RpL K T H1 B2 H2 v l) : RpL K T H B2 H2 v l := by
  cases l with
  | no => exact r
  | val d => exact r
  | hat => exact r
  | scr ns => exact r
  | own xs =>
    obtain ⟨a, vs, rfl, h0, q⟩ := r
    exact ⟨a, vs, rfl, e.free s h0, q⟩
end
end Pz

set_option Elab.async false
set_option linter.all false
set_option autoImplicit false
set_option maxRecDepth 100000
namespace Pz
open PySem PySem.Spec PyProof.Rows L2

/-! ## judgements over data -/
abbrev WE := En → (L → Prop) → (Str → Prop) → Prop
abbrev WA := En → (List L → Prop) → (Str → Prop) → Prop
abbrev WT := En → (Bool → Prop) → (Str → Prop) → Prop
/-- a result of a pure operation -/
def RpP (K : PySem.W.Frag) (H0 B H : Hp) (v : V) : L → Prop
  | .val d => Rp K B v d
  | .own xs => ∃ a vs, v = .ref a ∧ H0 a = none ∧ B a = none ∧ H a = some (.lst vs) ∧ RpA K B vs xs
  | _ => False
theorem not_hat {T : Tr} {H : Hp} {a : Addr} (t : ∀ a, T a → MutAt T H a) (h : H a = none) : ¬ T a := fun ha => by
  obtain ⟨o, z⟩ := (t a ha).some
  rw [h] at z
  cases z
theorem RpP.l {K : PySem.W.Frag} {T : Tr} {H0 B H : Hp} {v : V} {l : L} (t : ∀ a, T a → MutAt T H0 a) (r : RpP K H0 B H v l) : RpL K T H0 B H v l := by
  cases l with
  | no => exact r
  | val d => exact r
  | hat => exact r.elim
  | scr ns => exact r.elim
  | own xs =>
    obtain ⟨a, vs, e, h0, q1, q2, q3⟩ := r
    exact ⟨a, vs, e, .of h0, q1, not_hat t h0, q2, q3⟩
/-- what is wanted of an exception, by its class's name -/
def ExK (mg : Str → Option Value) (E : XK) (T : Tr) (B H : Hp) (Px : Str → Prop) : Prop := ∀ (nm : Str) (c : Addr) (B' H' : Hp), Px nm → mg nm = some (.ref c) → Ext T B H B' H' → E (.ref c) none H'
theorem ExK.step {mg : Str → Option Value} {E : XK} {T : Tr} {B H B1 H1 : Hp} {Px : Str → Prop} (x : ExK mg E T B H Px) (e : Ext T B H B1 H1) : ExK mg E T B1 H1 Px := fun nm c B' H' q m f => x nm c B' H' q m (e.trans f)
def tF (K : PySem.W.Frag) (mg : Str → Option Value) (E : XK) (w : WE) : TE := fun σ H Q => ∃ (T0 : Tr) (B0 H0 : Hp) (T : Tr) (B : Hp) (ρ : En) (P : L → Prop) (Px : Str → Prop),
  OK K T0 B0 H0 T B H σ ρ ∧ w ρ P Px ∧ (∀ l v B' H', P l → Ext T B H B' H' → RpL K T H B' H' v l → Q v H') ∧ ExK mg E T B H Px
def tFT (K : PySem.W.Frag) (mg : Str → Option Value) (E : XK) (w : WT) : TT := fun σ H Q => ∃ (T0 : Tr) (B0 H0 : Hp) (T : Tr) (B : Hp) (ρ : En) (P : Bool → Prop) (Px : Str → Prop),
  OK K T0 B0 H0 T B H σ ρ ∧ w ρ P Px ∧ (∀ b B' H', P b → Ext T B H B' H' → Q b H') ∧ ExK mg E T B H Px
def tFA (K : PySem.W.Frag) (mg : Str → Option Value) (E : XK) (w : WA) : TA := fun σ H Q => ∃ (T0 : Tr) (B0 H0 : Hp) (T : Tr) (B : Hp) (ρ : En) (P : List L → Prop) (Px : Str → Prop),
  OK K T0 B0 H0 T B H σ ρ ∧ w ρ P Px ∧ (∀ ls vs B' H', P ls → Ext T B H B' H' → Paired (RpG K T B') vs ls → Q vs H') ∧ ExK mg E T B H Px
structure FE (X : Cx) (E : XK) (e : Expr) (w : WE) : Prop where
  pe : PE X e (tF X.K X.mg E w)
structure FT (X : Cx) (E : XK) (e : Expr) (w : WT) : Prop where
  pt : PT X e (tFT X.K X.mg E w)
structure FW (X : Cx) (E : XK) (e : Expr) (w : WT) : Prop where
  pw : PW X e (tFT X.K X.mg E w)
structure FA (X : Cx) (E : XK) (es : List Expr) (w : WA) : Prop where
  pa : PA X es (tFA X.K X.mg E w)
section
variable {X : Cx} {E : XK} {e a b : Expr} {es : List Expr} {w wa wb : WE} {pos : Pos}
theorem pe_imp {t t' : TE} (h : PE X e t) (i : ∀ σ H Q, t' σ H Q → t σ H Q) : PE X e t' := ⟨fun pins s σ H Q I q => h.run pins s σ H Q I (i σ H Q q)⟩
theorem pt_imp {t t' : TT} (h : PT X e t) (i : ∀ σ H Q, t' σ H Q → t σ H Q) : PT X e t' := ⟨fun pins s σ H Q I q => h.run pins s σ H Q I (i σ H Q q)⟩
theorem pw_imp {t t' : TT} (h : PW X e t) (i : ∀ σ H Q, t' σ H Q → t σ H Q) : PW X e t' := ⟨fun wh pins s σ H Q I q => h.run wh pins s σ H Q I (i σ H Q q)⟩
theorem pa_imp {t t' : TA} (h : PA X es t) (i : ∀ σ H Q, t' σ H Q → t σ H Q) : PA X es t' := ⟨fun pos pins s σ H Q I q => h.run pos pins s σ H Q I (i σ H Q q)⟩
theorem ps_imp {st : Stmt} {t t' : TS} (h : PS X st t) (i : ∀ D σ H, t' D σ H → t D σ H) : PS X st t' := ⟨fun pins s σ H D I q => h.run pins s σ H D I (i D σ H q)⟩
theorem pss_imp {st : List Stmt} {t t' : TS} (h : PSs X st t) (i : ∀ D σ H, t' D σ H → t D σ H) : PSs X st t' := ⟨fun pins s σ H D I q => h.run pins s σ H D I (i D σ H q)⟩
/-- a name that a slot holds -/
def wVar (i : Nat) (ρ : En) (P : L → Prop) (_ : Str → Prop) : Prop := match ρ[i]? with
  | some (.val d) => P (.val d)
  | some .hat => P .hat
  | some (.scr ns) => P (.scr ns)
  | _ => False
theorem fe_var (i : Nat) (h : PE X e (tVar i)) : FE X E e (wVar i) := ⟨pe_imp h fun σ H Q ⟨T0, B0, H0, T, B, ρ, P, Px, o, hw, hQ, hx⟩ => by
  unfold wVar at hw
  have e := Ext.refl o.sub o.th
  split at hw <;> rename_i hl
  · obtain ⟨v, h1, h2⟩ := o.sl i _ hl
    exact ⟨v, h1, hQ _ _ _ _ hw e h2⟩
  · obtain ⟨v, h1, h2⟩ := o.sl i _ hl
    exact ⟨v, h1, hQ _ _ _ _ hw e h2⟩
  · obtain ⟨v, h1, h2⟩ := o.sl i _ hl
    exact ⟨v, h1, hQ _ _ _ _ hw e h2⟩
  · exact hw.elim⟩
/-- a constant -/
def wC (d : D) (_ : En) (P : L → Prop) (_ : Str → Prop) : Prop := P (.val d)
theorem fe_c {v : V} {d : D} (h : PE X e (tC v)) (r : ∀ K B, Rp K B v d) : FE X E e (wC d) := ⟨pe_imp h fun σ H Q ⟨T0, B0, H0, T, B, ρ, P, Px, o, hw, hQ, hx⟩ =>
  hQ _ _ _ _ hw (Ext.refl o.sub o.th) (r _ _)⟩
theorem fe_int {i : Int} {j} : FE X E (.Constant (.int i) j pos) (wC (.int i)) := fe_c pe_int fun _ _ => .int i
theorem fe_bl {i : Bool} {j} : FE X E (.Constant (.bool i) j pos) (wC (.bool i)) := fe_c pe_bl fun _ _ => .bl i
theorem fe_non {j} : FE X E (.Constant .none j pos) (wC .none) := fe_c pe_non fun _ _ => .non
theorem fe_str {x : Str} {j} : FE X E (.Constant (.str x) j pos) (wC (.str x)) := fe_c pe_str fun _ _ => .str x

/-! ### operations on values -/
/-- an operation, by data -/
def rD (K : PySem.W.Frag) (g : D → D → (L → Prop) → Prop) : R2 := fun x y H Q => ∃ B dx dy P, Same B H ∧ Rp K B x dx ∧ Rp K B y dy ∧ g dx dy P ∧ ∀ l v B' H', P l → PExt B H B' H' → RpP K H B' H' v l → Q v H'
def rD1 (K : PySem.W.Frag) (g : D → (L → Prop) → Prop) : V → Hp → VK → Prop := fun x H Q => ∃ B dx P, Same B H ∧ Rp K B x dx ∧ g dx P ∧ ∀ l v B' H', P l → PExt B H B' H' → RpP K H B' H' v l → Q v H'
def rDA (K : PySem.W.Frag) (g : List D → (L → Prop) → Prop) : List V → Hp → VK → Prop := fun xs H Q => ∃ B ds P, Same B H ∧ RpA K B xs ds ∧ g ds P ∧ ∀ l v B' H', P l → PExt B H B' H' → RpP K H B' H' v l → Q v H'
def k2b (g : D → D → (L → Prop) → Prop) (x : D) (P : L → Prop) (l : L) : Prop := ∃ y, l.d? = some y ∧ g x y P
def k2a (g : D → D → (L → Prop) → Prop) (wb : WE) (ρ : En) (P : L → Prop) (Px : Str → Prop) (l : L) : Prop := ∃ x, l.d? = some x ∧ wb ρ (k2b g x P) Px
def w2 (g : D → D → (L → Prop) → Prop) (wa wb : WE) (ρ : En) (P : L → Prop) (Px : Str → Prop) : Prop := wa ρ (k2a g wb ρ P Px) Px
def k1 (g : D → (L → Prop) → Prop) (P : L → Prop) (l : L) : Prop := ∃ x, l.d? = some x ∧ g x P
def w1 (g : D → (L → Prop) → Prop) (wa : WE) (ρ : En) (P : L → Prop) (Px : Str → Prop) : Prop := wa ρ (k1 g P) Px
theorem tF_2 {K : PySem.W.Frag} {mg : Str → Option Value} {g : D → D → (L → Prop) → Prop} {σ : L2.St} {H : Hp} {Q : VK} (h : tF K mg E (w2 g wa wb) σ H Q) : tOp (rD K g) (tF K mg E wa) (tF K mg E wb) σ H Q := by
  obtain ⟨T0, B0, H0, T, B, ρ, P, Px, o, hw, hQ, hx⟩ := h
  refine ⟨T0, B0, H0, T, B, ρ, _, Px, o, hw, fun l v B1 H1 p e r => ?_, hx⟩
  obtain ⟨x, hx', p⟩ := p
  obtain ⟨B1', e', s', rx⟩ := to_d e r hx'
  refine ⟨T0, B0, H0, T, B1', ρ, _, Px, o.step e', p, fun l2 u B2 H2 p2 e2 r2 => ?_, hx.step e'⟩
  obtain ⟨y, hy, g⟩ := p2
  obtain ⟨B2', e2', s2, ry⟩ := to_d e2 r2 hy
  exact ⟨B2', x, y, P, e2'.s, rx.mono e2'.b, ry, g, fun l3 v3 B3 H3 p3 pe r3 => hQ l3 v3 B3 H3 p3 (e'.trans (e2'.trans (pe.ext e2'.t))) ((RpP.l e2'.t r3).back o.sub (e'.trans e2'))⟩
theorem tF_1 {K : PySem.W.Frag} {mg : Str → Option Value} {g : D → (L → Prop) → Prop} {σ : L2.St} {H : Hp} {Q : VK} (h : tF K mg E (w1 g wa) σ H Q) : tUn (rD1 K g) (tF K mg E wa) σ H Q := by
  obtain ⟨T0, B0, H0, T, B, ρ, P, Px, o, hw, hQ, hx⟩ := h
  refine ⟨T0, B0, H0, T, B, ρ, _, Px, o, hw, fun l v B1 H1 p e r => ?_, hx⟩
  obtain ⟨x, hx', p⟩ := p
  obtain ⟨B1', e', s', rx⟩ := to_d e r hx'
  exact ⟨B1', x, P, e'.s, rx, p, fun l3 v3 B3 H3 p3 pe r3 => hQ l3 v3 B3 H3 p3 (e'.trans (pe.ext e'.t)) ((RpP.l e'.t r3).back o.sub e')⟩
theorem fe_op {op : Operator} {g : D → D → (L → Prop) → Prop} (ho : OpR X (binaryOp op) (rD X.K g)) (ha : FE X E a wa) (hb : FE X E b wb) : FE X E (.BinOp a op b pos) (w2 g wa wb) := ⟨pe_imp (pe_op ho ha.pe hb.pe) fun _ _ _ h => tF_2 h⟩
theorem fe_cmp {op : CmpOp} {g : D → D → (L → Prop) → Prop} (ho : OpR X (compareOp op) (rD X.K g)) (ha : FE X E a wa) (hb : FE X E b wb) (hm : behindInMarks op b = false) : FE X E (.Compare a [op] [b] pos) (w2 g wa wb) := ⟨pe_imp (pe_cmpR ho ha.pe hb.pe hm) fun _ _ _ h => tF_2 h⟩
theorem fe_un {op : UnaryOp} {g : D → (L → Prop) → Prop} (ho : UnR X (unaryOp op) (rD1 X.K g)) (ha : FE X E a wa) : FE X E (.UnaryOp op a pos) (w1 g wa) := ⟨pe_imp (pe_un ho ha.pe) fun _ _ _ h => tF_1 h⟩
theorem fe_ix {g : D → D → (L → Prop) → Prop} (ho : IxR X (rD X.K g)) (ha : FE X E a wa) (hb : FE X E b wb) (hs : PlainIx b) : FE X E (.Subscript a b pos) (w2 g wa wb) := ⟨pe_imp (pe_ix ho ha.pe hb.pe hs) fun _ _ _ h => tF_2 h⟩
/-- a comparison as a test -/
def kBT (P : Bool → Prop) (l : L) : Prop := ∃ k, l = .val (.bool k) ∧ P k
def wBT (w : WE) (ρ : En) (P : Bool → Prop) (Px : Str → Prop) : Prop := w ρ (kBT P) Px
theorem tFT_of {K : PySem.W.Frag} {mg : Str → Option Value} {σ : L2.St} {H : Hp} {Q : Bool → Hp → Prop} (h : tFT K mg E (wBT w) σ H Q) : tF K mg E w σ H fun x H' => ∃ k, x = .bl k ∧ Q k H' := by
  obtain ⟨T0, B0, H0, T, B, ρ, P, Px, o, hw, hQ, hx⟩ := h
  refine ⟨T0, B0, H0, T, B, ρ, _, Px, o, hw, fun l v B1 H1 p e r => ?_, hx⟩
  obtain ⟨k, rfl, p⟩ := p
  cases r
  exact ⟨k, rfl, hQ _ _ _ p e⟩
theorem ft_cmp {op : CmpOp} {g : D → D → (L → Prop) → Prop} (ho : OpR X (compareOp op) (rD X.K g)) (ha : FE X E a wa) (hb : FE X E b wb) (hm : behindInMarks op b = false) : FT X E (.Compare a [op] [b] pos) (wBT (w2 g wa wb)) :=
  ⟨pt_imp (pt_cmpR ho ha.pe hb.pe hm) fun σ H Q h => by
    have z := tFT_of h
    exact tF_2 z⟩
theorem ft_val (h : FE X E e w) (he : ∀ whole, isTrue e X.env whole = (do let v ← whole; standAt e.pos; holding [v] (truthy v)) := by intro _; rfl) : FT X E e (wBT w) :=
  ⟨pt_imp (pt_val h.pe he) fun σ H Q h => tFT_of h⟩
/-! ### chains -/
variable {c : Expr} {wc : WE}
def kCc (g' : D → D → (L → Prop) → Prop) (y : D) (wc : WE) (ρ : En) (P : L → Prop) (Px : Str → Prop) (z : L) : Prop := ∃ k, z = .val (.bool k) ∧ if k = true then wc ρ (k2b g' y P) Px else P (.val (.bool false))
def kCb (g g' : D → D → (L → Prop) → Prop) (x : D) (wc : WE) (ρ : En) (P : L → Prop) (Px : Str → Prop) (l : L) : Prop := ∃ y, l.d? = some y ∧ g x y (kCc g' y wc ρ P Px)
def kCa (g g' : D → D → (L → Prop) → Prop) (wb wc : WE) (ρ : En) (P : L → Prop) (Px : Str → Prop) (l : L) : Prop := ∃ x, l.d? = some x ∧ wb ρ (kCb g g' x wc ρ P Px) Px
def wCh (g g' : D → D → (L → Prop) → Prop) (wa wb wc : WE) (ρ : En) (P : L → Prop) (Px : Str → Prop) : Prop := wa ρ (kCa g g' wb wc ρ P Px) Px
theorem tF_ch {K : PySem.W.Frag} {mg : Str → Option Value} {g g' : D → D → (L → Prop) → Prop} {σ : L2.St} {H : Hp} {Q : VK} (h : tF K mg E (wCh g g' wa wb wc) σ H Q) : tChain (rD K g) (rD K g') (tF K mg E wa) (tF K mg E wb) (tF K mg E wc) σ H Q := by
  obtain ⟨T0, B0, H0, T, B, ρ, P, Px, o, hw, hQ, hx⟩ := h
  refine ⟨T0, B0, H0, T, B, ρ, _, Px, o, hw, fun l v B1 H1 p e r => ?_, hx⟩
  obtain ⟨x, hx', p⟩ := p
  obtain ⟨B1', e', s', rx⟩ := to_d e r hx'
  refine ⟨T0, B0, H0, T, B1', ρ, _, Px, o.step e', p, fun l2 u B2 H2 p2 e2 r2 => ?_, hx.step e'⟩
  obtain ⟨y, hy, g⟩ := p2
  obtain ⟨B2', e2', s2, ry⟩ := to_d e2 r2 hy
  have e12 := e'.trans e2'
  refine ⟨B2', x, y, _, e2'.s, rx.mono e2'.b, ry, g, fun l3 v3 B3 H3 p3 pe r3 => ?_⟩
  obtain ⟨k, rfl, p3⟩ := p3
  cases r3
  refine ⟨k, rfl, ?_⟩
  have e3 := e12.trans (pe.ext e2'.t)
  cases k with
  | false => exact hQ _ _ _ _ p3 e3 (.bl false)
  | true =>
    refine ⟨T0, B0, H0, T, B3, ρ, _, Px, o.step e3, p3, fun l4 v4 B4 H4 p4 e4 r4 => ?_, hx.step e3⟩
    obtain ⟨z, hz, p4⟩ := p4
    obtain ⟨B4', e4', s4, rz⟩ := to_d e4 r4 hz
    have e34 := e3.trans e4'
    exact ⟨B4', y, z, P, e4'.s, (ry.mono pe.b).mono e4'.b, rz, p4, fun l5 v5 B5 H5 p5 pe5 r5 => hQ l5 v5 B5 H5 p5 (e34.trans (pe5.ext e4'.t)) ((RpP.l e4'.t r5).back o.sub e34)⟩
theorem fe_chain {op op' : CmpOp} {g g' : D → D → (L → Prop) → Prop} (ho : OpR X (compareOp op) (rD X.K g)) (ho' : OpR X (compareOp op') (rD X.K g')) (ha : FE X E a wa) (hb : FE X E b wb) (hc : FE X E c wc)
    (hm : lastMarks [op, op'] [b, c] = false := by with_unfolding_all rfl) : FE X E (.Compare a [op, op'] [b, c] pos) (wCh g g' wa wb wc) := ⟨pe_imp (pe_chain ho ho' ha.pe hb.pe hc.pe hm) fun _ _ _ h => tF_ch h⟩
theorem ft_chain {op op' : CmpOp} {g g' : D → D → (L → Prop) → Prop} (ho : OpR X (compareOp op) (rD X.K g)) (ho' : OpR X (compareOp op') (rD X.K g')) (ha : FE X E a wa) (hb : FE X E b wb) (hc : FE X E c wc)
    (hm : lastMarks [op, op'] [b, c] = false := by with_unfolding_all rfl) : FT X E (.Compare a [op, op'] [b, c] pos) (wBT (wCh g g' wa wb wc)) := ⟨pt_imp (pt_chain ho ho' ha.pe hb.pe hc.pe hm) fun _ _ _ h => by
  have z := tFT_of h
  exact tF_ch z⟩

/-! ### and, or, not, if -/
variable {ws wt wt' : WT} {rest : List Expr}
def kAnd (v : WT) (ρ : En) (P : Bool → Prop) (Px : Str → Prop) (k : Bool) : Prop := if k = true then v ρ P Px else P false
def kOr (v : WT) (ρ : En) (P : Bool → Prop) (Px : Str → Prop) (k : Bool) : Prop := if k = true then P true else v ρ P Px
def kNot (P : Bool → Prop) (k : Bool) : Prop := P (!k)
def wAnd (u v : WT) (ρ : En) (P : Bool → Prop) (Px : Str → Prop) : Prop := u ρ (kAnd v ρ P Px) Px
def wOr (u v : WT) (ρ : En) (P : Bool → Prop) (Px : Str → Prop) : Prop := u ρ (kOr v ρ P Px) Px
def wNot (u : WT) (ρ : En) (P : Bool → Prop) (Px : Str → Prop) : Prop := u ρ (kNot P) Px
theorem fw_and1 (ha : FT X E a wt) : FW X E (.BoolOp .And [a] pos) wt := ⟨pw_and1 ha.pt⟩
theorem fw_or1 (ha : FT X E a wt) : FW X E (.BoolOp .Or [a] pos) wt := ⟨pw_or1 ha.pt⟩
theorem fw_and (ha : FT X E a wt) (hb : FW X E (.BoolOp .And (b :: rest) pos) wt') : FW X E (.BoolOp .And (a :: b :: rest) pos) (wAnd wt wt') :=
  ⟨pw_imp (pw_and ha.pt hb.pw) fun σ H Q ⟨T0, B0, H0, T, B, ρ, P, Px, o, hw, hQ, hx⟩ => ⟨T0, B0, H0, T, B, ρ, _, Px, o, hw, fun k B1 H1 p e => by
    cases k with
    | false => exact hQ _ _ _ p e
    | true => exact ⟨T0, B0, H0, T, B1, ρ, P, Px, o.step e, p, fun k2 B2 H2 p2 e2 => hQ _ _ _ p2 (e.trans e2), hx.step e⟩, hx⟩⟩
theorem fw_or (ha : FT X E a wt) (hb : FW X E (.BoolOp .Or (b :: rest) pos) wt') : FW X E (.BoolOp .Or (a :: b :: rest) pos) (wOr wt wt') :=
  ⟨pw_imp (pw_or ha.pt hb.pw) fun σ H Q ⟨T0, B0, H0, T, B, ρ, P, Px, o, hw, hQ, hx⟩ => ⟨T0, B0, H0, T, B, ρ, _, Px, o, hw, fun k B1 H1 p e => by
    cases k with
    | true => exact hQ _ _ _ p e
    | false => exact ⟨T0, B0, H0, T, B1, ρ, P, Px, o.step e, p, fun k2 B2 H2 p2 e2 => hQ _ _ _ p2 (e.trans e2), hx.step e⟩, hx⟩⟩
theorem ft_w (h : FW X E e wt) : FT X E e wt := ⟨h.pw.pt⟩
theorem ft_not (ha : FT X E a wt) : FT X E (.UnaryOp .Not a pos) (wNot wt) :=
  ⟨pt_imp (pt_not ha.pt) fun σ H Q ⟨T0, B0, H0, T, B, ρ, P, Px, o, hw, hQ, hx⟩ => ⟨T0, B0, H0, T, B, ρ, _, Px, o, hw, fun k B1 H1 p e => hQ _ _ _ p e, hx⟩⟩
/-- .. as values, all bools -/
def kAndV (wb : WE) (ρ : En) (P : L → Prop) (Px : Str → Prop) (l : L) : Prop := ∃ k, l = .val (.bool k) ∧ if k = true then wb ρ P Px else P (.val (.bool false))
def kOrV (wb : WE) (ρ : En) (P : L → Prop) (Px : Str → Prop) (l : L) : Prop := ∃ k, l = .val (.bool k) ∧ if k = true then P (.val (.bool true)) else wb ρ P Px
def kNotV (P : L → Prop) (l : L) : Prop := ∃ k, l = .val (.bool k) ∧ P (.val (.bool (!k)))
def wAndV (wa wb : WE) (ρ : En) (P : L → Prop) (Px : Str → Prop) : Prop := wa ρ (kAndV wb ρ P Px) Px
def wOrV (wa wb : WE) (ρ : En) (P : L → Prop) (Px : Str → Prop) : Prop := wa ρ (kOrV wb ρ P Px) Px
def wNotV (wa : WE) (ρ : En) (P : L → Prop) (Px : Str → Prop) : Prop := wa ρ (kNotV P) Px
theorem RpL.more {K : PySem.W.Frag} {T : Tr} {B H B1 H1 B2 H2 : Hp} {v : V} {l : L} (s : Same B H) (e : Ext T B H B1 H1) (r : RpL K T H1 B2 H2 v l) : RpL K T H B2 H2 v l := r.back s e
theorem fe_one {op} (h : FE X E a wa) : FE X E (.BoolOp op [a] pos) wa := ⟨pe_one h.pe⟩
theorem fe_and (ha : FE X E a wa) (hb : FE X E (.BoolOp .And (b :: rest) pos) wb) : FE X E (.BoolOp .And (a :: b :: rest) pos) (wAndV wa wb) :=
  ⟨pe_imp (pe_and ha.pe hb.pe) fun σ H Q ⟨T0, B0, H0, T, B, ρ, P, Px, o, hw, hQ, hx⟩ => ⟨T0, B0, H0, T, B, ρ, _, Px, o, hw, fun l v B1 H1 p e r => by
    obtain ⟨k, rfl, p⟩ := p
    cases r
    refine ⟨k, rfl, ?_⟩
    cases k with
    | false => exact hQ _ _ _ _ p e (.bl false)
    | true => exact ⟨T0, B0, H0, T, B1, ρ, P, Px, o.step e, p, fun l2 v2 B2 H2 p2 e2 r2 => hQ _ _ _ _ p2 (e.trans e2) (r2.back o.sub e), hx.step e⟩, hx⟩⟩
theorem fe_or (ha : FE X E a wa) (hb : FE X E (.BoolOp .Or (b :: rest) pos) wb) : FE X E (.BoolOp .Or (a :: b :: rest) pos) (wOrV wa wb) :=
  ⟨pe_imp (pe_or ha.pe hb.pe) fun σ H Q ⟨T0, B0, H0, T, B, ρ, P, Px, o, hw, hQ, hx⟩ => ⟨T0, B0, H0, T, B, ρ, _, Px, o, hw, fun l v B1 H1 p e r => by
    obtain ⟨k, rfl, p⟩ := p
    cases r
    refine ⟨k, rfl, ?_⟩
    cases k with
    | true => exact hQ _ _ _ _ p e (.bl true)
    | false => exact ⟨T0, B0, H0, T, B1, ρ, P, Px, o.step e, p, fun l2 v2 B2 H2 p2 e2 r2 => hQ _ _ _ _ p2 (e.trans e2) (r2.back o.sub e), hx.step e⟩, hx⟩⟩
theorem fe_not (ha : FE X E a wa) : FE X E (.UnaryOp .Not a pos) (wNotV wa) :=
  ⟨pe_imp (pe_not ha.pe) fun σ H Q ⟨T0, B0, H0, T, B, ρ, P, Px, o, hw, hQ, hx⟩ => ⟨T0, B0, H0, T, B, ρ, _, Px, o, hw, fun l v B1 H1 p e r => by
    obtain ⟨k, rfl, p⟩ := p
    cases r
    exact ⟨k, rfl, hQ _ _ _ _ p e (.bl (!k))⟩, hx⟩⟩
def kIf (wa wb : WE) (ρ : En) (P : L → Prop) (Px : Str → Prop) (k : Bool) : Prop := if k = true then wa ρ P Px else wb ρ P Px
def wIf (wt : WT) (wa wb : WE) (ρ : En) (P : L → Prop) (Px : Str → Prop) : Prop := wt ρ (kIf wa wb ρ P Px) Px
theorem fe_if (hc : FT X E c wt) (ha : FE X E a wa) (hb : FE X E b wb) : FE X E (.IfExp c a b pos) (wIf wt wa wb) :=
  ⟨pe_imp (pe_ifExp hc.pt ha.pe hb.pe) fun σ H Q ⟨T0, B0, H0, T, B, ρ, P, Px, o, hw, hQ, hx⟩ => ⟨T0, B0, H0, T, B, ρ, _, Px, o, hw, fun k B1 H1 p e => by
    cases k with
    | true => exact ⟨T0, B0, H0, T, B1, ρ, P, Px, o.step e, p, fun l2 v2 B2 H2 p2 e2 r2 => hQ _ _ _ _ p2 (e.trans e2) (r2.back o.sub e), hx.step e⟩
    | false => exact ⟨T0, B0, H0, T, B1, ρ, P, Px, o.step e, p, fun l2 v2 B2 H2 p2 e2 r2 => hQ _ _ _ _ p2 (e.trans e2) (r2.back o.sub e), hx.step e⟩, hx⟩⟩

/-! ### arguments, displays -/
def wNil (_ : En) (P : List L → Prop) (_ : Str → Prop) : Prop := P []
def kConsB (l : L) (P : List L → Prop) (ls : List L) : Prop := P (l.arg :: ls)
def kConsA (wr : WA) (ρ : En) (P : List L → Prop) (Px : Str → Prop) (l : L) : Prop := wr ρ (kConsB l P) Px
def wCons (wa : WE) (wr : WA) (ρ : En) (P : List L → Prop) (Px : Str → Prop) : Prop := wa ρ (kConsA wr ρ P Px) Px
variable {wr : WA}
theorem fa_nil : FA X E [] wNil := ⟨pa_imp pa_nil fun σ H Q ⟨T0, B0, H0, T, B, ρ, P, Px, o, hw, hQ, hx⟩ => hQ _ _ _ _ hw (Ext.refl o.sub o.th) .nil⟩
theorem fa_cons (ha : FE X E a wa) (hr : FA X E es wr) (he : starEach (a :: es) X.env = (false, eval a X.env) :: starEach es X.env := by rfl) : FA X E (a :: es) (wCons wa wr) :=
  ⟨pa_imp (pa_cons ha.pe hr.pa he) fun σ H Q ⟨T0, B0, H0, T, B, ρ, P, Px, o, hw, hQ, hx⟩ => ⟨T0, B0, H0, T, B, ρ, _, Px, o, hw, fun l v B1 H1 p e r => by
    obtain ⟨B1', e', s', rg⟩ := to_arg e r
    exact ⟨T0, B0, H0, T, B1', ρ, _, Px, o.step e', p, fun ls vs B2 H2 p2 e2 r2 => hQ _ _ _ _ p2 (e'.trans e2) (.cons (rg.mono e2.b) r2), hx.step e'⟩, hx⟩⟩
/-- all of it data -/
def ds? : List L → Option (List D)
  | [] => some []
  | .val d :: ls => (ds? ls).map (d :: ·)
  | _ => none
theorem rpa_of {K : PySem.W.Frag} {T : Tr} {B : Hp} : ∀ {vs : List V} {ls : List L} {ds : List D}, Paired (RpG K T B) vs ls → ds? ls = some ds → RpA K B vs ds
  | _, _, ds, .nil, h => by cases h; exact .nil
  | _, l :: ls, ds, .cons r t, h => by
    cases l with
    | no => exact r.elim
    | val d =>
      unfold ds? at h
      cases q : ds? ls with
      | none => rw [q] at h; cases h
      | some es => rw [q] at h; cases h; exact .cons r (rpa_of t q)
    | hat => cases h
    | own _ => exact r.elim
    | scr _ => cases h
def kDs (f : List D → (L → Prop) → Prop) (P : L → Prop) (ls : List L) : Prop := ∃ ds, ds? ls = some ds ∧ f ds P
def wDs (f : List D → (L → Prop) → Prop) (wr : WA) (ρ : En) (P : L → Prop) (Px : Str → Prop) : Prop := wr ρ (kDs f P) Px
def gTupD (ds : List D) (P : L → Prop) : Prop := ds.length ≤ 1000000 ∧ P (.val (.tuple ds))
def gLstD (ds : List D) (P : L → Prop) : Prop := ds.length ≤ 1000000 ∧ P (.own ds)
theorem line_of {n : Nat} (h : n ≤ 1000000) : n ≤ sizeLine := Nat.le_trans h (by decide)
theorem line_lt {n : Nat} (h : n ≤ 1000000) : n < sizeLine := Nat.lt_of_le_of_lt h (by decide)
theorem fe_tup {k : Nat} (h : FA X E es wr) : FE X E (.Tuple es k pos) (wDs gTupD wr) :=
  ⟨pe_imp (pe_tup h.pa) fun σ H Q ⟨T0, B0, H0, T, B, ρ, P, Px, o, hw, hQ, hx⟩ => ⟨T0, B0, H0, T, B, ρ, _, Px, o, hw, fun ls vs B1 H1 p e r => by
    obtain ⟨ds, hd, hl, p⟩ := p
    have ra := rpa_of r hd
    refine ⟨by rw [ra.length]; exact line_of hl, fun q hq => ?_⟩
    have pe := PExt.new (o := .tup vs) e.s hq
    exact hQ _ _ _ _ p (e.trans (pe.ext e.t)) (.tup (.of upd_same) (ra.mono pe.b)), hx⟩⟩
theorem fe_lst (h : FA X E es wr) : FE X E (.List es pos) (wDs gLstD wr) :=
  ⟨pe_imp (pe_lst h.pa) fun σ H Q ⟨T0, B0, H0, T, B, ρ, P, Px, o, hw, hQ, hx⟩ => ⟨T0, B0, H0, T, B, ρ, _, Px, o, hw, fun ls vs B1 H1 p e r => by
    obtain ⟨ds, hd, hl, p⟩ := p
    have ra := rpa_of r hd
    refine ⟨by rw [ra.length]; exact line_of hl, fun q hq => ?_⟩
    have pe := PExt.newOwn (o := .lst vs) e.s hq
    refine hQ _ _ _ _ p (e.trans (pe.ext e.t)) ⟨q, vs, rfl, e.free o.sub (.of hq), e.s.free hq, not_hat e.t hq, upd_same, ra⟩, hx⟩⟩
/-! a call of something built in, by data -/
variable {id T : String} {x : Str} {p : Pos}
theorem tF_cb {K : PySem.W.Frag} {mg : Str → Option Value} {f : List D → (L → Prop) → Prop} {σ : L2.St} {H : Hp} {Q : VK} (h : tF K mg E (wDs f wr) σ H Q) : tCB (rDA K f) (tFA K mg E wr) σ H Q := by
  obtain ⟨T0, B0, H0, T, B, ρ, P, Px, o, hw, hQ, hx⟩ := h
  refine ⟨T0, B0, H0, T, B, ρ, _, Px, o, hw, fun ls vs B1 H1 p e r => ?_, hx⟩
  obtain ⟨ds, hd, p⟩ := p
  exact ⟨B1, ds, P, e.s, rpa_of r hd, p, fun l v B2 H2 p2 pe r2 => hQ _ _ _ _ p2 (e.trans (pe.ext e.t)) ((RpP.l e.t r2).back o.sub e)⟩
theorem fe_callB {f : List D → (L → Prop) → Prop} (hc : CallR X (.builtin id) (rDA X.K f)) (hg : Gl X x) (hm : X.mg x = none) (hv : bootBuiltins x = some (.builtin id)) (ha : FA X E (e :: es) wr) (hn : x ≠ "__name__" := by decide) (hdb : (x == ("__debug__" : Str)) = false := by decide)
    (he : starEach (e :: es) X.env = (false, eval e X.env) :: starEach es X.env := by rfl) (hpl : (backTo pos (starEach es X.env)).any (·.1) = false := by rfl) : FE X E (.Call (.Name x p) (e :: es) [] pos) (wDs f wr) :=
  ⟨pe_imp (pe_callB hc hg hm hv ha.pa hn hdb he hpl) fun _ _ _ h => tF_cb h⟩
theorem fe_callTy {f : List D → (L → Prop) → Prop} (hc : CallR X (.type T) (rDA X.K f)) (hg : Gl X x) (hm : X.mg x = none) (hv : bootBuiltins x = some (.type T)) (ha : FA X E (e :: es) wr) (hn : x ≠ "__name__" := by decide) (hdb : (x == ("__debug__" : Str)) = false := by decide)
    (he : starEach (e :: es) X.env = (false, eval e X.env) :: starEach es X.env := by rfl) (hpl : (backTo pos (starEach es X.env)).any (·.1) = false := by rfl) : FE X E (.Call (.Name x p) (e :: es) [] pos) (wDs f wr) :=
  ⟨pe_imp (pe_callTy hc hg hm hv ha.pa hn hdb he hpl) fun _ _ _ h => tF_cb h⟩

/-! ### calls of defs -/
abbrev WF := List L → (L → Prop) → (Str → Prop) → Prop
/-- a def's promise, by data -/
def spF (K : PySem.W.Frag) (mg : Str → Option Value) (n : Nat) (f : WF) : Sp := fun vs H Q E => ∃ (T : Tr) (B : Hp) (ls : List L) (P : L → Prop) (Px : Str → Prop),
  ls.length = n ∧ Paired (RpG K T B) vs ls ∧ Same B H ∧ ((∀ a, T a → B a = none) ∧ (∀ P q, (P, q) ∈ tabsOf K ↔ T P ∧ T.q P = some q) ∧ NoTab B) ∧ (∀ a, T a → MutAt T H a) ∧ f ls P Px ∧ (∀ l v B' H', P l → Ext T B H B' H' → RpL K T H B' H' v l → Q v H') ∧ ExK mg E T B H Px
/-- a def of the text, by its promise -/
structure Df (P : Program) (w : World) (K : PySem.W.Frag) (mg : Str → Option Value) (base : Heap) (k : Nat) (x : Str) (n : Nat) (f : WF) : Prop where
  ex : ∃ (a : Addr) (fd : FuncData) (ps : List Str), FnOk P w K mg base (L2.CX P w) k a fd ps (spF K mg n f) ∧ mg x = some (.ref a) ∧ PySem.W.keepIn K (.ref a) = true ∧ Binds K fd ps []
theorem wpair_len {F : V → L → Prop} : ∀ {vs : List V} {ls : List L}, Paired F vs ls → vs.length = ls.length
  | _, _, .nil => rfl
  | _, _, .cons _ t => by simp [wpair_len t]
/-- the number of arguments is told by n -/
def kCall (n : Nat) (f : WF) (P : L → Prop) (Px : Str → Prop) (ls : List L) : Prop := ls.length = n ∧ f ls P Px
def wCallN (n : Nat) (f : WF) (wr : WA) (ρ : En) (P : L → Prop) (Px : Str → Prop) : Prop := wr ρ (kCall n f P Px) Px
theorem fe_call {k n : Nat} {f : WF} (d : Df X.prog X.w X.K X.mg X.base k x n f) (hr : Room k X.A) (hg : Gl X x) (hx : Passes (L2.CX X.prog X.w) X E) (ha : FA X E (e :: es) wr) (hdb : (x == ("__debug__" : Str)) = false := by decide)
    (he : starEach (e :: es) X.env = (false, eval e X.env) :: starEach es X.env := by rfl) (hpl : (backTo pos (starEach es X.env)).any (·.1) = false := by rfl) : FE X E (.Call (.Name x p) (e :: es) [] pos) (wCallN n f wr) := by
  obtain ⟨a, fd, ps, F, hm, hk, hb⟩ := d.ex
  refine ⟨pe_imp (pe_call F hr hg hm hk hb .nil hx ha.pa hdb he hpl) fun σ H Q h => ?_⟩
  obtain ⟨T0, B0, H0, T, B, ρ, P, Px, o, hw, hQ, hx⟩ := h
  refine ⟨T0, B0, H0, T, B, ρ, _, Px, o, hw, fun ls vs B1 H1 p e r => ?_, hx⟩
  have o1 := o.step e
  exact ⟨T, B1, ls, P, Px, p.1, by rw [List.append_nil]; exact r, e.s, ⟨o1.tb, o1.tw, o1.ntB⟩, o1.th, p.2, fun l v B2 H2 p2 e2 r2 => hQ _ _ _ _ p2 (e.trans e2) (r2.back o.sub e), hx.step e⟩
theorem fe_call0 {k n : Nat} {f : WF} (d : Df X.prog X.w X.K X.mg X.base k x n f) (hr : Room k X.A) (hg : Gl X x) (hx : Passes (L2.CX X.prog X.w) X E) (hdb : (x == ("__debug__" : Str)) = false := by decide) :
    FE X E (.Call (.Name x p) [] [] pos) (wCallN n f wNil) := by
  obtain ⟨a, fd, ps, F, hm, hk, hb⟩ := d.ex
  refine ⟨pe_imp (pe_call0 F hr hg hm hk hb .nil hx hdb) fun σ H Q h => ?_⟩
  obtain ⟨T0, B0, H0, T, B, ρ, P, Px, o, hw, hQ, hx⟩ := h
  exact ⟨T, B, [], P, Px, hw.1, .nil, o.sub, ⟨o.tb, o.tw, o.ntB⟩, o.th, hw.2, hQ, hx⟩
end
end Pz

set_option Elab.async false
set_option linter.all false
set_option autoImplicit false
set_option maxRecDepth 100000
namespace Pz
open PySem PySem.Spec PyProof.Rows L2

/-! ## statements over data -/
structure EndsD where
  nx : En → Prop
  rt : L → Prop
  bk : En → Prop
  ct : En → Prop
  ex : Str → Prop
abbrev WS := En → EndsD → Prop
/-- then u -/
def EndsD.thn (N : EndsD) (u : WS) : EndsD := { N with nx := fun ρ => u ρ N }
/-- in a loop whose next turn wants I -/
def EndsD.loop (N : EndsD) (I : En → Prop) : EndsD := { N with nx := I, ct := I, bk := N.nx }
theorem thn_nx (N : EndsD) (u : WS) (ρ : En) : (N.thn u).nx ρ = u ρ N := rfl
theorem thn_rt (N : EndsD) (u : WS) (l : L) : (N.thn u).rt l = N.rt l := rfl
theorem thn_bk (N : EndsD) (u : WS) (ρ : En) : (N.thn u).bk ρ = N.bk ρ := rfl
theorem thn_ct (N : EndsD) (u : WS) (ρ : En) : (N.thn u).ct ρ = N.ct ρ := rfl
theorem thn_ex (N : EndsD) (u : WS) : (N.thn u).ex = N.ex := rfl
theorem loop_nx (N : EndsD) (I : En → Prop) (ρ : En) : (N.loop I).nx ρ = I ρ := rfl
theorem loop_rt (N : EndsD) (I : En → Prop) (l : L) : (N.loop I).rt l = N.rt l := rfl
theorem loop_bk (N : EndsD) (I : En → Prop) (ρ : En) : (N.loop I).bk ρ = N.nx ρ := rfl
theorem loop_ct (N : EndsD) (I : En → Prop) (ρ : En) : (N.loop I).ct ρ = I ρ := rfl
theorem loop_ex (N : EndsD) (I : En → Prop) : (N.loop I).ex = N.ex := rfl
def tFS (K : PySem.W.Frag) (mg : Str → Option Value) (E : XK) (w : WS) : TS := fun Dn σ H => ∃ (T0 : Tr) (B0 H0 : Hp) (T : Tr) (B : Hp) (ρ : En) (N : EndsD),
  OK K T0 B0 H0 T B H σ ρ ∧ w ρ N ∧ (∀ T' B' H' σ' ρ', N.nx ρ' → OK K T0 B0 H0 T' B' H' σ' ρ' → Dn.nx σ' H') ∧ (∀ T' B' H' σ' ρ', N.bk ρ' → OK K T0 B0 H0 T' B' H' σ' ρ' → Dn.bk σ' H') ∧
  (∀ T' B' H' σ' ρ', N.ct ρ' → OK K T0 B0 H0 T' B' H' σ' ρ' → Dn.ct σ' H') ∧ (∀ l v B' H', N.rt l → Ext T0 B0 H0 B' H' → RpL K T0 H0 B' H' v l → Dn.rt v H') ∧ ExK mg E T0 B0 H0 N.ex
structure FS (X : Cx) (E : XK) (st : Stmt) (w : WS) : Prop where
  ps : PS X st (tFS X.K X.mg E w)
structure FSs (X : Cx) (E : XK) (st : List Stmt) (w : WS) : Prop where
  pss : PSs X st (tFS X.K X.mg E w)

section
variable {K : PySem.W.Frag} {T0 T : Tr} {B0 H0 B H B1 H1 B2 H2 : Hp} {σ : L2.St} {ρ : En} {v : V} {l : L} {mg : Str → Option Value} {E : XK}
/-- exceptions from the entry's view -/
theorem OK.exk (o : OK K T0 B0 H0 T B H σ ρ) {Px : Str → Prop} (x : ExK mg E T0 B0 H0 Px) : ExK mg E T B H Px := fun nm c B' H' q m f => x nm c B' H' q m (o.ext f)
/-- a result from the entry's view (hats are not handed out) -/
theorem OK.ret (o : OK K T0 B0 H0 T B H σ ρ) (hl : l ≠ .hat) (r : RpL K T H B1 H1 v l) : RpL K T0 H0 B1 H1 v l := by
  cases l with
  | no => exact r
  | val d => exact r
  | hat => exact absurd rfl hl
  | scr ns => exact r
  | own xs =>
    obtain ⟨a, vs, e, h0, h1, h2, h3, h4⟩ := r
    exact ⟨a, vs, e, o.fr a h0, h1, fun z => h2 (o.t0 a z), h3, h4⟩
/-- a slot is stored -/
theorem OK.set (o : OK K T0 B0 H0 T B H σ ρ) (e : Ext T B H B1 H1) (r : RpL K T H B1 H1 v l) (i : Nat) : OK K T0 B0 H0 T B1 H1 (σ.set i (some v)) (ρ.set i l) := by
  have o1 := o.step e
  refine ⟨o1.x, o1.fr, o1.t0, o1.t1, o1.tq, o1.tw, o1.nt, o1.tb, o1.th, by rw [List.length_set, List.length_set]; exact o.len, fun j m hj => ?_, fun j k xs ys a hj hk sj sk => ?_⟩
  · by_cases q : i = j
    · subst q
      have hi : i < ρ.length := by
        have z := List.length_set (as := ρ) (i := i) (a := l)
        have y := (List.getElem?_eq_some_iff.mp hj).1
        omega
      rw [List.getElem?_set_self hi] at hj
      cases hj
      rw [List.getElem?_set_self (by rw [← o.len]; exact hi)]
      cases l with
      | no => exact r.elim
      | val d => exact ⟨v, rfl, r⟩
      | hat => exact ⟨v, rfl, r⟩
      | scr ns => exact ⟨v, rfl, r⟩
      | own xs =>
        obtain ⟨a, vs, e1, h0, h1, h2, h3, h4⟩ := r
        exact ⟨v, rfl, a, vs, e1, o.fr a h0, h1, h2, h3, h4⟩
    · rw [List.getElem?_set_ne q] at hj ⊢
      exact o1.sl j m hj
  · have new : ∀ {j : Nat} {xs : List D}, (ρ.set i l)[j]? = some (.own xs) → (σ.set i (some v))[j]? = some (some (.ref a)) → (j = i ∧ Fr H a) ∨ (j ≠ i ∧ ρ[j]? = some (.own xs) ∧ σ[j]? = some (some (.ref a)) ∧ ∃ u, H a = some (.lst u)) := by
      intro j xs hj sj
      by_cases q : i = j
      · subst q
        have hi : i < ρ.length := by
          have z := List.length_set (as := ρ) (i := i) (a := l)
          have y := (List.getElem?_eq_some_iff.mp hj).1
          omega
        rw [List.getElem?_set_self hi] at hj
        cases hj
        rw [List.getElem?_set_self (by rw [← o.len]; exact hi)] at sj
        obtain ⟨a', vs, e1, h0, _⟩ := r
        subst e1
        cases sj
        exact .inl ⟨rfl, h0⟩
      · rw [List.getElem?_set_ne q] at hj sj
        obtain ⟨v', e1, a', vs, e2, _, _, _, h3, _⟩ := o.sl j _ hj
        rw [sj] at e1
        cases e1
        cases e2
        exact .inr ⟨Ne.symm q, hj, sj, _, h3⟩
    rcases new hj sj with ⟨z1, z2⟩ | ⟨z1, z2, z3, u, z4⟩
    · rcases new hk sk with ⟨y1, y2⟩ | ⟨y1, y2, y3, u, y4⟩
      · rw [z1, y1]
      · exact (z2.no y4 (nt_lst _)).elim
    · rcases new hk sk with ⟨y1, y2⟩ | ⟨y1, y2, y3, u', y4⟩
      · exact (y2.no z4 (nt_lst _)).elim
      · exact o.ap j k xs ys a z2 y2 z3 y3
/-- an object of our own, not in a slot, is written -/
theorem OK.mut (o : OK K T0 B0 H0 T B H σ ρ) {p : Addr} {u : HO} (hb : B p = none) (hT : ¬ T p) (h0 : Fr H0 p) (hs : ∀ (j : Nat) (xs : List D), ρ[j]? = some (.own xs) → σ[j]? ≠ some (some (.ref p))) (hp : NoCode H p) (hu : NT u := by intro _ z; cases z) : OK K T0 B0 H0 T B (upd H p u) σ ρ where
  x := ⟨o.x.b, fun a q h => by
      have ne : a ≠ p := fun z => by subst z; rw [hb] at h; cases h
      rw [upd_ne ne]
      exact o.x.s _ _ h, fun a q h n hb => by
      have ne : a ≠ p := fun z => by subst z; exact h0.no h n
      rw [upd_ne ne]
      exact o.x.k a q h n hb, fun a ha => by
      have ne : a ≠ p := fun z => by subst z; exact hT (o.t0 a ha)
      exact (o.x.t a ha).upd ne hp, o.x.n⟩
  fr := fun a ha => by
    by_cases q : a = p
    · subst q; exact h0
    · refine o.fr a fun w hw => ha w ?_
      rw [upd_ne q]; exact hw
  t0 := o.t0
  t1 := o.t1
  tq := o.tq
  tw := o.tw
  nt := o.nt
  tb := o.tb
  th := fun a ha => by
    have ne : a ≠ p := fun z => by subst z; exact hT ha
    exact (o.th a ha).upd ne hp
  len := o.len
  sl := fun i l hl => by
    have q := o.sl i l hl
    cases l with
    | no => trivial
    | val d => exact q
    | hat => exact q
    | scr ns => exact q
    | own xs =>
      obtain ⟨v, h1, a, vs, h2, h3, h4, h5, h6, h7⟩ := q
      have ne : a ≠ p := fun z => by subst z; subst h2; exact hs i xs hl h1
      exact ⟨v, h1, a, vs, h2, h3, h4, h5, by rw [upd_ne ne]; exact h6, h7⟩
  ap := o.ap
/-- a slot's own list gets another item -/
theorem OK.app (o : OK K T0 B0 H0 T B H σ ρ) {i : Nat} {xs : List D} {a : Addr} {vs ws : List V} {ys : List D} (hi : ρ[i]? = some (.own xs)) (si : σ[i]? = some (some (.ref a))) (ra : RpA K B ws ys) : OK K T0 B0 H0 T B (upd H a (.lst ws)) σ (ρ.set i (.own ys)) := by
  obtain ⟨v, e1, a', vs', e2, h0, hb, hT, h3, h4⟩ := o.sl i _ hi
  rw [si] at e1
  cases e1
  cases e2
  have il : i < ρ.length := (List.getElem?_eq_some_iff.mp hi).1
  refine ⟨⟨o.x.b, fun b q h => ?_, fun b q h n hbb => ?_, fun b ha => ?_, o.x.n⟩, fun b ha => ?_, o.t0, o.t1, o.tq, o.tw, o.nt, o.tb, fun b ha => ?_, by rw [List.length_set]; exact o.len, fun j m hj => ?_, fun j k xs' ys' b hj hk sj sk => ?_⟩
  · have ne : b ≠ a := fun z => by subst z; rw [hb] at h; cases h
    rw [upd_ne ne]
    exact o.x.s _ _ h
  · have ne : b ≠ a := fun z => by subst z; exact h0.no h n
    rw [upd_ne ne]
    exact o.x.k b q h n hbb
  · have ne : b ≠ a := fun z => by subst z; exact hT (o.t0 b ha)
    exact (o.x.t b ha).upd ne (.lst h3)
  · by_cases q : b = a
    · subst q; exact h0
    · refine o.fr b fun w hw => ha w ?_
      rw [upd_ne q]; exact hw
  · have ne : b ≠ a := fun z => by subst z; exact hT ha
    exact (o.th b ha).upd ne (.lst h3)
  · by_cases q : i = j
    · subst q
      rw [List.getElem?_set_self il] at hj
      cases hj
      exact ⟨_, si, a, ws, rfl, h0, hb, hT, upd_same, ra⟩
    · rw [List.getElem?_set_ne q] at hj
      have z := o.sl j m hj
      cases m with
      | no => trivial
      | val d => exact z
      | hat => exact z
      | scr ns => exact z
      | own xs' =>
        obtain ⟨v, g1, b, us, g2, g3, g4, g5, g6, g7⟩ := z
        have ne : b ≠ a := fun z => by
          subst z; subst g2
          exact q (o.ap i j _ _ _ hi hj si g1)
        exact ⟨v, g1, b, us, g2, g3, g4, g5, by rw [upd_ne ne]; exact g6, g7⟩
  · have old : ∀ {j : Nat} {xs' : List D}, (ρ.set i (.own ys))[j]? = some (.own xs') → ∃ zs, ρ[j]? = some (.own zs) := by
      intro j xs' hj
      by_cases q : i = j
      · subst q; exact ⟨xs, hi⟩
      · rw [List.getElem?_set_ne q] at hj; exact ⟨xs', hj⟩
    obtain ⟨z1, hz1⟩ := old hj
    obtain ⟨z2, hz2⟩ := old hk
    exact o.ap j k z1 z2 b hz1 hz2 sj sk
/-- a slot's own list is frozen -/
theorem OK.frzSlot (o : OK K T0 B0 H0 T B H σ ρ) {i : Nat} {xs : List D} (hi : ρ[i]? = some (.own xs)) : ∃ B', OK K T0 B0 H0 T B' H σ (ρ.set i (.val (.list xs))) := by
  obtain ⟨v, si, a, vs, e2, h0, hb, hT, h3, h4⟩ := o.sl i _ hi
  subst e2
  have il : i < ρ.length := (List.getElem?_eq_some_iff.mp hi).1
  refine ⟨upd B a (.lst vs), ⟨⟨o.x.b.trans (same_upd hb), fun b q h => ?_, fun b q h n hbb => ?_, o.x.t, fun n => (o.x.n n).upd (nt_lst _)⟩, o.fr, o.t0, o.t1, o.tq, o.tw, o.nt, fun b hbT => ?_, o.th, by rw [List.length_set]; exact o.len, fun j m hj => ?_, fun j k xs' ys' b hj hk sj sk => ?_⟩⟩
  · by_cases z : b = a
    · subst z; rw [upd_same] at h; rw [h3]; exact h
    · rw [upd_ne z] at h; exact o.x.s _ _ h
  · have ne : b ≠ a := fun z => by subst z; exact h0.no h n
    rw [upd_ne ne]
    exact o.x.k b q h n hbb
  · have ne : b ≠ a := fun z => by subst z; exact hT hbT
    rw [upd_ne ne]
    exact o.tb b hbT
  · by_cases q : i = j
    · subst q
      rw [List.getElem?_set_self il] at hj
      cases hj
      exact ⟨_, si, .lst upd_same (h4.mono (same_upd hb))⟩
    · rw [List.getElem?_set_ne q] at hj
      have z := o.sl j m hj
      cases m with
      | no => trivial
      | val d => obtain ⟨v, z1, z2⟩ := z; exact ⟨v, z1, Rp.mono (same_upd hb) z2⟩
      | hat => exact z
      | scr ns => obtain ⟨v, z1, b, z2, z3⟩ := z; exact ⟨v, z1, b, z2, (same_upd hb).seq z3⟩
      | own xs' =>
        obtain ⟨v, g1, b, us, g2, g3, g4, g5, g6, g7⟩ := z
        have ne : b ≠ a := fun z => by
          subst z; subst g2
          exact q (o.ap i j _ _ _ hi hj si g1)
        exact ⟨v, g1, b, us, g2, g3, by rw [upd_ne ne]; exact g4, g5, g6, g7.mono (same_upd hb)⟩
  · have old : ∀ {j : Nat} {xs' : List D}, (ρ.set i (.val (.list xs)))[j]? = some (.own xs') → ρ[j]? = some (.own xs') := by
      intro j xs' hj
      by_cases q : i = j
      · subst q
        rw [List.getElem?_set_self il] at hj
        cases hj
      · rw [List.getElem?_set_ne q] at hj; exact hj
    exact o.ap j k _ _ b (old hj) (old hk) sj sk
/-- the entry's frozen part moved up -/
theorem OK.re (o : OK K T0 B0 H0 T B H σ ρ) : OK K T0 B H0 T B H σ ρ where
  x := ⟨Same.refl _, o.x.s, fun a u h n hb => ⟨hb, by
    have hb0 : B0 a = none := o.x.b.free hb
    exact (o.x.k a u h n hb0).2⟩, o.x.t, id⟩
  fr := o.fr
  t0 := o.t0
  t1 := o.t1
  tq := o.tq
  tw := o.tw
  nt := o.ntB
  tb := o.tb
  th := o.th
  len := o.len
  sl := o.sl
  ap := o.ap
theorem Ext.un (e : Ext T0 B0 H0 B1 H1) (f : Ext T0 B1 H0 B2 H2) : Ext T0 B0 H0 B2 H2 where
  b := e.b.trans f.b
  s := f.s
  k := fun a u h n hb => f.k a u h n (e.k a u h n hb).1
  t := f.t
  n := fun z => f.n (e.n z)
theorem OK.un (e : Ext T0 B0 H0 B1 H1) (n : NoTab B0) (o : OK K T0 B1 H0 T B H σ ρ) : OK K T0 B0 H0 T B H σ ρ where
  x := e.un o.x
  fr := o.fr
  t0 := o.t0
  t1 := o.t1
  tq := o.tq
  tw := o.tw
  nt := n
  tb := o.tb
  th := o.th
  len := o.len
  sl := o.sl
  ap := o.ap
/-- a new hat -/
theorem OK.hat (o : OK K T0 B0 H0 T B H σ ρ) (e : Ext T B H B1 H1) {x y : Int} (r : RpL K T H B1 H1 v (.own [.int x, .int y])) (hb : HatB x y) (i : Nat) : ∃ T', OK K T0 B0 H0 T' B1 H1 (σ.set i (some v)) (ρ.set i .hat) := by
  have o1 := o.step e
  obtain ⟨a, vs, rfl, h0, h1, h2, h3, h4⟩ := r
  have ev := RpA.ints (ns := [x, y]) h4
  subst ev
  have q1 : ∀ b, T b → (if b = a then none else T.q b) = T.q b := fun b tb => if_neg fun z => by subst z; exact h2 tb
  have hat1 : ∀ b, T.hat b → Tr.hat ⟨fun b => T b ∨ b = a, fun b => if b = a then none else T.q b⟩ b := fun b tb => ⟨.inl tb.1, (q1 b tb.1).trans tb.2⟩
  refine ⟨⟨fun b => T b ∨ b = a, fun b => if b = a then none else T.q b⟩, ⟨o1.x, o1.fr, fun b hb => .inl (o1.t0 b hb), fun b u hb hu n => ?_, fun b hb => (q1 b (o1.t0 b hb)).trans (o1.tq b hb), fun P q => ?_, o1.nt, fun b hb => ?_, fun b hb' => ?_, by rw [List.length_set, List.length_set]; exact o.len, fun j m hj => ?_, fun j k xs' ys' b hj hk sj sk => ?_⟩⟩
  · rcases hb with hb | hb
    · exact o1.t1 b u hb hu n
    · subst hb; exact ((o.fr b h0).no hu n).elim
  · refine (o1.tw P q).trans ⟨fun z => ⟨.inl z.1, (q1 P z.1).trans z.2⟩, fun z => ?_⟩
    rcases z.1 with y | y
    · exact ⟨y, (q1 P y).symm.trans z.2⟩
    · have w : (if P = a then none else T.q P) = some q := z.2
      rw [if_pos y] at w; cases w
  · rcases hb with hb | hb
    · exact o1.tb b hb
    · subst hb; exact h1
  · rcases hb' with hb' | hb'
    · have m := o1.th b hb'
      unfold MutAt at m ⊢
      rw [show (Tr.mk (fun b => T b ∨ b = a) (fun b => if b = a then none else T.q b)).q b = T.q b from q1 b hb']
      exact m
    · subst hb'
      unfold MutAt
      rw [show (Tr.mk (fun c => T c ∨ c = b) (fun c => if c = b then none else T.q c)).q b = none from if_pos rfl]
      exact ⟨x, y, h3, hb⟩
  · by_cases q : i = j
    · subst q
      have hi : i < ρ.length := by
        have z := List.length_set (as := ρ) (i := i) (a := L.hat)
        have y := (List.getElem?_eq_some_iff.mp hj).1
        omega
      rw [List.getElem?_set_self hi] at hj
      cases hj
      rw [List.getElem?_set_self (by rw [← o.len]; exact hi)]
      exact ⟨_, rfl, a, rfl, .inr rfl, if_pos rfl⟩
    · rw [List.getElem?_set_ne q] at hj ⊢
      have z := o1.sl j m hj
      cases m with
      | no => trivial
      | val d => exact z
      | hat => obtain ⟨v, z1, b, z2, z3⟩ := z; exact ⟨v, z1, b, z2, hat1 b z3⟩
      | scr ns => exact z
      | own xs' =>
        obtain ⟨v, g1, b, us, g2, g3, g4, g5, g6, g7⟩ := z
        refine ⟨v, g1, b, us, g2, g3, g4, fun z => ?_, g6, g7⟩
        rcases z with z | z
        · exact g5 z
        · subst z
          obtain ⟨v', k1, b', us', k2, k3, k4, k5, k6, k7⟩ := o.sl j _ hj
          rw [k1] at g1
          cases g1
          subst g2
          cases k2
          exact h0.no k6 (nt_lst _)
  · have old : ∀ {j : Nat} {xs' : List D}, (ρ.set i .hat)[j]? = some (.own xs') → i ≠ j ∧ ρ[j]? = some (.own xs') := by
      intro j xs' hj
      by_cases q : i = j
      · subst q
        have hi : i < ρ.length := by
          have z := List.length_set (as := ρ) (i := i) (a := L.hat)
          have y := (List.getElem?_eq_some_iff.mp hj).1
          omega
        rw [List.getElem?_set_self hi] at hj
        cases hj
      · rw [List.getElem?_set_ne q] at hj; exact ⟨q, hj⟩
    obtain ⟨q1, q2⟩ := old hj
    obtain ⟨q3, q4⟩ := old hk
    rw [List.getElem?_set_ne q1] at sj
    rw [List.getElem?_set_ne q3] at sk
    exact o.ap j k _ _ b q2 q4 sj sk
end

section
variable {X : Cx} {E : XK} {st : Stmt} {sts : List Stmt} {e a b : Expr} {w wa wb : WE} {pos : Pos} {u u' : WS} {wt : WT}
def wNext (ρ : En) (N : EndsD) : Prop := N.nx ρ
def wBreak (ρ : En) (N : EndsD) : Prop := N.bk ρ
def wCont (ρ : En) (N : EndsD) : Prop := N.ct ρ
def wSeq (u u' : WS) (ρ : En) (N : EndsD) : Prop := u ρ (N.thn u')
theorem fss_nil : FSs X E [] wNext := ⟨pss_imp pss_nil fun D σ H ⟨T0, B0, H0, T, B, ρ, N, o, hw, h1, h2, h3, h4, hx⟩ => h1 _ _ _ _ _ hw o⟩
theorem fss_one (h : FS X E st u) : FSs X E [st] u := ⟨pss_one h.ps⟩
theorem fss_cons (h : FS X E st u) (h' : FSs X E sts u') : FSs X E (st :: sts) (wSeq u u') := ⟨pss_imp (pss_cons h.ps h'.pss) fun D σ H ⟨T0, B0, H0, T, B, ρ, N, o, hw, h1, h2, h3, h4, hx⟩ =>
  ⟨T0, B0, H0, T, B, ρ, _, o, hw, fun T' B' H' σ' ρ' q o' => ⟨T0, B0, H0, T', B', ρ', N, o', q, h1, h2, h3, h4, hx⟩, h2, h3, h4, hx⟩⟩
theorem fs_pass : FS X E (.Pass pos) wNext := ⟨ps_imp ps_pass fun D σ H ⟨T0, B0, H0, T, B, ρ, N, o, hw, h1, h2, h3, h4, hx⟩ => h1 _ _ _ _ _ hw o⟩
theorem fs_break : FS X E (.Break pos) wBreak := ⟨ps_imp ps_break fun D σ H ⟨T0, B0, H0, T, B, ρ, N, o, hw, h1, h2, h3, h4, hx⟩ => h2 _ _ _ _ _ hw o⟩
theorem fs_cont : FS X E (.Continue pos) wCont := ⟨ps_imp ps_continue fun D σ H ⟨T0, B0, H0, T, B, ρ, N, o, hw, h1, h2, h3, h4, hx⟩ => h3 _ _ _ _ _ hw o⟩
/-- a slot's own list is frozen ahead of a block -/
def wFrz (i : Nat) (u : WS) (ρ : En) (N : EndsD) : Prop := ∃ xs, ρ[i]? = some (.own xs) ∧ u (ρ.set i (.val (.list xs))) N
theorem fss_frz (i : Nat) (h : FSs X E sts u) : FSs X E sts (wFrz i u) := ⟨pss_imp h.pss fun D σ H ⟨T0, B0, H0, T, B, ρ, N, o, hw, h1, h2, h3, h4, hx⟩ => by
  obtain ⟨xs, hi, hw⟩ := hw
  obtain ⟨B', o'⟩ := o.frzSlot hi
  exact ⟨T0, B0, H0, T, B', _, N, o', hw, h1, h2, h3, h4, hx⟩⟩
/-- name = e -/
def kSet (i : Nat) (ρ : En) (N : EndsD) (l : L) : Prop := l ≠ .hat ∧ N.nx (ρ.set i l)
def wSet (i : Nat) (w : WE) (ρ : En) (N : EndsD) : Prop := w ρ (kSet i ρ N) N.ex
theorem fs_asg_aux {K : PySem.W.Frag} {mg : Str → Option Value} {i : Nat} {D : Ends} {σ : L2.St} {H : Hp} (h : tFS K mg E (wSet i w) D σ H) : tAsg (tF K mg E w) (gName i) D σ H := by
  obtain ⟨T0, B0, H0, T, B, ρ, N, o, hw, h1, h2, h3, h4, hx⟩ := h
  exact ⟨T0, B0, H0, T, B, ρ, _, _, o, hw, fun l v B1 H1 p e r => h1 _ _ _ _ _ p.2 (o.set e r i), o.exk hx⟩
theorem fs_set {i : Nat} {x : Str} {pos' : Pos} (hN : X.N.Nodup) (hi : X.N[i]? = some x) (hx : Loc X.env.scope x) (he : FE X E e w) (hs : swapsWith e (some (.Name x pos')) pos.line X.env = pure false := by rfl) (hf : X.fn x = true ∨ X.env.scope.names.lookup x = some .local := by first | exact .inl rfl | exact .inr rfl | assumption) :
    FS X E (.Assign [.Name x pos'] e pos) (wSet i w) := ⟨ps_imp (ps_set hN hi hx he.pe hs hf) fun D σ H h => fs_asg_aux h⟩
/-- hat = .. -/
def kSetHat (i : Nat) (ρ : En) (N : EndsD) (l : L) : Prop := ∃ x y, l = .own [.int x, .int y] ∧ HatB x y ∧ N.nx (ρ.set i .hat)
def wSetHat (i : Nat) (w : WE) (ρ : En) (N : EndsD) : Prop := w ρ (kSetHat i ρ N) N.ex
theorem fs_setHat {i : Nat} {x : Str} {pos' : Pos} (hN : X.N.Nodup) (hi : X.N[i]? = some x) (hx : Loc X.env.scope x) (he : FE X E e w) (hs : swapsWith e (some (.Name x pos')) pos.line X.env = pure false := by rfl) (hf : X.fn x = true ∨ X.env.scope.names.lookup x = some .local := by first | exact .inl rfl | exact .inr rfl | assumption) :
    FS X E (.Assign [.Name x pos'] e pos) (wSetHat i w) := ⟨ps_imp (ps_set hN hi hx he.pe hs hf) fun D σ H ⟨T0, B0, H0, T, B, ρ, N, o, hw, h1, h2, h3, h4, hx⟩ =>
  ⟨T0, B0, H0, T, B, ρ, _, _, o, hw, fun l v B1 H1 p e r => by
    obtain ⟨x, y, rfl, hb, p⟩ := p
    obtain ⟨T', o'⟩ := o.hat e r hb i
    exact h1 _ _ _ _ _ p o', o.exk hx⟩⟩
def kDrop (ρ : En) (N : EndsD) (_ : L) : Prop := N.nx ρ
def wDrop (w : WE) (ρ : En) (N : EndsD) : Prop := w ρ (kDrop ρ N) N.ex
theorem fs_expr (he : FE X E e w) (hs : swapsWith e none pos.line X.env = pure false := by rfl) : FS X E (.Expr e pos) (wDrop w) := ⟨ps_imp (ps_expr he.pe hs) fun D σ H ⟨T0, B0, H0, T, B, ρ, N, o, hw, h1, h2, h3, h4, hx⟩ =>
  ⟨T0, B0, H0, T, B, ρ, _, _, o, hw, fun l v B1 H1 p e r => h1 _ _ _ _ _ p (o.step e), o.exk hx⟩⟩
def kRet (N : EndsD) (l : L) : Prop := l ≠ .hat ∧ N.rt l
def wRet (w : WE) (ρ : En) (N : EndsD) : Prop := w ρ (kRet N) N.ex
theorem fs_ret (he : FE X E e w) : FS X E (.Return (some e) pos) (wRet w) := ⟨ps_imp (ps_ret he.pe) fun D σ H ⟨T0, B0, H0, T, B, ρ, N, o, hw, h1, h2, h3, h4, hx⟩ =>
  ⟨T0, B0, H0, T, B, ρ, _, _, o, hw, fun l v B1 H1 p e r => h4 _ _ _ _ p.2 (o.ext e) (o.ret p.1 r), o.exk hx⟩⟩
def wRetN (_ : En) (N : EndsD) : Prop := N.rt (.val .none)
theorem fs_retN : FS X E (.Return none pos) wRetN := ⟨ps_imp ps_retN fun D σ H ⟨T0, B0, H0, T, B, ρ, N, o, hw, h1, h2, h3, h4, hx⟩ => h4 _ _ _ _ hw o.x .non⟩
def kIfS (u u' : WS) (ρ : En) (N : EndsD) (k : Bool) : Prop := if k = true then u ρ N else u' ρ N
def wIfS (wt : WT) (u u' : WS) (ρ : En) (N : EndsD) : Prop := wt ρ (kIfS u u' ρ N) N.ex
theorem fs_if {sa sb : List Stmt} (hc : FT X E e wt) (ha : FSs X E sa u) (hb : FSs X E sb u') : FS X E (.If e sa sb pos) (wIfS wt u u') := ⟨ps_imp (ps_if hc.pt ha.pss hb.pss) fun D σ H ⟨T0, B0, H0, T, B, ρ, N, o, hw, h1, h2, h3, h4, hx⟩ =>
  ⟨T0, B0, H0, T, B, ρ, _, _, o, hw, fun k B1 H1 p e => by
    cases k with
    | true => exact ⟨T0, B0, H0, T, B1, ρ, N, o.step e, p, h1, h2, h3, h4, hx⟩
    | false => exact ⟨T0, B0, H0, T, B1, ρ, N, o.step e, p, h1, h2, h3, h4, hx⟩, o.exk hx⟩⟩
/-- x.append(e), x a list of our own -/
def kApp (i : Nat) (xs : List D) (ρ : En) (N : EndsD) (l : L) : Prop := ∃ d, l.d? = some d ∧ xs.length < 1000000 ∧ N.nx (ρ.set i (.own (xs ++ [d])))
def wApp (i : Nat) (w : WE) (ρ : En) (N : EndsD) : Prop := ∃ xs, ρ[i]? = some (.own xs) ∧ w ρ (kApp i xs ρ N) N.ex
theorem fs_app {i : Nat} {o : Expr} {apos cpos : Pos} (ho : PE X o (tVar i)) (he : FE X E e w)
    (hbase : attributeBase o "append" X.env (eval o X.env) = eval o X.env := by rfl)
    (hfew : ((backTo cpos (starEach [e] X.env)).all (fun x => !x.1) && (backToKw cpos (keywordEach [] X.env)).all (fun x => x.1.isSome)
      && decide ([e].length + ([] : List Keyword).length + (if ([] : List Keyword).isEmpty then 0 else 1) < 30)) = true := by rfl)
    (hline : (apos.endLine == cpos.line) = true := by rfl) (hs1 : starEach [e] X.env = (false, eval e X.env) :: starEach [] X.env := by rfl) (hplain : (backTo cpos (starEach [] X.env)).any (·.1) = false := by rfl)
    (hs : swapsWith (.Call (.Attribute o "append" apos) [e] [] cpos) none pos.line X.env = pure false := by rfl) : FS X E (.Expr (.Call (.Attribute o "append" apos) [e] [] cpos) pos) (wApp i w) :=
  ⟨ps_imp (ps_expr (pe_bm PySem.F.plainAttrs_list PySem.F.slot_list_append PySem.F.type_list_append mt_append ho (pa_cons he.pe pa_nil hs1) hbase hfew hline hs1 hplain) hs) fun D σ H ⟨T0, B0, H0, T, B, ρ, N, o, hw, h1, h2, h3, h4, hx⟩ => by
    obtain ⟨xs, hi, hw⟩ := hw
    obtain ⟨v, si, a, vs, e2, g0, g1, g2, g3, g4⟩ := o.sl i _ hi
    subst e2
    refine ⟨_, si, .inl ⟨rfl, vs, .of g3⟩, T0, B0, H0, T, B, ρ, _, _, o, hw, fun l y B1 H1 p e r => ?_, o.exk hx⟩
    obtain ⟨d, hd, hl, p⟩ := p
    obtain ⟨B1', e', s', rd⟩ := to_d e r hd
    have o1 := o.step e'
    obtain ⟨v', si', a', vs', e2, k0, k1, k2, k3, k4⟩ := o1.sl i _ hi
    rw [si] at si'
    cases si'
    cases e2
    have hv : vs = vs' := by
      have z := (e'.k a _ g3 (nt_lst _) g1).2.resolve_right fun z => g2 z.1
      rw [z] at k3
      cases k3
      rfl
    subst hv
    refine ⟨a, vs, y, rfl, rfl, k3, by rw [k4.length]; exact line_lt (Nat.le_of_lt hl), ?_⟩
    exact h1 _ _ _ _ _ p (o1.app (vs := vs) hi si (k4.append (.cons rd .nil)))⟩
/-- raise X('..') -/
def wRaise (nm : Str) (_ : En) (N : EndsD) : Prop := N.ex nm
theorem fs_raise {nm : Str} {C : Addr} {W : WX} (hc : X.calm = true) (tk : Takes X W) (hW : W = fun cls d _ H => E cls d H) (hm : PMk X e (fun _ H Q => Q (.ref C) none H)) (gC : X.mg nm = some (.ref C)) : FS X E (.Raise (some e) none pos) (wRaise nm) :=
  ⟨ps_imp (ps_raise hc tk hm) fun D σ H ⟨T0, B0, H0, T, B, ρ, N, o, hw, h1, h2, h3, h4, hx⟩ => by
    subst hW
    exact hx nm C B H hw gC o.x⟩

/-! ### targets -/
abbrev WG := En → D → (En → Prop) → Prop
def SetIn (is : List Nat) (σ σ' : L2.St) : Prop := ∀ vs : List Nat, (∀ i ∈ is, i ∈ vs) → wipe σ' vs = wipe σ vs
def tFG (K : PySem.W.Frag) (is : List Nat) (g : WG) : TG := fun v σ H Q => ∃ (T0 : Tr) (B0 H0 : Hp) (T : Tr) (B : Hp) (ρ : En) (d : D) (P : En → Prop), OK K T0 B0 H0 T B H σ ρ ∧ Rp K B v d ∧ g ρ d P ∧ ∀ ρ' σ', P ρ' → OK K T0 B0 H0 T B H σ' ρ' → SetIn is σ σ' → Q σ' H
structure FG (X : Cx) (is : List Nat) (tg : Expr) (g : WG) : Prop where
  pg : PG X tg (tFG X.K is g)
def wgN (i : Nat) (ρ : En) (d : D) (P : En → Prop) : Prop := P (ρ.set i (.val d))
theorem wipe_get (σ : L2.St) : ∀ (vs : List Nat) (j : Nat), (wipe σ vs)[j]? = if j ∈ vs then (σ[j]?).map (fun _ => none) else σ[j]?
  | [], j => by simp [wipe]
  | v :: vs, j => by
    unfold wipe
    by_cases q : v = j
    · subst q
      rw [List.getElem?_set]
      simp only [if_true, List.mem_cons, true_or]
      rw [wipe_length]
      by_cases h : v < σ.length
      · rw [if_pos h, List.getElem?_eq_getElem h]; rfl
      · rw [if_neg h, List.getElem?_eq_none (by omega)]; rfl
    · rw [List.getElem?_set_ne q, wipe_get σ vs j]
      have q' : j ≠ v := fun z => q z.symm
      simp only [List.mem_cons, q', false_or]
theorem wipe_eq {σ σ' : L2.St} {vs : List Nat} (hl : σ'.length = σ.length) (h : ∀ j, j ∉ vs → σ'[j]? = σ[j]?) : wipe σ' vs = wipe σ vs := by
  apply List.ext_getElem?
  intro j
  rw [wipe_get, wipe_get]
  by_cases q : j ∈ vs
  · rw [if_pos q, if_pos q]
    by_cases hj : j < σ.length
    · rw [List.getElem?_eq_getElem hj, List.getElem?_eq_getElem (by omega)]; rfl
    · rw [List.getElem?_eq_none (by omega), List.getElem?_eq_none (by omega)]
  · rw [if_neg q, if_neg q]; exact h j q
theorem setIn_one (σ : L2.St) (i : Nat) (x : Option V) : SetIn [i] σ (σ.set i x) := fun vs h => wipe_eq (by simp) fun j hj => by
  have ne : i ≠ j := fun z => hj (h j (by simp [z]))
  rw [List.getElem?_set_ne ne]
theorem SetIn.trans {is js : List Nat} {σ σ1 σ2 : L2.St} (a : SetIn is σ σ1) (b : SetIn js σ1 σ2) : SetIn (is ++ js) σ σ2 := fun vs h =>
  (b vs fun i hi => h i (List.mem_append_right _ hi)).trans (a vs fun i hi => h i (List.mem_append_left _ hi))
theorem setIn_nil (σ : L2.St) : SetIn [] σ σ := fun _ _ => rfl
theorem fg_name {i : Nat} {x : Str} (hN : X.N.Nodup) (hi : X.N[i]? = some x) (hx : Loc X.env.scope x) (hf : X.fn x = true ∨ X.env.scope.names.lookup x = some .local := by first | exact .inl rfl | exact .inr rfl | assumption) : FG X [i] (.Name x pos) (wgN i) := by
  refine ⟨⟨fun pins s σ H v u Q I r h => ?_⟩⟩
  obtain ⟨T0, B0, H0, T, B, ρ, d, P, o, rd, hg, hQ⟩ := h
  exact (pg_name (pos := pos) hN hi hx hf).run pins s σ H v u Q I r (hQ _ _ hg (o.set (Ext.refl o.sub o.th) (show RpL X.K T H B H v (.val d) from rd) i) (setIn_one _ _ _))
/-- several targets -/
abbrev WGs := En → List D → (En → Prop) → Prop
def tFGs (K : PySem.W.Frag) (is : List Nat) (g : WGs) : TGs := fun vs σ H Q => ∃ (T0 : Tr) (B0 H0 : Hp) (T : Tr) (B : Hp) (ρ : En) (ds : List D) (P : En → Prop), OK K T0 B0 H0 T B H σ ρ ∧ RpA K B vs ds ∧ g ρ ds P ∧ ∀ ρ' σ', P ρ' → OK K T0 B0 H0 T B H σ' ρ' → SetIn is σ σ' → Q σ' H
structure FGs (X : Cx) (is : List Nat) (ts : List Expr) (g : WGs) : Prop where
  pg : PGs X ts (tFGs X.K is g)
def wgNil (ρ : En) (ds : List D) (P : En → Prop) : Prop := ds = [] ∧ P ρ
def kgCons (gs : WGs) (r : List D) (P : En → Prop) (ρ : En) : Prop := gs ρ r P
def wgCons (g : WG) (gs : WGs) (ρ : En) : List D → (En → Prop) → Prop
  | d :: r, P => g ρ d (kgCons gs r P)
  | [], _ => False
theorem pgs_imp {ts : List Expr} {t t' : TGs} (h : PGs X ts t) (i : ∀ vs σ H Q, t' vs σ H Q → t vs σ H Q) : PGs X ts t' := ⟨fun pins s σ H vs us Q I r q => h.run pins s σ H vs us Q I r (i vs σ H Q q)⟩
theorem pg_imp {tg : Expr} {t t' : TG} (h : PG X tg t) (i : ∀ v σ H Q, t' v σ H Q → t v σ H Q) : PG X tg t' := ⟨fun pins s σ H v u Q I r q => h.run pins s σ H v u Q I r (i v σ H Q q)⟩
theorem fgs_nil : FGs X [] [] wgNil := ⟨pgs_imp pgs_nil fun vs σ H Q ⟨T0, B0, H0, T, B, ρ, ds, P, o, rd, hg, hQ⟩ => by
  obtain ⟨rfl, hg⟩ := hg
  cases rd
  exact ⟨rfl, hQ _ _ hg o (setIn_nil _)⟩⟩
theorem fgs_cons {is js : List Nat} {es : List Expr} {g : WG} {gs : WGs} (h1 : FG X is e g) (h2 : FGs X js es gs) (hs : (assignEach (e :: es) X.env).map (·.2) = assign e X.env :: (assignEach es X.env).map (·.2) := by rfl) : FGs X (is ++ js) (e :: es) (wgCons g gs) :=
  ⟨pgs_imp (pgs_cons h1.pg h2.pg hs) fun vs σ H Q ⟨T0, B0, H0, T, B, ρ, ds, P, o, rd, hg, hQ⟩ => by
    match ds, hg with
    | d :: r, hg =>
    cases rd with
    | cons r1 r2 => exact ⟨_, _, rfl, T0, B0, H0, T, B, ρ, d, _, o, r1, hg, fun ρ' σ' p o' s' => ⟨T0, B0, H0, T, B, ρ', r, P, o', r2, p, fun ρ2 σ2 p2 o2 s2 => hQ _ _ p2 o2 (s'.trans s2)⟩⟩⟩
def wgT (n : Nat) (gs : WGs) (ρ : En) (d : D) (P : En → Prop) : Prop := ∃ ds, d = .tuple ds ∧ ds.length = n ∧ gs ρ ds P
theorem fg_tup {is : List Nat} {es : List Expr} {k : Nat} {gs : WGs} {n : Nat} (hc : X.calm = true) (h : FGs X is es gs)
    (hn : (assignEach es X.env).length = n := by rfl) (hst : (assignEach es X.env).findIdx? (·.1) = none := by rfl) : FG X is (.Tuple es k pos) (wgT n gs) :=
  ⟨pg_imp (pg_tup hc h.pg hn hst) fun v σ H Q ⟨T0, B0, H0, T, B, ρ, d, P, o, rd, hg, hQ⟩ => by
    obtain ⟨ds, rfl, hl, hg⟩ := hg
    cases rd with
    | tup h r => exact ⟨_, _, rfl, same_tup o.sub h, by rw [r.length]; exact hl, T0, B0, H0, T, B, ρ, ds, P, o, r, hg, hQ⟩⟩
/-- target = e -/
def kAsg (g : WG) (ρ : En) (N : EndsD) (l : L) : Prop := ∃ d, l.d? = some d ∧ g ρ d N.nx
def wAsg (w : WE) (g : WG) (ρ : En) (N : EndsD) : Prop := w ρ (kAsg g ρ N) N.ex
theorem fs_asg {is : List Nat} {tg : Expr} {g : WG} (he : FE X E e w) (hg : FG X is tg g) (hs : swapsWithSole [tg] e pos.line X.env = pure false := by rfl) (hw : swappedStores [tg] e X.env = pure none := by rfl)
    (h1 : (assignEach [tg] X.env).map (·.2) = [assign tg X.env] := by rfl) : FS X E (.Assign [tg] e pos) (wAsg w g) := ⟨ps_imp (ps_asg he.pe hg.pg hs hw h1) fun D σ H ⟨T0, B0, H0, T, B, ρ, N, o, hw, h1, h2, h3, h4, hx⟩ =>
  ⟨T0, B0, H0, T, B, ρ, _, _, o, hw, fun l v B1 H1 p e r => by
    obtain ⟨d, hd, p⟩ := p
    obtain ⟨B1', e', s', rd⟩ := to_d e r hd
    exact ⟨T0, B0, H0, T, B1', ρ, d, _, o.step e', rd, p, fun ρ' σ' q o' _ => h1 _ _ _ _ _ q o'⟩, o.exk hx⟩⟩
/-- a, b = x, y -/
def kPar (i j : Nat) (ρ : En) (N : EndsD) : List L → Prop
  | [.val x, .val y] => N.nx ((ρ.set i (.val x)).set j (.val y))
  | _ => False
def wPar (i j : Nat) (wr : WA) (ρ : En) (N : EndsD) : Prop := wr ρ (kPar i j ρ N) N.ex
theorem fs_par {i j : Nat} {x y : Str} {wr : WA} {px py pt : Pos} {kt k2 pt2} (hc : X.calm = true) (hN : X.N.Nodup) (hi : X.N[i]? = some x) (hj : X.N[j]? = some y) (hij : i ≠ j)
    (hx : X.env.scope.names.lookup x = some .local) (hy : X.env.scope.names.lookup y = some .local) (ha : FA X E [a, b] wr)
    (hw : swappedStores [.Tuple [.Name x px, .Name y py] kt pt] (.Tuple [a, b] k2 pt2) X.env = pure (some [x, y]))
    (hs : swapsWithSole [.Tuple [.Name x px, .Name y py] kt pt] (.Tuple [a, b] k2 pt2) pos.line X.env = pure false := by rfl) :
    FS X E (.Assign [.Tuple [.Name x px, .Name y py] kt pt] (.Tuple [a, b] k2 pt2) pos) (wPar i j wr) := ⟨ps_imp (ps_par hc hN hi hj hij hx hy ha.pa hw hs) fun D σ H ⟨T0, B0, H0, T, B, ρ, N, o, hw, h1, h2, h3, h4, hx⟩ =>
  ⟨T0, B0, H0, T, B, ρ, _, _, o, hw, fun ls vs B1 H1 p e r => by
    match ls, p with
    | [.val x, .val y], p =>
    cases r with
    | cons r1 r2 =>
      cases r2 with
      | cons r2 r3 =>
        cases r3
        have o1 := o.set e (show RpL _ _ _ _ _ _ (.val x) from r1) i
        have o2 := o1.set (Ext.refl o1.sub o1.th) (show RpL _ _ _ _ _ _ (.val y) from r2) j
        exact ⟨_, _, rfl, h1 _ _ _ _ _ p o2⟩, o.exk hx⟩⟩
/-! ### while -/
def kWh (u : WS) (m : Nat) (I : Nat → En → Prop) (ρ : En) (N : EndsD) (k : Bool) : Prop := if k = true then u ρ (N.loop fun ρ'' => ∃ m', m' < m ∧ I m' ρ'') else N.nx ρ
def wWhile (wt : WT) (u : WS) (ρ : En) (N : EndsD) : Prop := ∃ I : Nat → En → Prop, (∃ m, I m ρ) ∧ ∀ m ρ', I m ρ' → wt ρ' (kWh u m I ρ' N) N.ex
theorem fs_while {c : Expr} {body : List Stmt} (hp : PassesOwn (model X.prog X.w) X.A X.env X.xe) (hc : FT X E c wt) (hb : FSs X E body u) : FS X E (.While c body [] pos) (wWhile wt u) :=
  ⟨ps_imp (ps_while hp hc.pt hb.pss) fun D σ H ⟨T0, B0, H0, T, B, ρ, N, o, hw, h1, h2, h3, h4, hx⟩ => by
    obtain ⟨I, ⟨m0, i0⟩, turn⟩ := hw
    refine ⟨fun m σ H => ∃ T B ρ, OK X.K T0 B0 H0 T B H σ ρ ∧ I m ρ, ⟨m0, T, B, ρ, o, i0⟩, ?_⟩
    rintro m σ1 H1 ⟨T1, B1, ρ1, o1, i1⟩
    refine ⟨T0, B0, H0, T1, B1, ρ1, _, _, o1, turn m ρ1 i1, fun k B2 H2 p e => ?_, o1.exk hx⟩
    cases k with
    | false => exact h1 _ _ _ _ _ p (o1.step e)
    | true =>
      refine ⟨fun σ' H' => ∃ m', m' < m ∧ ∃ T B ρ, OK X.K T0 B0 H0 T B H' σ' ρ ∧ I m' ρ, fun σ' H' q => q, T0, B0, H0, T1, B2, ρ1, _, o1.step e, p, ?_, ?_, ?_, h4, hx⟩
      · rintro T' B' H' σ' ρ' ⟨m', hm, q⟩ o'
        exact ⟨m', hm, T', B', ρ', o', q⟩
      · intro T' B' H' σ' ρ' q o'
        exact h1 _ _ _ _ _ q o'
      · rintro T' B' H' σ' ρ' ⟨m', hm, q⟩ o'
        exact ⟨m', hm, T', B', ρ', o', q⟩⟩

/-! ### what is walked -/
def SeqJ (K : PySem.W.Frag) (J : It) (B : Hp) (xs : List D) : Prop := ∀ B' H', Same B B' → Same B' H' → (∀ i d, xs[i]? = some d → J.go i H' ∧ ∀ x H'', J.yld i H' x H'' → ∃ B'', PExt B' H' B'' H'' ∧ Rp K B'' x d) ∧ ∀ i, xs.length ≤ i → J.stop i H'
abbrev WI := En → (List D → Prop) → (Str → Prop) → Prop
def tFI (K : PySem.W.Frag) (mg : Str → Option Value) (E : XK) (w : WI) : TI := fun σ H R => ∃ (T0 : Tr) (B0 H0 : Hp) (T : Tr) (B : Hp) (ρ : En) (P : List D → Prop) (Px : Str → Prop),
  OK K T0 B0 H0 T B H σ ρ ∧ w ρ P Px ∧ (∀ xs J B' H', P xs → Ext T B H B' H' → SeqJ K J B' xs → R J H') ∧ ExK mg E T B H Px
structure FI (X : Cx) (E : XK) (tg iter : Expr) (w : WI) : Prop where
  pi : PI X tg iter (tFI X.K X.mg E w)
theorem pi_imp {tg it : Expr} {t t' : TI} (h : PI X tg it t) (i : ∀ σ H R, t' σ H R → t σ H R) : PI X tg it t' := ⟨fun pins s σ H R I q => h.run pins s σ H R I (i σ H R q)⟩
theorem seq_list {K : PySem.W.Frag} {B : Hp} {a : Addr} {vs : List V} {ds : List D} (h : B a = some (.lst vs)) (r : RpA K B vs ds) (uniq : ∀ H' ys, B a = some (.lst vs) → Same B H' → SqL K H' a ys → ys = vs) : SeqJ K (Itl K a) B ds := fun B' H' s1 s2 => by
  have hq : SqL K H' a vs := .of (s2 _ _ (s1 _ _ h))
  refine ⟨fun i d hd => ?_, fun i hi => ⟨vs, hq, by rw [r.length]; exact hi⟩⟩
  obtain ⟨v, hv, rv⟩ := r.get hd
  refine ⟨⟨vs, v, hq, hv⟩, fun x H'' y => ?_⟩
  obtain ⟨rfl, y⟩ := y
  have z := y vs hq
  rw [hv] at z
  cases z
  exact ⟨B', PExt.refl s2, rv.mono s1⟩
theorem seq_list' {K : PySem.W.Frag} {B : Hp} {a : Addr} {vs : List V} {ds : List D} (h : B a = some (.lst vs)) (r : RpA K B vs ds) : SeqJ K (Itl K a) B ds := fun B' H' s1 s2 => by
  have hq : SqL K H' a vs := .of (s2 _ _ (s1 _ _ h))
  refine ⟨fun i d hd => ?_, fun i hi => ⟨vs, hq, by rw [r.length]; exact hi⟩⟩
  obtain ⟨v, hv, rv⟩ := r.get hd
  refine ⟨⟨vs, v, hq, hv⟩, fun x H'' y => ?_⟩
  obtain ⟨rfl, y⟩ := y
  have z := y vs hq
  rw [hv] at z
  cases z
  exact ⟨B', PExt.refl s2, rv.mono s1⟩
theorem seq_tup {K : PySem.W.Frag} {B : Hp} {a : Addr} {vs : List V} {ds : List D} (h : SqT K B a vs) (r : RpA K B vs ds) : SeqJ K (Itt K a) B ds := fun B' H' s1 s2 => by
  have hq : SqT K H' a vs := same_tup s2 (same_tup s1 h)
  refine ⟨fun i d hd => ?_, fun i hi => ⟨vs, hq, by rw [r.length]; exact hi⟩⟩
  obtain ⟨v, hv, rv⟩ := r.get hd
  refine ⟨⟨vs, v, hq, hv⟩, fun x H'' y => ?_⟩
  obtain ⟨rfl, y⟩ := y
  have z := y vs hq
  rw [hv] at z
  cases z
  exact ⟨B', PExt.refl s2, rv.mono s1⟩
def rgD (lo : Int) (n : Nat) : List D := (List.range n).map fun j => .int (lo + (j : Nat))
theorem rgD_len (lo : Int) (n : Nat) : (rgD lo n).length = n := by simp [rgD]
theorem rgD_get {lo : Int} {n i : Nat} {d : D} (h : (rgD lo n)[i]? = some d) : i < n ∧ d = .int (lo + (i : Nat)) := by
  unfold rgD at h
  rw [List.getElem?_map] at h
  cases q : (List.range n)[i]? with
  | none => rw [q] at h; cases h
  | some j =>
    rw [q] at h
    have hj := List.getElem?_eq_some_iff.mp q
    obtain ⟨h1, h2⟩ := hj
    rw [List.getElem_range] at h2
    subst h2
    cases h
    exact ⟨by simpa using h1, rfl⟩
theorem seq_range {K : PySem.W.Frag} {B : Hp} {lo : Int} {n : Nat} : SeqJ K (Itr lo n) B (rgD lo n) := fun B' H' s1 s2 => by
  refine ⟨fun i d hd => ?_, fun i hi => by rw [rgD_len] at hi; exact hi⟩
  obtain ⟨h1, rfl⟩ := rgD_get hd
  refine ⟨h1, fun x H'' y => ?_⟩
  obtain ⟨rfl, rfl⟩ := y
  exact ⟨B', PExt.refl s2, .int _⟩
def kiL (P : List D → Prop) (l : L) : Prop := ∃ xs, l.d? = some (.list xs) ∧ P xs
def kiT (P : List D → Prop) (l : L) : Prop := ∃ xs, l.d? = some (.tuple xs) ∧ P xs
def wiL (w : WE) (ρ : En) (P : List D → Prop) (Px : Str → Prop) : Prop := w ρ (kiL P) Px
def wiT (w : WE) (ρ : En) (P : List D → Prop) (Px : Str → Prop) : Prop := w ρ (kiT P) Px
variable {tg it : Expr} {wi : WI}
theorem fi_list (h : FE X E e w) : FI X E tg e (wiL w) := ⟨pi_imp (pi_list h.pe) fun σ H R ⟨T0, B0, H0, T, B, ρ, P, Px, o, hw, hR, hx⟩ => ⟨T0, B0, H0, T, B, ρ, _, Px, o, hw, fun l v B1 H1 p e r => by
  obtain ⟨xs, hd, p⟩ := p
  obtain ⟨B1', e', s', rd⟩ := to_d e r hd
  cases rd with
  | lst h r => exact ⟨_, rfl, ⟨_, .of (e'.s _ _ h)⟩, hR _ _ _ _ p e' (seq_list' h r)⟩, hx⟩⟩
theorem fi_tup (h : FE X E e w) : FI X E tg e (wiT w) := ⟨pi_imp (pi_tup h.pe) fun σ H R ⟨T0, B0, H0, T, B, ρ, P, Px, o, hw, hR, hx⟩ => ⟨T0, B0, H0, T, B, ρ, _, Px, o, hw, fun l v B1 H1 p e r => by
  obtain ⟨xs, hd, p⟩ := p
  obtain ⟨B1', e', s', rd⟩ := to_d e r hd
  cases rd with
  | tup h r => exact ⟨_, rfl, ⟨_, same_tup e'.s h⟩, hR _ _ _ _ p e' (seq_tup h r)⟩, hx⟩⟩
def kiR1 (P : List D → Prop) (ls : List L) : Prop := ∃ n : Int, ls = [.val (.int n)] ∧ -(2 ^ 62) ≤ n ∧ n < 2 ^ 62 ∧ P (rgD 0 n.toNat)
def wiR1 (wr : WA) (ρ : En) (P : List D → Prop) (Px : Str → Prop) : Prop := wr ρ (kiR1 P) Px
def kiR2 (P : List D → Prop) (ls : List L) : Prop := ∃ m n : Int, ls = [.val (.int m), .val (.int n)] ∧ (-(2 ^ 62) ≤ m ∧ m < 2 ^ 62 ∧ -(2 ^ 62) ≤ n ∧ n < 2 ^ 62) ∧ P (rgD m (n - m).toNat)
def wiR2 (wr : WA) (ρ : En) (P : List D → Prop) (Px : Str → Prop) : Prop := wr ρ (kiR2 P) Px
theorem rpg_int {K : PySem.W.Frag} {T : Tr} {B : Hp} {v : V} {n : Int} (r : RpG K T B v (.val (.int n))) : v = .int n := by cases r; rfl
theorem fi_range1 {wr : WA} {p : Pos} (hg : Gl X "range") (hm : X.mg "range" = none) (ha : FA X E [a] wr) (hs : starEach [a] X.env = [(false, eval a X.env)] := by rfl) : FI X E tg (.Call (.Name "range" p) [a] [] pos) (wiR1 wr) :=
  ⟨pi_imp (pi_range1 hg hm ha.pa hs) fun σ H R ⟨T0, B0, H0, T, B, ρ, P, Px, o, hw, hR, hx⟩ => ⟨T0, B0, H0, T, B, ρ, _, Px, o, hw, fun ls vs B1 H1 p e r => by
    obtain ⟨n, rfl, n1, n2, p⟩ := p
    cases r with
    | cons r1 r2 =>
      cases r2
      have := rpg_int r1
      subst this
      exact ⟨n, rfl, n1, n2, hR _ _ _ _ p e seq_range⟩, hx⟩⟩
theorem fi_range2 {wr : WA} {p : Pos} (hg : Gl X "range") (hm : X.mg "range" = none) (ha : FA X E [a, b] wr) (hs : starEach [a, b] X.env = [(false, eval a X.env), (false, eval b X.env)] := by rfl) (hs2 : starEach [b] X.env = [(false, eval b X.env)] := by rfl) : FI X E tg (.Call (.Name "range" p) [a, b] [] pos) (wiR2 wr) :=
  ⟨pi_imp (pi_range2 hg hm ha.pa hs hs2) fun σ H R ⟨T0, B0, H0, T, B, ρ, P, Px, o, hw, hR, hx⟩ => ⟨T0, B0, H0, T, B, ρ, _, Px, o, hw, fun ls vs B1 H1 p e r => by
    obtain ⟨m, n, rfl, hb, p⟩ := p
    cases r with
    | cons r1 r2 =>
      cases r2 with
      | cons r2 r3 =>
        cases r3
        have q1 := rpg_int r1
        have q2 := rpg_int r2
        subst q1 q2
        exact ⟨m, n, rfl, hb, hR _ _ _ _ p e seq_range⟩, hx⟩⟩
/-! ### for -/
def kBody (u : WS) (I : En → Prop) (N : EndsD) (ρ : En) : Prop := u ρ (N.loop I)
def wFor (wi : WI) (g : WG) (u : WS) (ρ : En) (N : EndsD) : Prop := wi ρ (fun xs => ∃ I : Nat → En → Prop, I 0 ρ ∧ (∀ (j : Nat) x ρ', xs[j]? = some x → I j ρ' → g ρ' x (kBody u (I (j + 1)) N)) ∧ ∀ ρ', I xs.length ρ' → N.nx ρ') N.ex
theorem fs_for {is : List Nat} {iter : Expr} {body : List Stmt} {g : WG} (hp : PassesOwn (model X.prog X.w) X.A X.env X.xe) (hc : X.calm = true) (hi : FI X E tg iter wi) (hg : FG X is tg g) (hb : FSs X E body u)
    (hs : ∀ x, foldedSetIterable iter X.env x = pure x := by intro _; rfl) : FS X E (.For tg iter body [] pos) (wFor wi g u) :=
  ⟨ps_imp (ps_for hp hc hi.pi hg.pg hb.pss hs) fun D σ H ⟨T0, B0, H0, T, B, ρ, N, o, hw, h1, h2, h3, h4, hx⟩ => by
    refine ⟨T0, B0, H0, T, B, ρ, _, _, o, hw, fun xs J B1 H1 p e sj => ?_, o.exk hx⟩
    obtain ⟨I, i0, turn, done⟩ := p
    have oe := o.step e
    have e1 := oe.x
    refine ⟨fun i m σ H => m = xs.length - i ∧ i ≤ xs.length ∧ ∃ T B ρ, OK X.K T0 B1 H0 T B H σ ρ ∧ I i ρ, ⟨xs.length, by omega, Nat.zero_le _, T, B1, ρ, oe.re, i0⟩, ?_⟩
    rintro i m σ1 H2 ⟨rfl, hi, T2, B2, ρ2, o2, q2⟩
    have sq := sj B2 H2 o2.x.b o2.sub
    by_cases hlt : i < xs.length
    · have hd : xs[i]? = some xs[i] := List.getElem?_eq_getElem hlt
      obtain ⟨go, yl⟩ := sq.1 i _ hd
      refine .inr ⟨go, fun σ' H' => ∃ T B ρ, OK X.K T0 B1 H0 T B H' σ' ρ ∧ I (i + 1) ρ, fun σ' H' q => ⟨xs.length - (i + 1), by omega, rfl, hlt, q⟩, fun x H3 y => ?_⟩
      obtain ⟨B3, pe, rx⟩ := yl x H3 y
      have o3 := o2.pstep pe
      refine ⟨T0, B1, H0, T2, B3, ρ2, xs[i], _, o3, rx, turn i _ ρ2 hd q2, fun ρ' σ' p4 o4 _ => ?_⟩
      exact ⟨T0, B1, H0, T2, B3, ρ', _, o4, p4, fun T' B' H' σ'' ρ'' q o' => ⟨T', B', ρ'', o', q⟩, fun T' B' H' σ'' ρ'' q o' => h1 _ _ _ _ _ q (o'.un e1 o.nt), fun T' B' H' σ'' ρ'' q o' => ⟨T', B', ρ'', o', q⟩,
        fun l v B' H' q ex r => h4 _ _ _ _ q (e1.un ex) r, fun nm c B' H' q m f => hx nm c B' H' q m (e1.un f)⟩
    · have hi2 : i = xs.length := by omega
      subst hi2
      exact .inl ⟨sq.2 _ (Nat.le_refl _), h1 _ _ _ _ _ (done ρ2 q2) (o2.un e1 o.nt)⟩⟩
end
end Pz

set_option Elab.async false
set_option linter.all false
set_option autoImplicit false
set_option maxRecDepth 100000
namespace Pz
open PySem PySem.Spec PyProof.Rows L2

/-! ## comprehensions -/
def wipeD (ρ : En) : List Nat → En
  | [] => ρ
  | v :: vs => (wipeD ρ vs).set v .no
theorem wipeD_length (ρ : En) : ∀ vs, (wipeD ρ vs).length = ρ.length
  | [] => rfl
  | v :: vs => by unfold wipeD; rw [List.length_set, wipeD_length ρ vs]
theorem wipeD_get (ρ : En) : ∀ (vs : List Nat) (j : Nat), (wipeD ρ vs)[j]? = if j ∈ vs then (ρ[j]?).map (fun _ => .no) else ρ[j]?
  | [], j => by simp [wipeD]
  | v :: vs, j => by
    unfold wipeD
    by_cases q : v = j
    · subst q
      rw [List.getElem?_set]
      simp only [if_true, List.mem_cons, true_or]
      rw [wipeD_length]
      by_cases h : v < ρ.length
      · rw [if_pos h, List.getElem?_eq_getElem h]; rfl
      · rw [if_neg h, List.getElem?_eq_none (by omega)]; rfl
    · rw [List.getElem?_set_ne q, wipeD_get ρ vs j]
      have q' : j ≠ v := fun z => q z.symm
      simp only [List.mem_cons, q', false_or]
section
variable {K : PySem.W.Frag} {T0 T : Tr} {B0 H0 B H B1 H1 B2 H2 : Hp} {σ : L2.St} {ρ : En} {v : V} {l : L}
theorem OK.wipe (o : OK K T0 B0 H0 T B H σ ρ) (vs : List Nat) : OK K T0 B0 H0 T B H (wipe σ vs) (wipeD ρ vs) where
  x := o.x
  fr := o.fr
  t0 := o.t0
  t1 := o.t1
  tq := o.tq
  tw := o.tw
  nt := o.nt
  tb := o.tb
  th := o.th
  len := by rw [wipe_length, wipeD_length]; exact o.len
  sl := fun i l hl => by
    rw [wipeD_get] at hl
    rw [wipe_get]
    by_cases q : i ∈ vs
    · rw [if_pos q] at hl
      cases z : ρ[i]? with
      | none => rw [z] at hl; cases hl
      | some m => rw [z] at hl; cases hl; trivial
    · rw [if_neg q] at hl ⊢
      exact o.sl i l hl
  ap := fun i j xs ys a hi hj si sj => by
    have old : ∀ {i : Nat} {xs : List D}, (wipeD ρ vs)[i]? = some (.own xs) → i ∉ vs ∧ ρ[i]? = some (.own xs) := by
      intro i xs h
      rw [wipeD_get] at h
      by_cases q : i ∈ vs
      · rw [if_pos q] at h
        cases z : ρ[i]? with
        | none => rw [z] at h; cases h
        | some m => rw [z] at h; cases h
      · rw [if_neg q] at h; exact ⟨q, h⟩
    obtain ⟨q1, q2⟩ := old hi
    obtain ⟨q3, q4⟩ := old hj
    rw [wipe_get, if_neg q1] at si
    rw [wipe_get, if_neg q3] at sj
    exact o.ap i j xs ys a q2 q4 si sj
theorem OK.apart (o : OK K T0 B0 H0 T B H σ ρ) {p : Addr} (hp : H p = none) : ∀ (j : Nat) (xs : List D), ρ[j]? = some (.own xs) → σ[j]? ≠ some (some (.ref p)) := fun j xs hj sj => by
  obtain ⟨v, e1, a, vs, e2, _, _, _, h3, _⟩ := o.sl j _ hj
  rw [sj] at e1
  cases e1
  cases e2
  rw [hp] at h3; cases h3
end
theorem Ext.mut {T : Tr} {B H B1 H1 : Hp} {p : Addr} {u : HO} (e : Ext T B H B1 H1) (h : Fr H p) (hb : B1 p = none) (hT : ¬ T p) (hc : NoCode H1 p) : Ext T B H B1 (upd H1 p u) where
  b := e.b
  s := fun b q h1 => by
    have ne : b ≠ p := fun z => by subst z; rw [hb] at h1; cases h1
    rw [upd_ne ne]; exact e.s _ _ h1
  k := fun b q hq n hbb => by
    have ne : b ≠ p := fun z => by subst z; exact h.no hq n
    rw [upd_ne ne]; exact e.k b q hq n hbb
  t := fun b h2 => by
    have ne : b ≠ p := fun z => by subst z; exact hT h2
    exact (e.t b h2).upd ne hc
  n := e.n
section
variable {X : Cx} {E : XK} {e a b tg iter elt : Expr} {ifs : List Expr} {w we : WE} {pos : Pos} {wi : WI} {wt : WT}
/-- the tests of a comprehension -/
structure FTs (X : Cx) (E : XK) (ifs : List Expr) (w : WT) : Prop where
  pts : PTs X ifs (tFT X.K X.mg E w)
def wYes (_ : En) (P : Bool → Prop) (_ : Str → Prop) : Prop := P true
theorem fts_nil : FTs X E [] wYes := ⟨⟨fun pins s σ H Q I ⟨T0, B0, H0, T, B, ρ, P, Px, o, hw, hQ, hx⟩ => pts_nil.run pins s σ H Q I (hQ _ _ _ hw (Ext.refl o.sub o.th))⟩⟩
theorem fts_one (h : FT X E e wt) : FTs X E [e] wt := ⟨pts_one h.pt⟩
def kLcE (I : D → Prop) (l : L) : Prop := ∃ d, l.d? = some d ∧ I d
def kLcT (we : WE) (Y : D → Prop) (M : Prop) (ρ : En) (k : Bool) : Prop := if k = true then we ρ (kLcE Y) (fun _ => False) else M
def kLcG (wt : WT) (we : WE) (Y : D → Prop) (M : Prop) (ρ : En) : Prop := wt ρ (kLcT we Y M ρ) (fun _ => False)
def wLc (wi : WI) (g : WG) (wt : WT) (we : WE) (vs : List Nat) (ρ : En) (P : L → Prop) (Px : Str → Prop) : Prop := wi ρ (fun xs => xs.length ≤ 1000000 ∧ ∃ I : Nat → List D → Prop, I 0 [] ∧
  (∀ (j : Nat) x acc, xs[j]? = some x → I j acc → g (wipeD ρ vs) x (kLcG wt we (fun d => I (j + 1) (acc ++ [d])) (I (j + 1) acc))) ∧
  ∀ acc, I xs.length acc → P (.own acc)) Px
theorem exk_no {mg : Str → Option Value} {E : XK} {T : Tr} {B H : Hp} : ExK mg E T B H (fun _ => False) := fun _ _ _ _ z => z.elim
/-- the reading of a comprehension -/
theorem tF_lc {K : PySem.W.Frag} {mg : Str → Option Value} {is vs : List Nat} {g : WG} {σ : L2.St} {H : Hp} {Q : VK} (hv : ∀ i ∈ is, i ∈ vs) (h : tF K mg E (wLc wi g wt we vs) σ H Q) :
    tLc (tFI K mg E wi) (tFG K is g) (tFT K mg E0 wt) (tF K mg E0 we) vs σ H Q := by
  obtain ⟨T0, B0, H0, T, B, ρ, P, Px, o, hw, hQ, hx⟩ := h
  refine ⟨T0, B0, H0, T, B, ρ, _, Px, o, hw, fun xs J B1 H1 p e sj => ?_, hx⟩
  obtain ⟨hlen, I, i0, turn, done⟩ := p
  have o1 := (o.step e)
  intro Dl hD
  have bD : B1 Dl = none := e.s.free hD
  have tD : ¬ T Dl := not_hat e.t hD
  have hHD : Fr H Dl := e.free o.sub (.of hD)
  have zD : Fr H0 Dl := o.fr Dl hHD
  have apD := (o1.wipe vs).apart hD
  have pe0 : PExt B1 H1 B1 (upd H1 Dl (.lst [])) := PExt.newOwn e.s hD
  have o2 := (o1.pstep pe0)
  -- what holds at each turn
  refine ⟨fun i m H' => m = xs.length - i ∧ i ≤ xs.length ∧ ∃ B' acc avs, OK K T0 B1 H0 T B' H' (wipe σ vs) (wipeD ρ vs) ∧ Ext T B1 H1 B' H' ∧ H' Dl = some (.lst avs) ∧ B' Dl = none ∧ RpA K B' avs acc ∧ avs.length ≤ i ∧ I i acc,
    ⟨xs.length, by omega, Nat.zero_le _, B1, [], [], (o2.wipe vs).re, pe0.ext e.t, upd_same, bD, .nil, Nat.le_refl _, i0⟩, ?_⟩
  rintro i m H2 ⟨rfl, hi, B2, acc, avs, o3, e3, hl, hb, ra, hal, hI⟩
  have sq := sj B2 H2 o3.x.b o3.sub
  by_cases hlt : i < xs.length
  · have hd : xs[i]? = some xs[i] := List.getElem?_eq_getElem hlt
    obtain ⟨go, yl⟩ := sq.1 i _ hd
    refine .inr ⟨go, fun H' => ∃ B' acc avs, OK K T0 B1 H0 T B' H' (wipe σ vs) (wipeD ρ vs) ∧ Ext T B1 H1 B' H' ∧ H' Dl = some (.lst avs) ∧ B' Dl = none ∧ RpA K B' avs acc ∧ avs.length ≤ i + 1 ∧ I (i + 1) acc,
      fun H' q => ⟨xs.length - (i + 1), by omega, rfl, hlt, q⟩, fun x H3 y => ?_⟩
    obtain ⟨B3, pe, rx⟩ := yl x H3 y
    have o4 := o3.pstep pe
    have e4 := e3.trans (pe.ext o3.th)
    have l4 : H3 Dl = some (.lst avs) := pe.h _ _ hl
    have b4 : B3 Dl = none := pe.k _ _ hl hb
    have r4 := ra.mono pe.b
    refine ⟨T0, B1, H0, T, B3, wipeD ρ vs, xs[i], _, o4, rx, turn i _ acc hd hI, fun ρ' σ' p5 o5 s5 => ⟨?_, ?_⟩⟩
    · have z := s5 vs hv
      rw [z]
      apply List.ext_getElem?
      intro j
      rw [wipe_get, wipe_get]
      by_cases q : j ∈ vs
      · rw [if_pos q, if_pos q]; simp only [Option.map_map]; rfl
      · rw [if_neg q, if_neg q]
    · refine ⟨T0, B1, H0, T, B3, ρ', _, fun _ => False, o5, p5, fun k B5 H5 p6 e5 => ?_, exk_no⟩
      have l5 : H5 Dl = some (.lst avs) := (e5.k _ _ l4 (nt_lst _) b4).2.resolve_right fun z => tD z.1
      have b5 : B5 Dl = none := (e5.k _ _ l4 (nt_lst _) b4).1
      cases k with
      | false => exact ⟨B5, acc, avs, o4.step e5, e4.trans e5, l5, b5, r4.mono e5.b, by omega, p6⟩
      | true =>
        refine ⟨T0, B1, H0, T, B5, ρ', _, fun _ => False, o5.step e5, p6, fun l u B6 H6 p7 e6 r6 => ?_, exk_no⟩
        obtain ⟨d, hd, p7⟩ := p7
        obtain ⟨B6', e6', s6, rd⟩ := to_d e6 r6 hd
        have l6 : H6 Dl = some (.lst avs) := (e6'.k _ _ l5 (nt_lst _) b5).2.resolve_right fun z => tD z.1
        have b6 : B6' Dl = none := (e6'.k _ _ l5 (nt_lst _) b5).1
        have o6 := (o4.step e5).step e6'
        refine ⟨avs, l6, line_lt (by omega), B6', acc ++ [d], avs ++ [u], ?_, ?_, upd_same, b6, ((r4.mono e5.b).mono e6'.b).append (.cons rd .nil), by simp; omega, p7⟩
        · exact o6.mut b6 tD zD apD (.lst l6)
        · exact ((e4.trans e5).trans e6').mut (.of hD) b6 tD (.lst l6)
  · have hi2 : i = xs.length := by omega
    subst hi2
    refine .inl ⟨sq.2 _ (Nat.le_refl _), ?_⟩
    exact hQ _ _ _ _ (done acc hI) (e.trans e3) ⟨Dl, avs, rfl, hHD, hb, tD, hl, ra⟩
theorem fe_lc {is : List Nat} {g : WG} {scope : Scope} {own : List (Str × Nat)} (hc : X.calm = true) (hN : X.N.Nodup) (hi : FI X E tg iter wi) (ok : BlkOk X.N X.env.scope scope own) (hv : ∀ i ∈ is, i ∈ own.map (·.2))
    (hg : ∀ (s : Shared) (H : Hp) (C : Addr) (cl : List (Str × Addr)) (fp : List Addr), FG (X.blk s H scope (compEnvC scope cl C X.env) fp) is tg g) (ht : ∀ (s : Shared) (H : Hp) (C : Addr) (cl : List (Str × Addr)) (fp : List Addr), FTs (X.blk s H scope (compEnvC scope cl C X.env) fp) E0 ifs wt)
    (he : ∀ (s : Shared) (H : Hp) (C : Addr) (cl : List (Str × Addr)) (fp : List Addr), FE (X.blk s H scope (compEnvC scope cl C X.env) fp) E0 elt we) (hs : ∀ x, foldedSetIterable iter X.env x = pure x := by intro _; rfl) :
    FE X E (.ListComp elt [⟨tg, iter, ifs, 0⟩] scope pos) (wLc wi g wt we (own.map (·.2))) :=
  ⟨pe_imp (pe_lc hc hN hi.pi ok (fun s H C cl fp => (hg s H C cl fp).pg) (fun s H C cl fp => (ht s H C cl fp).pts) (fun s H C cl fp => (he s H C cl fp).pe) hs) fun σ H Q h => tF_lc hv h⟩
theorem fs_setLc {is : List Nat} {g : WG} {i : Nat} {y : Str} {py spos : Pos} {scope : Scope} {own : List (Str × Nat)} (hc : X.calm = true) (hN : X.N.Nodup) (hy : X.N[i]? = some y) (hyl : X.env.scope.names.lookup y = some .local)
    (hsw : swapsWith (.ListComp elt [⟨tg, iter, ifs, 0⟩] scope pos) (some (.Name y py)) spos.line X.env = pure true) (hi : FI X E tg iter wi) (ok : BlkOk X.N X.env.scope scope own) (hv : ∀ i ∈ is, i ∈ own.map (·.2))
    (hg : ∀ (s : Shared) (H : Hp) (C : Addr) (cl : List (Str × Addr)) (fp : List Addr), FG (X.blk s H scope (compEnvC scope cl C X.env) fp) is tg g) (ht : ∀ (s : Shared) (H : Hp) (C : Addr) (cl : List (Str × Addr)) (fp : List Addr), FTs (X.blk s H scope (compEnvC scope cl C X.env) fp) E0 ifs wt)
    (he : ∀ (s : Shared) (H : Hp) (C : Addr) (cl : List (Str × Addr)) (fp : List Addr), FE (X.blk s H scope (compEnvC scope cl C X.env) fp) E0 elt we) (hs : ∀ x, foldedSetIterable iter X.env x = pure x := by intro _; rfl) :
    FS X E (.Assign [.Name y py] (.ListComp elt [⟨tg, iter, ifs, 0⟩] scope pos) spos) (wSet i (wLc wi g wt we (own.map (·.2)))) :=
  ⟨ps_imp (ps_setLc hc hN hy hyl hsw hi.pi ok (fun s H C cl fp => (hg s H C cl fp).pg) (fun s H C cl fp => (ht s H C cl fp).pts) (fun s H C cl fp => (he s H C cl fp).pe) hs) fun D σ H ⟨T0, B0, H0, T, B, ρ, N, o, hw, h1, h2, h3, h4, hx⟩ =>
    tF_lc (mg := X.mg) (E := E) hv ⟨T0, B0, H0, T, B, ρ, _, _, o, hw, fun l v B1 H1 p e r => h1 _ _ _ _ _ p.2 (o.set e r i), o.exk hx⟩⟩
end

/-! ## a def of the text -/
section
variable {P : Program} {w : World} {K : PySem.W.Frag} {mg : Str → Option Value} {base : Heap}
/-- the body's ends, from the caller's wishes -/
def endsOf (P : L → Prop) (Px : Str → Prop) : EndsD := { nx := fun _ => P (.val .none), rt := P, bk := fun _ => False, ct := fun _ => False, ex := Px }
theorem ends_nx (P : L → Prop) (Px : Str → Prop) (ρ : En) : (endsOf P Px).nx ρ = P (.val .none) := rfl
theorem ends_rt (P : L → Prop) (Px : Str → Prop) (l : L) : (endsOf P Px).rt l = P l := rfl
theorem ends_bk (P : L → Prop) (Px : Str → Prop) (ρ : En) : (endsOf P Px).bk ρ = False := rfl
theorem ends_ct (P : L → Prop) (Px : Str → Prop) (ρ : En) : (endsOf P Px).ct ρ = False := rfl
theorem ends_ex (P : L → Prop) (Px : Str → Prop) : (endsOf P Px).ex = Px := rfl
theorem slots_of {K : PySem.W.Frag} {T : Tr} {B H H0 : Hp} (s : Same B H) {m : Nat} : ∀ {vs : List V} {ls : List L}, Paired (RpG K T B) vs ls → ∀ (i : Nat) (l : L), (ls ++ List.replicate m .no)[i]? = some l → SlotR K T H0 B H (vs.map some ++ List.replicate m none)[i]? l
  | _, _, .nil, i, l, h => by
    rw [List.nil_append, List.getElem?_replicate] at h
    split at h
    · cases h; trivial
    · cases h
  | v :: vs, l0 :: ls, .cons r t, 0, l, h => by
    have e : l0 = l := Option.some.inj h
    subst e
    cases l0 with
    | no => exact r.elim
    | val d => exact ⟨v, rfl, r⟩
    | hat => exact ⟨v, rfl, r⟩
    | own _ => exact r.elim
    | scr ns => exact ⟨v, rfl, r⟩
  | _ :: _, _ :: _, .cons r t, i + 1, l, h => slots_of s t i l h
theorem notown {K : PySem.W.Frag} {T : Tr} {B : Hp} {m : Nat} : ∀ {vs : List V} {ls : List L}, Paired (RpG K T B) vs ls → ∀ (i : Nat) (xs : List D), (ls ++ List.replicate m .no)[i]? ≠ some (.own xs)
  | _, _, .nil, i, l, h => by
    rw [List.nil_append, List.getElem?_replicate] at h
    split at h
    · cases h
    · cases h
  | v :: vs, l0 :: ls, .cons r t, 0, xs, h => by
    have e : l0 = .own xs := Option.some.inj h
    subst e
    exact r
  | _ :: _, _ :: _, .cons r t, i + 1, l, h => notown t i l h
theorem ok_start {K : PySem.W.Frag} {T : Tr} {B H : Hp} {vs : List V} {ls : List L} {N : List Str} (s : Same B H) (r : Paired (RpG K T B) vs ls) (tb : (∀ a, T a → B a = none) ∧ (∀ P q, (P, q) ∈ tabsOf K ↔ T P ∧ T.q P = some q) ∧ NoTab B) (th : ∀ a, T a → MutAt T H a) :
    OK K T B H T B H (L2.start N vs) (ls ++ List.replicate (N.length - ls.length) .no) := by
  have hl := wpair_len r
  unfold L2.start
  rw [hl]
  refine ⟨Ext.refl s th, fun a h => h, fun a h => h, fun a o h _ _ => h, fun _ _ => rfl, tb.2.1, tb.2.2, tb.1, th, by simp [hl], slots_of s r, fun i j xs ys a hi _ _ _ => absurd hi (notown r i xs)⟩
/-- THE RULE for a def -/
theorem df_fn {x qual : Str} {st : Stmt} {f : Addr} {fd : FuncData} {N ps : List Str} {k n : Nat} {wf : WF} (F : Fun K x qual st f fd) (S : FnScope N ps (defScope st)) (hn : ps.length = n)
    {ws : WS} (body : ∀ (cdv : Value) (A : Around) (outer : List Env) (s : Shared) (H : Hp) (E : XK), Room k (A.deeper (envOfC qual (defScope st) s.heap.objs.size f cdv)) →
      FSs (cxOf (L2.CX P w) P w K mg base N qual (defScope st) f cdv A outer s H E) E (defBody st) ws)
    (hw : ∀ ls Pd Px, ls.length = n → wf ls Pd Px → ws (ls ++ List.replicate (N.length - n) .no) (endsOf Pd Px)) : FnOk P w K mg base (L2.CX P w) (k + 1) f fd ps (spF K mg n wf) := by
  refine F.okX S (fun vs H Q E h => ?_) (fun cdv A outer s H vs Q E hr h => ⟨_, (body cdv A outer s H E hr).pss, ?_⟩)
  · obtain ⟨T, B, ls, Pd, Px, hl, r, _⟩ := h
    rw [wpair_len r, hl, hn]
  · obtain ⟨T, B, ls, Pd, Px, hl, r, sB, tb, th, hf, hQ, hx⟩ := h
    have o := ok_start (N := N) sB r tb th
    rw [hl] at o
    exact ⟨T, B, H, T, B, _, endsOf Pd Px, o, hw ls Pd Px hl hf, fun T' B' H' σ' ρ' q o' => hQ _ _ _ _ q o'.x .non, fun T' B' H' σ' ρ' q o' => q.elim, fun T' B' H' σ' ρ' q o' => q.elim, hQ, hx⟩
theorem df_ok {x qual : Str} {st : Stmt} {f : Addr} {fd : FuncData} {N ps : List Str} {k n : Nat} {wf : WF} (F : Fun K x qual st f fd) (S : FnScope N ps (defScope st)) (hn : ps.length = n) (hm : mg x = some (.ref f)) (hb : Binds K fd ps [])
    {ws : WS} (body : ∀ (cdv : Value) (A : Around) (outer : List Env) (s : Shared) (H : Hp) (E : XK), Room k (A.deeper (envOfC qual (defScope st) s.heap.objs.size f cdv)) →
      FSs (cxOf (L2.CX P w) P w K mg base N qual (defScope st) f cdv A outer s H E) E (defBody st) ws)
    (hw : ∀ ls Pd Px, ls.length = n → wf ls Pd Px → ws (ls ++ List.replicate (N.length - n) .no) (endsOf Pd Px)) : Df P w K mg base (k + 1) x n wf :=
  ⟨f, fd, ps, df_fn F S hn body hw, hm, F.kp, hb⟩
/-- what the last theorem asks of the law -/
def spLaw (K : PySem.W.Frag) : Sp := fun vs H Q _ => ∃ (a : Addr) (ns : List Int), vs = [.ref a] ∧ ns.length ≤ 63 ∧ (∀ z ∈ ns, Builtin.Int.intBits z ≤ 1048576) ∧ SqL K H a (ns.map .int) ∧ (∀ p ∈ tabsOf K, H p.1 = some (.tbl #[])) ∧ ∀ H', Q (.bl true) H'
theorem lookup_of {P : Addr} {q : Str} : ∀ {l : List (Addr × Str)}, (l.map (·.1)).Nodup → (P, q) ∈ l → l.lookup P = some q
  | (a, x) :: l, nd, h => by
    rw [List.lookup_cons]
    rw [List.map_cons, List.nodup_cons] at nd
    rcases List.mem_cons.mp h with e | e
    · cases e; simp
    · have ne : P ≠ a := fun z => by subst z; exact nd.1 (List.mem_map.mpr ⟨_, e, rfl⟩)
      rw [beq_false_of_ne ne]
      exact lookup_of nd.2 e
theorem of_lookup {P : Addr} {q : Str} : ∀ {l : List (Addr × Str)}, l.lookup P = some q → (P, q) ∈ l
  | (a, x) :: l, h => by
    rw [List.lookup_cons] at h
    split at h
    · rename_i e
      cases h
      rw [beq_iff_eq] at e
      subst e
      exact List.mem_cons_self
    · exact List.mem_cons_of_mem _ (of_lookup h)
open Classical in
noncomputable def offTab (H : Hp) : Hp := fun b => if ∃ ps, H b = some (.tbl ps) then none else H b
theorem offTab_nt {H : Hp} {b : Addr} {o : HO} (h : H b = some o) (n : NT o) : offTab H b = some o := by
  unfold offTab
  rw [if_neg]
  · exact h
  · rintro ⟨ps, z⟩; rw [h] at z; exact n ps (Option.some.inj z)
theorem offTab_some {H : Hp} {b : Addr} {o : HO} (h : offTab H b = some o) : H b = some o ∧ NT o := by
  unfold offTab at h
  split at h
  · cases h
  · rename_i q
    exact ⟨h, fun ps z => by subst z; exact q ⟨ps, h⟩⟩
theorem law_sp {mg : Str → Option Value} {wf : WF} (nd : ((tabsOf K).map (·.1)).Nodup) (h : ∀ (ns : List Int) (P : L → Prop) (Px : Str → Prop), ns.length ≤ 63 → (∀ z ∈ ns, Builtin.Int.intBits z ≤ 1048576) → P (.val (.bool true)) → wf [.scr ns] P Px) : ∀ vs H Q E, spLaw K vs H Q E → spF K mg 1 wf vs H Q E := by
  intro vs H Q E ⟨a, ns, e, h1, h2, h3, ht, h4⟩
  subst e
  have hs : SqL K (offTab H) a (ns.map .int) := by
    rcases h3 with (h3 | ⟨o, h3⟩) | h3
    · exact .inl (.inl (offTab_nt h3 (nt_lst _)))
    · exact .inl (.inr ⟨o, offTab_nt h3 fun _ z => by cases z⟩)
    · exact .inr h3
  refine ⟨⟨fun a => ∃ q, (a, q) ∈ tabsOf K, fun a => (tabsOf K).lookup a⟩, offTab H, [.scr ns], fun l => l = .val (.bool true), fun _ => False, rfl, .cons ⟨a, rfl, hs⟩ .nil, fun b o z => (offTab_some z).1,
    ⟨fun a ha => ?_, fun P q => ⟨fun z => ⟨⟨q, z⟩, lookup_of nd z⟩, fun z => of_lookup (show (tabsOf K).lookup P = some q from z.2)⟩, fun a ps z => (offTab_some z).2 ps rfl⟩, fun a ha => ?_, h ns _ _ h1 h2 rfl, fun l v B' H' p e r => ?_, fun _ _ _ _ z => z.elim⟩
  · obtain ⟨q, hq⟩ := ha
    unfold offTab
    rw [if_pos ⟨_, ht _ hq⟩]
  · obtain ⟨q, hq⟩ := ha
    unfold MutAt
    rw [show (Tr.mk (fun a => ∃ q, (a, q) ∈ tabsOf K) (fun a => (tabsOf K).lookup a)).q a = some q from lookup_of nd hq]
    exact .nil (ht _ hq)
  · subst p
    cases r
    exact h4 H'
def csOf (K : PySem.W.Frag) : List (Addr × Addr) := lamDefs.filterMap (PySem.W.tabIn K)
theorem cs_of {p : Addr × Str} (h : p ∈ tabsOf K) : ∃ c, (c, p.1) ∈ csOf K := by
  obtain ⟨x, hx, e⟩ := List.mem_filterMap.mp h
  cases q : PySem.W.tabIn K x with
  | none => rw [q] at e; cases e
  | some r =>
    rw [q] at e
    cases e
    exact ⟨r.1, List.mem_filterMap.mpr ⟨x, hx, q⟩⟩
theorem law_CX {P : Program} {w : World} {H : Hp} {s : Shared} {e : Value} {s' : Shared} (h : L2.CX P w [] H s (fun _ _ _ => False) e s') : False := by
  obtain ⟨_, _, _, _, _, _, _, _, _, _, _, _, z⟩ := h
  exact z
/-- the law row's walk -/
theorem walk_law {l : PySem.W.OpenLaw} {q : Program} {loose : List Str} {XP : (Str → Option Value) → Heap → Prop} {YP : World → Heap → Prop} {d : DefRec} {K : Params → PySem.W.Frag} (k : Nat) (hn : l.most = some 63) (hdf : d.params.defaults = []) (hr : Room k callerA)
    (hY : ∀ (w : World) (h : Heap), YP w h → (K w.params).In h) (hrec : ∀ x ∈ lamDefs, ∀ P, PySem.W.tabIn (K P) x = none ∨ ∃ d, (recsOf q).find? (fun e => e.name == x) = some d)
    (F : ∀ (w : World) (mg : Str → Option Value) (fa : Addr) (h : Heap), (K w.params).In h → h.Ns mainGlobals mg → mg d.name = some (.ref fa) →
      ∃ fd : FuncData, (∀ p ∈ csOf (K w.params), (K w.params).lookup p.2 = none) ∧ (∀ (s : Shared) (u : Value), BindsTo s fd ⟨[u], []⟩ [("script", u)]) ∧ ∀ base : Heap, (K w.params).In base → base.Ns mainGlobals mg → (∀ p ∈ csOf (K w.params), LamX.TabB base mg p.1 p.2) → FnOk l.prog w (K w.params) mg base (L2.CX l.prog w) k fa fd ["script"] (spLaw (K w.params))) :
    PySem.W.WalkO q loose XP YP l.row.toRowW d [] (fun f vs => PySem.call f vs) := by
  refine Att.attach_callB hn hdf fun w s₀ s₁ mg mb fa o pm cd doc a vs ns G Y ho hd hcd hmg hobj hints hlen hbits hg => ?_
  have KX := hY w _ Y
  obtain ⟨fd, hno, hb, hF⟩ := F w mg fa _ KX G.T.g hmg
  have tabs : ∀ p ∈ csOf (K w.params), PySem.W.CodeHd s₁.heap p.1 p.2 ∧ s₁.heap.get? p.2 = some (PySem.W.tabObj #[]) := fun p hp => by
    obtain ⟨x, hx, e⟩ := List.mem_filterMap.mp hp
    rcases hrec x hx w.params with z | ⟨d, z⟩
    · rw [e] at z; cases z
    · exact PySem.W.tab_of G.T KX z e
  exact LamX.law_callTs KX G.T.g G.T.b G.T.builtins G.T.nolimit hg (cs := csOf (K w.params)) (fun p hp => (tabs p hp).2) hno (fun p hp => (tabs p hp).1) G.T.bmain hobj hints (Nat.le_trans hlen (by decide)) hr hF hb
    (fun H hH hS => ⟨a, ns, rfl, hlen, hbits, hS, fun p hp => by obtain ⟨c, hc⟩ := cs_of hp; exact hH _ hc, fun _ => rfl⟩) fun H e s' => law_CX
end
end Pz

set_option Elab.async false
set_option linter.all false
set_option autoImplicit false
set_option maxRecDepth 100000
namespace Pz
open PySem PySem.Spec PyProof.Rows L2

/-! ## operations over data -/
def gAdd : D → D → (L → Prop) → Prop
  | .int i, .int j, P => P (.val (.int (i + j)))
  | .str a, .str b, P => a.length + b.length ≤ 1000000 ∧ P (.val (.str (a ++ b)))
  | .list xs, .list ys, P => xs.length + ys.length ≤ 1000000 ∧ P (.own (xs ++ ys))
  | .tuple xs, .tuple ys, P => xs.length + ys.length ≤ 1000000 ∧ P (.val (.tuple (xs ++ ys)))
  | _, _, _ => False
def gSub : D → D → (L → Prop) → Prop
  | .int i, .int j, P => P (.val (.int (i - j)))
  | _, _, _ => False
def big : Int := 10 ^ 1000
def MulOk (i j : Int) : Prop := ((-(2 ^ 64) < i ∧ i < 2 ^ 64) ∨ (-(2 ^ 64) < j ∧ j < 2 ^ 64)) ∨ ((-(10 ^ 500) < i ∧ i < 10 ^ 500) ∧ (-(10 ^ 500) < j ∧ j < 10 ^ 500))
def gMul : D → D → (L → Prop) → Prop
  | .int i, .int j, P => MulOk i j ∧ P (.val (.int (i * j)))
  | .list xs, .int k, P => 0 ≤ k ∧ k ≤ 1000000 ∧ xs.length * k.toNat ≤ 1000000 ∧ P (.own (List.replicate k.toNat xs).flatten)
  | .tuple xs, .int k, P => xs ≠ [] ∧ 2 ≤ k ∧ k ≤ 1000 ∧ xs.length ≤ 1000 ∧ P (.val (.tuple (List.replicate k.toNat xs).flatten))
  | _, _, _ => False
def gMod : D → D → (L → Prop) → Prop
  | .int i, .int j, P => 0 < j ∧ P (.val (.int (i % j)))
  | _, _, _ => False
def gDiv : D → D → (L → Prop) → Prop
  | .int i, .int j, P => 0 < j ∧ j < 10 ^ 500 ∧ P (.val (.int (i / j)))
  | _, _, _ => False
def gPow : D → D → (L → Prop) → Prop
  | .int i, .int j, P => (0 ≤ j ∧ j ≤ 1000000 ∧ i.natAbs < 2 ^ 64) ∧ P (.val (.int (i ^ j.toNat)))
  | _, _, _ => False
def gNeg : D → (L → Prop) → Prop
  | .int i, P => P (.val (.int (-i)))
  | _, _ => False
def gCmp (p : Int → Int → Bool) : D → D → (L → Prop) → Prop
  | .int i, .int j, P => P (.val (.bool (p i j)))
  | _, _, _ => False
abbrev gLt := gCmp fun i j => decide (i < j)
abbrev gLe := gCmp fun i j => decide (i ≤ j)
abbrev gGt := gCmp fun i j => decide (j < i)
abbrev gGe := gCmp fun i j => decide (j ≤ i)
/-- plain data, at most so deep -/
def Sh (n : Nat) (d : D) : Prop := d.canLay0 = true ∧ d.depth ≤ n ∧ noD d = true
theorem Sh.ok {d : D} (h : Sh 60 d) : SeqAt.shaped d = true := by
  unfold SeqAt.shaped
  rw [h.1, decide_eq_true (by have := h.2.1; omega)]; rfl
theorem canAll : ∀ {xs : List D}, PyData.canLayAll0 xs = true ↔ ∀ x ∈ xs, x.canLay0 = true
  | [] => by simp [PyData.canLayAll0]
  | x :: xs => by
    unfold PyData.canLayAll0
    rw [Bool.and_eq_true, canAll (xs := xs)]
    simp
theorem depAll {n : Nat} : ∀ {xs : List D}, PyData.depthAll xs ≤ n ↔ ∀ x ∈ xs, x.depth ≤ n
  | [] => by simp [PyData.depthAll]
  | x :: xs => by
    unfold PyData.depthAll
    rw [Nat.max_le, depAll (xs := xs)]
    simp
@[simp] theorem sh_none (n : Nat) : Sh n .none := ⟨rfl, Nat.zero_le _, rfl⟩
@[simp] theorem sh_bool (n : Nat) (b : Bool) : Sh n (.bool b) := ⟨rfl, Nat.zero_le _, rfl⟩
@[simp] theorem sh_int (n : Nat) (i : Int) : Sh n (.int i) := ⟨rfl, Nat.zero_le _, rfl⟩
@[simp] theorem sh_str (n : Nat) (x : Str) : Sh n (.str x) ↔ PyData.strOk x = true := ⟨fun h => h.1, fun h => ⟨h, Nat.zero_le _, rfl⟩⟩
@[simp] theorem sh_list {n : Nat} (xs : List D) (h : 0 < n) : Sh n (.list xs) ↔ ∀ x ∈ xs, Sh (n - 1) x := by
  unfold Sh
  show PyData.canLayAll0 xs = true ∧ PyData.depthAll xs + 1 ≤ n ∧ noDs xs = true ↔ _
  rw [canAll, show PyData.depthAll xs + 1 ≤ n ↔ PyData.depthAll xs ≤ n - 1 by omega, depAll, noDs_all]
  exact ⟨fun h x hx => ⟨h.1 x hx, h.2.1 x hx, h.2.2 x hx⟩, fun h => ⟨fun x hx => (h x hx).1, fun x hx => (h x hx).2.1, fun x hx => (h x hx).2.2⟩⟩
@[simp] theorem sh_tuple {n : Nat} (xs : List D) (h : 0 < n) : Sh n (.tuple xs) ↔ ∀ x ∈ xs, Sh (n - 1) x := by
  unfold Sh
  show PyData.canLayAll0 xs = true ∧ PyData.depthAll xs + 1 ≤ n ∧ noDs xs = true ↔ _
  rw [canAll, show PyData.depthAll xs + 1 ≤ n ↔ PyData.depthAll xs ≤ n - 1 by omega, depAll, noDs_all]
  exact ⟨fun h x hx => ⟨h.1 x hx, h.2.1 x hx, h.2.2 x hx⟩, fun h => ⟨fun x hx => (h x hx).1, fun x hx => (h x hx).2.1, fun x hx => (h x hx).2.2⟩⟩
theorem Sh.mono {m n : Nat} {d : D} (h : Sh m d) (l : m ≤ n) : Sh n d := ⟨h.1, Nat.le_trans h.2.1 l, h.2.2⟩
def gEq (x y : D) (P : L → Prop) : Prop := Sh 60 x ∧ Sh 60 y ∧ P (.val (.bool (PyData.eqv x y)))
def gNe (x y : D) (P : L → Prop) : Prop := Sh 60 x ∧ Sh 60 y ∧ P (.val (.bool (!PyData.eqv x y)))
def isNone : D → Bool
  | .none => true
  | _ => false
/-- is None, is True, is False -/
def gIs : D → D → (L → Prop) → Prop
  | x, .none, P => P (.val (.bool (isNone x)))
  | .bool a, .bool b, P => P (.val (.bool (a == b)))
  | _, _, _ => False
def gIsNot : D → D → (L → Prop) → Prop
  | x, .none, P => P (.val (.bool (!isNone x)))
  | .bool a, .bool b, P => P (.val (.bool (!(a == b))))
  | _, _, _ => False
def flatD : D → Bool
  | .none => true
  | .bool _ => true
  | .int _ => true
  | .str _ => true
  | _ => false
def inD (x : D) (ds : List D) : Bool := ds.any fun y => PyData.eqv y x
def gIn : D → D → (L → Prop) → Prop
  | x, .list ds, P => flatD x = true ∧ ds.all flatD = true ∧ P (.val (.bool (inD x ds)))
  | x, .tuple ds, P => flatD x = true ∧ ds.all flatD = true ∧ P (.val (.bool (inD x ds)))
  | _, _, _ => False
def gNotIn : D → D → (L → Prop) → Prop
  | x, .list ds, P => flatD x = true ∧ ds.all flatD = true ∧ P (.val (.bool (!inD x ds)))
  | x, .tuple ds, P => flatD x = true ∧ ds.all flatD = true ∧ P (.val (.bool (!inD x ds)))
  | _, _, _ => False
def gIx : D → D → (L → Prop) → Prop
  | .list ds, .int i, P => ∃ d, atI ds i = some d ∧ P (.val d)
  | .tuple ds, .int i, P => ∃ d, atI ds i = some d ∧ P (.val d)
  | _, _, _ => False

theorem eqv_ii (i j : Int) : PyData.eqv (.int i) (.int j) = decide (i = j) := (rfl)
theorem eqv_bb (i j : Bool) : PyData.eqv (.bool i) (.bool j) = (i == j) := (rfl)
theorem eqv_ss (i j : Str) : PyData.eqv (.str i) (.str j) = (i == j) := (rfl)
theorem eqv_nn : PyData.eqv .none .none = true := (rfl)
theorem eqv_in (i : Int) : PyData.eqv (.int i) .none = false := (rfl)
theorem eqv_ni (i : Int) : PyData.eqv .none (.int i) = false := (rfl)
theorem eqvAll_nil : PyData.eqvAll [] [] = true := (rfl)
theorem eqvAll_cons (x y : D) (xs ys : List D) : PyData.eqvAll (x :: xs) (y :: ys) = (PyData.eqv x y && PyData.eqvAll xs ys) := (rfl)
theorem eqv_tt (xs ys : List D) : PyData.eqv (.tuple xs) (.tuple ys) = PyData.eqvAll xs ys := (rfl)
theorem eqv_ll (xs ys : List D) : PyData.eqv (.list xs) (.list ys) = PyData.eqvAll xs ys := (rfl)
theorem eqvAll_ints : ∀ xs ys : List Int, PyData.eqvAll (xs.map .int) (ys.map .int) = decide (xs = ys)
  | [], [] => rfl
  | [], _ :: _ => rfl
  | _ :: _, [] => rfl
  | x :: xs, y :: ys => by
    show (PyData.eqv (.int x) (.int y) && PyData.eqvAll (xs.map .int) (ys.map .int)) = _
    rw [eqvAll_ints xs ys, eqv_ii]
    by_cases h : x = y
    · subst h
      simp
    · simp [h]
theorem big_log {i : Int} (h : -(10 ^ 500) < i ∧ i < 10 ^ 500) : i.natAbs < 2 ^ 1700 := by
  have e : (10 : Int) ^ 500 ≤ ((2 ^ 1700 : Nat) : Int) := by decide +kernel
  have e1 : (i.natAbs : Int) < 10 ^ 500 := by omega
  exact Int.ofNat_lt.mp (Int.lt_of_lt_of_le e1 e)
section
variable {X : Cx} {K : PySem.W.Frag} {B H : Hp}
theorem Rp.ref_l {a : Addr} {ds : List D} (h : Rp K B (.ref a) (.list ds)) : ∃ vs, B a = some (.lst vs) ∧ RpA K B vs ds := by
  cases h with
  | lst h r => exact ⟨_, h, r⟩
theorem newTup {p : Addr} {vs : List V} {ds : List D} (sB : Same B H) (hp : H p = none) (ra : RpA K B vs ds) : ∃ B', PExt B H B' (upd H p (.tup vs)) ∧ Rp K B' (.ref p) (.tuple ds) :=
  ⟨_, PExt.new sB hp, .tup (.of upd_same) (ra.mono (PExt.new (o := .tup vs) sB hp).b)⟩
theorem op_addD : OpR X (binaryOp .Add) (rD X.K gAdd) := by
  intro pins s σ H x y v u Q I rx ry h
  obtain ⟨B, dx, dy, P, sB, hx, hy, hg, hQ⟩ := h
  cases hx with
  | int i =>
    cases hy with
    | int j => exact op_add pins s σ H _ _ v u Q I rx ry ⟨i, j, rfl, rfl, hQ _ _ _ _ hg (PExt.refl sB) (.int _)⟩
    | _ => exact False.elim hg
  | str i =>
    cases hy with
    | str j => exact op_add_str pins s σ H _ _ v u Q I rx ry ⟨i, j, rfl, rfl, line_of hg.1, hQ _ _ _ _ hg.2 (PExt.refl sB) (.str _)⟩
    | _ => exact False.elim hg
  | lst h1 r1 =>
    cases hy with
    | lst h2 r2 => exact op_cat pins s σ H _ _ v u Q I rx ry ⟨_, _, _, _, rfl, rfl, sB _ _ h1, sB _ _ h2, by rw [r1.length, r2.length]; exact line_of hg.1, fun p hp => hQ _ _ _ _ hg.2 (PExt.newOwn sB hp) ⟨p, _, rfl, hp, sB.free hp, upd_same, r1.append r2⟩⟩
    | _ => exact False.elim hg
  | tup h1 r1 =>
    cases hy with
    | tup h2 r2 =>
      rename_i xs _ _ ys
      refine op_catA pins s σ H _ _ v u Q I rx ry ⟨_, _, _, _, rfl, rfl, same_tup sB h1, same_tup sB h2, by rw [r1.length, r2.length]; exact line_of hg.1, fun e => ?_, fun e e2 => ?_, fun e e2 p hp => ?_⟩
      · subst e
        cases r1
        exact hQ _ _ _ _ hg.2 (PExt.refl sB) (.tup h2 r2)
      · subst e2
        cases r2
        refine hQ _ _ _ _ hg.2 (PExt.refl sB) ?_
        rw [List.append_nil]
        exact .tup h1 r1
      · obtain ⟨B', pe, rr⟩ := newTup sB hp (r1.append r2)
        exact hQ _ _ _ _ hg.2 pe rr
    | _ => exact False.elim hg
  | _ => exact False.elim (by cases hy <;> exact hg)
theorem op_subD : OpR X (binaryOp .Sub) (rD X.K gSub) := by
  intro pins s σ H x y v u Q I rx ry h
  obtain ⟨B, dx, dy, P, sB, hx, hy, hg, hQ⟩ := h
  cases hx with
  | int i =>
    cases hy with
    | int j => exact op_sub pins s σ H _ _ v u Q I rx ry ⟨i, j, rfl, rfl, hQ _ _ _ _ hg (PExt.refl sB) (.int _)⟩
    | _ => exact False.elim hg
  | _ => exact False.elim (by cases hy <;> exact hg)
theorem op_modD : OpR X (binaryOp .Mod) (rD X.K gMod) := by
  intro pins s σ H x y v u Q I rx ry h
  obtain ⟨B, dx, dy, P, sB, hx, hy, hg, hQ⟩ := h
  cases hx with
  | int i =>
    cases hy with
    | int j => exact op_mod pins s σ H _ _ v u Q I rx ry ⟨i, j, rfl, rfl, hg.1, hQ _ _ _ _ hg.2 (PExt.refl sB) (.int _)⟩
    | _ => exact False.elim hg
  | _ => exact False.elim (by cases hy <;> exact hg)
theorem op_divD : OpR X (binaryOp .FloorDiv) (rD X.K gDiv) := by
  intro pins s σ H x y v u Q I rx ry h
  obtain ⟨B, dx, dy, P, sB, hx, hy, hg, hQ⟩ := h
  cases hx with
  | int i =>
    cases hy with
    | int j => exact op_fdivW pins s σ H _ _ v u Q I rx ry ⟨i, j, rfl, rfl, wide_div hg.1 (big_log ⟨by have := hg.1; omega, hg.2.1⟩) (by decide) (by decide), hQ _ _ _ _ hg.2.2 (PExt.refl sB) (.int _)⟩
    | _ => exact False.elim hg
  | _ => exact False.elim (by cases hy <;> exact hg)
theorem op_powD : OpR X (binaryOp .Pow) (rD X.K gPow) := by
  intro pins s σ H x y v u Q I rx ry h
  obtain ⟨B, dx, dy, P, sB, hx, hy, hg, hQ⟩ := h
  cases hx with
  | int i =>
    cases hy with
    | int j => exact op_pow pins s σ H _ _ v u Q I rx ry ⟨i, j, rfl, rfl, hg.1, hQ _ _ _ _ hg.2 (PExt.refl sB) (.int _)⟩
    | _ => exact False.elim hg
  | _ => exact False.elim (by cases hy <;> exact hg)
theorem op_mulD : OpR X (binaryOp .Mult) (rD X.K gMul) := by
  intro pins s σ H x y v u Q I rx ry h
  obtain ⟨B, dx, dy, P, sB, hx, hy, hg, hQ⟩ := h
  cases hx with
  | int i =>
    cases hy with
    | int j =>
      have z := hQ _ _ _ _ hg.2 (PExt.refl sB) (.int _)
      rcases hg.1 with q | q
      · exact op_mul pins s σ H _ _ v u Q I rx ry ⟨i, j, rfl, rfl, q, z⟩
      · exact op_mulW pins s σ H _ _ v u Q I rx ry ⟨i, j, rfl, rfl, wide_mul (big_log q.1) (big_log q.2) (by decide) (by decide) (by decide), z⟩
    | _ => exact False.elim hg
  | lst h1 r1 =>
    cases hy with
    | int k =>
      refine op_rep pins s σ H _ _ v u Q I rx ry ⟨_, k, _, rfl, rfl, sB _ _ h1, by have := hg.1; omega, by have := hg.2.1; omega, by rw [r1.length]; exact line_of hg.2.2.1, fun p hp => hQ _ _ _ _ hg.2.2.2 (PExt.newOwn sB hp) ⟨p, _, rfl, hp, sB.free hp, upd_same, r1.rep _⟩⟩
    | _ => exact False.elim hg
  | tup h1 r1 =>
    cases hy with
    | int k =>
      obtain ⟨g1, g2, g3, g4, g5⟩ := hg
      refine op_repT pins s σ H _ _ v u Q I rx ry ⟨_, k, _, rfl, rfl, same_tup sB h1, fun e => ?_, g2, g3, by rw [r1.length]; exact g4, fun p hp => ?_⟩
      · subst e; cases r1; exact g1 rfl
      · obtain ⟨B', pe, rr⟩ := newTup sB hp (r1.rep k.toNat)
        exact hQ _ _ _ _ g5 pe rr
    | _ => exact False.elim hg
  | _ => exact False.elim (by cases hy <;> exact hg)
theorem un_negD : UnR X (unaryOp .USub) (rD1 X.K gNeg) := by
  intro pins s σ H x v Q I rx h
  obtain ⟨B, dx, P, sB, hx, hg, hQ⟩ := h
  cases hx with
  | int i => exact un_neg pins s σ H _ v Q I rx ⟨i, rfl, hQ _ _ _ _ hg (PExt.refl sB) (.int _)⟩
  | _ => exact False.elim hg
theorem op_cmpD {op : CmpOp} {p : Int → Int → Bool} (ho : OpR X (compareOp op) (rI0 fun i j => .bl (p i j))) : OpR X (compareOp op) (rD X.K (gCmp p)) := by
  intro pins s σ H x y v u Q I rx ry h
  obtain ⟨B, dx, dy, P, sB, hx, hy, hg, hQ⟩ := h
  cases hx with
  | int i =>
    cases hy with
    | int j => exact ho pins s σ H _ _ v u Q I rx ry ⟨i, j, rfl, rfl, hQ _ _ _ _ hg (PExt.refl sB) (.bl _)⟩
    | _ => exact False.elim hg
  | _ => exact False.elim (by cases hy <;> exact hg)
theorem op_ltD : OpR X (compareOp .Lt) (rD X.K gLt) := op_cmpD op_lt
theorem op_leD : OpR X (compareOp .LtE) (rD X.K gLe) := op_cmpD op_le
theorem op_gtD : OpR X (compareOp .Gt) (rD X.K gGt) := op_cmpD op_gt
theorem op_geD : OpR X (compareOp .GtE) (rD X.K gGe) := op_cmpD op_ge
theorem op_eqDD (hu : X.A.units + 64 < cLine) : OpR X (compareOp .Eq) (rD X.K gEq) := by
  intro pins s σ H x y v u Q I rx ry h
  obtain ⟨B, dx, dy, P, sB, hx, hy, hg, hQ⟩ := h
  exact op_eqD hu pins s σ H _ _ v u Q I rx ry ⟨dx, dy, hx.dp sB hg.1.2.2, hy.dp sB hg.2.1.2.2, hg.1.ok, hg.2.1.ok, hQ _ _ _ _ hg.2.2 (PExt.refl sB) (.bl _)⟩
theorem op_neDD (hu : X.A.units + 64 < cLine) : OpR X (compareOp .NotEq) (rD X.K gNe) := by
  intro pins s σ H x y v u Q I rx ry h
  obtain ⟨B, dx, dy, P, sB, hx, hy, hg, hQ⟩ := h
  exact op_neD hu pins s σ H _ _ v u Q I rx ry ⟨dx, dy, hx.dp sB hg.1.2.2, hy.dp sB hg.2.1.2.2, hg.1.ok, hg.2.1.ok, hQ _ _ _ _ hg.2.2 (PExt.refl sB) (.bl _)⟩
theorem isNone_of {x : V} {d : D} (h : Rp K B x d) : decide (x = .non) = isNone d := by
  cases h <;> first | rfl | exact decide_eq_false (fun z => nomatch z)
theorem op_isD : OpR X (compareOp .Is) (rD X.K gIs) := by
  intro pins s σ H x y v u Q I rx ry h
  obtain ⟨B, dx, dy, P, sB, hx, hy, hg, hQ⟩ := h
  have hg' : gIs dx dy P := hg
  cases hy with
  | non =>
    have z : P (.val (.bool (isNone dx))) := by
      cases dx <;> exact hg'
    exact op_isN pins s σ H _ _ v u Q I rx ry ⟨rfl, by rw [isNone_of hx]; exact hQ _ _ _ _ z (PExt.refl sB) (.bl _)⟩
  | bl b =>
    cases hx with
    | bl a => exact op_isBl pins s σ H _ _ v u Q I rx ry ⟨a, b, rfl, rfl, by
        have e : decide (a = b) = (a == b) := by cases a <;> cases b <;> rfl
        rw [e]; exact hQ _ _ _ _ hg (PExt.refl sB) (.bl _)⟩
    | _ => exact False.elim hg
  | _ => exact False.elim (by cases hx <;> exact hg)
theorem op_isNotD : OpR X (compareOp .IsNot) (rD X.K gIsNot) := by
  intro pins s σ H x y v u Q I rx ry h
  obtain ⟨B, dx, dy, P, sB, hx, hy, hg, hQ⟩ := h
  have hg' : gIsNot dx dy P := hg
  cases hy with
  | non =>
    have z : P (.val (.bool (!isNone dx))) := by
      cases dx <;> exact hg'
    exact op_notN pins s σ H _ _ v u Q I rx ry ⟨rfl, by rw [isNone_of hx]; exact hQ _ _ _ _ z (PExt.refl sB) (.bl _)⟩
  | bl b =>
    cases hx with
    | bl a => exact op_notBl pins s σ H _ _ v u Q I rx ry ⟨a, b, rfl, rfl, by
        have e : decide (a = b) = (a == b) := by cases a <;> cases b <;> rfl
        rw [e]; exact hQ _ _ _ _ hg (PExt.refl sB) (.bl _)⟩
    | _ => exact False.elim hg
  | _ => exact False.elim (by cases hx <;> exact hg)
theorem flat_of {x : V} {d : D} (h : Rp K B x d) (f : flatD d = true) : flatV x = true := by
  cases h <;> first | rfl | cases f
theorem flats_of : ∀ {vs : List V} {ds : List D}, RpA K B vs ds → ds.all flatD = true → vs.all flatV = true
  | _, _, .nil, _ => rfl
  | _, _, .cons r t, f => by
    rw [List.all_cons, Bool.and_eq_true] at f
    rw [List.all_cons, flat_of r f.1, flats_of t f.2]; rfl
theorem eqV_of {x y : V} {d e : D} (hx : Rp K B x d) (hy : Rp K B y e) (fd : flatD d = true) (fe : flatD e = true) : eqV x y = PyData.eqv d e := by
  cases hx <;> first | (cases fd; done) | (cases hy <;> first | (cases fe; done) | rfl | (simp only [eqV, PyData.eqv]) )
theorem inV_of {x : V} {d : D} (hx : Rp K B x d) (fd : flatD d = true) : ∀ {vs : List V} {ds : List D}, RpA K B vs ds → ds.all flatD = true → inV x vs = inD d ds
  | _, _, .nil, _ => rfl
  | _, _, .cons r t, f => by
    rw [List.all_cons, Bool.and_eq_true] at f
    have ih := inV_of hx fd t f.2
    unfold inV inD at ih ⊢
    rw [List.any_cons, List.any_cons, ih, eqV_of r hx f.1 fd]
theorem gin_l {P : L → Prop} {x : D} {ds : List D} (h : gIn x (.list ds) P) : P (.val (.bool (inD x ds))) := by cases x <;> exact h.2.2
theorem gin_t {P : L → Prop} {x : D} {ds : List D} (h : gIn x (.tuple ds) P) : P (.val (.bool (inD x ds))) := by cases x <;> exact h.2.2
theorem gnin_l {P : L → Prop} {x : D} {ds : List D} (h : gNotIn x (.list ds) P) : P (.val (.bool (!inD x ds))) := by cases x <;> exact h.2.2
theorem gnin_t {P : L → Prop} {x : D} {ds : List D} (h : gNotIn x (.tuple ds) P) : P (.val (.bool (!inD x ds))) := by cases x <;> exact h.2.2
theorem op_inD : OpR X (compareOp .In) (rD X.K gIn) := by
  intro pins s σ H x y v u Q I rx ry h
  obtain ⟨B, dx, dy, P, sB, hx, hy, hg, hQ⟩ := h
  cases hy with
  | lst h r => exact op_in_seq pins s σ H _ _ v u Q I rx ry ⟨_, _, rfl, .inl (.of (sB _ _ h)), flat_of hx (by cases dx <;> exact hg.1), flats_of r (by cases dx <;> exact hg.2.1), by
      have f1 : flatD dx = true := by cases dx <;> exact hg.1
      have z0 := gin_l hg
      have z := hQ _ _ _ _ z0 (PExt.refl sB) (.bl _)
      rw [if_neg (by decide), inV_of hx f1 r (by cases dx <;> exact hg.2.1)]
      exact z⟩
  | tup h r => exact op_in_seq pins s σ H _ _ v u Q I rx ry ⟨_, _, rfl, .inr (same_tup sB h), flat_of hx (by cases dx <;> exact hg.1), flats_of r (by cases dx <;> exact hg.2.1), by
      have f1 : flatD dx = true := by cases dx <;> exact hg.1
      have z0 := gin_t hg
      have z := hQ _ _ _ _ z0 (PExt.refl sB) (.bl _)
      rw [if_neg (by decide), inV_of hx f1 r (by cases dx <;> exact hg.2.1)]
      exact z⟩
  | _ => exact False.elim (by cases hx <;> exact hg)
theorem op_notInD : OpR X (compareOp .NotIn) (rD X.K gNotIn) := by
  intro pins s σ H x y v u Q I rx ry h
  obtain ⟨B, dx, dy, P, sB, hx, hy, hg, hQ⟩ := h
  cases hy with
  | lst h r => exact op_notIn_seq pins s σ H _ _ v u Q I rx ry ⟨_, _, rfl, .inl (.of (sB _ _ h)), flat_of hx (by cases dx <;> exact hg.1), flats_of r (by cases dx <;> exact hg.2.1), by
      have f1 : flatD dx = true := by cases dx <;> exact hg.1
      have z0 := gnin_l hg
      have z := hQ _ _ _ _ z0 (PExt.refl sB) (.bl _)
      rw [if_pos rfl, inV_of hx f1 r (by cases dx <;> exact hg.2.1)]
      exact z⟩
  | tup h r => exact op_notIn_seq pins s σ H _ _ v u Q I rx ry ⟨_, _, rfl, .inr (same_tup sB h), flat_of hx (by cases dx <;> exact hg.1), flats_of r (by cases dx <;> exact hg.2.1), by
      have f1 : flatD dx = true := by cases dx <;> exact hg.1
      have z0 := gnin_t hg
      have z := hQ _ _ _ _ z0 (PExt.refl sB) (.bl _)
      rw [if_pos rfl, inV_of hx f1 r (by cases dx <;> exact hg.2.1)]
      exact z⟩
  | _ => exact False.elim (by cases hx <;> exact hg)
theorem atI_of {vs : List V} {ds : List D} (r : RpA K B vs ds) {i : Int} {d : D} (h : atI ds i = some d) : ∃ v, atI vs i = some v ∧ Rp K B v d := by
  unfold atI at h ⊢
  rw [r.length]
  cases q : ixN ds.length i with
  | none => rw [q] at h; cases h
  | some j =>
    rw [q] at h
    exact r.get h
theorem ix_D : IxR X (rD X.K gIx) := by
  intro value slice pins s σ H x y v u Q I rx ry h hs
  obtain ⟨B, dx, dy, P, sB, hx, hy, hg, hQ⟩ := h
  cases hx with
  | lst h r =>
    cases hy with
    | int i =>
      obtain ⟨d, hd, hg⟩ := hg
      obtain ⟨z, hz, rz⟩ := atI_of r hd
      exact ix_list value slice pins s σ H _ _ v u Q I rx ry ⟨_, _, i, z, rfl, rfl, .of (sB _ _ h), hz, hQ _ _ _ _ hg (PExt.refl sB) rz⟩ hs
    | _ => exact False.elim hg
  | tup h r =>
    cases hy with
    | int i =>
      obtain ⟨d, hd, hg⟩ := hg
      obtain ⟨z, hz, rz⟩ := atI_of r hd
      exact ix_tup value slice pins s σ H _ _ v u Q I rx ry ⟨_, _, i, z, rfl, rfl, same_tup sB h, hz, hQ _ _ _ _ hg (PExt.refl sB) rz⟩ hs
    | _ => exact False.elim hg
  | _ => exact False.elim (by cases hy <;> exact hg)

/-! ### slices -/
abbrev WO := En → (Option Int → Prop) → (Str → Prop) → Prop
def tFO (K : PySem.W.Frag) (mg : Str → Option Value) (E : XK) (w : WO) : TO := fun σ H Q => ∃ (T0 : Tr) (B0 H0 : Hp) (T : Tr) (B : Hp) (ρ : En) (P : Option Int → Prop) (Px : Str → Prop),
  OK K T0 B0 H0 T B H σ ρ ∧ w ρ P Px ∧ (∀ o B' H', P o → Ext T B H B' H' → Q o H') ∧ ExK mg E T B H Px
structure FO (X : Cx) (E : XK) (e : Option Expr) (w : WO) : Prop where
  po : PO X e (tFO X.K X.mg E w)
def woN (_ : En) (P : Option Int → Prop) (_ : Str → Prop) : Prop := P none
def koS (P : Option Int → Prop) (l : L) : Prop := ∃ i, l = .val (.int i) ∧ P (some i)
def woS (w : WE) (ρ : En) (P : Option Int → Prop) (Px : Str → Prop) : Prop := w ρ (koS P) Px
variable {E : XK} {e a b : Expr} {w : WE} {pos p2 : Pos} {lo hi : Option Expr} {wl wh : WO}
theorem po_imp {o : Option Expr} {t t' : TO} (h : PO X o t) (i : ∀ σ H Q, t' σ H Q → t σ H Q) : PO X o t' := ⟨fun pins s σ H Q I q => h.run pins s σ H Q I (i σ H Q q)⟩
theorem fo_none : FO X E none woN := ⟨po_imp po_none fun σ H Q ⟨T0, B0, H0, T, B, ρ, P, Px, o, hw, hQ, hx⟩ => hQ _ _ _ hw (Ext.refl o.sub o.th)⟩
theorem fo_some (h : FE X E e w) : FO X E (some e) (woS w) := ⟨po_imp (po_some h.pe) fun σ H Q ⟨T0, B0, H0, T, B, ρ, P, Px, o, hw, hQ, hx⟩ => ⟨T0, B0, H0, T, B, ρ, _, Px, o, hw, fun l v B1 H1 p e r => by
  obtain ⟨i, rfl, p⟩ := p
  cases r
  exact ⟨i, rfl, hQ _ _ _ p e⟩, hx⟩⟩
def cutD (xs : List D) (lo hi : Option Int) : List D := (xs.drop (HT.sIx xs.length 0 lo)).take (HT.sIx xs.length xs.length hi - HT.sIx xs.length 0 lo)
theorem RpA.cut {vs : List V} {ds : List D} (r : RpA K B vs ds) (lo hi : Option Int) : RpA K B (cutV vs lo hi) (cutD ds lo hi) := by
  unfold cutV cutD
  rw [r.length]
  exact (r.drop _).take _
def gSl : D → Option Int → Option Int → (L → Prop) → Prop
  | .list xs, lo, hi, P => P (.own (cutD xs lo hi))
  | .tuple xs, lo, hi, P => P (.val (.tuple (cutD xs lo hi)))
  | .str z, lo, hi, P => z.length ≤ 1000000 ∧ P (.val (.str (cutS z lo hi)))
  | _, _, _, _ => False
def kSlC (x : D) (i : Option Int) (P : L → Prop) (j : Option Int) : Prop := gSl x i j P
def kSlB (x : D) (wh : WO) (ρ : En) (P : L → Prop) (Px : Str → Prop) (i : Option Int) : Prop := wh ρ (kSlC x i P) Px
def kSlA (wl wh : WO) (ρ : En) (P : L → Prop) (Px : Str → Prop) (l : L) : Prop := ∃ x, l.d? = some x ∧ wl ρ (kSlB x wh ρ P Px) Px
def wSl (w : WE) (wl wh : WO) (ρ : En) (P : L → Prop) (Px : Str → Prop) : Prop := w ρ (kSlA wl wh ρ P Px) Px
def rSlD (K : PySem.W.Frag) : V → Option Int → Option Int → Hp → VK → Prop := fun x lo hi H Q => ∃ B dx P, Same B H ∧ Rp K B x dx ∧ gSl dx lo hi P ∧ ∀ l v B' H', P l → PExt B H B' H' → RpP K H B' H' v l → Q v H'
theorem sl_D : SlR X (rSlD X.K) := by
  intro pins s σ H x v vl vu lo hi sl Q I rx hs pl pu h
  obtain ⟨B, dx, P, sB, hx, hg, hQ⟩ := h
  cases hx with
  | str z => exact sl_str pins s σ H _ v vl vu lo hi sl Q I rx hs pl pu ⟨z, rfl, line_of hg.1, hQ _ _ _ _ hg.2 (PExt.refl sB) (.str _)⟩
  | lst h r => exact sl_list pins s σ H _ v vl vu lo hi sl Q I rx hs pl pu ⟨_, _, rfl, .of (sB _ _ h), fun p hp => hQ _ _ _ _ hg (PExt.newOwn sB hp) ⟨p, _, rfl, hp, sB.free hp, upd_same, r.cut lo hi⟩⟩
  | tup h r =>
    refine sl_tupA pins s σ H _ v vl vu lo hi sl Q I rx hs pl pu ⟨_, _, rfl, same_tup sB h, fun e => ?_, fun e p hp => ?_⟩
    · refine hQ _ _ _ _ hg (PExt.refl sB) ?_
      rename_i a vs ds
      have z : cutD ds lo hi = ds := by
        unfold cutD
        rw [r.length] at e
        rw [e.1, e.2]
        simp
      rw [z]
      exact .tup h r
    · obtain ⟨B', pe, rr⟩ := newTup sB hp (r.cut lo hi)
      exact hQ _ _ _ _ hg pe rr
  | _ => exact False.elim hg
theorem fe_sl (he : FE X E e w) (hl : FO X E lo wl) (hh : FO X E hi wh) : FE X E (.Subscript e (.Slice lo hi none p2) pos) (wSl w wl wh) :=
  ⟨pe_imp (pe_slice sl_D he.pe hl.po hh.po) fun σ H Q ⟨T0, B0, H0, T, B, ρ, P, Px, o, hw, hQ, hx⟩ => ⟨T0, B0, H0, T, B, ρ, _, Px, o, hw, fun l v B1 H1 p e r => by
    obtain ⟨x, hx', p⟩ := p
    obtain ⟨B1', e', s', rx⟩ := to_d e r hx'
    refine ⟨T0, B0, H0, T, B1', ρ, _, Px, o.step e', p, fun i B2 H2 p2 e2 => ?_, hx.step e'⟩
    have e12 := e'.trans e2
    refine ⟨T0, B0, H0, T, B2, ρ, _, Px, o.step e12, p2, fun j B3 H3 p3 e3 => ?_, hx.step e12⟩
    have e13 := e12.trans e3
    exact ⟨B3, x, P, e13.s, (rx.mono e2.b).mono e3.b, p3, fun l4 v4 B4 H4 p4 pe r4 => hQ _ _ _ _ p4 (e13.trans (pe.ext e13.t)) ((RpP.l e13.t r4).back o.sub e13)⟩, hx⟩⟩

/-! ### built-in functions -/
def lenD : D → Option Nat
  | .list xs => some xs.length
  | .tuple xs => some xs.length
  | _ => none
def gLen : List D → (L → Prop) → Prop
  | [.str z], P => z.length ≤ 1000000 ∧ P (.val (.int z.length))
  | [.list xs], P => P (.val (.int xs.length))
  | [.tuple xs], P => P (.val (.int xs.length))
  | _, _ => False
theorem RpA.one {vs : List V} {d : D} (r : RpA K B vs [d]) : ∃ v, vs = [v] ∧ Rp K B v d := by
  cases r with
  | cons h t => cases t; exact ⟨_, rfl, h⟩
theorem RpA.two {vs : List V} {d d' : D} (r : RpA K B vs [d, d']) : ∃ v v', vs = [v, v'] ∧ Rp K B v d ∧ Rp K B v' d' := by
  cases r with
  | cons h t => obtain ⟨v', rfl, h'⟩ := t.one; exact ⟨_, _, rfl, h, h'⟩
theorem cr_lenD : CallR X (.builtin "len") (rDA X.K gLen) := by
  intro pins s σ H vs us Q I r h
  obtain ⟨B, ds, P, sB, ra, hg, hQ⟩ := h
  match ds, hg with
  | [.str z], hg =>
    obtain ⟨v, rfl, rv⟩ := ra.one
    cases rv
    exact call_len_str pins s σ H _ us Q I r ⟨z, rfl, line_of hg.1, hQ _ _ _ _ hg.2 (PExt.refl sB) (.int _)⟩
  | [.list xs], hg =>
    obtain ⟨v, rfl, rv⟩ := ra.one
    cases rv with
    | lst h rr => exact call_len_seq pins s σ H _ us Q I r ⟨_, _, rfl, .inl (.of (sB _ _ h)), by rw [rr.length]; exact hQ _ _ _ _ hg (PExt.refl sB) (.int _)⟩
  | [.tuple xs], hg =>
    obtain ⟨v, rfl, rv⟩ := ra.one
    cases rv with
    | tup h rr => exact call_len_seq pins s σ H _ us Q I r ⟨_, _, rfl, .inr (same_tup sB h), by rw [rr.length]; exact hQ _ _ _ _ hg (PExt.refl sB) (.int _)⟩
def gMax2 : List D → (L → Prop) → Prop
  | [.int i, .int j], P => P (.val (.int (max i j)))
  | _, _ => False
def gMin2 : List D → (L → Prop) → Prop
  | [.int i, .int j], P => P (.val (.int (min i j)))
  | _, _ => False
theorem cr_max2 (hc : X.calm = true) : CallR X (.builtin "max") (rDA X.K gMax2) := by
  intro pins s σ H vs us Q I r h
  obtain ⟨B, ds, P, sB, ra, hg, hQ⟩ := h
  match ds, hg with
  | [.int i, .int j], hg =>
    obtain ⟨v, v', rfl, r1, r2⟩ := ra.two
    cases r1
    cases r2
    refine call_max2 hc pins s σ H _ us Q I r ⟨i, j, rfl, ?_⟩
    have e : (if j > i then j else i) = max i j := by split <;> omega
    rw [e]
    exact hQ _ _ _ _ hg (PExt.refl sB) (.int _)
theorem cr_min2 (hc : X.calm = true) : CallR X (.builtin "min") (rDA X.K gMin2) := by
  intro pins s σ H vs us Q I r h
  obtain ⟨B, ds, P, sB, ra, hg, hQ⟩ := h
  match ds, hg with
  | [.int i, .int j], hg =>
    obtain ⟨v, v', rfl, r1, r2⟩ := ra.two
    cases r1
    cases r2
    refine call_min2 hc pins s σ H _ us Q I r ⟨i, j, rfl, ?_⟩
    have e : (if j < i then j else i) = min i j := by split <;> omega
    rw [e]
    exact hQ _ _ _ _ hg (PExt.refl sB) (.int _)
def gAbs : List D → (L → Prop) → Prop
  | [.int i], P => P (.val (.int (if i < 0 then -i else i)))
  | _, _ => False
theorem cr_abs : CallR X (.builtin "abs") (rDA X.K gAbs) := by
  intro pins s σ H vs us Q I r h
  obtain ⟨B, ds, P, sB, ra, hg, hQ⟩ := h
  match ds, hg with
  | [.int i], hg =>
    obtain ⟨v, rfl, r1⟩ := ra.one
    cases r1
    exact call_abs pins s σ H _ us Q I r ⟨i, rfl, hQ _ _ _ _ hg (PExt.refl sB) (.int _)⟩
def gInt : List D → (L → Prop) → Prop
  | [.int i], P => P (.val (.int i))
  | [.bool k], P => P (.val (.int (if k then 1 else 0)))
  | _, _ => False
theorem cr_int : CallR X (.type "int") (rDA X.K gInt) := by
  intro pins s σ H vs us Q I r h
  obtain ⟨B, ds, P, sB, ra, hg, hQ⟩ := h
  match ds, hg with
  | [.int i], hg =>
    obtain ⟨v, rfl, r1⟩ := ra.one
    cases r1
    exact call_int1 pins s σ H _ us Q I r (.inl ⟨i, rfl, hQ _ _ _ _ hg (PExt.refl sB) (.int _)⟩)
  | [.bool k], hg =>
    obtain ⟨v, rfl, r1⟩ := ra.one
    cases r1
    exact call_int1 pins s σ H _ us Q I r (.inr ⟨k, rfl, hQ _ _ _ _ hg (PExt.refl sB) (.int _)⟩)
def intsD? : List D → Option (List Int)
  | [] => some []
  | .int i :: ds => (intsD? ds).map (i :: ·)
  | _ => none
theorem intsD_map (ns : List Int) : intsD? (ns.map .int) = some ns := by
  induction ns with
  | nil => rfl
  | cons n ns ih => show (intsD? (ns.map .int)).map (n :: ·) = _; rw [ih]; rfl
theorem intsD_of : ∀ {ds : List D} {ns : List Int}, intsD? ds = some ns → ds = ns.map .int
  | [], ns, h => by cases h; rfl
  | d :: ds, ns, h => by
    cases d with
    | int i =>
      unfold intsD? at h
      cases q : intsD? ds with
      | none => rw [q] at h; cases h
      | some ms => rw [q] at h; cases h; rw [intsD_of q]; rfl
    | _ => cases h
/-- sum of a list or tuple of ints -/
def gSum : List D → (L → Prop) → Prop
  | [.list xs], P => ∃ ns, intsD? xs = some ns ∧ P (.val (.int ns.sum))
  | [.tuple xs], P => ∃ ns, intsD? xs = some ns ∧ P (.val (.int ns.sum))
  | _, _ => False
theorem cr_sumD (hc : X.calm = true) : CallR X (.builtin "sum") (rDA X.K gSum) := by
  intro pins s σ H vs us Q I r h
  obtain ⟨B, ds, P, sB, ra, hg, hQ⟩ := h
  match ds, hg with
  | [.list xs], hg =>
    obtain ⟨ns, e, hg⟩ := hg
    have e := intsD_of e
    subst e
    obtain ⟨v, rfl, rv⟩ := ra.one
    cases rv with
    | lst h rr =>
      have := rr.ints
      subst this
      exact cr_sum hc pins s σ H _ us Q I r ⟨_, ns, rfl, .of (sB _ _ h), hQ _ _ _ _ hg (PExt.refl sB) (.int _)⟩
  | [.tuple xs], hg =>
    obtain ⟨ns, e, hg⟩ := hg
    have e := intsD_of e
    subst e
    obtain ⟨v, rfl, rv⟩ := ra.one
    cases rv with
    | tup h rr =>
      have := rr.ints
      subst this
      obtain ⟨its, rv, ht, _⟩ := I.tuple (same_tup sB h)
      rw [Vals.ref1 r]
      have hi := rv.ints
      obtain ⟨xs, e⟩ := hi.allInts.items
      have hn : numsOf (intItems xs).toList = ns := by rw [← e]; exact hi.numsOf
      rw [nums_intItems] at hn
      rw [e] at ht
      refine PySem.W.ktm_sumG (I.ok.hd hc) (show s.heap.IsTuple _ _ from ht) fun h' tk t' hk => ?_
      rw [preSum_eq, List.take_of_length_le (by simp), hn]
      exact ⟨.int _, H, I.kept hk, ⟨_, rfl⟩, hQ _ _ _ _ hg (PExt.refl sB) (.int _)⟩
/-- list(x), tuple(x) -/
def gList : List D → (L → Prop) → Prop
  | [.list xs], P => P (.own xs)
  | [.tuple xs], P => P (.own xs)
  | _, _ => False
def gTuple : List D → (L → Prop) → Prop
  | [.list xs], P => P (.val (.tuple xs))
  | [.tuple xs], P => P (.val (.tuple xs))
  | _, _ => False
theorem cr_listD : CallR X (.type "list") (rDA X.K gList) := by
  intro pins s σ H vs us Q I r h
  obtain ⟨B, ds, P, sB, ra, hg, hQ⟩ := h
  match ds, hg with
  | [.list xs], hg =>
    obtain ⟨v, rfl, rv⟩ := ra.one
    cases rv with
    | lst h rr => exact call_list_of pins s σ H _ us Q I r ⟨_, _, rfl, .inl (.of (sB _ _ h)), fun p hp => hQ _ _ _ _ hg (PExt.newOwn sB hp) ⟨p, _, rfl, hp, sB.free hp, upd_same, rr⟩⟩
  | [.tuple xs], hg =>
    obtain ⟨v, rfl, rv⟩ := ra.one
    cases rv with
    | tup h rr => exact call_list_of pins s σ H _ us Q I r ⟨_, _, rfl, .inr (same_tup sB h), fun p hp => hQ _ _ _ _ hg (PExt.newOwn sB hp) ⟨p, _, rfl, hp, sB.free hp, upd_same, rr⟩⟩
theorem cr_tupleD : CallR X (.type "tuple") (rDA X.K gTuple) := by
  intro pins s σ H vs us Q I r h
  obtain ⟨B, ds, P, sB, ra, hg, hQ⟩ := h
  match ds, hg with
  | [.list xs], hg =>
    obtain ⟨v, rfl, rv⟩ := ra.one
    cases rv with
    | lst h rr => exact call_tuple_of pins s σ H _ us Q I r ⟨_, _, rfl, .inl ⟨.of (sB _ _ h), fun p hp => by
        obtain ⟨B', pe, rt⟩ := newTup sB hp rr
        exact hQ _ _ _ _ hg pe rt⟩⟩
  | [.tuple xs], hg =>
    obtain ⟨v, rfl, rv⟩ := ra.one
    cases rv with
    | tup h rr => exact call_tuple_of pins s σ H _ us Q I r ⟨_, _, rfl, .inr ⟨same_tup sB h, hQ _ _ _ _ hg (PExt.refl sB) (.tup h rr)⟩⟩
/-- isinstance(x, T), T one of these -/
def tyD : D → String
  | .none => "NoneType"
  | .bool _ => "bool"
  | .int _ => "int"
  | .str _ => "str"
  | .list _ => "list"
  | .tuple _ => "tuple"
  | .dict _ => "dict"
def isD (d : D) (t : String) : Bool := tyD d == t || (tyD d == "bool" && t == "int")
theorem kit_isD {K : PySem.W.Frag} {a t : String} (ha : a ∈ ["NoneType", "bool", "int", "str", "list", "tuple", "dict"]) (ht : t ∈ ["bool", "int", "str", "list", "tuple"]) : PySem.W.kitOne K (.type a) (.type t) = some (a == t || (a == "bool" && t == "int")) := by
  refine kit_ty ?_
  simp only [List.mem_cons, List.not_mem_nil, or_false] at ha ht
  rcases ha with rfl | rfl | rfl | rfl | rfl | rfl | rfl <;> rcases ht with rfl | rfl | rfl | rfl | rfl <;> decide +kernel
end
end Pz

set_option Elab.async false
set_option linter.all false
set_option autoImplicit false
set_option maxRecDepth 100000
namespace Pz
open PySem PySem.Spec PyProof.Rows L2

/-! ## what a body's own context gives -/
theorem pass_of {X : Cx} {E : XK} (tk : Takes X (fun cls d _ H => E cls d H)) : Passes (L2.CX X.prog X.w) X E := passes_call tk fun _ _ _ _ h => h

/-! ## the draws' list -/
section
variable {K : PySem.W.Frag} {T0 T : Tr} {B0 H0 B H B1 H1 : Hp} {σ : L2.St} {ρ : En} {v : V} {l : L}
theorem OK.hatset (o : OK K T0 B0 H0 T B H σ ρ) {a : Addr} {x y : Int} (ha : T.hat a) (hb : HatB x y) : OK K T0 B0 H0 T B (upd H a (.lst [.int x, .int y])) σ ρ := by
  have hB : B a = none := o.tb a ha.1
  obtain ⟨x0, y0, hH, _⟩ := (o.th a ha.1).hat ha
  have hats : ∀ {T : Tr} {b : Addr}, (b = a → T.q a = none) → MutAt T H b → MutAt T (upd H a (.lst [.int x, .int y])) b := fun {T b} hq m => by
    by_cases e : b = a
    · subst e
      unfold MutAt
      rw [hq rfl]
      exact ⟨x, y, upd_same, hb⟩
    · exact m.upd e (.lst hH)
  refine ⟨⟨o.x.b, fun b q h => ?_, fun b q h n hbb => ?_, fun b hb => hats (fun z => by subst z; exact (o.tq b hb).symm.trans ha.2) (o.x.t b hb), o.x.n⟩, fun b hn => ?_, o.t0, o.t1, o.tq, o.tw, o.nt, o.tb, fun b hb => hats (fun z => by subst z; exact ha.2) (o.th b hb), o.len, fun j m hj => ?_, o.ap⟩
  · have ne : b ≠ a := fun z => by subst z; rw [hB] at h; cases h
    rw [upd_ne ne]; exact o.x.s _ _ h
  · obtain ⟨z1, z2⟩ := o.x.k b q h n hbb
    refine ⟨z1, ?_⟩
    by_cases e : b = a
    · subst e; exact .inr (o.hat1 ha h n)
    · rw [upd_ne e]; exact z2
  · by_cases e : b = a
    · subst e; exact (hn.no upd_same (nt_lst _)).elim
    · refine o.fr b fun w hw => hn w ?_
      rw [upd_ne e]; exact hw
  · have z := o.sl j m hj
    cases m with
    | no => trivial
    | val d => exact z
    | hat => exact z
    | scr ns => exact z
    | own xs' =>
      obtain ⟨v, g1, b, us, g2, g3, g4, g5, g6, g7⟩ := z
      have ne : b ≠ a := fun z => by subst z; exact g5 ha.1
      exact ⟨v, g1, b, us, g2, g3, g4, g5, by rw [upd_ne ne]; exact g6, g7⟩
end
section
variable {X : Cx} {E : XK} {e a b c : Expr} {es : List Expr} {w wa wb : WE} {pos p : Pos} {x : Str}
/-- hat[0], hat[1] -/
def wHat0 (i : Nat) (ρ : En) (P : L → Prop) (_ : Str → Prop) : Prop := ρ[i]? = some .hat ∧ ∀ x : Int, 0 ≤ x → x < 10 ^ 240 → P (.val (.int x))
def wHat1 (i : Nat) (ρ : En) (P : L → Prop) (_ : Str → Prop) : Prop := ρ[i]? = some .hat ∧ ∀ y : Int, 0 ≤ y → y < 2147482740 → P (.val (.int y))
theorem fe_hat0 {i : Nat} (ha : PE X a (tVar i)) (hb : PE X b (tC (.int 0))) (hs : PlainIx b) : FE X E (.Subscript a b pos) (wHat0 i) :=
  ⟨pe_imp (pe_ix ix_list ha hb hs) fun σ H Q ⟨T0, B0, H0, T, B, ρ, P, Px, o, hw, hQ, hx⟩ => by
    obtain ⟨hi, hw⟩ := hw
    obtain ⟨v, h1, a, rfl, hT⟩ := o.sl i _ hi
    obtain ⟨x, y, hH, q1, q2, q3, q4⟩ := (o.th a hT.1).hat hT
    exact ⟨_, h1, a, _, 0, .int x, rfl, rfl, .of hH, rfl, hQ _ _ _ _ (hw x q1 q2) (Ext.refl o.sub o.th) (.int _)⟩⟩
theorem fe_hat1 {i : Nat} (ha : PE X a (tVar i)) (hb : PE X b (tC (.int 1))) (hs : PlainIx b) : FE X E (.Subscript a b pos) (wHat1 i) :=
  ⟨pe_imp (pe_ix ix_list ha hb hs) fun σ H Q ⟨T0, B0, H0, T, B, ρ, P, Px, o, hw, hQ, hx⟩ => by
    obtain ⟨hi, hw⟩ := hw
    obtain ⟨v, h1, a, rfl, hT⟩ := o.sl i _ hi
    obtain ⟨x, y, hH, q1, q2, q3, q4⟩ := (o.th a hT.1).hat hT
    exact ⟨_, h1, a, _, 1, .int y, rfl, rfl, .of hH, rfl, hQ _ _ _ _ (hw y q3 q4) (Ext.refl o.sub o.th) (.int _)⟩⟩
/-- hat[0] = .., hat[1] = .. -/
def kHatS0 (ρ : En) (N : EndsD) (l : L) : Prop := ∃ x : Int, l = .val (.int x) ∧ 0 ≤ x ∧ x < 10 ^ 240 ∧ N.nx ρ
def wHatS0 (i : Nat) (w : WE) (ρ : En) (N : EndsD) : Prop := ρ[i]? = some .hat ∧ w ρ (kHatS0 ρ N) N.ex
def kHatS1 (ρ : En) (N : EndsD) (l : L) : Prop := ∃ x : Int, l = .val (.int x) ∧ 0 ≤ x ∧ x < 2147482740 ∧ N.nx ρ
def wHatS1 (i : Nat) (w : WE) (ρ : En) (N : EndsD) : Prop := ρ[i]? = some .hat ∧ w ρ (kHatS1 ρ N) N.ex
theorem fs_hatS0 {i : Nat} {tpos : Pos} (he : FE X E e w) (ho : PE X a (tVar i)) (hb : PE X b (tC (.int 0)))
    (ha : ∀ v, assign (.Subscript a b tpos) X.env v = (do
      let ov ← holding [v] (eval a X.env)
      let iv ← holding [v, ov] (eval b X.env)
      standAt tpos
      holding [v, ov, iv] (setItem ov iv v)
      release [v, ov, iv] []) := by intro _; rfl)
    (hs : swapsWithSole [.Subscript a b tpos] e pos.line X.env = pure false := by rfl) (hw : swappedStores [.Subscript a b tpos] e X.env = pure none := by rfl)
    (h1 : (assignEach [.Subscript a b tpos] X.env).map (·.2) = [assign (.Subscript a b tpos) X.env] := by rfl) : FS X E (.Assign [.Subscript a b tpos] e pos) (wHatS0 i w) :=
  ⟨ps_imp (ps_asg he.pe (pg_sub ho hb set_list ha) hs hw h1) fun D σ H ⟨T0, B0, H0, T, B, ρ, N, o, hw, h1, h2, h3, h4, hx⟩ => by
    obtain ⟨hi, hw⟩ := hw
    refine ⟨T0, B0, H0, T, B, ρ, _, _, o, hw, fun l v B1 H1 p e r => ?_, o.exk hx⟩
    obtain ⟨x, rfl, q1, q2, p⟩ := p
    cases r
    have o1 := o.step e
    obtain ⟨v, k1, a, rfl, hT⟩ := o1.sl i _ hi
    obtain ⟨x0, y0, hH, g1, g2, g3, g4⟩ := (o1.th a hT.1).hat hT
    exact ⟨_, k1, a, _, 0, 0, rfl, rfl, hH, rfl, h1 _ _ _ _ _ p (o1.hatset hT ⟨q1, q2, g3, g4⟩)⟩⟩
theorem fs_hatS1 {i : Nat} {tpos : Pos} (he : FE X E e w) (ho : PE X a (tVar i)) (hb : PE X b (tC (.int 1)))
    (ha : ∀ v, assign (.Subscript a b tpos) X.env v = (do
      let ov ← holding [v] (eval a X.env)
      let iv ← holding [v, ov] (eval b X.env)
      standAt tpos
      holding [v, ov, iv] (setItem ov iv v)
      release [v, ov, iv] []) := by intro _; rfl)
    (hs : swapsWithSole [.Subscript a b tpos] e pos.line X.env = pure false := by rfl) (hw : swappedStores [.Subscript a b tpos] e X.env = pure none := by rfl)
    (h1 : (assignEach [.Subscript a b tpos] X.env).map (·.2) = [assign (.Subscript a b tpos) X.env] := by rfl) : FS X E (.Assign [.Subscript a b tpos] e pos) (wHatS1 i w) :=
  ⟨ps_imp (ps_asg he.pe (pg_sub ho hb set_list ha) hs hw h1) fun D σ H ⟨T0, B0, H0, T, B, ρ, N, o, hw, h1, h2, h3, h4, hx⟩ => by
    obtain ⟨hi, hw⟩ := hw
    refine ⟨T0, B0, H0, T, B, ρ, _, _, o, hw, fun l v B1 H1 p e r => ?_, o.exk hx⟩
    obtain ⟨x, rfl, q1, q2, p⟩ := p
    cases r
    have o1 := o.step e
    obtain ⟨v, k1, a, rfl, hT⟩ := o1.sl i _ hi
    obtain ⟨x0, y0, hH, g1, g2, g3, g4⟩ := (o1.th a hT.1).hat hT
    exact ⟨_, k1, a, _, 1, 1, rfl, rfl, hH, rfl, h1 _ _ _ _ _ p (o1.hatset hT ⟨g1, g2, q1, q2⟩)⟩⟩

/-! ## the script -/
/-- len(script), script[k] -/
def wLenS (i : Nat) (ρ : En) (P : L → Prop) (_ : Str → Prop) : Prop := ∃ ns, ρ[i]? = some (.scr ns) ∧ P (.val (.int ns.length))
theorem fe_lenS {i : Nat} (hg : Gl X "len") (hm : X.mg "len" = none) (ha : PE X a (tVar i)) (he : starEach (a :: []) X.env = (false, eval a X.env) :: starEach [] X.env := by rfl) (hpl : (backTo pos (starEach [] X.env)).any (·.1) = false := by rfl) : FE X E (.Call (.Name "len" p) [a] [] pos) (wLenS i) :=
  ⟨pe_imp (pe_callB call_len_seq hg hm PySem.boot_len (pa_cons ha pa_nil he) (by decide) (by decide) he hpl) fun σ H Q ⟨T0, B0, H0, T, B, ρ, P, Px, o, hw, hQ, hx⟩ => by
    obtain ⟨ns, hi, hw⟩ := hw
    obtain ⟨v, h1, a, rfl, hS⟩ := o.sl i _ hi
    refine ⟨_, h1, a, _, rfl, .inl (o.sub.seq hS), ?_⟩
    rw [List.length_map]
    exact hQ _ _ _ _ hw (Ext.refl o.sub o.th) (.int _)⟩
def kIxS (ns : List Int) (P : L → Prop) (l : L) : Prop := ∃ (k n : Int), l = .val (.int k) ∧ atI ns k = some n ∧ P (.val (.int n))
def wIxS (i : Nat) (w : WE) (ρ : En) (P : L → Prop) (Px : Str → Prop) : Prop := ∃ ns, ρ[i]? = some (.scr ns) ∧ w ρ (kIxS ns P) Px
theorem atI_map {α β : Type} (f : α → β) (xs : List α) {i : Int} {v : α} (h : atI xs i = some v) : atI (xs.map f) i = some (f v) := by
  unfold atI at h ⊢
  rw [List.length_map]
  cases q : ixN xs.length i with
  | none => rw [q] at h; cases h
  | some j =>
    rw [q] at h
    show (xs.map f)[j]? = some (f v)
    rw [List.getElem?_map]
    have h' : xs[j]? = some v := h
    rw [h']; rfl
theorem fe_ixS {i : Nat} (ha : PE X a (tVar i)) (hb : FE X E b w) (hs : PlainIx b) : FE X E (.Subscript a b pos) (wIxS i w) :=
  ⟨pe_imp (pe_ix ix_list ha hb.pe hs) fun σ H Q ⟨T0, B0, H0, T, B, ρ, P, Px, o, hw, hQ, hx⟩ => by
    obtain ⟨ns, hi, hw⟩ := hw
    obtain ⟨v, h1, a, rfl, hS⟩ := o.sl i _ hi
    refine ⟨_, h1, T0, B0, H0, T, B, ρ, _, Px, o, hw, fun l u B1 H1 p e r => ?_, hx⟩
    obtain ⟨k, n, rfl, hk, p⟩ := p
    cases r
    exact ⟨a, _, k, .int n, rfl, rfl, e.s.seq (e.b.seq hS), atI_map _ _ hk, hQ _ _ _ _ p e (.int n)⟩⟩
/-! ## isinstance, constants of the module, exceptions -/
/-- what isinstance's rules ask of a value -/
def KitV (X : Cx) (H : Hp) (v : V) (tv : Value) : Prop := ∀ (pins : List (Addr × Obj)) (σ : L2.St) (s : Shared) (u : Value), Inv X pins σ H s → RelV v u → ∃ P : Heap → Prop, PySem.W.KitX X.K u tv P ∧ P s.heap ∧ u ≠ .builtin "__main__.__loader__#opaque"
theorem kitv_ty {X : Cx} {H : Hp} {v : V} {tv : Value} (h : TyX X.K H v tv) : KitV X H v tv := fun _ _ _ _ I r => kit_of I r h
theorem any_someB {α : Type} {o : Option α} {p : α → Bool} (h : o.any p = true) : o.isSome = true := by
  cases o with
  | none => cases h
  | some _ => rfl
theorem kitx_ex {K : PySem.W.Frag} {C x : Addr} {ox : Obj} {od : Option Obj} (k : ExK1 K C) : PySem.W.KitX K (.ref x) (.ref C) (fun h => PySem.W.InstAt h x ox C od) :=
  PySem.W.kitx_exc (by obtain ⟨cd, hc, _⟩ := PySem.W.any_some k.c.hd; rw [hc]; rfl) k.c.hg k.c.hk k.c.hs k.c.ha k.c.hn k.c.ht k.c.hm
theorem kitv_exc {X : Cx} {H : Hp} {a C : Addr} (k : ExK1 X.K C) (h : H a = some (ExO (.ref C) a)) : KitV X H (.ref a) (.ref C) := fun pins σ s u I r => by
  cases (show u = Value.ref a from r)
  obtain ⟨⟨oe, vs, e, z, d, _⟩, _, _⟩ := I.hok a _ h
  obtain ⟨oc, od, oda, osl⟩ := oe
  obtain ⟨h1, h2⟩ := z
  dsimp only at h1 h2 d
  subst h1 h2 d
  exact ⟨_, kitx_ex (od := none) k, ⟨e, rfl, rfl, trivial⟩, fun z => nomatch z⟩
theorem kitv_exl {X : Cx} {H : Hp} {a C d : Addr} {fs : List (Str × V)} (k : ExK1 X.K C) (h : H a = some (exo a C (some d))) (hd : H d = some (exd d fs)) : KitV X H (.ref a) (.ref C) := fun pins σ s u I r => by
  cases (show u = Value.ref a from r)
  obtain ⟨t1, e⟩ := exo_at I.hok h
  obtain ⟨mA, hns, _⟩ := exd_at I.hok hd
  obtain ⟨o, es, ep, e2, _⟩ := hns
  exact ⟨_, kitx_ex (od := some o) k, ⟨e, rfl, rfl, e2⟩, fun z => nomatch z⟩
theorem kit_rp {X : Cx} {B H : Hp} (s : Same B H) {v : V} {d : D} (h : Rp X.K B v d) : ∃ tv, KitV X H v tv ∧ ∀ t ∈ tyL, PySem.W.kitOne X.K tv (.type t) = some (isD d t) := by
  cases h with
  | non => exact ⟨_, kitv_ty (.base .non), fun t ht => kit_isD (by simp [tyD]) ht⟩
  | bl b => exact ⟨_, kitv_ty (.base (.bl b)), fun t ht => kit_isD (by simp [tyD]) ht⟩
  | int i => exact ⟨_, kitv_ty (.base (.int i)), fun t ht => kit_isD (by simp [tyD]) ht⟩
  | str x => exact ⟨_, kitv_ty (.base (.str x)), fun t ht => kit_isD (by simp [tyD]) ht⟩
  | lst h r => exact ⟨_, kitv_ty (.base (.lst (s _ _ h))), fun t ht => kit_isD (by simp [tyD]) ht⟩
  | tup h r =>
    rcases h with (h | ⟨o, h⟩) | ⟨o, its, n, h1, h2, _⟩
    · exact ⟨_, kitv_ty (.base (.tup (s _ _ h))), fun t ht => kit_isD (by simp [tyD]) ht⟩
    · exact ⟨_, kitv_ty (.fTuple (s _ _ h)), fun t ht => kit_isD (by simp [tyD]) ht⟩
    · exact ⟨_, kitv_ty (.kTuple h1 h2), fun t ht => kit_isD (by simp [tyD]) ht⟩
  | dsi h => exact ⟨_, kitv_ty (.base (.dK (s _ _ h))), fun t ht => kit_isD (by simp [tyD]) ht⟩
  | exc _ k h => exact ⟨_, kitv_exc k (s _ _ h), fun t ht => by rw [k.k t ht]; simp only [tyL, List.mem_cons, List.not_mem_nil, or_false] at ht; rcases ht with rfl | rfl | rfl | rfl | rfl <;> rfl⟩
  | exl _ k h h2 => exact ⟨_, kitv_exl k (s _ _ h) (s _ _ h2), fun t ht => by rw [k.k t ht]; simp only [tyL, List.mem_cons, List.not_mem_nil, or_false] at ht; rcases ht with rfl | rfl | rfl | rfl | rfl <;> rfl⟩
  | ins _ k h _ => exact ⟨_, kitv_ty (.base (.ins (s _ _ h) k.cl k.ha k.hn k.ht k.hm)), fun t ht => by rw [k.k t ht]; simp only [tyL, List.mem_cons, List.not_mem_nil, or_false] at ht; rcases ht with rfl | rfl | rfl | rfl | rfl <;> rfl⟩
/-- isinstance(x, c), by what is known of x -/
def rIsiV (X : Cx) : List V → Hp → VK → Prop := fun xs H Q => ∃ (x c : V) (t u : Value) (b : Bool), xs = [x, c] ∧ ClsV c u ∧ KitV X H x t ∧ PySem.W.kitOne X.K t u = some b ∧ Q (.bl b) H
theorem call_isiV : CallR X (.builtin "isinstance") (rIsiV X) := by
  intro pins s σ H xs us Q I r h
  obtain ⟨x, c, t, u, b, rfl, k, ty, e, q⟩ := h
  obtain ⟨u1, u2, rfl, r1, r2⟩ := vals2 r
  have e2 := k.eq r2
  subst e2
  obtain ⟨P, Z, p, hx⟩ := ty pins σ s u1 I r1
  exact PySem.W.kia_one Z I.kIn p e hx fun tk => ⟨.bl b, H, I.tok tk, rfl, q⟩
def gIsi (t : String) (d : D) (P : L → Prop) : Prop := P (.val (.bool (isD d t)))
def tIsi (K : PySem.W.Frag) (t : String) (ta : TE) : TE := fun σ H Q => ta σ H fun x H1 => ∃ a b, TyX K H1 x a ∧ PySem.W.kitOne K a (.type t) = some b ∧ Q (.bl b) H1
theorem fe_isi {t : String} {y : Str} {py : Pos} (ht : t ∈ ["bool", "int", "str", "list", "tuple"]) (hg : Gl X "isinstance") (hm : X.mg "isinstance" = none) (hgt : Gl X y) (hmt : X.mg y = none) (hv : bootBuiltins y = some (.type t)) (ha : FE X E a w)
    (hn : y ≠ "__name__" := by decide) (hdb : (y == ("__debug__" : Str)) = false := by decide)
    (he : starEach [a, .Name y py] X.env = (false, eval a X.env) :: starEach [.Name y py] X.env := by rfl) (he2 : starEach [.Name y py] X.env = (false, eval (.Name y py) X.env) :: starEach [] X.env := by rfl) (hpl : (backTo pos (starEach [.Name y py] X.env)).any (·.1) = false := by rfl) :
    FE X E (.Call (.Name "isinstance" p) [a, .Name y py] [] pos) (w1 (gIsi t) w) :=
  ⟨pe_imp (pe_callB call_isiV hg hm (by decide +kernel) (pa_cons ha.pe (pa_cons (pe_bltn (v := .ty t) hgt hmt hv rfl hn hdb) pa_nil he2) he) (by decide) (by decide) he hpl) fun σ H Q ⟨T0, B0, H0, T, B, ρ, P, Px, o, hw, hQ, hx⟩ => ⟨T0, B0, H0, T, B, ρ, _, Px, o, hw, fun l v B1 H1 p e r => by
    obtain ⟨d, hd, p⟩ := p
    obtain ⟨B1', e', s', rd⟩ := to_d e r hd
    obtain ⟨tv, hk, ht'⟩ := kit_rp (X := X) e'.s rd
    exact ⟨v, .ty t, _, _, _, rfl, .ty t, hk, ht' t ht, hQ _ _ _ _ p e' (.bl _)⟩, hx⟩⟩
/-- an int that stands at the module's name -/
def GlI (mg : Str → Option Value) (x : Str) (i : Int) : Prop := ∃ t, mg x = some (.int i t)
theorem fe_globI {i : Int} (hg : Gl X x) (hm : GlI X.mg x i) (hd : (x == ("__debug__" : Str)) = false := by decide) : FE X E (.Name x p) (wC (.int i)) := by
  obtain ⟨t, hm⟩ := hm
  exact fe_c (pe_glob (v := .int i) hg hm ⟨t, rfl⟩ hd) fun _ _ => .int i
/-- an own exception class -/
structure ExD (K : PySem.W.Frag) (mg : Str → Option Value) (nm : Str) : Prop where
  ex : ∃ C, mg nm = some (.ref C) ∧ PySem.W.keepIn K (.ref C) = true ∧ PySem.W.excIn K C [.type "ValueError", .type "Exception", .type "BaseException", .type "object"] "ValueError.__new__" = true ∧
    PySem.W.subIn K (.ref C) (.type "BaseException") = some true ∧ PySem.W.typeIn K (.ref C) = some (.type "type")
theorem fs_raiseX {nm m : Str} {j : Nat} {p2 pos' : Pos} (d : ExD X.K X.mg nm) (hc : X.calm = true) (tk : Takes X (fun cls d _ H => E cls d H)) (hg : Gl X nm) (hdb : (nm == ("__debug__" : Str)) = false := by decide) :
    FS X E (.Raise (some (.Call (.Name nm p) [.Constant (.str m) j p2] [] pos)) none pos') (wRaise nm) := by
  obtain ⟨C, gC, kC, xC, bC, tC⟩ := d.ex
  exact fs_raise hc tk rfl (pmk_own PySem.F.excBase_ValueError xC gC kC (raises_own bC tC) hg hdb) gC
/-- a name set to data, frozen -/
def kSetF (i : Nat) (ρ : En) (N : EndsD) (l : L) : Prop := ∃ d, l.d? = some d ∧ N.nx (ρ.set i (.val d))
def wSetF (i : Nat) (w : WE) (ρ : En) (N : EndsD) : Prop := w ρ (kSetF i ρ N) N.ex
theorem wsetF_go {K : PySem.W.Frag} {mg : Str → Option Value} {i : Nat} {D : Ends} {σ : L2.St} {H : Hp} (h : tFS K mg E (wSetF i w) D σ H) : tAsg (tF K mg E w) (gName i) D σ H := by
  obtain ⟨T0, B0, H0, T, B, ρ, N, o, hw, h1, h2, h3, h4, hx⟩ := h
  exact ⟨T0, B0, H0, T, B, ρ, _, _, o, hw, fun l v B1 H1 p e r => by
    obtain ⟨d, hd, p⟩ := p
    obtain ⟨B1', e', s', rd⟩ := to_d e r hd
    exact h1 _ _ _ _ _ p (o.set e' (show RpL K T H B1' H1 v (.val d) from rd) i), o.exk hx⟩
theorem fs_setF {i : Nat} {x : Str} {pos' : Pos} (hN : X.N.Nodup) (hi : X.N[i]? = some x) (hx : Loc X.env.scope x) (he : FE X E e w) (hs : swapsWith e (some (.Name x pos')) pos.line X.env = pure false := by rfl) (hf : X.fn x = true ∨ X.env.scope.names.lookup x = some .local := by first | exact .inl rfl | exact .inr rfl | assumption) :
    FS X E (.Assign [.Name x pos'] e pos) (wSetF i w) := ⟨ps_imp (ps_set hN hi hx he.pe hs hf) fun D σ H h => wsetF_go h⟩
/-- return x, x a list of our own -/
def wRetO (i : Nat) (ρ : En) (N : EndsD) : Prop := ∃ xs, ρ[i]? = some (.own xs) ∧ N.rt (.own xs)
theorem fs_retO {i : Nat} (h : PE X e (tVar i)) : FS X E (.Return (some e) pos) (wRetO i) := ⟨ps_imp (ps_ret h) fun D σ H ⟨T0, B0, H0, T, B, ρ, N, o, hw, h1, h2, h3, h4, hx⟩ => by
  obtain ⟨xs, hi, hw⟩ := hw
  obtain ⟨v, si, a, vs, e2, g0, g1, g2, g3, g4⟩ := o.sl i _ hi
  exact ⟨v, si, h4 _ _ _ _ hw o.x ⟨a, vs, e2, g0, g1, fun z => g2 (o.t0 a z), g3, g4⟩⟩⟩
variable {elt tg iter : Expr} {ifs : List Expr} {wi : WI} {wt : WT} {we : WE}
theorem fs_setLcF {is : List Nat} {g : WG} {i : Nat} {y : Str} {py spos : Pos} {scope : Scope} {own : List (Str × Nat)} (hc : X.calm = true) (hN : X.N.Nodup) (hy : X.N[i]? = some y) (hyl : X.env.scope.names.lookup y = some .local)
    (hsw : swapsWith (.ListComp elt [⟨tg, iter, ifs, 0⟩] scope pos) (some (.Name y py)) spos.line X.env = pure true) (hi : FI X E tg iter wi) (ok : BlkOk X.N X.env.scope scope own) (hv : ∀ i ∈ is, i ∈ own.map (·.2))
    (hg : ∀ (s : Shared) (H : Hp) (C : Addr) (cl : List (Str × Addr)) (fp : List Addr), FG (X.blk s H scope (compEnvC scope cl C X.env) fp) is tg g) (ht : ∀ (s : Shared) (H : Hp) (C : Addr) (cl : List (Str × Addr)) (fp : List Addr), FTs (X.blk s H scope (compEnvC scope cl C X.env) fp) E0 ifs wt)
    (he : ∀ (s : Shared) (H : Hp) (C : Addr) (cl : List (Str × Addr)) (fp : List Addr), FE (X.blk s H scope (compEnvC scope cl C X.env) fp) E0 elt we) (hs : ∀ x, foldedSetIterable iter X.env x = pure x := by intro _; rfl) :
    FS X E (.Assign [.Name y py] (.ListComp elt [⟨tg, iter, ifs, 0⟩] scope pos) spos) (wSetF i (wLc wi g wt we (own.map (·.2)))) :=
  ⟨ps_imp (ps_setLc hc hN hy hyl hsw hi.pi ok (fun s H C cl fp => (hg s H C cl fp).pg) (fun s H C cl fp => (ht s H C cl fp).pts) (fun s H C cl fp => (he s H C cl fp).pe) hs) fun D σ H ⟨T0, B0, H0, T, B, ρ, N, o, hw, h1, h2, h3, h4, hx⟩ =>
    tF_lc (mg := X.mg) (E := E) hv ⟨T0, B0, H0, T, B, ρ, _, _, o, hw, fun l v B1 H1 p e r => by
      obtain ⟨d, hd, p⟩ := p
      obtain ⟨B1', e', s', rd⟩ := to_d e r hd
      exact h1 _ _ _ _ _ p (o.set e' (show RpL X.K T H B1' H1 v (.val d) from rd) i), o.exk hx⟩⟩
/-! ## a, b = x, y and a, b, c = x, y, z; what is kept may be a list of our own -/
def keepL : Bool → L → (L → Prop) → Prop
  | true, l, P => P l
  | false, l, P => ∃ d, l.d? = some d ∧ P (.val d)
theorem keep_go {K : PySem.W.Frag} {T : Tr} {B H B1 H1 : Hp} {v : V} {l : L} {P : L → Prop} {k : Bool} (e : Ext T B H B1 H1) (r : RpL K T H B1 H1 v l) (h : keepL k l P) : ∃ l' B2, P l' ∧ Ext T B H B2 H1 ∧ Same B1 B2 ∧ RpL K T H B2 H1 v l' := by
  cases k with
  | true => exact ⟨l, B1, h, e, Same.refl _, r⟩
  | false =>
    obtain ⟨d, hd, p⟩ := h
    obtain ⟨B2, e', s', rd⟩ := to_d e r hd
    exact ⟨.val d, B2, p, e', s', rd⟩
def kP2c (i j : Nat) (ρ : En) (N : EndsD) (l l' : L) : Prop := N.nx ((ρ.set i l).set j l')
def kP2b (i j : Nat) (kb : Bool) (ρ : En) (N : EndsD) (l : L) (l' : L) : Prop := keepL kb l' (kP2c i j ρ N l)
def kP2m (i j : Nat) (kb : Bool) (wb : WE) (ρ : En) (N : EndsD) (l : L) : Prop := wb ρ (kP2b i j kb ρ N l) N.ex
def kP2a (i j : Nat) (ka kb : Bool) (wb : WE) (ρ : En) (N : EndsD) (l : L) : Prop := keepL ka l (kP2m i j kb wb ρ N)
def wPar2 (i j : Nat) (ka kb : Bool) (wa wb : WE) (ρ : En) (N : EndsD) : Prop := wa ρ (kP2a i j ka kb wb ρ N) N.ex
theorem fs_par2 {i j : Nat} {x y : Str} {wa wb : WE} {px py pt : Pos} {kt k2 pt2} {a b : Expr} (ka kb : Bool) (hc : X.calm = true) (hN : X.N.Nodup) (hi : X.N[i]? = some x) (hj : X.N[j]? = some y) (hij : i ≠ j)
    (hx : X.env.scope.names.lookup x = some .local) (hy : X.env.scope.names.lookup y = some .local) (ha : FE X E a wa) (hb : FE X E b wb) (he : starEach [a, b] X.env = (false, eval a X.env) :: starEach [b] X.env) (he2 : starEach [b] X.env = (false, eval b X.env) :: starEach [] X.env)
    (hw : swappedStores [.Tuple [.Name x px, .Name y py] kt pt] (.Tuple [a, b] k2 pt2) X.env = pure (some [x, y]))
    (hs : swapsWithSole [.Tuple [.Name x px, .Name y py] kt pt] (.Tuple [a, b] k2 pt2) pos.line X.env = pure false := by rfl) :
    FS X E (.Assign [.Tuple [.Name x px, .Name y py] kt pt] (.Tuple [a, b] k2 pt2) pos) (wPar2 i j ka kb wa wb) := ⟨ps_imp (ps_par hc hN hi hj hij hx hy (pa_cons ha.pe (pa_cons hb.pe pa_nil he2) he) hw hs) fun D σ H ⟨T0, B0, H0, T, B, ρ, N, o, hw, h1, h2, h3, h4, hx⟩ =>
  ⟨T0, B0, H0, T, B, ρ, _, _, o, hw, fun l v B1 H1 p e r => by
    obtain ⟨l1, B1', p, e1, _, r1⟩ := keep_go e r p
    refine ⟨T0, B0, H0, T, B1', ρ, _, _, o.step e1, p, fun l' v' B2 H2 p2 e2 r2 => ?_, (o.step e1).exk hx⟩
    obtain ⟨l2, B2', p2, e3, _, r3⟩ := keep_go e2 r2 p2
    exact ⟨_, _, rfl, h1 _ _ _ _ _ p2 ((o.set e1 r1 i).set e3 r3 j)⟩, o.exk hx⟩⟩
def kP3c (i j m : Nat) (ρ : En) (N : EndsD) (l l' l'' : L) : Prop := N.nx (((ρ.set i l).set j l').set m l'')
def kP3b (i j m : Nat) (kc : Bool) (ρ : En) (N : EndsD) (l l' l'' : L) : Prop := keepL kc l'' (kP3c i j m ρ N l l')
def kP3m (i j m : Nat) (kc : Bool) (wc : WE) (ρ : En) (N : EndsD) (l l' : L) : Prop := wc ρ (kP3b i j m kc ρ N l l') N.ex
def kP3n (i j m : Nat) (kb kc : Bool) (wc : WE) (ρ : En) (N : EndsD) (l l' : L) : Prop := keepL kb l' (kP3m i j m kc wc ρ N l)
def kP3o (i j m : Nat) (kb kc : Bool) (wb wc : WE) (ρ : En) (N : EndsD) (l : L) : Prop := wb ρ (kP3n i j m kb kc wc ρ N l) N.ex
def kP3a (i j m : Nat) (ka kb kc : Bool) (wb wc : WE) (ρ : En) (N : EndsD) (l : L) : Prop := keepL ka l (kP3o i j m kb kc wb wc ρ N)
def wPar3 (i j m : Nat) (ka kb kc : Bool) (wa wb wc : WE) (ρ : En) (N : EndsD) : Prop := wa ρ (kP3a i j m ka kb kc wb wc ρ N) N.ex
theorem fs_par3 {i j m : Nat} {x y z : Str} {wa wb wc : WE} {px py pz pt : Pos} {kt k2 pt2} {a b c : Expr} (ka kb kc : Bool) (hc : X.calm = true) (hN : X.N.Nodup) (hi : X.N[i]? = some x) (hj : X.N[j]? = some y) (hm : X.N[m]? = some z) (hij : i ≠ j) (him : i ≠ m) (hjm : j ≠ m)
    (hx : X.env.scope.names.lookup x = some .local) (hy : X.env.scope.names.lookup y = some .local) (hz : X.env.scope.names.lookup z = some .local) (ha : FE X E a wa) (hb : FE X E b wb) (hcc : FE X E c wc)
    (he : starEach [a, b, c] X.env = (false, eval a X.env) :: starEach [b, c] X.env) (he2 : starEach [b, c] X.env = (false, eval b X.env) :: starEach [c] X.env) (he3 : starEach [c] X.env = (false, eval c X.env) :: starEach [] X.env)
    (hw : swappedStores [.Tuple [.Name x px, .Name y py, .Name z pz] kt pt] (.Tuple [a, b, c] k2 pt2) X.env = pure (some [x, y, z]))
    (hs : swapsWithSole [.Tuple [.Name x px, .Name y py, .Name z pz] kt pt] (.Tuple [a, b, c] k2 pt2) pos.line X.env = pure false := by rfl) :
    FS X E (.Assign [.Tuple [.Name x px, .Name y py, .Name z pz] kt pt] (.Tuple [a, b, c] k2 pt2) pos) (wPar3 i j m ka kb kc wa wb wc) := ⟨ps_imp (ps_par3 hc hN hi hj hm hij him hjm hx hy hz (pa_cons ha.pe (pa_cons hb.pe (pa_cons hcc.pe pa_nil he3) he2) he) hw hs) fun D σ H ⟨T0, B0, H0, T, B, ρ, N, o, hw, h1, h2, h3, h4, hx⟩ =>
  ⟨T0, B0, H0, T, B, ρ, _, _, o, hw, fun l v B1 H1 p e r => by
    obtain ⟨l1, B1', p, e1, _, r1⟩ := keep_go e r p
    refine ⟨T0, B0, H0, T, B1', ρ, _, _, o.step e1, p, fun l' v' B2 H2 p2 e2 r2 => ?_, (o.step e1).exk hx⟩
    obtain ⟨l2, B2', p2, e3, _, r3⟩ := keep_go e2 r2 p2
    refine ⟨T0, B0, H0, T, B2', ρ, _, _, (o.step e1).step e3, p2, fun l'' v'' B3 H3 p3 e4 r4 => ?_, ((o.step e1).step e3).exk hx⟩
    obtain ⟨l3, B3', p3, e5, _, r5⟩ := keep_go e4 r4 p3
    exact ⟨_, _, _, rfl, h1 _ _ _ _ _ p3 (((o.set e1 r1 i).set e3 r3 j).set e5 r5 m)⟩, o.exk hx⟩⟩
end
/-! ## loops and comprehensions by what they walk -/
section
variable {wi : WI} {g : WG} {u : WS} {wt : WT} {we : WE} {vs : List Nat} {ρ : En} {N : EndsD} {P : L → Prop} {Px : Str → Prop}
theorem wFor_of {xs : List D} (hwi : ∀ Q : List D → Prop, Q xs → wi ρ Q N.ex) (I : Nat → En → Prop) (h0 : I 0 ρ)
    (hs : ∀ (j : Nat) x ρ', xs[j]? = some x → I j ρ' → g ρ' x (kBody u (I (j + 1)) N)) (hd : ∀ ρ', I xs.length ρ' → N.nx ρ') : wFor wi g u ρ N :=
  hwi _ ⟨I, h0, hs, hd⟩
/-- .. whatever it walks -/
theorem wFor_any {R : List D → Prop} (hwi : ∀ Q : List D → Prop, (∀ xs, R xs → Q xs) → wi ρ Q N.ex) (I : List D → Nat → En → Prop) (h : ∀ xs, R xs → I xs 0 ρ ∧
    (∀ (j : Nat) x ρ', xs[j]? = some x → I xs j ρ' → g ρ' x (kBody u (I xs (j + 1)) N)) ∧ ∀ ρ', I xs xs.length ρ' → N.nx ρ') : wFor wi g u ρ N :=
  hwi _ fun xs r => ⟨I xs, (h xs r).1, (h xs r).2.1, (h xs r).2.2⟩
theorem take_succ_of {α : Type} {xs : List α} {j : Nat} {x : α} (h : xs[j]? = some x) : xs.take (j + 1) = xs.take j ++ [x] := by
  rw [List.take_add_one, h]; rfl
theorem wLc_of {xs : List D} (hwi : ∀ Q : List D → Prop, Q xs → wi ρ Q Px) (hlen : xs.length ≤ 1000000) (f : D → Bool) (v : D → D)
    (hs : ∀ x ∈ xs, ∀ (Y : D → Prop) (M : Prop), (f x = true → Y (v x)) → (f x = false → M) → g (wipeD ρ vs) x (kLcG wt we Y M))
    (hP : P (.own ((xs.filter f).map v))) : wLc wi g wt we vs ρ P Px := by
  refine hwi _ ⟨hlen, fun j acc => acc = ((xs.take j).filter f).map v, rfl, fun j x acc hx hI => ?_, fun acc hI => ?_⟩
  · refine hs x (List.mem_of_getElem? hx) _ _ (fun h => ?_) (fun h => ?_)
    · show acc ++ [v x] = ((xs.take (j + 1)).filter f).map v
      rw [take_succ_of hx, List.filter_append, List.filter_cons, if_pos h, hI]
      simp
    · show acc = ((xs.take (j + 1)).filter f).map v
      rw [take_succ_of hx, List.filter_append, List.filter_cons, if_neg (by rw [h]; decide), hI]
      simp
  · have hI : acc = ((xs.take xs.length).filter f).map v := hI
    rw [hI, List.take_length]; exact hP
/-- .. without a test -/
theorem wLc_map {xs : List D} (hwi : ∀ Q : List D → Prop, Q xs → wi ρ Q Px) (hlen : xs.length ≤ 1000000) (v : D → D)
    (hs : ∀ x ∈ xs, ∀ (Y : D → Prop) (M : Prop), Y (v x) → g (wipeD ρ vs) x (kLcG wYes we Y M))
    (hP : P (.own (xs.map v))) : wLc wi g wYes we vs ρ P Px := by
  refine hwi _ ⟨hlen, fun j acc => acc = (xs.take j).map v, rfl, fun j x acc hx hI => ?_, fun acc hI => ?_⟩
  · exact hs x (List.mem_of_getElem? hx) (fun d => acc ++ [d] = (xs.take (j + 1)).map v) _ (by rw [take_succ_of hx, List.map_append, hI]; rfl)
  · have hI : acc = (xs.take xs.length).map v := hI
    rw [hI, List.take_length]; exact hP
/-- .. whose items are drawn: each as R says -/
theorem wLc_any {R : D → Prop} {S : List D → Prop} (hwi : ∀ Q : List D → Prop, (∀ xs, S xs → Q xs) → wi ρ Q Px) (hlen : ∀ xs, S xs → xs.length ≤ 1000000)
    (hs : ∀ xs, S xs → ∀ x ∈ xs, ∀ (Y : D → Prop) (M : Prop), (∀ d, R d → Y d) → g (wipeD ρ vs) x (kLcG wYes we Y M))
    (hP : ∀ xs ds, S xs → ds.length = xs.length → (∀ d ∈ ds, R d) → P (.own ds)) : wLc wi g wYes we vs ρ P Px := by
  refine hwi _ fun xs hS => ⟨hlen xs hS, fun j acc => acc.length = j ∧ ∀ d ∈ acc, R d, ⟨rfl, fun _ h => nomatch h⟩, fun j x acc hx hI => ?_, fun acc hI => hP xs acc hS hI.1 hI.2⟩
  exact hs xs hS x (List.mem_of_getElem? hx) (fun d => (acc ++ [d]).length = j + 1 ∧ ∀ e ∈ acc ++ [d], R e) _ fun d hd => ⟨by rw [List.length_append, hI.1]; rfl, fun e he => by
    rcases List.mem_append.mp he with h | h
    · exact hI.2 e h
    · rw [List.mem_singleton.mp h]; exact hd⟩
end
end Pz

set_option Elab.async false
set_option linter.all false
set_option autoImplicit false
set_option maxRecDepth 100000
namespace Pz
open PySem PySem.Spec PyProof.Rows L2

section
variable {X : Cx} {E : XK} {a b c e : Expr} {pos : Pos} {w wa wb : WE}
/-! ## list(range(i, j)) -/
def kLrB (i : Int) (P : L → Prop) (l : L) : Prop := ∃ j : Int, l = .val (.int j) ∧ RgOk i j ∧ P (.own (rgD i (j - i).toNat))
def kLrA (wb : WE) (ρ : En) (P : L → Prop) (Px : Str → Prop) (l : L) : Prop := ∃ i : Int, l = .val (.int i) ∧ wb ρ (kLrB i P) Px
def wListRg (wa wb : WE) (ρ : En) (P : L → Prop) (Px : Str → Prop) : Prop := wa ρ (kLrA wb ρ P Px) Px
theorem rp_rg {K : PySem.W.Frag} {B : Hp} (i j : Int) : RpA K B (rgV i j) (rgD i (j - i).toNat) := by
  have e1 : rgV i j = ((List.range (j - i).toNat).map fun k => i + ((k : Nat) : Int)).map V.int := by unfold rgV; rw [List.map_map]; rfl
  have e2 : rgD i (j - i).toNat = ((List.range (j - i).toNat).map fun k => i + ((k : Nat) : Int)).map PyData.int := by unfold rgD; rw [List.map_map]; rfl
  rw [e1, e2]
  exact RpA.of_ints _
theorem fe_listRg {p p2 pos2 : Pos} (hc : X.calm = true) (hg : Gl X "list") (hm : X.mg "list" = none) (hg2 : Gl X "range") (hm2 : X.mg "range" = none) (ha : FE X E a wa) (hb : FE X E b wb)
    (na : starEach [a, b] X.env = (false, eval a X.env) :: starEach [b] X.env) (nb : starEach [b] X.env = (false, eval b X.env) :: starEach [] X.env) (hp : (backTo pos2 (starEach [b] X.env)).any (·.1) = false)
    (ne : starEach [.Call (.Name "range" p2) [a, b] [] pos2] X.env = (false, eval (.Call (.Name "range" p2) [a, b] [] pos2) X.env) :: starEach [] X.env) :
    FE X E (.Call (.Name "list" p) [.Call (.Name "range" p2) [a, b] [] pos2] [] pos) (wListRg wa wb) :=
  ⟨pe_imp (pe_listRg hc hg hm (prg_2 hg2 hm2 ha.pe hb.pe na nb hp) ne) fun σ H Q ⟨T0, B0, H0, T, B, ρ, P, Px, o, hw, hQ, hx⟩ => ⟨T0, B0, H0, T, B, ρ, _, Px, o, hw, fun l v B1 H1 p e r => by
    obtain ⟨i, rfl, p⟩ := p
    cases r
    have o1 := o.step e
    refine ⟨T0, B0, H0, T, B1, ρ, _, Px, o1, p, fun l2 v2 B2 H2 p2 e2 r2 => ?_, hx.step e⟩
    obtain ⟨j, rfl, hr, p2⟩ := p2
    cases r2
    have e12 := e.trans e2
    refine ⟨i, j, rfl, rfl, hr, fun q hq => ?_⟩
    have e3 : PExt B2 H2 B2 (upd H2 q (.lst (rgV i j))) := PExt.newOwn e12.s hq
    exact hQ _ _ _ _ p2 (e12.trans (e3.ext e12.t)) ⟨q, _, rfl, e12.free o.sub (.of hq), e12.s.free hq, not_hat e12.t hq, upd_same, rp_rg i j⟩, hx⟩⟩
/-! ## sorted -/
def gSortI : List D → (L → Prop) → Prop
  | [.list xs], P => ∃ ns, intsD? xs = some ns ∧ ∀ ns' : List Int, ns'.Perm ns → ns'.Pairwise (· ≤ ·) → P (.own (ns'.map .int))
  | _, _ => False
theorem cr_sortI : CallR X (.builtin "sorted") (rDA X.K gSortI) := by
  intro pins s σ H vs us Q I r h
  obtain ⟨B, ds, P, sB, ra, hg, hQ⟩ := h
  match ds, hg with
  | [.list xs], hg =>
    obtain ⟨ns, e, hg⟩ := hg
    have e := intsD_of e
    subst e
    obtain ⟨v, rfl, rv⟩ := ra.one
    cases rv with
    | lst h rr =>
      have := rr.ints
      subst this
      exact cr_sortedI pins s σ H _ us Q I r ⟨_, ns, rfl, .of (sB _ _ h), fun ns' p hp hs hn => hQ _ _ _ _ (hg ns' hp hs) (PExt.newOwn sB hn) ⟨p, _, rfl, hn, sB.free hn, upd_same, RpA.of_ints ns'⟩⟩
theorem RpA.permL {K : PySem.W.Frag} {B : Hp} {vs ws : List V} (h : ws.Perm vs) : ∀ {ds : List D}, RpA K B vs ds → ∃ es, es.Perm ds ∧ RpA K B ws es := by
  induction h with
  | nil => intro ds r; exact ⟨ds, .refl _, r⟩
  | cons x _ ih =>
    intro ds r
    cases r with
    | cons r1 r2 =>
      obtain ⟨es, p, r'⟩ := ih r2
      exact ⟨_ :: es, p.cons _, .cons r1 r'⟩
  | swap x y l =>
    intro ds r
    cases r with
    | cons r1 r2 =>
      cases r2 with
      | cons r2 r3 => exact ⟨_ :: _ :: _, .swap _ _ _, .cons r2 (.cons r1 r3)⟩
  | trans h1 h2 ih1 ih2 =>
    intro ds r
    obtain ⟨es, p, r'⟩ := ih2 r
    obtain ⟨fs, p2, r2⟩ := ih1 r'
    exact ⟨fs, p2.trans p, r2⟩
/-- pairs of two ints from 0 on, below b; they come in some order -/
def pairOk (b : Int) (d : D) : Prop := ∃ i j : Int, d = .tuple [.int i, .int j] ∧ 0 ≤ i ∧ i < b ∧ 0 ≤ j ∧ j < b
def gSortP : List D → (L → Prop) → Prop
  | [.list xs], P => xs.length < 64 ∧ (∃ b : Int, ∀ x ∈ xs, pairOk b x) ∧ ∀ ys : List D, ys.Perm xs → P (.own ys)
  | _, _ => False
theorem mem_paired {K : PySem.W.Frag} {B : Hp} : ∀ {vs : List V} {ds : List D}, RpA K B vs ds → ∀ v ∈ vs, ∃ d ∈ ds, Rp K B v d
  | _, _, .nil, _, h => nomatch h
  | _, _, .cons r t, v, h => by
    rcases List.mem_cons.mp h with rfl | h
    · exact ⟨_, List.mem_cons_self, r⟩
    · obtain ⟨d, m, q⟩ := mem_paired t v h
      exact ⟨d, List.mem_cons_of_mem _ m, q⟩
theorem cr_sortP : CallR X (.builtin "sorted") (rDA X.K gSortP) := by
  intro pins s σ H vs us Q I r h
  obtain ⟨B, ds, P, sB, ra, hg, hQ⟩ := h
  match ds, hg with
  | [.list xs], hg =>
    obtain ⟨h64, ⟨b, hb⟩, hg⟩ := hg
    obtain ⟨v, rfl, rv⟩ := ra.one
    cases rv with
    | lst h rr =>
      refine cr_sortT (d := 2) (B := b) (by decide) pins s σ H _ us Q I r ⟨_, _, rfl, .of (sB _ _ h), by rw [rr.length]; exact h64, fun x hx => ?_, fun ys p hp _ hn => ?_⟩
      · obtain ⟨d, hd, rd⟩ := mem_paired rr x hx
        obtain ⟨i, j, rfl, i0, i1, j0, j1⟩ := hb d hd
        cases rd with
        | tup h2 r2 =>
          have := RpA.ints (ns := [i, j]) r2
          subst this
          refine ⟨[i, j], ⟨_, rfl, same_tup sB h2⟩, rfl, fun m hm => ?_⟩
          simp only [List.mem_cons, List.not_mem_nil, or_false] at hm
          rcases hm with rfl | rfl
          · exact ⟨i0, i1⟩
          · exact ⟨j0, j1⟩
      · obtain ⟨es, pe, re⟩ := rr.permL hp
        exact hQ _ _ _ _ (hg es pe) (PExt.newOwn sB hn) ⟨p, _, rfl, hn, sB.free hn, upd_same, re⟩
/-! ## range(i, j, c), enumerate -/
def rgDc (lo c : Int) (n : Nat) : List D := (List.range n).map fun j => .int (lo + (j : Nat) * c)
theorem rgDc_len (lo c : Int) (n : Nat) : (rgDc lo c n).length = n := by simp [rgDc]
theorem rgDc_get {lo c : Int} {n i : Nat} {d : D} (h : (rgDc lo c n)[i]? = some d) : i < n ∧ d = .int (lo + (i : Nat) * c) := by
  unfold rgDc at h
  rw [List.getElem?_map] at h
  cases q : (List.range n)[i]? with
  | none => rw [q] at h; cases h
  | some j =>
    rw [q] at h
    obtain ⟨h1, h2⟩ := List.getElem?_eq_some_iff.mp q
    rw [List.getElem_range] at h2
    subst h2
    cases h
    exact ⟨by simpa using h1, rfl⟩
theorem seq_rangeC {K : PySem.W.Frag} {B : Hp} {lo c : Int} {n : Nat} : SeqJ K (Itc lo c n) B (rgDc lo c n) := fun B' H' s1 s2 => by
  refine ⟨fun i d hd => ?_, fun i hi => by rw [rgDc_len] at hi; exact hi⟩
  obtain ⟨h1, rfl⟩ := rgDc_get hd
  refine ⟨h1, fun x H'' y => ?_⟩
  obtain ⟨rfl, rfl⟩ := y
  exact ⟨B', PExt.refl s2, .int _⟩
def kiR3 (P : List D → Prop) (ls : List L) : Prop := ∃ m n c : Int, ls = [.val (.int m), .val (.int n), .val (.int c)] ∧ c = -1 ∧ (-(2 ^ 62) ≤ m ∧ m < 2 ^ 62 ∧ -(2 ^ 62) ≤ n ∧ n < 2 ^ 62) ∧ P (rgDc m (-1) (m - n).toNat)
def wiR3 (wr : WA) (ρ : En) (P : List D → Prop) (Px : Str → Prop) : Prop := wr ρ (kiR3 P) Px
variable {tg it : Expr} {wr : WA}
theorem fi_range3 {p : Pos} (hg : Gl X "range") (hm : X.mg "range" = none) (ha : FA X E [a, b, c] wr) (hs : starEach [a, b, c] X.env = (false, eval a X.env) :: starEach [b, c] X.env := by rfl) (hs2 : (backTo pos (starEach [b, c] X.env)).any (·.1) = false := by rfl) : FI X E tg (.Call (.Name "range" p) [a, b, c] [] pos) (wiR3 wr) :=
  ⟨pi_imp (pi_range3 hg hm ha.pa hs hs2) fun σ H R ⟨T0, B0, H0, T, B, ρ, P, Px, o, hw, hR, hx⟩ => ⟨T0, B0, H0, T, B, ρ, _, Px, o, hw, fun ls vs B1 H1 p e r => by
    obtain ⟨m, n, k, rfl, rfl, ⟨b1, b2, b3, b4⟩, p⟩ := p
    cases r with
    | cons r1 r2 =>
      cases r2 with
      | cons r2 r3 =>
        cases r3 with
        | cons r3 r4 =>
        cases r4
        have q1 := rpg_int r1
        have q2 := rpg_int r2
        have q3 := rpg_int r3
        subst q1 q2 q3
        exact ⟨m, n, -1, _, rfl, RgC.neg b1 b2 b3 b4, hR _ _ _ _ p e seq_rangeC⟩, hx⟩⟩
def enD (xs : List D) : List D := (List.range xs.length).map fun i => .tuple [.int (i : Nat), xs.getD i .none]
theorem enD_get {xs : List D} {i : Nat} {d : D} (h : (enD xs)[i]? = some d) : ∃ x, xs[i]? = some x ∧ d = .tuple [.int (i : Nat), x] := by
  unfold enD at h
  rw [List.getElem?_map] at h
  cases q : (List.range xs.length)[i]? with
  | none => rw [q] at h; cases h
  | some j =>
    rw [q] at h
    obtain ⟨h1, h2⟩ := List.getElem?_eq_some_iff.mp q
    rw [List.getElem_range] at h2
    subst h2
    rw [List.length_range] at h1
    cases h
    exact ⟨_, List.getElem?_eq_getElem h1, by show PyData.tuple [.int (i : Nat), xs.getD i .none] = _; rw [List.getD_eq_getElem?_getD, List.getElem?_eq_getElem h1]; rfl⟩
theorem seq_enum {K : PySem.W.Frag} {B : Hp} {p : Addr} {vs : List V} {ds : List D} (hp : B p = some (.lst vs)) (r : RpA K B vs ds) : SeqJ K (Ite K p) B (enD ds) := fun B' H' s1 s2 => by
  refine ⟨fun i d hd => ?_, fun i hi => ?_⟩
  · obtain ⟨x, hx, rfl⟩ := enD_get hd
    obtain ⟨v, hv, rv⟩ := r.get hx
    refine ⟨⟨vs, v, .of (s2 _ _ (s1 _ _ hp)), hv⟩, fun y H'' yl => ?_⟩
    obtain ⟨T, x', rfl, hT, rfl, hx'⟩ := yl
    have ev := hx' vs (.of (s2 _ _ (s1 _ _ hp))) 
    have ev2 := ev.symm.trans hv
    cases ev2
    have pe := PExt.new (o := .tup [.int (i : Nat), v]) s2 hT
    exact ⟨_, pe, .tup (.of upd_same) (.cons (.int _) (.cons ((rv.mono s1).mono pe.b) .nil))⟩
  · have z : (enD ds).length = ds.length := by simp [enD]
    rw [z] at hi
    exact ⟨vs, .of (s2 _ _ (s1 _ _ hp)), by rw [r.length]; exact hi⟩
def kiE (P : List D → Prop) (l : L) : Prop := ∃ xs, l.d? = some (.list xs) ∧ P (enD xs)
def wiE (w : WE) (ρ : En) (P : List D → Prop) (Px : Str → Prop) : Prop := w ρ (kiE P) Px
theorem fi_enum {p tpos : Pos} {elts : List Expr} {kk : Nat} (hg : Gl X "enumerate") (hm : X.mg "enumerate" = none) (ha : FE X E a w) (hs : starEach [a] X.env = [(false, eval a X.env)] := by rfl) :
    FI X E (.Tuple elts kk tpos) (.Call (.Name "enumerate" p) [a] [] pos) (wiE w) :=
  ⟨pi_imp (pi_enum hg hm (pa_cons ha.pe pa_nil hs) hs) fun σ H R ⟨T0, B0, H0, T, B, ρ, P, Px, o, hw, hR, hx⟩ => ⟨T0, B0, H0, T, B, ρ, _, Px, o, hw, fun l v B1 H1 p e r => by
    obtain ⟨xs, hd, p⟩ := p
    obtain ⟨B1', e', s', rd⟩ := to_d e r hd
    cases rd with
    | lst h r => exact ⟨_, _, rfl, .of (e'.s _ _ h), hR _ _ _ _ p e' (seq_enum h r)⟩, hx⟩⟩
end
end Pz

set_option Elab.async false
set_option linter.all false
set_option autoImplicit false
set_option maxRecDepth 100000
namespace Pz
open PySem PySem.Spec PyProof.Rows L2

/-! ## min(xs, default=None), ints -/
section
variable {prog : Program} {w : World} {A : Around} {E : Value → Shared → Prop} {I S : Addr} {fp wr : List Addr} {G : Array GenState → Array GenState → Prop} {n : Nat} {Pv : Nat → Value → Prop} {St : Nat → Shared → Prop} {R : Result → Shared → Prop} {bt : Nat → Nat → Bool} {d : Value}
abbrev mdArgs (I S : Addr) (d : Value) : Args := ⟨[.ref I, .none, .ref S], [("default", d)]⟩
abbrev bestO (c : Nat) (xs : Array Value) : Obj := { cls := .type "list", dict := none, data := .seq xs c, slots := #[] }
theorem md_name : (toString "min" ++ toString ".loop" : String) = "min.loop" := by decide
/-- with a best so far -/
theorem md_more (W : WalksS prog w A.in1 I fp wr G n Pv St) (cmp : CmpOf prog w A.in1 .Lt Pv bt) (nS : S ∉ fp) : ∀ (left j : Nat) (s : Shared) (vb : Value) (c : Nat), n - (j + 1) = left → j + 1 ≤ n → St (j + 1) s → Pv (argBest bt j) vb → s.heap.get? S = some (bestO c #[vb, vb]) →
    (∀ v t, Pv (argBest bt (n - 1)) v → Moved (S :: wr) G s t → R (.ok (.ret v)) t) → codeAny (model prog w) A (.builtin "min.loop" (mdArgs I S d)) R s := by
  have nW : S ∉ wr := fun z => nS (W.sub _ z)
  have up : ∀ b ∈ wr, b ∈ S :: wr := fun b z => List.mem_cons_of_mem _ z
  have oth : ∀ {b : Addr}, b ∉ S :: wr → S ≠ b := fun z e => z (e ▸ List.mem_cons_self)
  intro left
  induction left with
  | zero =>
    intro j s vb c hl hj st hP hB hR
    have last : j + 1 = n := by omega
    refine codeAny_builtin (R := R) F.entry_min_loop ?_
    rw [Around.under_plainId (id := "min.loop") F.plain_min_loop]
    show wpAny (model prog w) A.in1 (seqItems? (.ref S) >>= _) _ _ s
    refine wpAny_bind (wpAny_seqItems hB rfl (wpAny_bind (wpAny_tryCatch (W.done s _ _ (last ▸ st) fun t m => ?_))))
    have hB2 := m.heap S _ nW hB
    show wpAny (model prog w) A.in1 (updateSeq S (fun _ => #[]) >>= _) _ _ t
    refine wpAny_bind (wpAny_updateSeq hB2 rfl (wpAny_bind (wpAny_letGo (wpAny_pure (hR vb _ (last ▸ hP) ?_)))))
    exact (m.mono up).then_heap (tk := t.toks) (Nat.le_refl _) fun b o z e => (Heap.get?_update_other _ _ (oth z)).trans e
  | succ left ih =>
    intro j s vb c hl hj st hP hB hR
    have more : j + 1 < n := by omega
    refine codeAny_builtin (R := R) F.entry_min_loop ?_
    rw [Around.under_plainId (id := "min.loop") F.plain_min_loop]
    show wpAny (model prog w) A.in1 (seqItems? (.ref S) >>= _) _ _ s
    refine wpAny_bind (wpAny_seqItems hB rfl (wpAny_bind (wpAny_tryCatch (W.item (j + 1) s _ _ more st fun v t hv st2 m => ?_))))
    have hB2 := m.heap S _ nW hB
    show wpAny (model prog w) A.in1 (tryCatch (holding [v, v] (richCompare .Lt v vb >>= _)) _ >>= _) _ _ t
    refine wpAny_bind (wpAny_tryCatch (wpAny_holding (wpAny_bind (cmp (j + 1) (argBest bt j) v vb _ _ _ hv hP (wpAny_bind (wpAny_holding (wpAny_truthy_bool (wpAny_bind (wpAny_letGo (wpAny_pure ?_))))))))))
    have eb : argBest bt (j + 1) = if bt (j + 1) (argBest bt j) = true then j + 1 else argBest bt j := by simp only [argBest]
    cases q : bt (j + 1) (argBest bt j) with
    | true =>
      simp only [if_true]
      refine wpAny_bind (wpAny_updateSeq hB2 rfl (wpAny_bind (wpAny_letGo ?_)))
      rw [md_name]
      rw [q, if_pos rfl] at eb
      refine wpAny_pure ⟨plainId_quiet F.plain_min_loop _, ih (j + 1) _ v c (by omega) more (W.frame _ t _ t.toks st2 (Nat.le_refl _) fun b z o e => (Heap.get?_update_other _ _ (fun y : S = b => nS (y ▸ z))).trans e) (by rw [eb]; exact hv) (Heap.get?_update_self _ hB2 rfl) fun v2 t2 hv2 m2 => hR v2 t2 hv2 ?_⟩
      exact Moved.trans W.gtrans ((m.mono up).then_heap (Nat.le_refl _) fun b o z e => (Heap.get?_update_other _ _ (oth z)).trans e) m2
    | false =>
      simp only [Bool.false_eq_true, if_false]
      refine wpAny_bind (wpAny_letGo ?_)
      rw [md_name]
      rw [q, if_neg (by decide)] at eb
      exact wpAny_pure ⟨plainId_quiet F.plain_min_loop _, ih (j + 1) _ vb c (by omega) more st2 (by rw [eb]; exact hP) hB2 fun v2 t2 hv2 m2 => hR v2 t2 hv2 (Moved.trans W.gtrans (m.mono up) m2)⟩
/-- the first -/
theorem md_first (W : WalksS prog w A.in1 I fp wr G n Pv St) (cmp : CmpOf prog w A.in1 .Lt Pv bt) (nS : S ∉ fp) {s : Shared} {c : Nat} (st : St 0 s) (hB : s.heap.get? S = some (bestO c #[]))
    (h0 : n = 0 → ∀ t, Moved (S :: wr) G s t → R (.ok (.ret d)) t) (hR : 0 < n → ∀ v t, Pv (argBest bt (n - 1)) v → Moved (S :: wr) G s t → R (.ok (.ret v)) t) : codeAny (model prog w) A (.builtin "min.loop" (mdArgs I S d)) R s := by
  have nW : S ∉ wr := fun z => nS (W.sub _ z)
  have up : ∀ b ∈ wr, b ∈ S :: wr := fun b z => List.mem_cons_of_mem _ z
  have oth : ∀ {b : Addr}, b ∉ S :: wr → S ≠ b := fun z e => z (e ▸ List.mem_cons_self)
  refine codeAny_builtin (R := R) F.entry_min_loop ?_
  rw [Around.under_plainId (id := "min.loop") F.plain_min_loop]
  show wpAny (model prog w) A.in1 (seqItems? (.ref S) >>= _) _ _ s
  by_cases hn : n = 0
  · refine wpAny_bind (wpAny_seqItems hB rfl (wpAny_bind (wpAny_tryCatch (W.done s _ _ (hn ▸ st) fun t m => ?_))))
    exact wpAny_bind (wpAny_rule (wpAny_pure (h0 hn t (m.mono up))))
  · have hp : 0 < n := by omega
    refine wpAny_bind (wpAny_seqItems hB rfl (wpAny_bind (wpAny_tryCatch (W.item 0 s _ _ hp st fun v t hv st2 m => ?_))))
    have hB2 := m.heap S _ nW hB
    show wpAny (model prog w) A.in1 (updateSeq S (fun _ => #[v, v]) >>= _) _ _ t
    refine wpAny_bind (wpAny_updateSeq hB2 rfl ?_)
    rw [md_name]
    refine wpAny_pure ⟨plainId_quiet F.plain_min_loop _, md_more W cmp nS _ 0 _ v _ rfl hp (W.frame _ t _ t.toks st2 (Nat.le_refl _) fun b z o e => (Heap.get?_update_other _ _ (fun y : S = b => nS (y ▸ z))).trans e) hv (Heap.get?_update_self _ hB2 rfl) fun v2 t2 hv2 m2 => hR hp v2 t2 hv2 ?_⟩
    exact Moved.trans W.gtrans ((m.mono up).then_heap (Nat.le_refl _) fun b o z e => (Heap.get?_update_other _ _ (oth z)).trans e) m2
theorem md_argsOk (a b : Value) : argsOk "min" ⟨[a], [(Str.ofString "default", b)]⟩ := by unfold argsOk; kernel_rfl
/-- min(l, default=d), l a list of ints -/
theorem md_call {s : Shared} {l : Addr} {xs : Array (Int × Tok)} {Q : Value → Shared → Prop} (hh : A.handled = none) (hl : s.heap.IsList l (intItems xs))
    (h0 : xs.size = 0 → ∀ h' tk, (∀ b o, s.heap.get? b = some o → h'.get? b = some o) → Q d { s with heap := h', toks := tk })
    (h : 0 < xs.size → ∀ v h' tk, (intItems xs)[argBest (fun i j => decide (numAt xs i < numAt xs j)) (xs.size - 1)]? = some v → (∀ b o, s.heap.get? b = some o → h'.get? b = some o) → Q v { s with heap := h', toks := tk }) :
    wpAny (model prog w) A (call (.builtin "min") [.ref l] [(Str.ofString "default", d)]) Q E s := by
  have body : wpAny (model prog w) A.in1 (Builtin.«min» ⟨[.ref l], [(Str.ofString "default", d)]⟩) (fun fin s' => match fin with
      | .done f => (match (Except.ok f : Result) with | .ok (.ret v) => Q v s' | .ok _ => False | .error e => E e s')
      | .again c' => c'.quiet = true ∧ codeAny (model prog w) A c' (fun r s' => match r with | .ok (.ret v) => Q v s' | .ok _ => False | .error e => E e s') s') E s := by
    show wpAny _ A.in1 (Builtin.Builtins.bindParams "min" ["key", "default"] 0 ⟨[], [(Str.ofString "default", d)]⟩ >>= _) _ _ s
    refine wpAny_bind (wpAny_of_eq (show Builtin.Builtins.bindParams "min" ["key", "default"] 0 ⟨[], [(Str.ofString "default", d)]⟩ = pure [none, some d] from rfl) ?_)
    refine wpAny_bind (m := pure (Value.ref l)) (wpAny_pure ?_)
    refine wpAny_bind (iter_intList hl fun s₂ e st hfp hlI => ?_)
    subst e
    refine wpAny_bind (wpAny_newObj_type ?_)
    rw [md_name]
    have hz : (s.heap.push { cls := .type "list_iterator", data := .fields #[.ref l, .int 0 0] }).objs.size = s.heap.objs.size + 1 := Heap.size_push ..
    have W := (Walks.list (prog := prog) (w := w) (A := A.in1) hh _ l hlI (intItems xs)).toS
    have sz : (intItems xs).size = xs.size := by simp [intItems]
    refine wpAny_pure ⟨plainId_quiet F.plain_min_loop _, md_first W (CmpOf.ints_lt (numAt xs) (fun _ _ => intItems_at)) (fun z => Nat.lt_irrefl _ (hfp _ z)) (W.frame 0 _ _ s.toks st (Nat.le_refl _) fun b _ o e => Heap.get?_push_of_some _ e) (Heap.get?_push_size _ rfl) (fun z t m => ?_) fun z v t hv m => ?_⟩
    · have m := m.drop_new (tk := s.toks) (Nat.le_refl _)
      show Q d t
      have et := Moved.eq_with m
      rw [et]
      exact h0 (by rw [← sz]; exact z) _ _ (old_kept m.heap)
    · have m := m.drop_new (tk := s.toks) (Nat.le_refl _)
      show Q v t
      have et := Moved.eq_with m
      rw [et]
      exact h (by rw [← sz]; exact z) v _ _ (by rw [← sz]; exact hv) (old_kept m.heap)
  refine wpAny_call (codeAny_call_builtin F.plain_min F.entry_min ?_)
  simp only [checkBuiltinCall, F.kind_min]
  have ha := md_argsOk (.ref l) d
  cases hsig : Manifest.signature? "min" with
  | none => exact wpAny_pure body
  | some sig =>
    simp only [argsOk, hsig] at ha
    have h2 : Bind.checkArgs "min" sig ⟨[.ref l], [(Str.ofString "default", d)]⟩ = pure () := ha
    simp only [h2]
    exact wpAny_pure body
end
section
variable {X : Cx} {E : XK} {a : Expr} {w : WE}
def rMinD (K : PySem.W.Frag) : List V → List V → Hp → VK → Prop := fun vs zs H Q => ∃ (p : Addr) (ns : List Int), vs = [.ref p] ∧ zs = [.non] ∧ SqL K H p (ns.map V.int) ∧ (ns = [] → Q .non H) ∧ ∀ m, m ∈ ns → (∀ j ∈ ns, m ≤ j) → Q (.int m) H
theorem cr_minD (hc : X.calm = true) : CallRK X (.builtin "min") [Str.ofString "default"] (rMinD X.K) := by
  intro pins s σ H vs zs us ws Q I r rz h
  obtain ⟨p, ns, rfl, rfl, hs, q0, q1⟩ := h
  obtain ⟨its, rv, hl, _⟩ := I.list hs
  obtain rfl := Vals.ref1 r
  obtain ⟨w1, rfl, e1⟩ := vals1 rz
  obtain rfl : w1 = Value.none := e1
  have hi := rv.ints
  obtain ⟨xs, e⟩ := hi.allInts.items
  have hns : ns = xs.toList.map (·.1) := by
    have z : numsOf (intItems xs).toList = ns := by rw [← e]; exact hi.numsOf
    rw [nums_intItems] at z
    exact z.symm
  have hL := hl.isList
  rw [e] at hL
  have hsz : ns.length = xs.size := by rw [hns, List.length_map, Array.length_toList]
  refine md_call (I.ok.hd hc) hL (fun z h' tk hk => ⟨.non, H, I.kept hk, rfl, q0 (List.eq_nil_of_length_eq_zero (by omega))⟩) fun z v h' tk hv hk => ?_
  obtain ⟨t, rfl⟩ := intItems_at hv
  obtain ⟨h1, h2⟩ := argBest_lt (numAt xs) (xs.size - 1)
  refine ⟨.int _, H, I.kept hk, ⟨_, rfl⟩, q1 _ ?_ fun j hj => ?_⟩
  · rw [hns, numAt_eq]; exact getD_mem (by rw [List.length_map, Array.length_toList]; omega)
  · rw [hns] at hj
    obtain ⟨i, hi, rfl⟩ := mem_getD hj
    rw [List.length_map, Array.length_toList] at hi
    rw [← numAt_eq]; exact h2 i (by omega)
def gMinD : D → (L → Prop) → Prop
  | .list xs, P => ∃ ns, intsD? xs = some ns ∧ (ns = [] → P (.val .none)) ∧ ∀ m, m ∈ ns → (∀ j ∈ ns, m ≤ j) → P (.val (.int m))
  | _, _ => False
theorem fe_minD {p pos kp cp : Pos} (hc : X.calm = true) (hg : Gl X "min") (hm : X.mg "min" = none) (ha : FE X E a w)
    (he : starEach [a] X.env = (false, eval a X.env) :: starEach [] X.env)
    (h1 : backTo pos (starEach [a] X.env) = (false, eval a X.env) :: backTo pos (starEach [] X.env)) (h2 : (backTo pos (starEach [a] X.env)).any (·.1) = false)
    (h3 : (backToKw pos (keywordEach [⟨some "default", .Constant .none 0 cp, kp⟩] X.env)).all (·.1.isSome) = true) (h4 : (backToKw pos (keywordEach [⟨some "default", .Constant .none 0 cp, kp⟩] X.env)).any (·.1.isNone) = false) (h5 : (backToKw pos (keywordEach [⟨some "default", .Constant .none 0 cp, kp⟩] X.env)).filterMap (·.1) = [Str.ofString "default"]) :
    FE X E (.Call (.Name "min" p) [a] [⟨some "default", .Constant .none 0 cp, kp⟩] pos) (w1 gMinD w) :=
  ⟨pe_imp (pe_callBK (cr_minD hc) hg hm (by decide +kernel) (pa_cons ha.pe pa_nil he) (pk_cons pe_non pk_nil) (by decide) (by decide) h1 h2 h3 h4 h5) fun σ H Q ⟨T0, B0, H0, T, B, ρ, P, Px, o, hw, hQ, hx⟩ => ⟨T0, B0, H0, T, B, ρ, _, Px, o, hw, fun l v B1 H1 p e r => by
    obtain ⟨d, hd, p⟩ := p
    obtain ⟨B1', e', s', rd⟩ := to_d e r hd
    match d, p with
    | .list xs, p =>
      obtain ⟨ns, en, p0, p1⟩ := p
      have en := intsD_of en
      subst en
      cases rd with
      | lst h rr =>
        have := rr.ints
        subst this
        exact ⟨_, ns, rfl, rfl, .of (e'.s _ _ h), fun z => hQ _ _ _ _ (p0 z) e' .non, fun m h1 h2 => hQ _ _ _ _ (p1 m h1 h2) e' (.int m)⟩, hx⟩⟩
end

/-! ## sorted(set(xs)), ints -/
section
variable {X : Cx} {E : XK} {a : Expr} {w : WE}
def rSetTI (K : PySem.W.Frag) (w : World) : List V → Hp → VK → Prop := fun vs H Q => ∃ (p : Addr) (ns : List Int), vs = [.ref p] ∧ SqT K H p (ns.map V.int) ∧ ns.length ≤ 60 ∧
  ∀ (q : Addr) (c : Nat), c ≤ ns.length → H q = none → Q (.ref q) (upd H q (SetO w q (fun j => decide (j ∈ ns)) c))
theorem cr_setTI (hc : X.calm = true) : CallR X (.type "set") (rSetTI X.K X.w) := by
  intro pins s σ H vs us Q I r h
  obtain ⟨p, ns, rfl, hs, hl, q⟩ := h
  obtain ⟨its, rv, pt, hz⟩ := I.tuple hs
  rw [Vals.ref1 r]
  refine call_set_tupI ns (I.ok.hd hc) (show s.heap.IsTuple p its.toArray from pt) rv.ints (by unfold scanBound; omega) fun h' tk c R1 hcn k => ?_
  have hn : H s.heap.objs.size = none := I.hok.fresh (Nat.le_refl _)
  exact ⟨.ref _, upd H s.heap.objs.size (SetO X.w s.heap.objs.size (fun j => decide (j ∈ ns)) c), I.laid (t' := tk) k (Nat.le_refl _) (setO_new R1), rfl, q _ c hcn hn⟩
def gSortSetT : D → (L → Prop) → Prop
  | .tuple xs, P => ∃ ns, intsD? xs = some ns ∧ ns.length ≤ 60 ∧ ∀ ns' : List Int, ns'.Pairwise (· < ·) → (∀ k : Int, k ∈ ns' ↔ k ∈ ns) → P (.own (ns'.map .int))
  | _, _ => False
theorem fe_sortSetT {p p2 pos pos2 : Pos} (hc : X.calm = true) (hg : Gl X "sorted") (hm : X.mg "sorted" = none) (hg2 : Gl X "set") (hm2 : X.mg "set" = none) (ha : FE X E a w)
    (h1 : starEach [a] X.env = (false, eval a X.env) :: starEach [] X.env) (h3 : (backTo pos2 (starEach [] X.env)).any (·.1) = false) (h4 : starEach [.Call (.Name "set" p2) [a] [] pos2] X.env = (false, eval (.Call (.Name "set" p2) [a] [] pos2) X.env) :: starEach [] X.env) (h6 : (backTo pos (starEach [] X.env)).any (·.1) = false) :
    FE X E (.Call (.Name "sorted" p) [.Call (.Name "set" p2) [a] [] pos2] [] pos) (w1 gSortSetT w) :=
  ⟨pe_imp (pe_callB (cr_sortedSet hc) hg hm (by decide +kernel) (pa_cons (pe_callTy (cr_setTI hc) hg2 hm2 (by decide +kernel) (pa_cons ha.pe pa_nil h1) (by decide) (by decide) h1 h3) pa_nil h4) (by decide) (by decide) h4 h6) fun σ H Q ⟨T0, B0, H0, T, B, ρ, P, Px, o, hw, hQ, hx⟩ => ⟨T0, B0, H0, T, B, ρ, _, Px, o, hw, fun l v B1 H1 p e r => by
    obtain ⟨d, hd, p⟩ := p
    obtain ⟨B1', e', s', rd⟩ := to_d e r hd
    match d, p with
    | .tuple xs, p =>
      obtain ⟨ns, en, hlen, p1⟩ := p
      have en := intsD_of en
      subst en
      cases rd with
      | tup h rr =>
        have := rr.ints
        subst this
        refine ⟨_, ns, rfl, same_tup e'.s h, hlen, fun q c hcn hq => ?_⟩
        refine ⟨q, _, c, rfl, upd_same, by omega, fun ns' t hs hk hcl ht => ?_⟩
        have e2 : PExt B1' H1 B1' (upd H1 q (SetO X.w q (fun j => decide (j ∈ ns)) c)) := PExt.newOwn e'.s hq
        have e3 := e'.trans (e2.ext e'.t)
        have e4 : PExt B1' (upd H1 q (SetO X.w q (fun j => decide (j ∈ ns)) c)) B1' (upd (upd H1 q (SetO X.w q (fun j => decide (j ∈ ns)) c)) t (.lst (ns'.map V.int))) := PExt.newOwn e3.s ht
        exact hQ _ _ _ _ (p1 ns' hs fun k => by rw [hk k, decide_eq_true_eq]) (e3.trans (e4.ext e3.t)) ⟨t, _, rfl, e3.free o.sub (.of ht), e3.s.free ht, not_hat e3.t ht, upd_same, RpA.of_ints ns'⟩, hx⟩⟩
end

/-! ## xs.count(k), ints -/
section
variable {X : Cx} {E : XK} {a e : Expr} {wa we : WE}
def kCntB (xs : List D) (P : L → Prop) (l : L) : Prop := ∃ k : Int, l.d? = some (.int k) ∧ ∃ ns, intsD? xs = some ns ∧ P (.val (.int (ns.count k : Nat)))
def kCntA (we : WE) (ρ : En) (P : L → Prop) (Px : Str → Prop) (l : L) : Prop := ∃ xs, l.d? = some (.list xs) ∧ we ρ (kCntB xs P) Px
def wCnt (wa we : WE) (ρ : En) (P : L → Prop) (Px : Str → Prop) : Prop := wa ρ (kCntA we ρ P Px) Px
theorem fe_lcount {apos cpos : Pos} (ho : FE X E a wa) (he : FE X E e we) (h1 : starEach [e] X.env = (false, eval e X.env) :: starEach [] X.env)
    (hbase : attributeBase a "count" X.env (eval a X.env) = eval a X.env)
    (hfew : ((backTo cpos (starEach [e] X.env)).all (fun x => !x.1) && (backToKw cpos (keywordEach [] X.env)).all (fun x => x.1.isSome) && decide ([e].length + ([] : List Keyword).length + (if ([] : List Keyword).isEmpty then 0 else 1) < 30)) = true)
    (hline : (apos.endLine == cpos.line) = true) (hplain : (backTo cpos (starEach [] X.env)).any (·.1) = false) :
    FE X E (.Call (.Attribute a "count" apos) [e] [] cpos) (wCnt wa we) :=
  ⟨pe_imp (pe_bm F.plainAttrs_list F.slot_list_count F.type_list_count mt_lcount ho.pe (pa_cons he.pe pa_nil h1) hbase hfew hline h1 hplain) fun σ H Q ⟨T0, B0, H0, T, B, ρ, P, Px, o, hw, hQ, hx⟩ => ⟨T0, B0, H0, T, B, ρ, _, Px, o, hw, fun l v B1 H1 p e r => by
    obtain ⟨xs, hd, p⟩ := p
    obtain ⟨B1', e', s', rd⟩ := to_d e r hd
    cases rd with
    | lst h rr =>
      refine ⟨.inl ⟨rfl, _, .of (e'.s _ _ h)⟩, T0, B0, H0, T, B1', ρ, _, Px, o.step e', p, fun l2 v2 B2 H2 p2 e2 r2 => ?_, hx.step e'⟩
      obtain ⟨k, hd2, ns, en, p2⟩ := p2
      obtain ⟨B2', e2', s2', rd2⟩ := to_d e2 r2 hd2
      have en := intsD_of en
      subst en
      cases rd2
      have := rr.ints
      subst this
      exact ⟨_, ns, k, rfl, rfl, .of (e2'.s _ _ (e2'.b _ _ h)), hQ _ _ _ _ p2 (e'.trans e2') (.int _)⟩, hx⟩⟩
end
end Pz

set_option Elab.async false
set_option linter.all false
set_option autoImplicit false
set_option maxRecDepth 100000
namespace Pz
open PySem PySem.Spec PyProof.Rows L2
theorem hu64 {A : Around} {k : Nat} (hr : Room k A) : A.units + 64 < cLine := by have := hr.un; omega
def isIntD (d : D) (lo hi : Int) : Bool := match d with
  | .int i => decide (lo ≤ i) && decide (i ≤ hi)
  | _ => false
def fitsD : D → Bool
  | .tuple ms => decide (1 ≤ ms.length) && decide (ms.length ≤ 8) && ms.all fun m => isIntD m (-9) 9
  | _ => false
theorem atI_some {α : Type} {xs : List α} {i : Int} (h0 : 0 ≤ i) (h1 : i < xs.length) : ∃ x, atI xs i = some x := by
  refine ⟨xs[i.toNat]'(by omega), ?_⟩
  unfold atI
  have e : ixN xs.length i = some i.toNat := by unfold ixN; rw [if_pos h0, if_pos h1]
  rw [e]
  exact List.getElem?_eq_getElem (by omega)
theorem atI_mem {α : Type} {xs : List α} {i : Int} {x : α} (h : atI xs i = some x) : x ∈ xs := by
  unfold atI at h
  cases q : ixN xs.length i with
  | none => rw [q] at h; cases h
  | some j => rw [q] at h; exact List.mem_of_getElem? h
theorem isEmpty_filter_not {α : Type} (p : α → Bool) : ∀ xs : List α, (xs.filter fun x => !p x).isEmpty = xs.all p
  | [] => rfl
  | x :: xs => by
    rw [List.filter_cons, List.all_cons]
    cases p x with
    | true => rw [if_neg (by decide), isEmpty_filter_not p xs]; rfl
    | false => rfl
theorem eqvAll_e (xs : List D) : PyData.eqvAll xs [] = xs.isEmpty := by cases xs <;> rfl
/-- a script -/
def Sc (ms : List Int) : Prop := 1 ≤ ms.length ∧ ms.length ≤ 8 ∧ ∀ m ∈ ms, -9 ≤ m ∧ m ≤ 9
abbrev scD (ms : List Int) : D := .tuple (ms.map .int)
theorem isInt_inv {d : D} {lo hi : Int} (h : isIntD d lo hi = true) : ∃ i, d = .int i ∧ lo ≤ i ∧ i ≤ hi := by
  cases d with
  | int i =>
    have h : (decide (lo ≤ i) && decide (i ≤ hi)) = true := h
    simp only [Bool.and_eq_true, decide_eq_true_eq] at h
    exact ⟨i, rfl, h⟩
  | _ => cases h
theorem ints_inv {lo hi : Int} : ∀ {ds : List D}, (ds.all fun m => isIntD m lo hi) = true → ∃ ms : List Int, ds = ms.map .int ∧ ∀ m ∈ ms, lo ≤ m ∧ m ≤ hi
  | [], _ => ⟨[], rfl, fun _ h => nomatch h⟩
  | d :: ds, h => by
    rw [List.all_cons, Bool.and_eq_true] at h
    obtain ⟨i, rfl, h1⟩ := isInt_inv h.1
    obtain ⟨ms, rfl, h2⟩ := ints_inv h.2
    exact ⟨i :: ms, rfl, fun m hm => by
      rcases List.mem_cons.mp hm with rfl | hm
      · exact h1
      · exact h2 m hm⟩
theorem fits_inv {d : D} (h : fitsD d = true) : ∃ ms, d = scD ms ∧ Sc ms := by
  cases d with
  | tuple ds =>
    have h : (decide (1 ≤ ds.length) && decide (ds.length ≤ 8) && ds.all fun m => isIntD m (-9) 9) = true := h
    simp only [Bool.and_eq_true, decide_eq_true_eq] at h
    obtain ⟨ms, rfl, h2⟩ := ints_inv h.2
    rw [List.length_map] at h
    exact ⟨ms, rfl, h.1.1, h.1.2, h2⟩
  | _ => cases h
theorem fits_sc {ms : List Int} (h : Sc ms) : fitsD (scD ms) = true := by
  show (decide (1 ≤ (ms.map PyData.int).length) && decide ((ms.map PyData.int).length ≤ 8) && (ms.map PyData.int).all fun m => isIntD m (-9) 9) = true
  rw [List.length_map, decide_eq_true h.1, decide_eq_true h.2.1, List.all_map, Bool.true_and, Bool.true_and, List.all_eq_true]
  intro m hm
  show (decide (-9 ≤ m) && decide (m ≤ 9)) = true
  rw [decide_eq_true (h.2.2 m hm).1, decide_eq_true (h.2.2 m hm).2]; rfl
theorem sh_ints {n : Nat} (ns : List Int) : ∀ x ∈ ns.map PyData.int, Sh n x := fun x hx => by
  obtain ⟨i, _, rfl⟩ := List.mem_map.mp hx
  exact sh_int n i
theorem sh_sc (ms : List Int) : Sh 20 (scD ms) := by
  rw [sh_tuple _ (by decide)]
  exact sh_ints ms
def placesFrom (p : Int) : List Int → List Int
  | [] => []
  | m :: ms => (p + m) :: placesFrom (p + m) ms
theorem placesFrom_len (p : Int) : ∀ ms, (placesFrom p ms).length = ms.length
  | [] => rfl
  | m :: ms => by show (placesFrom (p + m) ms).length + 1 = ms.length + 1; rw [placesFrom_len]
theorem placesFrom_take (p : Int) : ∀ (ms : List Int) (j : Nat) (m : Int), ms[j]? = some m → (placesFrom p ms).take (j + 1) = (placesFrom p ms).take j ++ [p + (ms.take j).sum + m]
  | [], _, _, h => by cases h
  | a :: ms, 0, m, h => by
    cases h
    show [p + a] = [p + 0 + a]
    rw [Int.add_zero]
  | a :: ms, j + 1, m, h => by
    show (p + a) :: (placesFrom (p + a) ms).take (j + 1) = (p + a) :: ((placesFrom (p + a) ms).take j ++ [p + (a + (ms.take j).sum) + m])
    rw [placesFrom_take (p + a) ms j m h, Int.add_assoc p a]
/-! ## where the parcel is, without the ring -/

def far (ms : List Int) (k : Nat) : Int := (ms.take (k % ms.length + 1)).sum + (k / ms.length : Nat) * ms.sum
def mv (ms : List Int) (k : Nat) : Int := (ms[k % ms.length]?).getD 0
theorem placesFrom_get (p : Int) : ∀ (ms : List Int) (i : Nat), i < ms.length → (placesFrom p ms)[i]? = some (p + (ms.take (i + 1)).sum)
  | m :: ms, 0, _ => by
    show some (p + m) = some (p + (m + 0))
    rw [Int.add_zero]
  | m :: ms, i + 1, h => by
    show (placesFrom (p + m) ms)[i]? = some (p + (m + (ms.take (i + 1)).sum))
    rw [placesFrom_get (p + m) ms i (Nat.lt_of_succ_lt_succ h), Int.add_assoc]
theorem atI_nat {α : Type} {xs : List α} {i : Nat} {x : α} (h : xs[i]? = some x) : atI xs (i : Int) = some x := by
  have hi := (List.getElem?_eq_some_iff.mp h).1
  unfold atI
  have e : ixN xs.length (i : Int) = some i := by unfold ixN; rw [if_pos (by omega), if_pos (by omega)]; rfl
  rw [e]
  exact h
theorem mv_get {ms : List Int} (h : 1 ≤ ms.length) (k : Nat) : ms[k % ms.length]? = some (mv ms k) := by
  unfold mv
  rw [List.getElem?_eq_getElem (Nat.mod_lt _ h)]; rfl
theorem far_zero {ms : List Int} (h : 1 ≤ ms.length) : far ms 0 = mv ms 0 := by
  cases ms with
  | nil => exact absurd h (by decide)
  | cons m ms =>
    unfold far mv
    rw [Nat.zero_mod, Nat.zero_div]
    show m + 0 + (0 : Nat) * _ = m
    simp
theorem far_succ {ms : List Int} (h : 1 ≤ ms.length) (k : Nat) : far ms (k + 1) = far ms k + mv ms (k + 1) := by
  unfold far mv
  have hr := Nat.mod_lt k h
  have e := Nat.div_add_mod k ms.length
  by_cases c : k % ms.length + 1 < ms.length
  · have e1 : (k + 1) % ms.length = k % ms.length + 1 := by
      rw [Nat.add_mod, Nat.mod_eq_of_lt (show 1 < ms.length by omega), Nat.mod_eq_of_lt c]
    have e2 : (k + 1) / ms.length = k / ms.length := by
      rw [Nat.div_eq_iff (by omega)]; constructor <;> rw [Nat.mul_comm] <;> omega
    rw [e1, e2, take_succ_of (List.getElem?_eq_getElem c), List.sum_append, List.getElem?_eq_getElem c]
    simp; omega
  · have e0 : k % ms.length + 1 = ms.length := by omega
    have e3 : k + 1 = ms.length * (k / ms.length + 1) := by rw [Nat.mul_add]; omega
    have e1 : (k + 1) % ms.length = 0 := by rw [e3]; exact Nat.mul_mod_right _ _
    have e2 : (k + 1) / ms.length = k / ms.length + 1 := by rw [e3]; exact Nat.mul_div_cancel_left _ h
    rw [e1, e2, e0, List.take_length]
    cases ms with
    | nil => exact absurd h (by decide)
    | cons m ms =>
      show m + 0 + _ = _ + m
      rw [Int.natCast_add, Int.add_mul]; simp only [Int.natCast_one, Int.one_mul, Int.add_zero]; omega
theorem far_step {ms : List Int} (h : 1 ≤ ms.length) (n : Int) (k : Nat) : (far ms k % n + mv ms (k + 1)) % n = far ms (k + 1) % n := by
  rw [far_succ h, Int.emod_add_emod]
theorem mv_bd {ms : List Int} (h : Sc ms) (k : Nat) : -9 ≤ mv ms k ∧ mv ms k ≤ 9 := h.2.2 _ (List.mem_of_getElem? (mv_get h.1 k))
theorem sum_bd {b : Int} : ∀ {ms : List Int}, (∀ m ∈ ms, -b ≤ m ∧ m ≤ b) → -b * ms.length ≤ ms.sum ∧ ms.sum ≤ b * ms.length
  | [], _ => by simp
  | m :: ms, h => by
    have h1 := h m List.mem_cons_self
    have h2 := sum_bd (ms := ms) fun x hx => h x (List.mem_cons_of_mem _ hx)
    rw [List.sum_cons, List.length_cons, Int.natCast_add]
    constructor
    · rw [Int.mul_add]; simp; omega
    · rw [Int.mul_add]; simp; omega
theorem Sc.sum {ms : List Int} (h : Sc ms) : -72 ≤ ms.sum ∧ ms.sum ≤ 72 := by
  have := sum_bd (b := 9) h.2.2
  have h8 := h.2.1
  omega
theorem isInt_of {i lo hi : Int} (h1 : lo ≤ i) (h2 : i ≤ hi) : isIntD (.int i) lo hi = true := by
  show (decide (lo ≤ i) && decide (i ≤ hi)) = true
  rw [decide_eq_true h1, decide_eq_true h2]; rfl

theorem mulOk_bd {i j : Int} (a : -(10 ^ 400) ≤ i) (b : i ≤ 10 ^ 400) (c : -(10 ^ 400) ≤ j) (d : j ≤ 10 ^ 400) : MulOk i j :=
  .inr ⟨⟨Int.lt_of_lt_of_le (by decide +kernel) a, Int.lt_of_le_of_lt b (by decide +kernel)⟩, Int.lt_of_lt_of_le (by decide +kernel) c, Int.lt_of_le_of_lt d (by decide +kernel)⟩
theorem lt500 {i : Int} (h : i ≤ 10 ^ 400) : i < 10 ^ 500 := Int.lt_of_le_of_lt h (by decide +kernel)
theorem big400 {i : Int} (h : i ≤ 10 ^ 30) : i ≤ 10 ^ 400 := Int.le_trans h (by decide +kernel)
theorem neg400 {i : Int} (h : -(10 ^ 30) ≤ i) : -(10 ^ 400) ≤ i := Int.le_trans (by decide +kernel) h

theorem eqvAll_selfI {α : Type} (f : α → Int) (xs : List α) : PyData.eqvAll (xs.map fun k => .int (f k)) (xs.map fun k => .int (f k)) = true := by
  rw [show (xs.map fun k => PyData.int (f k)) = (xs.map f).map .int by rw [List.map_map]; rfl, eqvAll_ints]
  exact decide_eq_true rfl
/-- a loop over a range whose rounds keep a form -/
theorem wFor_keep {wi : WI} {g : WG} {u : WS} {ρ : En} {N : EndsD} {lo : Int} {n : Nat} (hwi : ∀ Q : List D → Prop, Q (rgD lo n) → wi ρ Q N.ex) (I : En → Prop) (h0 : I ρ)
    (hs : ∀ (j : Nat) ρ', j < n → I ρ' → g ρ' (.int (lo + (j : Nat))) (kBody u I N)) (hd : ∀ ρ', I ρ' → N.nx ρ') : wFor wi g u ρ N :=
  wFor_of hwi (fun _ => I) h0 (fun j x ρ' hx hI => by obtain ⟨h1, rfl⟩ := rgD_get hx; exact hs j ρ' h1 hI) hd

/-- what one mod another leaves: the same divisors -/
theorem gcd_mod (a b : Int) (hb : 0 ≤ b) : Int.gcd b (a % b) = Int.gcd a b := by
  rw [show a % b = a + (-(a / b)) * b by rw [Int.emod_def, Int.neg_mul, Int.mul_comm (a / b)]; omega, Int.gcd_add_mul_right_right, Int.gcd_comm]
theorem gcd_abs (a b : Int) : Int.gcd (max a (0 - a)) (max b (0 - b)) = Int.gcd a b := by
  have e : ∀ x : Int, (max x (0 - x)).natAbs = x.natAbs := fun x => by omega
  unfold Int.gcd
  rw [e, e]

theorem sc_inj {ms ms' : List Int} (h : scD ms = scD ms') : ms = ms' := by
  simp only [PyData.tuple.injEq] at h
  exact (List.map_inj_right (fun _ _ h => PyData.int.inj h)).mp h

theorem sc_put {ms : List Int} (hm : Sc ms) {i : Nat} (hi : i < ms.length) {v : Int} (v1 : -9 ≤ v) (v2 : v ≤ 9) : Sc (ms.take i ++ v :: ms.drop (i + 1)) := by
  have h8 := hm.2.1
  refine ⟨by rw [List.length_append, List.length_cons]; omega, by rw [List.length_append, List.length_cons, List.length_take, List.length_drop]; omega, fun m hm' => ?_⟩
  rcases List.mem_append.mp hm' with z | z
  · exact hm.2.2 m (List.mem_of_mem_take z)
  · rcases List.mem_cons.mp z with z | z
    · rw [z]; exact ⟨v1, v2⟩
    · exact hm.2.2 m (List.mem_of_mem_drop z)

theorem atI0 {α : Type} (x : α) (xs : List α) : atI (x :: xs) 0 = some x := atI_nat (i := 0) rfl
theorem atI1 {α : Type} (x y : α) (xs : List α) : atI (x :: y :: xs) 1 = some y := atI_nat (i := 1) rfl
theorem atI2 {α : Type} (x y z : α) (xs : List α) : atI (x :: y :: z :: xs) 2 = some z := atI_nat (i := 2) rfl
theorem atI3 {α : Type} (x y z a : α) (xs : List α) : atI (x :: y :: z :: a :: xs) 3 = some a := atI_nat (i := 3) rfl
theorem atI4 {α : Type} (x y z a b : α) (xs : List α) : atI (x :: y :: z :: a :: b :: xs) 4 = some b := atI_nat (i := 4) rfl

/-! ## slices, ranges -/
theorem cut_to (xs : List D) (n : Nat) : cutD xs none (some n) = xs.take n := by
  unfold cutD
  rw [HT.sIx_none, HT.sIx_nat, List.drop_zero, Nat.sub_zero, ← List.take_take, List.take_length]
theorem cut_from (xs : List D) (n : Nat) : cutD xs (some n) none = xs.drop n := by
  unfold cutD
  rw [HT.sIx_none, HT.sIx_nat]
  rcases Nat.le_total n xs.length with h | h
  · rw [Nat.min_eq_left h, List.take_of_length_le (by rw [List.length_drop]; omega)]
  · rw [Nat.min_eq_right h, List.drop_eq_nil_of_le (Nat.le_refl _), List.drop_eq_nil_of_le h, List.take_nil]
theorem cut_to' (xs : List D) (i : Int) (h : 0 ≤ i) : cutD xs none (some i) = xs.take i.toNat := by
  obtain ⟨n, rfl⟩ := Int.eq_ofNat_of_zero_le h
  exact cut_to xs n
theorem cut_from' (xs : List D) (i : Int) (h : 0 ≤ i) : cutD xs (some i) none = xs.drop i.toNat := by
  obtain ⟨n, rfl⟩ := Int.eq_ofNat_of_zero_le h
  exact cut_from xs n
section
variable {wi : WI} {g : WG} {u : WS} {wt : WT} {we : WE} {vs : List Nat} {ρ : En} {N : EndsD} {P : L → Prop} {Px : Str → Prop}
/-- a loop over lo, .., lo + n - 1 -/
theorem wFor_rg {lo : Int} {n : Nat} (hwi : ∀ Q : List D → Prop, Q (rgD lo n) → wi ρ Q N.ex) (I : Nat → En → Prop) (h0 : I 0 ρ)
    (hs : ∀ (j : Nat) ρ', j < n → I j ρ' → g ρ' (.int (lo + (j : Nat))) (kBody u (I (j + 1)) N)) (hd : ∀ ρ', I n ρ' → N.nx ρ') : wFor wi g u ρ N :=
  wFor_of hwi I h0 (fun j x ρ' hx hI => by obtain ⟨h1, rfl⟩ := rgD_get hx; exact hs j ρ' h1 hI) (by rw [rgD_len]; exact hd)
/-- a list made over lo, .., lo + n - 1 -/
theorem wLc_rg {lo : Int} {n : Nat} (hwi : ∀ Q : List D → Prop, Q (rgD lo n) → wi ρ Q Px) (hlen : n ≤ 1000000) (v : Nat → D)
    (hs : ∀ (j : Nat), j < n → ∀ (Y : D → Prop) (M : Prop), Y (v j) → g (wipeD ρ vs) (.int (lo + (j : Nat))) (kLcG wYes we Y M))
    (hP : P (.own ((List.range n).map v))) : wLc wi g wYes we vs ρ P Px := by
  refine hwi _ ⟨by rw [rgD_len]; exact hlen, fun j acc => acc = (List.range j).map v, rfl, fun j x acc hx hI => ?_, fun acc hI => ?_⟩
  · obtain ⟨h1, rfl⟩ := rgD_get hx
    refine hs j h1 (fun d => acc ++ [d] = (List.range (j + 1)).map v) _ ?_
    rw [hI, List.range_succ, List.map_append]; rfl
  · have hI : acc = (List.range (rgD lo n).length).map v := hI
    rw [hI, rgD_len]; exact hP
end
end Pz

set_option Elab.async false
set_option linter.all false
set_option autoImplicit false
set_option maxRecDepth 100000
namespace Pz
open PySem PySem.Spec PyProof.Rows L2

/-! ## two scripts beside one another -/
theorem far_add {ms : List Int} (h : 1 ≤ ms.length) (k t : Nat) : far ms (k + ms.length * t) = far ms k + t * ms.sum := by
  unfold far
  rw [Nat.add_mul_mod_self_left, Nat.add_mul_div_left _ _ h, Int.natCast_add, Int.add_mul]
  omega
theorem far_bd {ms : List Int} (h : Sc ms) : ∀ k : Nat, -(9 * (k + 1 : Nat) : Int) ≤ far ms k ∧ far ms k ≤ 9 * (k + 1 : Nat)
  | 0 => by
    rw [far_zero h.1]
    have := mv_bd h 0
    omega
  | k + 1 => by
    have := far_bd h k
    have := mv_bd h (k + 1)
    rw [far_succ h.1]
    omega
def gapf (a b : List Int) (k : Nat) : Int := far a k - far b k
theorem gap_bd {a b : List Int} (ha : Sc a) (hb : Sc b) (k : Nat) : -(18 * (k + 1 : Nat) : Int) ≤ gapf a b k ∧ gapf a b k ≤ 18 * (k + 1 : Nat) := by
  have h1 := far_bd ha k
  have h2 := far_bd hb k
  unfold gapf
  omega
def lcmL (a b : List Int) : Nat := a.length * b.length / Nat.gcd a.length b.length
theorem lcmL_eq (a b : List Int) : lcmL a b = Nat.lcm a.length b.length := rfl
theorem lcmL_pos {a b : List Int} (ha : Sc a) (hb : Sc b) : 1 ≤ lcmL a b := by
  rw [lcmL_eq]; exact Nat.lcm_pos ha.1 hb.1
theorem lcmL_le {a b : List Int} (ha : Sc a) (hb : Sc b) : lcmL a b ≤ 64 := by
  have h1 : a.length * b.length ≤ 8 * 8 := Nat.mul_le_mul ha.2.1 hb.2.1
  exact Nat.le_trans (Nat.div_le_self _ _) h1
theorem lcmL_le2 (a b : List Int) : lcmL a b ≤ a.length * b.length := Nat.div_le_self _ _
theorem gap_add {a b : List Int} (ha : Sc a) (hb : Sc b) (k : Nat) : gapf a b (k + lcmL a b) = gapf a b k + (gapf a b (lcmL a b) - gapf a b 0) := by
  obtain ⟨t, ht⟩ : a.length ∣ lcmL a b := by rw [lcmL_eq]; exact Nat.dvd_lcm_left _ _
  obtain ⟨u, hu⟩ : b.length ∣ lcmL a b := by rw [lcmL_eq]; exact Nat.dvd_lcm_right _ _
  have e1 : ∀ k, far a (k + lcmL a b) = far a k + t * a.sum := fun k => by rw [ht]; exact far_add ha.1 k t
  have e2 : ∀ k, far b (k + lcmL a b) = far b k + u * b.sum := fun k => by rw [hu]; exact far_add hb.1 k u
  have e3 := e1 0
  have e4 := e2 0
  rw [Nat.zero_add] at e3 e4
  unfold gapf
  rw [e1, e2, e3, e4]
  omega
theorem gap_all {a b : List Int} (ha : Sc a) (hb : Sc b) {n : Int} (h0 : n ∣ gapf a b (lcmL a b) - gapf a b 0) (h : ∀ k, k < lcmL a b → n ∣ gapf a b k) : ∀ k, n ∣ gapf a b k := by
  intro k
  induction k using Nat.strongRecOn with
  | ind k ih =>
    by_cases c : k < lcmL a b
    · exact h k c
    · have e : k = (k - lcmL a b) + lcmL a b := by omega
      rw [e, gap_add ha hb]
      exact Int.dvd_add (ih _ (by have := lcmL_pos ha hb; omega)) h0
theorem gap_all2 {a b : List Int} (ha : Sc a) (hb : Sc b) {n : Int} (h : ∀ k, k < 2 * lcmL a b → n ∣ gapf a b k) : ∀ k, n ∣ gapf a b k := by
  have := lcmL_pos ha hb
  exact gap_all ha hb (Int.dvd_sub (h _ (by omega)) (h _ (by omega))) fun k hk => h k (by omega)
/-- r is the first that p does not hold of -/
def Fst (p : Nat → Prop) (r : Nat) : Prop := ¬ p r ∧ ∀ k, k < r → p k
theorem Fst.uniq {p : Nat → Prop} {r s : Nat} (h : Fst p r) (h2 : Fst p s) : r = s := by
  rcases Nat.lt_trichotomy r s with c | c | c
  · exact absurd (h2.2 r c) h.1
  · exact c
  · exact absurd (h.2 s c) h2.1
theorem dvd_mod {n i : Int} : n ∣ i ↔ i % n = 0 := ⟨Int.emod_eq_zero_of_dvd, Int.dvd_of_emod_eq_zero⟩
end Pz

set_option Elab.async false
set_option linter.all false
set_option autoImplicit false
set_option maxRecDepth 100000
namespace Pz
open PySem PySem.Spec PyProof.Rows L2

/-! ## wheels -/
/-- what a wheel holds: n = s * l, s the common measure of n and a round, f the round in steps, v its inverse -/
structure Wh (ms : List Int) (n s l f v : Int) : Prop where
  n1 : 1 ≤ n
  sg : s = (Int.gcd n ms.sum : Nat)
  sl : s * l = n
  l1 : 1 ≤ l
  s1 : 1 ≤ s
  fe : f = ms.sum / s % l
  v0 : 0 ≤ v
  v1 : v < l
  iv : l ∣ f * v - 1
def turnW (s l v p : Int) : Int := (p - p % s) / s * v % l
section
variable {ms : List Int} {n s l f v : Int}
theorem Wh.sd (h : Wh ms n s l f v) : s ∣ ms.sum := by rw [h.sg]; exact Int.gcd_dvd_right ..
theorem Wh.sn (h : Wh ms n s l f v) : s ∣ n := ⟨l, h.sl.symm⟩
theorem Wh.le (h : Wh ms n s l f v) : l ≤ n ∧ s ≤ n := by
  have h1 := h.l1; have h2 := h.s1; have h3 := h.sl
  constructor
  · have := Int.mul_le_mul_of_nonneg_right h2 (show 0 ≤ l by omega); omega
  · have := Int.mul_le_mul_of_nonneg_left h1 (show 0 ≤ s by omega); omega
theorem turnW_rg (h : Wh ms n s l f v) (p : Int) : 0 ≤ turnW s l v p ∧ turnW s l v p < l :=
  ⟨Int.emod_nonneg _ (by have := h.l1; omega), Int.emod_lt_of_pos _ (by have := h.l1; omega)⟩
theorem wheel_a {A B X Y l v f m t k k1 k2 k3 k4 : Int} (a1 : X * v - A = l * k1) (a2 : Y * v - B = l * k2) (a3 : m - f = l * k3) (a4 : f * v - 1 = l * k4) (z : X - Y + t * m = l * k) :
    B - A - t = l * (-k * v + k1 - k2 + t * k4 + t * k3 * v) := by
  have h1 : B = Y * v - l * k2 := by omega
  have h2 : A = X * v - l * k1 := by omega
  have h3 : m = f + l * k3 := by omega
  have h4 : X = l * k - t * m + Y := by omega
  rw [h1, h2, h4, h3]
  grind
theorem wheel_b {A B X Y l v f m t k k1 k2 k3 k4 : Int} (a1 : X * v - A = l * k1) (a2 : Y * v - B = l * k2) (a3 : m - f = l * k3) (a4 : f * v - 1 = l * k4) (z : B - A - t = l * k) :
    X - Y + t * m = l * (-k * f + k1 * f - k2 * f + t * k3 - (X - Y) * k4) := by
  have h1 : B = Y * v - l * k2 := by omega
  have h2 : A = X * v - l * k1 := by omega
  have h3 : m = f + l * k3 := by omega
  have h4 : t = Y * v - l * k2 - (X * v - l * k1) - l * k := by omega
  have h5 : f * v = 1 + l * k4 := by omega
  have h6 : t * f = (Y - X) * (f * v) + l * f * (k1 - k2 - k) := by rw [h4]; grind
  rw [h5] at h6
  rw [h3]
  have h7 : t * (f + l * k3) = t * f + t * l * k3 := by grind
  rw [h7, h6]
  grind
/-- the mathematics of a wheel -/
theorem wheel_law (h : Wh ms n s l f v) (p c : Int) (hr : p % s = c % s) (t : Int) : n ∣ p + t * ms.sum - c ↔ l ∣ turnW s l v c - turnW s l v p - t := by
  obtain ⟨m, hm⟩ := h.sd
  have s1 := h.s1
  have hqp : (p - p % s) / s = p / s := by
    rw [show p - p % s = s * (p / s) by have := Int.mul_ediv_add_emod p s; omega]; exact Int.mul_ediv_cancel_left _ (by omega)
  have hqc : (c - c % s) / s = c / s := by
    rw [show c - c % s = s * (c / s) by have := Int.mul_ediv_add_emod c s; omega]; exact Int.mul_ediv_cancel_left _ (by omega)
  have e1 := Int.mul_ediv_add_emod p s
  have e2 := Int.mul_ediv_add_emod c s
  have ef : l ∣ m - f := by
    have z := h.fe
    rw [hm, Int.mul_ediv_cancel_left _ (by omega)] at z
    rw [z]
    exact ⟨m / l, by have := Int.mul_ediv_add_emod m l; omega⟩
  have et : ∀ q : Int, l ∣ q * v - q * v % l := fun q => ⟨q * v / l, by have := Int.mul_ediv_add_emod (q * v) l; omega⟩
  have a1 := et (p / s)
  have a2 := et (c / s)
  unfold turnW
  rw [hqp, hqc]
  generalize hA : p / s * v % l = A at *
  generalize hB : c / s * v % l = B at *
  generalize hX : p / s = X at *
  generalize hY : c / s = Y at *
  obtain ⟨k1, k1e⟩ := a1
  obtain ⟨k2, k2e⟩ := a2
  obtain ⟨k3, k3e⟩ := ef
  obtain ⟨k4, k4e⟩ := h.iv
  have hp : p + t * ms.sum - c = s * (X - Y + t * m) := by rw [hm]; grind
  rw [hp, ← h.sl]
  constructor
  · intro z
    have z := (Int.mul_dvd_mul_iff_left (show s ≠ 0 by omega)).mp z
    obtain ⟨k, hk⟩ := z
    exact ⟨_, wheel_a k1e k2e k3e k4e hk⟩
  · intro z
    refine Int.mul_dvd_mul_left s ?_
    obtain ⟨k, hk⟩ := z
    exact ⟨_, wheel_b k1e k2e k3e k4e hk⟩
/-- who does not stand in the wheel -/
theorem wheel_not (h : Wh ms n s l f v) (p c : Int) (t : Int) (z : n ∣ p + t * ms.sum - c) : p % s = c % s := by
  have h2 : s ∣ p + t * ms.sum - c := Int.dvd_trans h.sn z
  obtain ⟨m, hm⟩ := h.sd
  obtain ⟨k, hk⟩ := h2
  have : p - c = s * (k - t * m) := by rw [hm] at hk; grind
  exact (Int.emod_eq_emod_iff_emod_sub_eq_zero).mpr (Int.emod_eq_zero_of_dvd ⟨_, this⟩)
end
/-! ## the stops of a child -/
def perL (ms : List Int) (n : Int) : Int := n / (Int.gcd n ms.sum : Nat)
def per (ms : List Int) (n : Int) : Nat := (perL ms n).toNat * ms.length
/-- the child has it at stop k -/
def At (ms : List Int) (n c : Int) (k : Nat) : Bool := decide (far ms k % n = c)
def StL (ms : List Int) (n c : Int) : List Nat := (List.range (per ms n)).filter (At ms n c)
theorem far_split {ms : List Int} (h : 1 ≤ ms.length) {i : Nat} (hi : i < ms.length) (t : Nat) : far ms (t * ms.length + i) = (ms.take (i + 1)).sum + t * ms.sum := by
  rw [Nat.add_comm, Nat.mul_comm, far_add h]
  unfold far
  rw [Nat.mod_eq_of_lt hi, Nat.div_eq_of_lt hi]
  simp
theorem Wh.pl {ms : List Int} {n s l f v : Int} (h : Wh ms n s l f v) : perL ms n = l := by
  unfold perL
  rw [← h.sg, ← h.sl]
  exact Int.mul_ediv_cancel_left _ (by have := h.s1; omega)
def plc (ms : List Int) (i : Nat) : Int := (ms.take (i + 1)).sum
/-- the first stop of place i -/
def fst1 (ms : List Int) (s l v c : Int) (i : Nat) : Int := (turnW s l v c - turnW s l v (plc ms i)) % l * ms.length + i
def idx (ms : List Int) (s rest : Int) : List Nat := (List.range ms.length).filter fun i => decide (plc ms i % s = rest)
theorem idx_mem {ms : List Int} {s rest : Int} {i : Nat} : i ∈ idx ms s rest ↔ i < ms.length ∧ plc ms i % s = rest := by
  unfold idx
  rw [List.mem_filter, List.mem_range, decide_eq_true_eq]
theorem emod_eq_iff_dvd {n a c : Int} (c0 : 0 ≤ c) (c1 : c < n) : a % n = c ↔ n ∣ a - c := by
  constructor
  · intro h
    exact ⟨a / n, by have := Int.mul_ediv_add_emod a n; omega⟩
  · intro h
    have := (Int.emod_eq_emod_iff_emod_sub_eq_zero).mpr (Int.emod_eq_zero_of_dvd h)
    rw [this]; exact Int.emod_eq_of_lt c0 c1
theorem StL_mem {ms : List Int} {n s l f v c : Int} (hm : Sc ms) (h : Wh ms n s l f v) (c0 : 0 ≤ c) (c1 : c < n) (k : Nat) :
    k ∈ StL ms n c ↔ ∃ i, i ∈ idx ms s (c % s) ∧ fst1 ms s l v c i = k := by
  have h1 := hm.1
  have l1 := h.l1
  unfold StL per
  rw [List.mem_filter, List.mem_range, h.pl]
  unfold At
  rw [decide_eq_true_eq, emod_eq_iff_dvd c0 c1]
  constructor
  · intro ⟨hk, hd⟩
    refine ⟨k % ms.length, ?_⟩
    have hi := Nat.mod_lt k h1
    have ek : k / ms.length * ms.length + k % ms.length = k := Nat.div_add_mod' k ms.length
    have hq : k / ms.length < l.toNat := by rw [Nat.div_lt_iff_lt_mul h1]; exact hk
    rw [← ek, far_split h1 hi] at hd
    have e1 := wheel_not h _ _ _ hd
    have e2 := (wheel_law h _ _ e1 _).mp hd
    refine ⟨idx_mem.mpr ⟨hi, e1⟩, ?_⟩
    unfold fst1
    have e3 : (turnW s l v c - turnW s l v (plc ms (k % ms.length))) % l = ((k / ms.length : Nat) : Int) :=
      (emod_eq_iff_dvd (Int.natCast_nonneg _) (by generalize k / ms.length = q at hq; omega)).mpr e2
    rw [e3]
    have e4 : ((k / ms.length * ms.length + k % ms.length : Nat) : Int) = (k : Int) := by rw [ek]
    rw [Int.natCast_add, Int.natCast_mul] at e4
    exact e4
  · intro ⟨i, hi, e⟩
    obtain ⟨hi, e1⟩ := idx_mem.mp hi
    unfold fst1 at e
    have z0 := Int.emod_nonneg (turnW s l v c - turnW s l v (plc ms i)) (show l ≠ 0 by omega)
    have z1 := Int.emod_lt_of_pos (turnW s l v c - turnW s l v (plc ms i)) (show 0 < l by omega)
    obtain ⟨t, ht⟩ := Int.eq_ofNat_of_zero_le z0
    rw [ht] at e z1
    have ek : k = t * ms.length + i := by
      have : (k : Int) = ((t * ms.length + i : Nat) : Int) := by rw [← e]; simp
      omega
    refine ⟨?_, ?_⟩
    · rw [ek]
      have : t + 1 ≤ l.toNat := by omega
      have := Nat.mul_le_mul_right ms.length this
      rw [Nat.add_mul] at this
      omega
    · rw [ek, far_split h1 hi]
      exact (wheel_law h _ _ e1 _).mpr ((emod_eq_iff_dvd (by omega) z1).mp ht)
theorem fst1_inj {ms : List Int} {s l v c : Int} {i j : Nat} (hi : i < ms.length) (hj : j < ms.length) (h : fst1 ms s l v c i = fst1 ms s l v c j) : i = j := by
  unfold fst1 at h
  generalize (turnW s l v c - turnW s l v (plc ms i)) % l = x at h
  generalize (turnW s l v c - turnW s l v (plc ms j)) % l = y at h
  have e1 : (x * ms.length + i) % ms.length = i := by rw [Int.add_comm, Int.add_mul_emod_self_right]; exact Int.emod_eq_of_lt (by omega) (by omega)
  have e2 : (y * ms.length + j) % ms.length = j := by rw [Int.add_comm, Int.add_mul_emod_self_right]; exact Int.emod_eq_of_lt (by omega) (by omega)
  rw [h, e2] at e1
  omega
theorem nodup_map_on {α β : Type} {f : α → β} : ∀ {xs : List α}, (∀ a ∈ xs, ∀ b ∈ xs, f a = f b → a = b) → xs.Nodup → (xs.map f).Nodup
  | [], _, _ => List.Pairwise.nil
  | x :: xs, hf, h => by
    rw [List.nodup_cons] at h
    rw [List.map_cons, List.nodup_cons]
    refine ⟨fun z => ?_, nodup_map_on (fun a ha b hb => hf a (List.mem_cons_of_mem _ ha) b (List.mem_cons_of_mem _ hb)) h.2⟩
    obtain ⟨y, hy, e⟩ := List.mem_map.mp z
    rw [hf x List.mem_cons_self y (List.mem_cons_of_mem _ hy) e.symm] at h
    exact h.1 hy
theorem idx_nodup (ms : List Int) (s rest : Int) : (idx ms s rest).Nodup := List.Pairwise.filter _ List.nodup_range
theorem StL_sorted (ms : List Int) (n c : Int) : (StL ms n c).Pairwise (· < ·) := List.Pairwise.filter _ List.pairwise_lt_range
/-- sorted: the stops -/
theorem StL_of {ms : List Int} {n s l f v c : Int} (hm : Sc ms) (h : Wh ms n s l f v) (c0 : 0 ≤ c) (c1 : c < n) {xs : List Int}
    (hp : xs.Perm ((idx ms s (c % s)).map (fst1 ms s l v c))) (hs : xs.Pairwise (· ≤ ·)) : xs = (StL ms n c).map fun (k : Nat) => (k : Int) := by
  refine List.Perm.eq_of_pairwise (le := (· ≤ ·)) (fun a b _ _ h1 h2 => Int.le_antisymm h1 h2) hs (List.pairwise_map.mpr ((StL_sorted ms n c).imp fun z => by omega)) (hp.trans ?_)
  refine (List.perm_ext_iff_of_nodup (nodup_map_on (fun a ha b hb => fst1_inj (idx_mem.mp ha).1 (idx_mem.mp hb).1) (idx_nodup _ _ _)) (nodup_map_on (fun a _ b _ e => by omega) ((StL_sorted ms n c).imp fun z => by omega))).mpr fun a => ?_
  rw [List.mem_map, List.mem_map]
  constructor
  · intro ⟨i, hi, e⟩
    have l1 := h.l1
    have a0 : 0 ≤ a := by
      rw [← e]; unfold fst1
      have := Int.emod_nonneg (turnW s l v c - turnW s l v (plc ms i)) (show l ≠ 0 by omega)
      have := Int.mul_nonneg this (show (0 : Int) ≤ ms.length by omega)
      omega
    obtain ⟨k, rfl⟩ := Int.eq_ofNat_of_zero_le a0
    exact ⟨k, (StL_mem hm h c0 c1 k).mpr ⟨i, hi, e⟩, rfl⟩
  · intro ⟨k, hk, e⟩
    obtain ⟨i, hi, e2⟩ := (StL_mem hm h c0 c1 k).mp hk
    exact ⟨i, hi, e2.trans e⟩
theorem StL_len {ms : List Int} {n s l f v c : Int} (hm : Sc ms) (h : Wh ms n s l f v) (c0 : 0 ≤ c) (c1 : c < n) : (StL ms n c).length ≤ 8 := by
  have hnd : ((idx ms s (c % s)).map (fst1 ms s l v c)).Nodup := nodup_map_on (fun a ha b hb => fst1_inj (idx_mem.mp ha).1 (idx_mem.mp hb).1) (idx_nodup _ _ _)
  have hp : ((StL ms n c).map fun (k : Nat) => (k : Int)).Perm ((idx ms s (c % s)).map (fst1 ms s l v c)) := by
    refine (List.perm_ext_iff_of_nodup (nodup_map_on (fun a _ b _ e => by omega) ((StL_sorted ms n c).imp fun z => by omega)) hnd).mpr fun a => ?_
    rw [List.mem_map, List.mem_map]
    constructor
    · intro ⟨k, hk, e⟩
      obtain ⟨i, hi, e2⟩ := (StL_mem hm h c0 c1 k).mp hk
      exact ⟨i, hi, e2.trans e⟩
    · intro ⟨i, hi, e⟩
      have l1 := h.l1
      have a0 : 0 ≤ a := by
        rw [← e]; unfold fst1
        have := Int.emod_nonneg (turnW s l v c - turnW s l v (plc ms i)) (show l ≠ 0 by omega)
        have := Int.mul_nonneg this (show (0 : Int) ≤ ms.length by omega)
        omega
      obtain ⟨k, rfl⟩ := Int.eq_ofNat_of_zero_le a0
      exact ⟨k, (StL_mem hm h c0 c1 k).mpr ⟨i, hi, e⟩, rfl⟩
  have := hp.length_eq
  rw [List.length_map, List.length_map] at this
  rw [this]
  have z := List.length_filter_le (fun i => decide (plc ms i % s = c % s)) (List.range ms.length)
  rw [List.length_range] at z
  exact Nat.le_trans z hm.2.1
theorem At_per {ms : List Int} {n : Int} (hm : Sc ms) (n1 : 1 ≤ n) (c : Int) (k : Nat) : At ms n c (k + per ms n) = At ms n c k := by
  unfold At per
  rw [Nat.mul_comm, far_add hm.1]
  have hg : ((Int.gcd n ms.sum : Nat) : Int) ∣ ms.sum := Int.gcd_dvd_right ..
  have hg2 : ((Int.gcd n ms.sum : Nat) : Int) ∣ n := Int.gcd_dvd_left ..
  have hp : 0 < (Int.gcd n ms.sum : Nat) := Int.gcd_pos_of_ne_zero_left _ (by omega)
  have e : (((perL ms n).toNat : Nat) : Int) = perL ms n := by
    have : 0 ≤ perL ms n := Int.ediv_nonneg (by omega) (by omega)
    omega
  rw [e]
  obtain ⟨m, hm2⟩ := hg
  obtain ⟨l, hl⟩ := hg2
  have e2 : perL ms n = l := by
    unfold perL
    have : (((Int.gcd n ms.sum : Nat) : Int) * l) / ((Int.gcd n ms.sum : Nat) : Int) = l := Int.mul_ediv_cancel_left _ (by omega)
    rw [← hl] at this
    exact this
  have e3 : perL ms n * ms.sum = n * m := by
    rw [e2]
    generalize hG : ((Int.gcd n ms.sum : Nat) : Int) = g at *
    rw [hm2, hl]; grind
  rw [e3, Int.add_mul_emod_self_left]

theorem plc_bd {ms : List Int} (hm : Sc ms) (i : Nat) : -72 ≤ plc ms i ∧ plc ms i ≤ 72 := by
  have := sum_bd (b := 9) (ms := ms.take (i + 1)) fun m h => hm.2.2 m (List.mem_of_mem_take h)
  have h8 := hm.2.1
  have hl : (ms.take (i + 1)).length ≤ 8 := by rw [List.length_take]; omega
  unfold plc
  omega
theorem plc_get {ms : List Int} {i : Nat} (hi : i < ms.length) : ((placesFrom 0 ms).map PyData.int)[i]? = some (.int (plc ms i)) := by
  rw [List.getElem?_map, placesFrom_get 0 ms i hi, Int.zero_add]; rfl
theorem idx_len {ms : List Int} (hm : Sc ms) (s rest : Int) : (idx ms s rest).length ≤ 8 := by
  have z := List.length_filter_le (fun i => decide (plc ms i % s = rest)) (List.range ms.length)
  rw [List.length_range] at z
  exact Nat.le_trans z hm.2.1
def stD (ms : List Int) (s l v rest : Int) : List D := (idx ms s rest).map fun i => .tuple [.int (turnW s l v (plc ms i)), .int (i : Nat)]
def rdD (ms : List Int) (s l v c : Int) : List D := (idx ms s (c % s)).map fun i => .tuple [.int ((turnW s l v c - turnW s l v (plc ms i)) % l), .int (i : Nat)]
theorem ints_of : ∀ {ds : List D}, (∀ d ∈ ds, ∃ i : Int, d = .int i) → ∃ zs : List Int, ds = zs.map .int
  | [], _ => ⟨[], rfl⟩
  | d :: ds, h => by
    obtain ⟨i, rfl⟩ := h d List.mem_cons_self
    obtain ⟨zs, rfl⟩ := ints_of (ds := ds) fun d hd => h d (List.mem_cons_of_mem _ hd)
    exact ⟨i :: zs, rfl⟩
def unI : D → Int
  | .int i => i
  | _ => 0
theorem perm_ints {xs ys : List Int} (h : (xs.map PyData.int).Perm (ys.map PyData.int)) : xs.Perm ys := by
  have z := h.map unI
  rw [List.map_map, List.map_map] at z
  have e : ∀ zs : List Int, zs.map (unI ∘ PyData.int) = zs := fun zs => List.map_id'' (fun _ => rfl) zs
  rw [e, e] at z
  exact z
theorem intsD_nat (xs : List Nat) : intsD? (xs.map fun (k : Nat) => PyData.int (k : Nat)) = some (xs.map fun (k : Nat) => (k : Int)) := by
  rw [show (xs.map fun (k : Nat) => PyData.int (k : Nat)) = (xs.map fun (k : Nat) => (k : Int)).map .int by rw [List.map_map]; rfl]
  exact intsD_map _
theorem Wh.per {ms : List Int} {n s l f v : Int} (h : Wh ms n s l f v) : ((Pz.per ms n : Nat) : Int) = l * ms.length := by
  unfold Pz.per
  rw [h.pl, Int.natCast_mul]
  have := h.l1
  rw [show ((l.toNat : Nat) : Int) = l by omega]
theorem per_pos {ms : List Int} {n s l f v : Int} (hm : Sc ms) (h : Wh ms n s l f v) : 0 < Pz.per ms n := by
  unfold Pz.per
  rw [h.pl]
  have := h.l1
  exact Nat.mul_pos (by omega) hm.1
theorem isE_nat (xs : List Nat) : (xs.map fun (k : Nat) => PyData.int (k : Nat)).isEmpty = xs.isEmpty := by cases xs <;> rfl
def stV (ms : List Int) (s l v : Int) : D → D
  | .int i => .tuple [.int (turnW s l v (plc ms i.toNat)), .int i]
  | d => d
def rdV (s l v c : Int) : D → D
  | .tuple [.int t, .int i] => .tuple [.int ((turnW s l v c - t) % l), .int i]
  | d => d
theorem stV_map (ms : List Int) (s l v rest : Int) : ((idx ms s rest).map fun (i : Nat) => PyData.int (i : Nat)).map (stV ms s l v) = stD ms s l v rest := by
  unfold stD
  rw [List.map_map]
  exact List.map_congr_left fun i _ => rfl
theorem rdV_map (ms : List Int) (s l v c : Int) : (stD ms s l v (c % s)).map (rdV s l v c) = rdD ms s l v c := by
  unfold stD rdD
  rw [List.map_map]
  exact List.map_congr_left fun i _ => rfl
theorem stD_pair {ms : List Int} {n s l f v : Int} (hm : Sc ms) (hw : Wh ms n s l f v) (rest : Int) : ∀ a ∈ stD ms s l v rest, pairOk (l + 64) a := fun a ha => by
  obtain ⟨i, hi, rfl⟩ := List.mem_map.mp ha
  have hi := (idx_mem.mp hi).1
  have h8 := hm.2.1
  have := turnW_rg hw (plc ms i)
  have l1 := hw.l1
  exact ⟨_, _, rfl, this.1, by omega, by omega, by omega⟩
theorem rdD_pair {ms : List Int} {n s l f v : Int} (hm : Sc ms) (hw : Wh ms n s l f v) (c : Int) : ∀ a ∈ rdD ms s l v c, pairOk (l + 64) a := fun a ha => by
  obtain ⟨i, hi, rfl⟩ := List.mem_map.mp ha
  have hi := (idx_mem.mp hi).1
  have h8 := hm.2.1
  have l1 := hw.l1
  have z0 := Int.emod_nonneg (turnW s l v c - turnW s l v (plc ms i)) (show l ≠ 0 by omega)
  have z1 := Int.emod_lt_of_pos (turnW s l v c - turnW s l v (plc ms i)) (show 0 < l by omega)
  exact ⟨_, _, rfl, z0, by omega, by omega, by omega⟩
section
variable {wi : WI} {g : WG} {u : WS} {wt : WT} {we : WE} {vs : List Nat} {ρ : En} {N : EndsD} {P : L → Prop} {Px : Str → Prop}
/-- .. over a range, with a test -/
theorem wLc_rgF {n : Nat} (hwi : ∀ Q : List D → Prop, Q (rgD 0 n) → wi ρ Q Px) (hlen : n ≤ 1000000) (f : Nat → Bool) (v : Nat → D)
    (hs : ∀ (j : Nat), j < n → ∀ (Y : D → Prop) (M : Prop), (f j = true → Y (v j)) → (f j = false → M) → g (wipeD ρ vs) (.int (j : Nat)) (kLcG wt we Y M))
    (hP : P (.own (((List.range n).filter f).map v))) : wLc wi g wt we vs ρ P Px := by
  refine hwi _ ⟨by rw [rgD_len]; exact hlen, fun j acc => acc = ((List.range j).filter f).map v, rfl, fun j x acc hx hI => ?_, fun acc hI => ?_⟩
  · obtain ⟨h1, rfl⟩ := rgD_get hx
    rw [Int.zero_add]
    refine hs j h1 _ _ (fun h => ?_) (fun h => ?_)
    · show acc ++ [v j] = ((List.range (j + 1)).filter f).map v
      rw [List.range_succ, List.filter_append, List.filter_cons, if_pos h, hI]
      simp
    · show acc = ((List.range (j + 1)).filter f).map v
      rw [List.range_succ, List.filter_append, List.filter_cons, if_neg (by rw [h]; decide), hI]
      simp
  · have hI : acc = ((List.range (rgD 0 n).length).filter f).map v := hI
    rw [hI, rgD_len]; exact hP
/-- .. over any list of a kind, without a test -/
theorem wLc_mapS {S : List D → Prop} (hwi : ∀ Q : List D → Prop, (∀ xs, S xs → Q xs) → wi ρ Q Px) (hlen : ∀ xs, S xs → xs.length ≤ 1000000) (v : D → D)
    (hs : ∀ xs, S xs → ∀ x ∈ xs, ∀ (Y : D → Prop) (M : Prop), Y (v x) → g (wipeD ρ vs) x (kLcG wYes we Y M))
    (hP : ∀ xs, S xs → P (.own (xs.map v))) : wLc wi g wYes we vs ρ P Px := by
  refine hwi _ fun xs hS => ⟨hlen xs hS, fun j acc => acc = (xs.take j).map v, rfl, fun j x acc hx hI => ?_, fun acc hI => ?_⟩
  · exact hs xs hS x (List.mem_of_getElem? hx) (fun d => acc ++ [d] = (xs.take (j + 1)).map v) _ (by rw [take_succ_of hx, List.map_append, hI]; rfl)
  · have hI : acc = (xs.take xs.length).map v := hI
    rw [hI, List.take_length]; exact hP xs hS
end

/-! ## the least period -/
theorem pig {α : Type} [DecidableEq α] : ∀ {ys xs : List α}, ys.Nodup → (∀ y ∈ ys, y ∈ xs) → ys.length ≤ xs.length
  | [], _, _, _ => Nat.zero_le _
  | y :: ys, xs, h, hs => by
    rw [List.nodup_cons] at h
    have hy := hs y List.mem_cons_self
    have z := pig (ys := ys) (xs := xs.erase y) h.2 fun a ha => by
      have ne : a ≠ y := fun e => h.1 (e ▸ ha)
      exact (List.mem_erase_of_ne ne).mpr (hs a (List.mem_cons_of_mem _ ha))
    rw [List.length_erase_of_mem hy] at z
    have := List.length_pos_of_mem hy
    rw [List.length_cons]
    omega
theorem sub_perm {α : Type} [DecidableEq α] {ys xs : List α} (hy : ys.Nodup) (hx : xs.Nodup) (hs : ∀ y ∈ ys, y ∈ xs) (hl : xs.length ≤ ys.length) : ys.Perm xs :=
  (List.perm_ext_iff_of_nodup hy hx).mpr fun a => ⟨hs a, fun ha => by
    by_cases c : a ∈ ys
    · exact c
    · exfalso
      have := pig (ys := a :: ys) (xs := xs) (List.nodup_cons.mpr ⟨c, hy⟩) fun b hb => by
        rcases List.mem_cons.mp hb with rfl | hb
        · exact ha
        · exact hs b hb
      rw [List.length_cons] at this
      omega⟩
theorem shift_inj {p q x y : Nat} (hx : x < p) (hy : y < p) (h : (x + q) % p = (y + q) % p) : x = y := by
  have e : ((x : Int) + q) % p = ((y : Int) + q) % p := by
    have := congrArg (fun k : Nat => (k : Int)) h
    simpa using this
  have e2 := Int.emod_eq_emod_iff_emod_sub_eq_zero.mp e
  have e3 : (p : Int) ∣ (x : Int) - y := by
    have := Int.dvd_of_emod_eq_zero e2
    rw [show (x : Int) + q - (y + q) = x - y by omega] at this
    exact this
  have := Int.eq_zero_of_dvd_of_natAbs_lt_natAbs e3 (by omega)
  omega
theorem shift_eq {xs : List Nat} {p q : Nat} (hs : xs.Pairwise (· < ·)) (hx : ∀ x ∈ xs, x < p) {ns : List Int} (hp : ns.Perm (xs.map fun x => (((x + q) % p : Nat) : Int))) (hn : ns.Pairwise (· ≤ ·)) :
    ns = xs.map (fun (k : Nat) => (k : Int)) ↔ (xs.all fun x => xs.contains ((x + q) % p)) = true := by
  have nd : xs.Nodup := hs.imp fun h => Nat.ne_of_lt h
  rw [List.all_eq_true]
  constructor
  · intro e x hx'
    have : (((x + q) % p : Nat) : Int) ∈ ns := hp.mem_iff.mpr (List.mem_map.mpr ⟨x, hx', rfl⟩)
    rw [e] at this
    obtain ⟨y, hy, ey⟩ := List.mem_map.mp this
    rw [List.contains_iff_mem]
    have ey : y = (x + q) % p := by omega
    rw [← ey]; exact hy
  · intro h
    have nd2 : (xs.map fun x => (x + q) % p).Nodup := nodup_map_on (fun a ha b hb e => shift_inj (hx a ha) (hx b hb) e) nd
    have pm : (xs.map fun x => (x + q) % p).Perm xs := sub_perm nd2 nd (fun y hy => by
      obtain ⟨x, hx', rfl⟩ := List.mem_map.mp hy
      have := h x hx'
      rw [List.contains_iff_mem] at this
      exact this) (by rw [List.length_map]; exact Nat.le_refl _)
    refine List.Perm.eq_of_pairwise (le := (· ≤ ·)) (fun a b _ _ h1 h2 => Int.le_antisymm h1 h2) hn (List.pairwise_map.mpr (hs.imp fun z => by omega)) (hp.trans ?_)
    have := pm.map fun (k : Nat) => (k : Int)
    rw [List.map_map] at this
    exact this
/-- what stops_of tells -/
def lessOk (xs : List Nat) (p parts : Nat) : Bool := decide (xs.length % parts = 0) && decide (p % parts = 0) && xs.all fun x => xs.contains ((x + p / parts) % p)
def partsOf (xs : List Nat) (p : Nat) : Nat → Nat
  | 0 => 1
  | 1 => 1
  | m + 2 => if lessOk xs p (m + 2) = true then m + 2 else partsOf xs p (m + 1)
def tellD (xs : List Nat) (p : Nat) : D := .tuple [.int (p : Nat), .tuple (xs.map fun (k : Nat) => .int (k : Nat))]
def stopsD (xs : List Nat) (p : Nat) : D := if xs = [] then tellD [] 1 else tellD (xs.filter fun x => decide (x < p / partsOf xs p xs.length)) (p / partsOf xs p xs.length)
def shV (q p : Nat) : D → D
  | .int x => .int ((x + q) % p)
  | d => d
theorem shV_map (xs : List Nat) (q p : Nat) : (xs.map fun (k : Nat) => PyData.int (k : Nat)).map (shV q p) = (xs.map fun x => (((x + q) % p : Nat) : Int)).map .int := by
  rw [List.map_map, List.map_map]
  exact List.map_congr_left fun x _ => rfl
theorem partsOf_ss (xs : List Nat) (p m : Nat) : partsOf xs p (m + 2) = if lessOk xs p (m + 2) = true then m + 2 else partsOf xs p (m + 1) := rfl
def ltV (q : Nat) : D → Bool
  | .int x => decide (x < q)
  | _ => false
theorem ltV_filter (xs : List Nat) (q : Nat) : (((xs.map fun (k : Nat) => (k : Int)).map PyData.int).filter (ltV q)) = (xs.filter fun x => decide (x < q)).map fun (k : Nat) => PyData.int (k : Nat) := by
  rw [List.map_map]
  induction xs with
  | nil => rfl
  | cons x xs ih =>
    rw [List.map_cons, List.filter_cons, List.filter_cons]
    have e : ltV q ((PyData.int ∘ fun (k : Nat) => (k : Int)) x) = decide (x < q) := by
      show decide ((x : Int) < (q : Nat)) = _
      exact decide_eq_decide.mpr (by omega)
    rw [e]
    split
    · rw [List.map_cons, ih]; rfl
    · exact ih
theorem partsOf_le (xs : List Nat) (p : Nat) : ∀ m, 1 ≤ partsOf xs p m
  | 0 => Nat.le_refl _
  | 1 => Nat.le_refl _
  | m + 2 => by
    unfold partsOf
    split
    · omega
    · exact partsOf_le xs p (m + 1)
end Pz

set_option Elab.async false
set_option linter.all false
set_option autoImplicit false
set_option maxRecDepth 100000
namespace Pz
open PySem PySem.Spec PyProof.Rows L2

/-! ## what repeats -/
theorem sorted_ext {xs ys : List Nat} (hx : xs.Pairwise (· < ·)) (hy : ys.Pairwise (· < ·)) (h : ∀ a, a ∈ xs ↔ a ∈ ys) : xs = ys :=
  List.Perm.eq_of_pairwise (le := (· < ·)) (fun a b _ _ h1 h2 => absurd h1 (by omega)) hx hy ((List.perm_ext_iff_of_nodup (hx.imp fun z => by omega) (hy.imp fun z => by omega)).mpr h)
def flt (S : Nat → Bool) (m : Nat) : List Nat := (List.range m).filter S
theorem flt_mem {S : Nat → Bool} {m k : Nat} : k ∈ flt S m ↔ k < m ∧ S k = true := by unfold flt; rw [List.mem_filter, List.mem_range]
theorem flt_sorted (S : Nat → Bool) (m : Nat) : (flt S m).Pairwise (· < ·) := List.Pairwise.filter _ List.pairwise_lt_range
def Rep (S : Nat → Bool) (p : Nat) : Prop := ∀ k, S (k + p) = S k
theorem Rep.mul {S : Nat → Bool} {p : Nat} (h : Rep S p) (m k : Nat) : S (k + m * p) = S k := by
  induction m with
  | zero => rw [Nat.zero_mul, Nat.add_zero]
  | succ m ih => rw [Nat.succ_mul, ← Nat.add_assoc, h, ih]
theorem Rep.mod {S : Nat → Bool} {p : Nat} (h : Rep S p) (k : Nat) : S (k % p) = S k := by
  have := h.mul (k / p) (k % p)
  rw [Nat.mod_add_div' k p] at this
  exact this.symm
theorem flt_add {S : Nat → Bool} {p : Nat} (h : Rep S p) (m : Nat) : flt S ((m + 1) * p) = flt S (m * p) ++ (flt S p).map (m * p + ·) := by
  unfold flt
  rw [Nat.succ_mul, List.range_add, List.filter_append, List.filter_map]
  congr 2
  refine List.filter_congr fun x _ => ?_
  show S (m * p + x) = S x
  rw [Nat.add_comm]; exact h.mul m x
theorem flt_len {S : Nat → Bool} {p : Nat} (h : Rep S p) (m : Nat) : (flt S (m * p)).length = m * (flt S p).length := by
  induction m with
  | zero => rw [Nat.zero_mul, Nat.zero_mul]; rfl
  | succ m ih => rw [flt_add h, List.length_append, List.length_map, ih, Nat.succ_mul]
theorem flt_get {S : Nat → Bool} {p : Nat} (h : Rep S p) (m i : Nat) (hi : i < m * (flt S p).length) : (flt S (m * p))[i]? = some ((flt S p).getD (i % (flt S p).length) 0 + i / (flt S p).length * p) := by
  induction m with
  | zero => rw [Nat.zero_mul] at hi; omega
  | succ m ih =>
    rw [flt_add h]
    by_cases c : i < m * (flt S p).length
    · rw [List.getElem?_append_left (by rw [flt_len h]; exact c)]; exact ih c
    · rw [List.getElem?_append_right (by rw [flt_len h]; omega), flt_len h, List.getElem?_map]
      rw [Nat.succ_mul] at hi
      have hr : i - m * (flt S p).length < (flt S p).length := by omega
      have hd : i / (flt S p).length = m := by rw [Nat.div_eq_iff (by omega)]; constructor <;> (try rw [Nat.add_mul]) <;> omega
      have hm : i % (flt S p).length = i - m * (flt S p).length := by
        have := Nat.mod_add_div' i (flt S p).length
        rw [hd] at this; omega
      rw [hd, hm, List.getElem?_eq_getElem hr, List.getD_eq_getElem?_getD, List.getElem?_eq_getElem hr]
      show some _ = some _
      congr 1
      exact Nat.add_comm _ _
theorem flt_pre (S : Nat → Bool) {a b : Nat} (h : a ≤ b) (i : Nat) (hi : i < (flt S a).length) : (flt S b)[i]? = (flt S a)[i]? := by
  obtain ⟨c, rfl⟩ := Nat.exists_eq_add_of_le h
  unfold flt at *
  rw [List.range_add, List.filter_append, List.getElem?_append_left hi]
theorem lessOk_iff {xs : List Nat} {p m : Nat} : lessOk xs p m = true ↔ xs.length % m = 0 ∧ p % m = 0 ∧ ∀ x ∈ xs, (x + p / m) % p ∈ xs := by
  unfold lessOk
  rw [Bool.and_eq_true, Bool.and_eq_true, decide_eq_true_eq, decide_eq_true_eq, List.all_eq_true]
  constructor
  · intro ⟨⟨a, b⟩, c⟩
    exact ⟨a, b, fun x hx => List.contains_iff_mem.mp (c x hx)⟩
  · intro ⟨a, b, c⟩
    exact ⟨⟨a, b⟩, fun x hx => List.contains_iff_mem.mpr (c x hx)⟩
theorem partsOf_ok (xs : List Nat) (p : Nat) : ∀ M, partsOf xs p M = 1 ∨ lessOk xs p (partsOf xs p M) = true
  | 0 => .inl rfl
  | 1 => .inl rfl
  | M + 2 => by
    rw [partsOf_ss]
    split
    · rename_i h; exact .inr h
    · exact partsOf_ok xs p (M + 1)
theorem partsOf_max (xs : List Nat) (p : Nat) : ∀ M m, 2 ≤ m → m ≤ M → lessOk xs p m = true → m ≤ partsOf xs p M
  | 0, m, h2, h, _ => by omega
  | 1, m, h2, h, _ => by omega
  | M + 2, m, h2, h, ok => by
    rw [partsOf_ss]
    split
    · exact h
    · rename_i c
      have : m ≠ M + 2 := fun e => c (e ▸ ok)
      exact partsOf_max xs p (M + 1) m h2 (by omega) ok
/-- a shift that keeps the ones of a round keeps all -/
theorem rep_of {S : Nat → Bool} {p q m : Nat} (hp : Rep S p) (hpp : 0 < p) (hm : p = m * q) (h : ∀ x ∈ flt S p, (x + q) % p ∈ flt S p) : Rep S q := by
  have fwd : ∀ k, S k = true → S (k + q) = true := fun k hk => by
    have z := h (k % p) (flt_mem.mpr ⟨Nat.mod_lt _ hpp, by rw [hp.mod]; exact hk⟩)
    have z := (flt_mem.mp z).2
    rw [Nat.mod_add_mod, hp.mod] at z
    exact z
  have fwd2 : ∀ j k, S k = true → S (k + j * q) = true := fun j => by
    induction j with
    | zero => intro k hk; rw [Nat.zero_mul, Nat.add_zero]; exact hk
    | succ j ih => intro k hk; rw [Nat.succ_mul, ← Nat.add_assoc]; exact fwd _ (ih k hk)
  intro k
  cases e : S k with
  | true => exact fwd k e
  | false =>
    cases e2 : S (k + q) with
    | false => rfl
    | true =>
      exfalso
      have m1 : 1 ≤ m := by
        cases m with
        | zero => rw [Nat.zero_mul] at hm; omega
        | succ m => omega
      have z := fwd2 (m - 1) (k + q) e2
      rw [show k + q + (m - 1) * q = k + p by
        rw [hm, Nat.add_assoc]; congr 1
        obtain ⟨m', rfl⟩ := Nat.exists_eq_add_of_le m1
        rw [Nat.add_sub_cancel_left, Nat.add_mul, Nat.one_mul], hp, e] at z
      cases z
theorem stops_law2 {S : Nat → Bool} {P : Nat} (hP : 0 < P) (hr : Rep S P) : ∃ p, p ∣ P ∧ stopsD (flt S P) P = tellD (flt S p) p ∧ 1 ≤ p ∧ p ≤ P ∧ Rep S p ∧ ∀ q, 1 ≤ q → q < p → q ∣ p → ¬ Rep S q := by
  by_cases he : flt S P = []
  · refine ⟨1, Nat.one_dvd _, ?_, Nat.le_refl _, hP, ?_, fun q h1 h2 => by omega⟩
    · have : flt S 1 = [] := by
        have h0 : ¬ S 0 = true := fun z => by
          have := flt_mem.mpr ⟨hP, z⟩
          rw [he] at this; cases this
        unfold flt
        show List.filter S [0] = []
        rw [List.filter_cons, if_neg h0]; rfl
      rw [this, he]; rfl
    · have none : ∀ k, S k = false := fun k => by
        cases e : S k with
        | false => rfl
        | true =>
          have := flt_mem.mpr ⟨Nat.mod_lt k hP, (hr.mod k).trans e⟩
          rw [he] at this; cases this
      intro k; rw [none, none]
  · have hs : stopsD (flt S P) P = tellD ((flt S P).filter fun x => decide (x < P / partsOf (flt S P) P (flt S P).length)) (P / partsOf (flt S P) P (flt S P).length) := by
      unfold stopsD; rw [if_neg he]
    obtain ⟨m, hm⟩ : ∃ m, m = partsOf (flt S P) P (flt S P).length := ⟨_, rfl⟩
    have hmax := partsOf_max (flt S P) P (flt S P).length
    have hok := partsOf_ok (flt S P) P (flt S P).length
    rw [hs]
    rw [← hm] at hmax hok ⊢
    have hlen : 0 < (flt S P).length := List.length_pos_iff.mpr he
    have key : P = m * (P / m) ∧ Rep S (P / m) ∧ 1 ≤ m := by
      rcases hok with rfl | hok
      · rw [Nat.div_one, Nat.one_mul]; exact ⟨rfl, hr, Nat.le_refl _⟩
      · obtain ⟨h1, h2, h3⟩ := lessOk_iff.mp hok
        have e : P = m * (P / m) := (Nat.mul_div_cancel' (Nat.dvd_of_mod_eq_zero h2)).symm
        refine ⟨e, rep_of hr hP e h3, ?_⟩
        cases m with
        | zero => rw [Nat.zero_mul] at e; omega
        | succ m => omega
    obtain ⟨e, hrep, m1⟩ := key
    have p1 : 1 ≤ P / m := by
      rcases Nat.eq_zero_or_pos (P / m) with z | z
      · rw [z, Nat.mul_zero] at e; omega
      · exact z
    have pP : P / m ≤ P := Nat.div_le_self _ _
    refine ⟨P / m, ⟨m, by rw [Nat.mul_comm]; exact e⟩, ?_, p1, pP, hrep, fun q q1 qp qd rq => ?_⟩
    · congr 1
      refine sorted_ext (List.Pairwise.filter _ (flt_sorted _ _)) (flt_sorted _ _) fun a => ?_
      rw [List.mem_filter, flt_mem, flt_mem, decide_eq_true_eq]
      exact ⟨fun z => ⟨z.2, z.1.2⟩, fun z => ⟨⟨by omega, z.2⟩, z.1⟩⟩
    · obtain ⟨t, ht⟩ := qd
      have t2 : 2 ≤ t := by
        rcases (show t = 0 ∨ t = 1 ∨ 2 ≤ t by omega) with rfl | rfl | z
        · rw [Nat.mul_zero] at ht; omega
        · rw [Nat.mul_one] at ht; omega
        · exact z
      have ePq : P = (m * t) * q := by rw [Nat.mul_assoc, Nat.mul_comm t q, ← ht]; exact e
      have hl : (flt S P).length = (m * t) * (flt S q).length := by
        have := flt_len rq (m * t)
        rw [← ePq] at this; exact this
      have mt : m < m * t := by
        have := Nat.mul_le_mul_left m t2
        omega
      have hc : 0 < (flt S q).length := by
        rcases Nat.eq_zero_or_pos (flt S q).length with z | z
        · rw [z, Nat.mul_zero] at hl; omega
        · exact z
      have hle : m * t ≤ (flt S P).length := by
        rw [hl]; exact Nat.le_mul_of_pos_right _ hc
      have hdq : P / (m * t) = q := by
        rw [ePq]; exact Nat.mul_div_cancel_left _ (by omega)
      have := hmax (m * t) (by omega) hle (lessOk_iff.mpr ⟨by rw [hl]; exact Nat.mul_mod_right _ _, by rw [ePq]; exact Nat.mul_mod_right _ _, fun x hx => by
        rw [hdq]
        have hx := flt_mem.mp hx
        exact flt_mem.mpr ⟨Nat.mod_lt _ hP, by rw [hr.mod, rq]; exact hx.2⟩⟩)
      omega
theorem stops_law {S : Nat → Bool} {P : Nat} (hP : 0 < P) (hr : Rep S P) : ∃ p, stopsD (flt S P) P = tellD (flt S p) p ∧ 1 ≤ p ∧ p ≤ P ∧ Rep S p ∧ ∀ q, 1 ≤ q → q < p → q ∣ p → ¬ Rep S q :=
  let ⟨p, _, h⟩ := stops_law2 hP hr
  ⟨p, h⟩
theorem nth_law {S : Nat → Bool} {P M i : Nat} (hP : 0 < P) (hr : Rep S P) (hi : i < (flt S M).length) : (flt S P).length ≠ 0 ∧ (flt S M)[i]? = some ((flt S P).getD (i % (flt S P).length) 0 + i / (flt S P).length * P) := by
  have hM : M ≤ M * P := Nat.le_mul_of_pos_right _ hP
  have h1 := flt_pre S hM i hi
  have hl := flt_len hr M
  have h2 : i < (flt S (M * P)).length := by
    rw [List.getElem?_eq_getElem hi] at h1
    exact (List.getElem?_eq_some_iff.mp h1).1
  rw [hl] at h2
  refine ⟨fun z => by rw [z, Nat.mul_zero] at h2; omega, ?_⟩
  rw [← h1]
  exact flt_get hr M i h2

theorem inD_nat (k : Nat) (xs : List Nat) : inD (.int (k : Nat)) (xs.map fun (k : Nat) => PyData.int (k : Nat)) = xs.contains k := by
  induction xs with
  | nil => rfl
  | cons x xs ih =>
    rw [List.map_cons, List.contains_cons]
    show (PyData.eqv (.int (x : Nat)) (.int (k : Nat)) || inD (.int (k : Nat)) (xs.map fun (k : Nat) => PyData.int (k : Nat))) = _
    rw [ih, eqv_ii]
    congr 1
    rw [Bool.eq_iff_iff, decide_eq_true_eq, beq_iff_eq]
    omega
def enF (c : Int) : D → Bool
  | .tuple [.int _, .int a] => decide (a = c)
  | _ => false
def enV : D → D
  | .tuple [.int i, .int _] => .int i
  | d => d
theorem en_map (g : Nat → Int) (M : Nat) : enD ((List.range M).map fun k => PyData.int (g k)) = (List.range M).map fun i => PyData.tuple [.int (i : Nat), .int (g i)] := by
  unfold enD
  rw [List.length_map, List.length_range]
  refine List.map_congr_left fun i hi => ?_
  rw [List.getD_eq_getElem?_getD, List.getElem?_map, List.getElem?_range (List.mem_range.mp hi)]
  rfl
theorem en_due (g : Nat → Int) (M : Nat) (c : Int) : (((enD ((List.range M).map fun k => PyData.int (g k))).filter (enF c)).map enV) = ((List.range M).filter fun k => decide (g k = c)).map fun (k : Nat) => PyData.int (k : Nat) := by
  rw [en_map, List.filter_map, List.map_map]
  rfl
theorem At_rep {ms : List Int} {n : Int} (hm : Sc ms) (n1 : 1 ≤ n) (c : Int) : Rep (At ms n c) (per ms n) := fun k => At_per hm n1 c k
theorem per_le {ms : List Int} {n : Int} (hm : Sc ms) (n1 : 1 ≤ n) : 0 < per ms n ∧ ((per ms n : Nat) : Int) ≤ n * ms.length := by
  have hg : 0 < (Int.gcd n ms.sum : Nat) := Int.gcd_pos_of_ne_zero_left _ (by omega)
  have hg2 : ((Int.gcd n ms.sum : Nat) : Int) ∣ n := Int.gcd_dvd_left ..
  have h0 : 1 ≤ perL ms n := by
    unfold perL
    exact (Int.le_ediv_iff_mul_le (by omega)).mpr (by have := Int.le_of_dvd (by omega) hg2; omega)
  have h1 : perL ms n ≤ n := Int.ediv_le_self _ (by omega)
  unfold per
  refine ⟨Nat.mul_pos (by omega) hm.1, ?_⟩
  rw [Int.natCast_mul, show (((perL ms n).toNat : Nat) : Int) = perL ms n by omega]
  exact Int.mul_le_mul_of_nonneg_right h1 (by omega)
theorem flt_mono (S : Nat → Bool) {a b : Nat} (h : a ≤ b) : (flt S a).length ≤ (flt S b).length := by
  obtain ⟨c, rfl⟩ := Nat.exists_eq_add_of_le h
  unfold flt
  rw [List.range_add, List.filter_append, List.length_append]
  omega
/-- all that is told of the stops -/
theorem stops_all {ms : List Int} {n c : Int} (hm : Sc ms) (n1 : 1 ≤ n) : ∃ p, stopsD (StL ms n c) (per ms n) = tellD (flt (At ms n c) p) p ∧ 1 ≤ p ∧ p ≤ per ms n ∧ Rep (At ms n c) p ∧ ∀ q, 1 ≤ q → q < p → q ∣ p → ¬ Rep (At ms n c) q :=
  stops_law (per_le hm n1).1 (At_rep hm n1 c)

theorem stL_le {ms : List Int} {n c : Int} (hm : Sc ms) (n1 : 1 ≤ n) : (StL ms n c).length ≤ 8 := by
  have h1 := hm.1
  have hg : 0 < (Int.gcd n ms.sum : Nat) := Int.gcd_pos_of_ne_zero_left _ (by omega)
  have hc := Int.gcd_ediv_gcd_ediv_gcd (i := n) (j := ms.sum) hg
  have hg1 : ((Int.gcd n ms.sum : Nat) : Int) ∣ n := Int.gcd_dvd_left ..
  have hg2 : ((Int.gcd n ms.sum : Nat) : Int) ∣ ms.sum := Int.gcd_dvd_right ..
  have nd : ((StL ms n c).map fun k => k % ms.length).Nodup := by
    refine nodup_map_on (fun a ha b hb e => ?_) ((StL_sorted ms n c).imp fun z => by omega)
    have ha := flt_mem.mp (show a ∈ flt (At ms n c) (per ms n) from ha)
    have hb := flt_mem.mp (show b ∈ flt (At ms n c) (per ms n) from hb)
    have ea : a / ms.length * ms.length + a % ms.length = a := Nat.div_add_mod' a ms.length
    have eb : b / ms.length * ms.length + b % ms.length = b := Nat.div_add_mod' b ms.length
    have fa := of_decide_eq_true ha.2
    have fb := of_decide_eq_true hb.2
    rw [← ea, far_split h1 (Nat.mod_lt a h1)] at fa
    rw [← eb, far_split h1 (Nat.mod_lt b h1), ← e] at fb
    have hd := Int.dvd_of_emod_eq_zero (Int.emod_eq_emod_iff_emod_sub_eq_zero.mp (fa.trans fb.symm))
    have qa : a / ms.length < (perL ms n).toNat := by rw [Nat.div_lt_iff_lt_mul h1]; exact ha.1
    have qb : b / ms.length < (perL ms n).toNat := by rw [Nat.div_lt_iff_lt_mul h1]; exact hb.1
    generalize a / ms.length = x at *
    generalize b / ms.length = y at *
    generalize (List.take (a % ms.length + 1) ms).sum = z at *
    have e0 : z + (x : Int) * ms.sum - (z + (y : Int) * ms.sum) = ((x : Int) - y) * ms.sum := by grind
    rw [e0] at hd
    have hL : perL ms n = n / ((Int.gcd n ms.sum : Nat) : Int) := rfl
    rw [← hL] at hc
    have en : n = ((Int.gcd n ms.sum : Nat) : Int) * perL ms n := by rw [hL]; exact (Int.mul_ediv_cancel' hg1).symm
    have es : ms.sum = ((Int.gcd n ms.sum : Nat) : Int) * (ms.sum / ((Int.gcd n ms.sum : Nat) : Int)) := (Int.mul_ediv_cancel' hg2).symm
    generalize hG : ((Int.gcd n ms.sum : Nat) : Int) = g at *
    generalize hS : ms.sum / g = m at *
    have hd2 : perL ms n ∣ ((x : Int) - y) * m := by
      have : g * perL ms n ∣ g * (((x : Int) - y) * m) := by
        rw [← en]
        have : ((x : Int) - y) * ms.sum = g * (((x : Int) - y) * m) := by rw [es]; grind
        rw [← this]; exact hd
      exact (Int.mul_dvd_mul_iff_left (show g ≠ 0 by omega)).mp this
    have hd3 : perL ms n ∣ (x : Int) - y := by
      have z := Int.natAbs_dvd_natAbs.mpr hd2
      rw [Int.natAbs_mul] at z
      exact Int.natAbs_dvd_natAbs.mp (Nat.Coprime.dvd_of_dvd_mul_right (show Nat.Coprime _ _ from hc) z)
    have := Int.eq_zero_of_dvd_of_natAbs_lt_natAbs hd3 (by omega)
    have xy : x = y := by omega
    rw [← ea, ← eb, xy, e]
  have := pig nd (xs := List.range ms.length) fun y hy => by
    obtain ⟨k, _, rfl⟩ := List.mem_map.mp hy
    exact List.mem_range.mpr (Nat.mod_lt _ h1)
  rw [List.length_map, List.length_range] at this
  exact Nat.le_trans this hm.2.1

/-- the first of many, one by one -/
theorem nth_list {S : Nat → Bool} {P M : Nat} (hP : 0 < P) (hr : Rep S P) (m : Nat) : (((flt S M).map fun (k : Nat) => PyData.int (k : Nat)).take m) = (List.range (min (flt S M).length m)).map fun k => PyData.int (((flt S P).getD (k % (flt S P).length) 0 + k / (flt S P).length * P : Nat) : Int) := by
  refine List.ext_getElem? fun i => ?_
  rw [List.getElem?_take, List.getElem?_map, List.getElem?_map]
  by_cases c : i < min (flt S M).length m
  · have hi : i < (flt S M).length := by omega
    rw [if_pos (by omega), (nth_law hP hr hi).2, List.getElem?_range c]; rfl
  · rw [show (List.range (min (flt S M).length m))[i]? = none from List.getElem?_eq_none (by rw [List.length_range]; omega)]
    split
    · rw [show (flt S M)[i]? = none from List.getElem?_eq_none (by omega)]; rfl
    · rfl
theorem stops_all2 {ms : List Int} {n c : Int} (hm : Sc ms) (n1 : 1 ≤ n) : ∃ p, p ∣ per ms n ∧ stopsD (StL ms n c) (per ms n) = tellD (flt (At ms n c) p) p ∧ 1 ≤ p ∧ p ≤ per ms n ∧ Rep (At ms n c) p ∧ ∀ q, 1 ≤ q → q < p → q ∣ p → ¬ Rep (At ms n c) q :=
  stops_law2 (per_le hm n1).1 (At_rep hm n1 c)
end Pz

set_option Elab.async false
set_option linter.all false
set_option autoImplicit false
set_option maxRecDepth 100000
namespace Pz
open PySem PySem.Spec PyProof.Rows L2

/-! ## how often -/
theorem perm_sum {xs ys : List Int} (h : xs.Perm ys) : xs.sum = ys.sum := by
  induction h with
  | nil => rfl
  | cons x _ ih => rw [List.sum_cons, List.sum_cons, ih]
  | swap x y l => simp only [List.sum_cons]; omega
  | trans _ _ h1 h2 => exact h1.trans h2
theorem sum_change {f g : Nat → Int} {e : Int} {i0 : Nat} : ∀ {xs : List Nat}, xs.Nodup → (∀ i ∈ xs, i ≠ i0 → g i = f i) → g i0 = f i0 + e → (xs.map g).sum = (xs.map f).sum + if i0 ∈ xs then e else 0
  | [], _, _, _ => rfl
  | x :: xs, nd, h, h0 => by
    rw [List.nodup_cons] at nd
    have ih := sum_change (f := f) (g := g) (e := e) (i0 := i0) nd.2 (fun i hi => h i (List.mem_cons_of_mem _ hi)) h0
    rw [List.map_cons, List.map_cons, List.sum_cons, List.sum_cons, ih]
    by_cases c : x = i0
    · subst c
      rw [if_neg nd.1, if_pos List.mem_cons_self, h0]; omega
    · rw [h x List.mem_cons_self c]
      by_cases c2 : i0 ∈ xs
      · rw [if_pos c2, if_pos (List.mem_cons_of_mem _ c2)]; omega
      · rw [if_neg c2, if_neg (fun z => (List.mem_cons.mp z).elim (fun e => c e.symm) c2)]; omega
/-- the rounds of place i before stop k -/
def rnds (len k i : Nat) : Nat := k / len + if i < k % len then 1 else 0
/-- how many of the first r rounds leave rest d -/
def hits (l d r : Nat) : Nat := r / l + if d < r % l then 1 else 0
theorem hits_succ {l d : Nat} (hl : 0 < l) (hd : d < l) (r : Nat) : hits l d (r + 1) = hits l d r + if r % l = d then 1 else 0 := by
  unfold hits
  have h1 := Nat.mod_lt r hl
  have e := Nat.div_add_mod r l
  by_cases c : r % l + 1 < l
  · have e1 : (r + 1) % l = r % l + 1 := by rw [Nat.add_mod, Nat.mod_eq_of_lt (show 1 < l by omega), Nat.mod_eq_of_lt c]
    have e2 : (r + 1) / l = r / l := by rw [Nat.div_eq_iff hl]; constructor <;> rw [Nat.mul_comm] <;> omega
    rw [e1, e2]
    split <;> split <;> split <;> omega
  · have e3 : r + 1 = l * (r / l + 1) := by rw [Nat.mul_add]; omega
    have e1 : (r + 1) % l = 0 := by rw [e3]; exact Nat.mul_mod_right _ _
    have e2 : (r + 1) / l = r / l + 1 := by rw [e3]; exact Nat.mul_div_cancel_left _ hl
    rw [e1, e2]
    split <;> split <;> split <;> omega
theorem rnds_succ {len : Nat} (hl : 0 < len) (k i : Nat) (hi : i < len) : rnds len (k + 1) i = rnds len k i + if k % len = i then 1 else 0 := by
  unfold rnds
  have h1 := Nat.mod_lt k hl
  have e := Nat.div_add_mod k len
  by_cases c : k % len + 1 < len
  · have e1 : (k + 1) % len = k % len + 1 := by rw [Nat.add_mod, Nat.mod_eq_of_lt (show 1 < len by omega), Nat.mod_eq_of_lt c]
    have e2 : (k + 1) / len = k / len := by rw [Nat.div_eq_iff hl]; constructor <;> rw [Nat.mul_comm] <;> omega
    rw [e1, e2]
    split <;> split <;> split <;> omega
  · have e3 : k + 1 = len * (k / len + 1) := by rw [Nat.mul_add]; omega
    have e1 : (k + 1) % len = 0 := by rw [e3]; exact Nat.mul_mod_right _ _
    have e2 : (k + 1) / len = k / len + 1 := by rw [e3]; exact Nat.mul_div_cancel_left _ hl
    rw [e1, e2]
    split <;> split <;> split <;> omega
theorem rnds_here {len : Nat} (hl : 0 < len) (k : Nat) : rnds len k (k % len) = k / len := by
  unfold rnds; rw [if_neg (by omega)]; rfl
def dI (ms : List Int) (s l v t : Int) (i : Nat) : Int := (t - turnW s l v (plc ms i)) % l
def timesI (ms : List Int) (s l v rest t : Int) (k : Nat) : Int := ((idx ms s rest).map fun i => (hits l.toNat (dI ms s l v t i).toNat (rnds ms.length k i) : Int)).sum
theorem times_law {ms : List Int} {n s l f v c : Int} (hm : Sc ms) (h : Wh ms n s l f v) (c0 : 0 ≤ c) (c1 : c < n) (k : Nat) : timesI ms s l v (c % s) (turnW s l v c) k = (flt (At ms n c) k).length := by
  have h1 := hm.1
  have l1 := h.l1
  induction k with
  | zero =>
    unfold timesI
    have e : ∀ i, (hits l.toNat (dI ms s l v (turnW s l v c) i).toNat (rnds ms.length 0 i) : Int) = 0 := fun i => by
      unfold rnds hits
      rw [Nat.zero_mod, Nat.zero_div, if_neg (by omega), Nat.zero_mod, Nat.zero_div, if_neg (by omega)]; rfl
    have : ∀ xs : List Nat, (xs.map fun i => (hits l.toNat (dI ms s l v (turnW s l v c) i).toNat (rnds ms.length 0 i) : Int)).sum = 0 := fun xs => by
      induction xs with
      | nil => rfl
      | cons x xs ih => rw [List.map_cons, List.sum_cons, ih, e]; rfl
    rw [this]; rfl
  | succ k ih =>
    have hi := Nat.mod_lt k h1
    have hd0 : ∀ i, 0 ≤ dI ms s l v (turnW s l v c) i ∧ dI ms s l v (turnW s l v c) i < l := fun i => ⟨Int.emod_nonneg _ (by omega), Int.emod_lt_of_pos _ (by omega)⟩
    have ch := sum_change (xs := idx ms s (c % s)) (i0 := k % ms.length) (f := fun i => (hits l.toNat (dI ms s l v (turnW s l v c) i).toNat (rnds ms.length k i) : Int)) (g := fun i => (hits l.toNat (dI ms s l v (turnW s l v c) i).toNat (rnds ms.length (k + 1) i) : Int))
      (e := if (k / ms.length) % l.toNat = (dI ms s l v (turnW s l v c) (k % ms.length)).toNat then 1 else 0) (idx_nodup _ _ _) (fun i hm2 ne => by
        show (hits _ _ (rnds ms.length (k + 1) i) : Int) = _
        rw [rnds_succ h1 k i (idx_mem.mp hm2).1, if_neg (fun z => ne z.symm)]; rfl) (by
        show (hits _ _ (rnds ms.length (k + 1) (k % ms.length)) : Int) = _
        have := hd0 (k % ms.length)
        rw [rnds_succ h1 k _ hi, if_pos rfl, rnds_here h1, hits_succ (by omega) (by omega)]
        split <;> simp)
    unfold timesI at ih ⊢
    rw [ch, ih]
    have e2 : flt (At ms n c) (k + 1) = flt (At ms n c) k ++ if At ms n c k = true then [k] else [] := by
      unfold flt
      rw [List.range_succ, List.filter_append, List.filter_cons]
      rfl
    rw [e2, List.length_append]
    have ek : k / ms.length * ms.length + k % ms.length = k := Nat.div_add_mod' k ms.length
    have key : At ms n c k = true ↔ k % ms.length ∈ idx ms s (c % s) ∧ (k / ms.length) % l.toNat = (dI ms s l v (turnW s l v c) (k % ms.length)).toNat := by
      have hdd := hd0 (k % ms.length)
      have c2 : (k / ms.length) % l.toNat = (dI ms s l v (turnW s l v c) (k % ms.length)).toNat ↔ l ∣ turnW s l v c - turnW s l v (plc ms (k % ms.length)) - ((k / ms.length : Nat) : Int) := by
        have e3 : ((((k / ms.length) % l.toNat : Nat)) : Int) = ((k / ms.length : Nat) : Int) % l := by
          rw [Int.natCast_emod]; congr 1; omega
        have e4 : ((dI ms s l v (turnW s l v c) (k % ms.length)).toNat : Int) = dI ms s l v (turnW s l v c) (k % ms.length) := by omega
        rw [show ((k / ms.length) % l.toNat = (dI ms s l v (turnW s l v c) (k % ms.length)).toNat) ↔ ((((k / ms.length) % l.toNat : Nat)) : Int) = ((dI ms s l v (turnW s l v c) (k % ms.length)).toNat : Int) from Int.ofNat_inj.symm, e3, e4]
        unfold dI
        rw [eq_comm, Int.emod_eq_emod_iff_emod_sub_eq_zero]
        exact ⟨Int.dvd_of_emod_eq_zero, Int.emod_eq_zero_of_dvd⟩
      rw [c2]
      unfold At
      rw [decide_eq_true_eq, emod_eq_iff_dvd c0 c1]
      have fs : far ms k = plc ms (k % ms.length) + ((k / ms.length : Nat) : Int) * ms.sum := by
        have := far_split h1 hi (k / ms.length)
        rw [ek] at this; exact this
      rw [fs, idx_mem]
      constructor
      · intro hd
        have e1 := wheel_not h _ _ _ hd
        exact ⟨⟨hi, e1⟩, (wheel_law h _ _ e1 _).mp hd⟩
      · intro ⟨⟨_, e1⟩, hd⟩
        exact (wheel_law h _ _ e1 _).mpr hd
    by_cases a : k % ms.length ∈ idx ms s (c % s)
    · rw [if_pos a]
      by_cases b : (k / ms.length) % l.toNat = (dI ms s l v (turnW s l v c) (k % ms.length)).toNat
      · rw [if_pos b, if_pos (key.mpr ⟨a, b⟩)]; simp
      · rw [if_neg b, if_neg (fun z => b (key.mp z).2)]; simp
    · rw [if_neg a, if_neg (fun z => a (key.mp z).1)]; simp

def tmV (ms : List Int) (l t : Int) (k : Nat) : D → Int
  | .tuple [.int a, .int i] => (hits l.toNat ((t - a) % l).toNat (rnds ms.length k i.toNat) : Int)
  | _ => 0
theorem tmV_sum (ms : List Int) (s l v rest t : Int) (k : Nat) : ((stD ms s l v rest).map (tmV ms l t k)).sum = timesI ms s l v rest t k := by
  unfold stD timesI
  rw [List.map_map]
  rfl

theorem rnds_cast (len k i : Nat) : (k : Int) / (len : Int) + (if (i : Int) < (k : Int) % (len : Int) then 1 else 0) = (rnds len k i : Nat) := by
  unfold rnds
  have e1 : (k : Int) / (len : Int) = ((k / len : Nat) : Int) := rfl
  have e2 : (k : Int) % (len : Int) = ((k % len : Nat) : Int) := rfl
  rw [e1, e2, Int.natCast_add]
  congr 1
  by_cases c : i < k % len
  · rw [if_pos c, if_pos (by omega)]; rfl
  · rw [if_neg c, if_neg (by omega)]; rfl
theorem hits_cast {l d : Int} (hl : 1 ≤ l) (d0 : 0 ≤ d) (r : Nat) : (r : Int) / l + (if d < (r : Int) % l then 1 else 0) = (hits l.toNat d.toNat r : Nat) := by
  obtain ⟨l', rfl⟩ := Int.eq_ofNat_of_zero_le (show 0 ≤ l by omega)
  obtain ⟨d', rfl⟩ := Int.eq_ofNat_of_zero_le d0
  unfold hits
  have e1 : (r : Int) / (l' : Int) = ((r / l' : Nat) : Int) := rfl
  have e2 : (r : Int) % (l' : Int) = ((r % l' : Nat) : Int) := rfl
  rw [e1, e2, Int.natCast_add]
  show _ = ((r / l' : Nat) : Int) + ((if d' < r % l' then 1 else 0 : Nat) : Int)
  congr 1
  by_cases c : d' < r % l'
  · rw [if_pos c, if_pos (by omega)]; rfl
  · rw [if_neg c, if_neg (by omega)]; rfl

theorem flt_succ (S : Nat → Bool) (k : Nat) : flt S (k + 1) = flt S k ++ if S k = true then [k] else [] := by
  unfold flt
  rw [List.range_succ, List.filter_append, List.filter_cons]
  rfl
theorem flt_count (ms : List Int) (n c : Int) {M k : Nat} (h : k ≤ M) : (((List.range M).map fun i => far ms i % n).take k).count c = (flt (At ms n c) k).length := by
  rw [← List.map_take, List.take_range, Nat.min_eq_left h]
  unfold flt
  rw [← List.countP_eq_length_filter, List.count_eq_countP, List.countP_map]
  refine List.countP_congr fun x _ => ?_
  unfold At
  show (far ms x % n == c) = true ↔ _
  rw [beq_iff_eq, decide_eq_true_eq]
theorem cnt_sum (ms : List Int) {n : Int} (n1 : 1 ≤ n) (k : Nat) : ((List.range n.toNat).map fun c => ((flt (At ms n (c : Nat)) k).length : Int)).sum = k := by
  induction k with
  | zero =>
    have : ∀ xs : List Nat, (xs.map fun c => ((flt (At ms n (c : Nat)) 0).length : Int)).sum = 0 := fun xs => by
      induction xs with
      | nil => rfl
      | cons x xs ih => rw [List.map_cons, List.sum_cons, ih]; rfl
    exact this _
  | succ k ih =>
    have z0 := Int.emod_nonneg (far ms k) (show n ≠ 0 by omega)
    have z1 := Int.emod_lt_of_pos (far ms k) (show 0 < n by omega)
    have ch := sum_change (xs := List.range n.toNat) (i0 := (far ms k % n).toNat) (f := fun c => ((flt (At ms n (c : Nat)) k).length : Int)) (g := fun c => ((flt (At ms n (c : Nat)) (k + 1)).length : Int)) (e := 1) List.nodup_range (fun i hi ne => by
      show ((flt (At ms n (i : Nat)) (k + 1)).length : Int) = _
      rw [flt_succ, if_neg (by unfold At; rw [decide_eq_true_eq]; omega), List.append_nil]) (by
      show ((flt (At ms n ((far ms k % n).toNat : Nat)) (k + 1)).length : Int) = _
      rw [flt_succ, if_pos (by unfold At; rw [decide_eq_true_eq]; omega), List.length_append]; rfl)
    rw [ch, ih, if_pos (List.mem_range.mpr (by omega))]; rfl
def nthD (xs : List Nat) (p k : Nat) : D := if xs = [] then .none else .int ((xs.getD (k % xs.length) 0 + k / xs.length * p : Nat) : Int)
/-- the stop itself, by its number -/
theorem nth_here {ms : List Int} {n c : Int} (hm : Sc ms) (n1 : 1 ≤ n) {k : Nat} (h : At ms n c k = true) : nthD (StL ms n c) (per ms n) (flt (At ms n c) k).length = .int (k : Nat) := by
  have e := flt_succ (At ms n c) k
  rw [if_pos h] at e
  have hi : (flt (At ms n c) k).length < (flt (At ms n c) (k + 1)).length := by rw [e, List.length_append]; exact Nat.lt_succ_self _
  obtain ⟨hne, h0⟩ := nth_law (per_le hm n1).1 (At_rep hm n1 c) hi
  rw [e, List.getElem?_append_right (Nat.le_refl _), Nat.sub_self] at h0
  have h0 : some k = some _ := h0
  unfold nthD
  rw [if_neg (fun z => hne (by rw [show flt (At ms n c) (per ms n) = StL ms n c from rfl, z]; rfl))]
  have e2 := Option.some.inj h0
  rw [show StL ms n c = flt (At ms n c) (per ms n) from rfl, ← e2]
theorem At_far (ms : List Int) (n : Int) (k : Nat) : At ms n (far ms k % n) k = true := decide_eq_true rfl

theorem flt_split {S : Nat → Bool} {P : Nat} (h : Rep S P) (k : Nat) : (flt S k).length = k / P * (flt S P).length + (flt S (k % P)).length := by
  have e : k = k / P * P + k % P := (Nat.div_add_mod' k P).symm
  have z := flt_len h (k / P)
  generalize k / P = m at *
  generalize k % P = r at *
  rw [e]
  unfold flt at z ⊢
  rw [List.range_add, List.filter_append, List.length_append, z, List.filter_map, List.length_map]
  congr 2
  refine List.filter_congr fun x _ => ?_
  show S (m * P + x) = S x
  rw [Nat.add_comm]; exact h.mul m x
end Pz

set_option Elab.async false
set_option linter.all false
set_option autoImplicit false
set_option maxRecDepth 100000
namespace Pz
open PySem PySem.Spec PyProof.Rows L2

/-! ## there is a wheel -/
theorem bez (y : Nat) : ∀ x : Int, ∃ a b : Int, a * x + b * (y : Int) = (Int.gcd x y : Nat) := by
  induction y using Nat.strongRecOn with
  | ind y ih =>
    intro x
    rcases Nat.eq_zero_or_pos y with z | z
    · subst z
      rw [show Int.gcd x (0 : Nat) = x.natAbs from Int.gcd_zero_right x]
      rcases Int.le_total 0 x with c | c
      · exact ⟨1, 0, by omega⟩
      · exact ⟨-1, 0, by omega⟩
    · have z0 := Int.emod_nonneg x (show (y : Int) ≠ 0 by omega)
      have z1 := Int.emod_lt_of_pos x (show (0 : Int) < y by omega)
      obtain ⟨r, hr⟩ := Int.eq_ofNat_of_zero_le z0
      obtain ⟨a, b, e⟩ := ih r (by omega) y
      have g := gcd_mod x y (by omega)
      rw [hr] at g
      refine ⟨b, a - b * (x / y), ?_⟩
      have hd := Int.mul_ediv_add_emod x y
      rw [hr] at hd
      rw [← g, ← e]
      have : b * x = b * ((y : Int) * (x / y) + r) := by rw [hd]
      rw [this]
      grind
theorem wh_ex (ms : List Int) {n : Int} (n1 : 1 ≤ n) : ∃ s l f v, Wh ms n s l f v := by
  have hp : 0 < (Int.gcd n ms.sum : Nat) := Int.gcd_pos_of_ne_zero_left _ (by omega)
  have hg : ((Int.gcd n ms.sum : Nat) : Int) ∣ ms.sum := Int.gcd_dvd_right ..
  have hg2 : ((Int.gcd n ms.sum : Nat) : Int) ∣ n := Int.gcd_dvd_left ..
  have hc : Int.gcd (n / (Int.gcd n ms.sum : Nat)) (ms.sum / (Int.gcd n ms.sum : Nat)) = 1 := Int.gcd_ediv_gcd_ediv_gcd hp
  generalize hG : ((Int.gcd n ms.sum : Nat) : Int) = s at *
  obtain ⟨l, hl2⟩ := hg2
  have s0 : 0 < s := by omega
  have el : n / s = l := by rw [hl2]; exact Int.mul_ediv_cancel_left _ (by omega)
  rw [el] at hc
  have l1 : 1 ≤ l := by
    rcases Int.lt_or_le l 1 with z | z
    · have := Int.mul_le_mul_of_nonneg_left (show l ≤ 0 by omega) (show 0 ≤ s by omega); omega
    · exact z
  obtain ⟨l', rfl⟩ := Int.eq_ofNat_of_zero_le (show 0 ≤ l by omega)
  obtain ⟨a, b, e⟩ := bez l' (ms.sum / s % (l' : Int))
  have g1 : Int.gcd (ms.sum / s % (l' : Int)) l' = 1 := by rw [Int.gcd_comm, gcd_mod _ _ (by omega), Int.gcd_comm]; exact hc
  rw [g1] at e
  refine ⟨s, l', ms.sum / s % (l' : Int), a % (l' : Int), n1, hG.symm, hl2.symm, l1, s0, rfl, Int.emod_nonneg _ (by omega), Int.emod_lt_of_pos _ (by omega), ?_⟩
  have ha := Int.mul_ediv_add_emod a l'
  refine ⟨-b - (ms.sum / s % (l' : Int)) * (a / l'), ?_⟩
  generalize ms.sum / s % (l' : Int) = F at *
  have e2 : a % (l' : Int) = a - l' * (a / l') := by omega
  rw [e2]
  have e3 : a * F + b * (l' : Int) = 1 := e
  grind
theorem stL_len {ms : List Int} {n s l f v c : Int} (hm : Sc ms) (h : Wh ms n s l f v) (c0 : 0 ≤ c) (c1 : c < n) : (StL ms n c).length = (idx ms s (c % s)).length := by
  have hs : ((idx ms s (c % s)).map (fst1 ms s l v c)).Perm ((StL ms n c).map fun (k : Nat) => (k : Int)) := by
    refine (List.perm_ext_iff_of_nodup (nodup_map_on (fun a ha b hb => fst1_inj (idx_mem.mp ha).1 (idx_mem.mp hb).1) (idx_nodup _ _ _)) (nodup_map_on (fun a _ b _ e => by omega) ((StL_sorted ms n c).imp fun z => by omega))).mpr fun a => ?_
    rw [List.mem_map, List.mem_map]
    constructor
    · intro ⟨i, hi, e⟩
      have l1 := h.l1
      have a0 : 0 ≤ a := by
        rw [← e]; unfold fst1
        have := Int.emod_nonneg (turnW s l v c - turnW s l v (plc ms i)) (show l ≠ 0 by omega)
        have := Int.mul_nonneg this (show (0 : Int) ≤ ms.length by omega)
        omega
      obtain ⟨k, rfl⟩ := Int.eq_ofNat_of_zero_le a0
      exact ⟨k, (StL_mem hm h c0 c1 k).mpr ⟨i, hi, e⟩, rfl⟩
    · intro ⟨k, hk, e⟩
      obtain ⟨i, hi, e2⟩ := (StL_mem hm h c0 c1 k).mp hk
      exact ⟨i, hi, e2.trans e⟩
  have := hs.length_eq
  rw [List.length_map, List.length_map] at this
  exact this.symm
/-- the i-th of all, by any round -/
theorem nth_any {S : Nat → Bool} {p q : Nat} (hp : 0 < p) (hq : 0 < q) (rp : Rep S p) (rq : Rep S q) (h : 0 < (flt S p).length) (i : Nat) :
    (flt S p).getD (i % (flt S p).length) 0 + i / (flt S p).length * p = (flt S q).getD (i % (flt S q).length) 0 + i / (flt S q).length * q := by
  have hi : i < (flt S ((i + 1) * p)).length := by
    rw [flt_len rp]
    have := Nat.mul_le_mul_left (i + 1) h
    omega
  have a := (nth_law hp rp hi).2
  have b := (nth_law hq rq hi).2
  rw [a] at b
  exact Option.some.inj b
end Pz

set_option Elab.async false
set_option linter.all false
set_option autoImplicit false
set_option maxRecDepth 100000
namespace Pz
open PySem PySem.Spec PyProof.Rows L2

/-! ## set(xs), xs a list of ints -/
section
variable {prog : Program} {w : World} {A : Around} {E : Value → Shared → Prop} {s : Shared}
/-- a set as it is born -/
abbrev bornS (w : World) : Obj := { cls := .type "set", dict := none, data := .set #[] 0 (.fresh 0 0 (!w.params.followText "set-order")) }
abbrev withS (w : World) (s : Shared) : Shared := { s with heap := s.heap.push (bornS w) }
/-- what __init__ leaves -/
def LsDone (w : World) (s : Shared) (ms : List Int) (r : Value) (t : Shared) : Prop := r = .none ∧ ∃ g tk m, t = { s with heap := g, toks := tk } ∧ SetR w g s.heap.objs.size (fun j => decide (j ∈ ms)) m ∧ m ≤ ms.length ∧ ∀ b o, s.heap.get? b = some o → g.get? b = some o
theorem ls_init {p : Addr} {xs : Array Value} {ms : List Int} (hA : A.handled = none) (hp : s.heap.IsList p xs) (hx : IntsAre xs.toList ms) (few : ms.length + 1 < scanBound) (hT : Shared.TypeIs (withS w s) (.ref s.heap.objs.size) "set") :
    codeAny (model prog w) A (.call (.builtin "set.__init__") ⟨[.ref s.heap.objs.size, .ref p], []⟩) (wants (LsDone w s ms) E) (withS w s) := by
  have size : xs.size = ms.length := by rw [← IntsAre.length hx, Array.length_toList]
  have born : (withS w s).heap.get? s.heap.objs.size = some (bornS w) := Heap.get?_push_size _ rfl
  refine codeAny_call_builtin F.called_set.init.plain F.entry_set_init (check_set_init_1 hT ?_)
  obtain ⟨⟨c0, d0, dat, sl⟩, ho, hc, m, hd⟩ := hp
  simp only at hc hd; subst hc hd
  have old : p < s.heap.objs.size := Heap.lt_size ho
  have ho2 : (withS w s).heap.get? p = some { cls := .type "list", dict := d0, data := .seq xs m, slots := sl } := Heap.get?_push_of_some _ ho
  have f1 := F.sub_list_set; have f2 := F.sub_list_frozenset
  have f3 : (Value.type "list" == Value.type "dict") = false := by decide
  have hl : (withS w s).heap.IsList p xs := ⟨_, ho2, rfl, m, rfl⟩
  unfold Builtin.«set.__init__» noKeywords Builtin.Frozenset.updateFrom
  generalize he : pyIter = it
  wp_walk
  subst he
  refine wpAny_pyIter_list hl (wpAny_bind (wpAny_runValue ?_))
  have hA3 : A.in1.in1.handled = none := by simp [hA]
  have sz : (withS w s).heap.objs.size = s.heap.objs.size + 1 := Heap.size_push ..
  have far : p ≠ (withS w s).heap.objs.size := by rw [sz]; exact Nat.ne_of_lt (Nat.lt_succ_of_lt old)
  refine set_update_ints ((Walks.list hA3 _ p far xs).toS) s.heap.objs.size (by rw [sz]; simp only [List.mem_cons, List.mem_singleton, List.not_mem_nil, or_false, not_or]; exact ⟨Nat.ne_of_lt (Nat.lt_succ_self _), Nat.ne_of_gt old⟩) ms size few (fun i v hv => ?v) (xs.size - 0) 0 _ (by omega) (Nat.zero_le _)
    ?z1 ?z0 fun t m2 hm le R => ?r
  case z1 => exact ⟨⟨_, Heap.get?_push_size _ rfl, rfl, rfl⟩, hl.push _⟩
  case z0 =>
    have b2 : ((withS w s).heap.push { cls := .type "list_iterator", data := .fields #[.ref p, .int 0 0] }).get? s.heap.objs.size = some (bornS w) := Heap.get?_push_of_some _ born
    exact ⟨0, Nat.le_refl 0, setR_new_at b2⟩
  case v =>
    have hi : i < ms.length := by rw [← size]; exact (Array.getElem?_eq_some_iff.mp hv).1
    obtain ⟨t, e⟩ := PyProof.Rows.IntsAre.int_at hx i v (by rw [Array.getElem?_toList]; exact hv)
    exact ⟨ms[i], t, List.getElem?_eq_getElem hi, by rw [e, List.getD_eq_getElem?_getD, List.getElem?_eq_getElem hi] <;> rfl⟩
  case r =>
    obtain ⟨g, g2, d', tk, os'⟩ := t
    obtain rfl : g2 = s.gens := hm.gens
    obtain rfl : d' = s.drawn := hm.drawn
    obtain rfl : os' = s.os := hm.os
    show wpAny _ _ _ _ _ _
    refine wpAny_pure ?_
    show wpAny _ _ (ret Value.none) _ _ _
    refine wpAny_pure ⟨rfl, g, tk, m2, rfl, R, by omega, fun b o e => ?_⟩
    have hb := Heap.lt_size e
    exact hm.heap b o (by rw [sz]; simp only [List.mem_cons, List.mem_singleton, List.not_mem_nil, or_false, not_or]; exact ⟨Nat.ne_of_lt hb, Nat.ne_of_lt (Nat.lt_succ_of_lt hb)⟩) (Heap.get?_push_of_some _ (Heap.get?_push_of_some _ e))
theorem call_set_ls {p : Addr} {xs : Array Value} {ms : List Int} {Q : Value → Shared → Prop} (hA : A.handled = none) (hp : s.heap.IsList p xs) (hx : IntsAre xs.toList ms) (few : ms.length + 1 < scanBound)
    (h : ∀ (g : Heap) (tk m : Nat), SetR w g s.heap.objs.size (fun j => decide (j ∈ ms)) m → m ≤ ms.length → (∀ b o, s.heap.get? b = some o → g.get? b = some o) → Q (.ref s.heap.objs.size) { s with heap := g, toks := tk }) :
    wpAny (model prog w) A (call (.type "set") [.ref p]) Q E s := by
  obtain ⟨c, tl, a1⟩ := F.called_set.mro
  have a2 := F.called_set.made; have a3 := F.called_set.sub; have a4 := F.called_set.notType; have a5 := F.called_set.canCreate; have a6 := F.typeCall_set_1 (.ref p)
  refine wpAny_call (codeAny_of_tree ?_)
  show wpAny _ _ (callAny (.type "set") _) _ _ _
  refine wpAny_pure ⟨Code.quiet_builtin _ (by decide +kernel), codeAny_builtin F.entry_type_call ?_⟩
  rw [Around.under_plain (weight_type_call_type "set" [.ref p] []) rfl]
  repeat (any_goals (first | assumption | wp_step))
  refine codeAny_mono (code_set_led1 (.ref p) (E := E) (Q₁ := fun v t => v = .ref s.heap.objs.size ∧ t = withS w s) ⟨rfl, rfl⟩) fun r t hr => ?_
  cases r with
  | error e => exact hr
  | ok fl =>
    cases fl with
    | ret v =>
      obtain ⟨rfl, rfl⟩ := hr
      have hT : Shared.TypeIs (withS w s) (.ref s.heap.objs.size) "set" := ⟨_, Heap.get?_push_size _ rfl, rfl⟩
      have b1 := F.called_set.init.lookup; have b2 := F.called_set.init.bind (.ref s.heap.objs.size)
      repeat (any_goals (first | assumption | wp_step))
      refine codeAny_mono (ls_init (E := E) (by simp [hA]) hp hx few hT) fun r2 t2 hr2 => ?_
      cases r2 with
      | error e => exact hr2
      | ok fl2 =>
        cases fl2 with
        | ret v2 =>
          obtain ⟨rfl, g, tk, m, rfl, R, le, old⟩ := hr2
          repeat (any_goals (first | assumption | wp_step))
          exact h _ _ _ R le old
        | _ => exact hr2.elim
    | _ => exact hr.elim
end
section
variable {X : Cx} {E : XK} {a : Expr} {w : WE}
def rSetLI (K : PySem.W.Frag) (w : World) : List V → Hp → VK → Prop := fun vs H Q => ∃ (p : Addr) (ns : List Int), vs = [.ref p] ∧ SqL K H p (ns.map V.int) ∧ ns.length ≤ 1000 ∧
  ∀ (q : Addr) (c : Nat), c ≤ ns.length → H q = none → Q (.ref q) (upd H q (SetO w q (fun j => decide (j ∈ ns)) c))
theorem cr_setLI (hc : X.calm = true) : CallR X (.type "set") (rSetLI X.K X.w) := by
  intro pins s σ H vs us Q I r h
  obtain ⟨p, ns, rfl, hs, hl, q⟩ := h
  obtain ⟨its, rv, pl, hz⟩ := I.list hs
  rw [Vals.ref1 r]
  refine call_set_ls (ms := ns) (I.ok.hd hc) pl.isList rv.ints (by unfold scanBound; omega) fun h' tk c R1 hcn k => ?_
  have hn : H s.heap.objs.size = none := I.hok.fresh (Nat.le_refl _)
  exact ⟨.ref _, upd H s.heap.objs.size (SetO X.w s.heap.objs.size (fun j => decide (j ∈ ns)) c), I.laid (t' := tk) k (Nat.le_refl _) (setO_new R1), rfl, q _ c hcn hn⟩
def gSortSetL : D → (L → Prop) → Prop
  | .list xs, P => ∃ ns, intsD? xs = some ns ∧ ns.length ≤ 60 ∧ ∀ ns' : List Int, ns'.Pairwise (· < ·) → (∀ k : Int, k ∈ ns' ↔ k ∈ ns) → P (.own (ns'.map .int))
  | _, _ => False
theorem fe_sortSetL {p p2 pos pos2 : Pos} (hc : X.calm = true) (hg : Gl X "sorted") (hm : X.mg "sorted" = none) (hg2 : Gl X "set") (hm2 : X.mg "set" = none) (ha : FE X E a w)
    (h1 : starEach [a] X.env = (false, eval a X.env) :: starEach [] X.env) (h3 : (backTo pos2 (starEach [] X.env)).any (·.1) = false) (h4 : starEach [.Call (.Name "set" p2) [a] [] pos2] X.env = (false, eval (.Call (.Name "set" p2) [a] [] pos2) X.env) :: starEach [] X.env) (h6 : (backTo pos (starEach [] X.env)).any (·.1) = false) :
    FE X E (.Call (.Name "sorted" p) [.Call (.Name "set" p2) [a] [] pos2] [] pos) (w1 gSortSetL w) :=
  ⟨pe_imp (pe_callB (cr_sortedSet hc) hg hm (by decide +kernel) (pa_cons (pe_callTy (cr_setLI hc) hg2 hm2 (by decide +kernel) (pa_cons ha.pe pa_nil h1) (by decide) (by decide) h1 h3) pa_nil h4) (by decide) (by decide) h4 h6) fun σ H Q ⟨T0, B0, H0, T, B, ρ, P, Px, o, hw, hQ, hx⟩ => ⟨T0, B0, H0, T, B, ρ, _, Px, o, hw, fun l v B1 H1 p e r => by
    obtain ⟨d, hd, p⟩ := p
    obtain ⟨B1', e', s', rd⟩ := to_d e r hd
    match d, p with
    | .list xs, p =>
      obtain ⟨ns, en, hlen, p1⟩ := p
      have en := intsD_of en
      subst en
      cases rd with
      | lst h rr =>
        have := rr.ints
        subst this
        refine ⟨_, ns, rfl, .of (e'.s _ _ h), by omega, fun q c hcn hq => ?_⟩
        refine ⟨q, _, c, rfl, upd_same, by omega, fun ns' t hs hk hcl ht => ?_⟩
        have e2 : PExt B1' H1 B1' (upd H1 q (SetO X.w q (fun j => decide (j ∈ ns)) c)) := PExt.newOwn e'.s hq
        have e3 := e'.trans (e2.ext e'.t)
        have e4 : PExt B1' (upd H1 q (SetO X.w q (fun j => decide (j ∈ ns)) c)) B1' (upd (upd H1 q (SetO X.w q (fun j => decide (j ∈ ns)) c)) t (.lst (ns'.map V.int))) := PExt.newOwn e3.s ht
        exact hQ _ _ _ _ (p1 ns' hs fun k => by rw [hk k, decide_eq_true_eq]) (e3.trans (e4.ext e3.t)) ⟨t, _, rfl, e3.free o.sub (.of ht), e3.s.free ht, not_hat e3.t ht, upd_same, RpA.of_ints ns'⟩, hx⟩⟩
/-- len(set(xs)) -/
def rLenSO (w : World) : List V → Hp → VK → Prop := fun vs H Q => ∃ (q : Addr) (S : Int → Bool) (n : Nat), vs = [.ref q] ∧ H q = some (SetO w q S n) ∧ ((∀ ks : List Int, ks.Nodup → (∀ k, k ∈ ks ↔ S k = true) → ks.length = n) → Q (.int n) H)
theorem cr_lenSO : CallR X (.builtin "len") (rLenSO X.w) := by
  intro pins s σ H vs us Q I r h
  obtain ⟨q, S, n, rfl, hq, h⟩ := h
  obtain rfl := Vals.ref1 r
  obtain ⟨o, es, ep, t, ho, hx, hd, g, nd, hm, hb, hf, hn, _⟩ := setO_get I hq
  refine call_len_set ho hx hd hf (Int.lt_trans (Int.ofNat_lt.mpr hb) (by decide +kernel)) ⟨.int n, H, I.tok _, ⟨_, by rw [hn]⟩, h fun ks k1 k2 => ?_⟩
  have e := (List.perm_ext_iff_of_nodup k1 nd).mpr fun a => (k2 a).trans (hm a)
  rw [e.length_eq, List.length_map, Array.length_toList, hn]
def gLenSetL : D → (L → Prop) → Prop
  | .list xs, P => ∃ ns, intsD? xs = some ns ∧ ns.length ≤ 1000 ∧ ∀ n : Nat, (∀ ks : List Int, ks.Nodup → (∀ k, k ∈ ks ↔ k ∈ ns) → ks.length = n) → P (.val (.int n))
  | _, _ => False
theorem fe_lenSetL {p p2 pos pos2 : Pos} (hc : X.calm = true) (hg : Gl X "len") (hm : X.mg "len" = none) (hg2 : Gl X "set") (hm2 : X.mg "set" = none) (ha : FE X E a w)
    (h1 : starEach [a] X.env = (false, eval a X.env) :: starEach [] X.env) (h3 : (backTo pos2 (starEach [] X.env)).any (·.1) = false) (h4 : starEach [.Call (.Name "set" p2) [a] [] pos2] X.env = (false, eval (.Call (.Name "set" p2) [a] [] pos2) X.env) :: starEach [] X.env) (h6 : (backTo pos (starEach [] X.env)).any (·.1) = false) :
    FE X E (.Call (.Name "len" p) [.Call (.Name "set" p2) [a] [] pos2] [] pos) (w1 gLenSetL w) :=
  ⟨pe_imp (pe_callB cr_lenSO hg hm (by decide +kernel) (pa_cons (pe_callTy (cr_setLI hc) hg2 hm2 (by decide +kernel) (pa_cons ha.pe pa_nil h1) (by decide) (by decide) h1 h3) pa_nil h4) (by decide) (by decide) h4 h6) fun σ H Q ⟨T0, B0, H0, T, B, ρ, P, Px, o, hw, hQ, hx⟩ => ⟨T0, B0, H0, T, B, ρ, _, Px, o, hw, fun l v B1 H1 p e r => by
    obtain ⟨d, hd, p⟩ := p
    obtain ⟨B1', e', s', rd⟩ := to_d e r hd
    match d, p with
    | .list xs, p =>
      obtain ⟨ns, en, hlen, p1⟩ := p
      have en := intsD_of en
      subst en
      cases rd with
      | lst h rr =>
        have := rr.ints
        subst this
        refine ⟨_, ns, rfl, .of (e'.s _ _ h), by omega, fun q c hcn hq => ?_⟩
        refine ⟨q, _, c, rfl, upd_same, fun hn => ?_⟩
        have e2 : PExt B1' H1 B1' (upd H1 q (SetO X.w q (fun j => decide (j ∈ ns)) c)) := PExt.newOwn e'.s hq
        exact hQ _ _ _ _ (p1 c fun ks k1 k2 => hn ks k1 fun k => by rw [k2 k, decide_eq_true_eq]) (e'.trans (e2.ext e'.t)) (.int _), hx⟩⟩
end
end Pz

set_option Elab.async false
set_option linter.all false
set_option autoImplicit false
set_option maxRecDepth 100000
namespace Pz
open PySem PySem.Spec PyProof.Rows L2

/-! ## who never gets it -/
/-- the i-th that is not among these -/
def skipN : List Nat → Nat → Nat
  | [], i => i
  | r :: rs, i => skipN rs (if r ≤ i then i + 1 else i)
theorem skipN_ge : ∀ (rs : List Nat) (i : Nat), i ≤ skipN rs i ∧ skipN rs i ≤ i + rs.length
  | [], i => ⟨Nat.le_refl _, Nat.le_refl _⟩
  | r :: rs, i => by
    unfold skipN
    have := skipN_ge rs (if r ≤ i then i + 1 else i)
    rw [List.length_cons]
    split at this <;> rename_i c
    · rw [if_pos c]; omega
    · rw [if_neg c]; omega
/-- all of rs above: nothing is skipped -/
theorem skipN_low : ∀ (rs : List Nat) (i : Nat), (∀ r ∈ rs, i < r) → skipN rs i = i
  | [], _, _ => rfl
  | r :: rs, i, h => by
    unfold skipN
    rw [if_neg (by have := h r List.mem_cons_self; omega)]
    exact skipN_low rs i fun x hx => h x (List.mem_cons_of_mem _ hx)
theorem skipN_law : ∀ (rs : List Nat) (i : Nat), rs.Pairwise (· < ·) → skipN rs i ∉ rs ∧ skipN rs i = i + (rs.filter fun r => decide (r < skipN rs i)).length
  | [], i, _ => ⟨(fun h => nomatch h), rfl⟩
  | r :: rs, i, h => by
    rw [List.pairwise_cons] at h
    unfold skipN
    by_cases c : r ≤ i
    · rw [if_pos c]
      obtain ⟨h1, h2⟩ := skipN_law rs (i + 1) h.2
      have g := (skipN_ge rs (i + 1)).1
      refine ⟨fun z => ?_, ?_⟩
      · rcases List.mem_cons.mp z with z | z
        · omega
        · exact h1 z
      · rw [List.filter_cons, if_pos (decide_eq_true (by omega)), List.length_cons]; omega
    · rw [if_neg c, skipN_low rs i fun x hx => by have := h.1 x hx; omega]
      refine ⟨fun z => ?_, ?_⟩
      · rcases List.mem_cons.mp z with z | z
        · omega
        · have := h.1 _ z; omega
      · rw [List.filter_eq_nil_iff.mpr]; rfl
        intro x hx
        rcases List.mem_cons.mp hx with z | z
        · rw [decide_eq_true_eq]; omega
        · have := h.1 x z; rw [decide_eq_true_eq]; omega
/-- the members below m, and the others -/
theorem flt_not_len (S : Nat → Bool) (m : Nat) : (flt (fun k => !S k) m).length + (flt S m).length = m := by
  induction m with
  | zero => rfl
  | succ m ih =>
    rw [flt_succ, flt_succ, List.length_append, List.length_append]
    cases S m <;> simp <;> omega
/-- a member x is the one with the number of those below it -/
theorem flt_at {S : Nat → Bool} {m x : Nat} (hx : x < m) (h : S x = true) : (flt S m)[(flt S x).length]? = some x := by
  have e := flt_succ S x
  rw [if_pos h] at e
  have hi : (flt S x).length < (flt S (x + 1)).length := by rw [e, List.length_append]; exact Nat.lt_succ_self _
  rw [flt_pre S (show x + 1 ≤ m by omega) _ hi, e, List.getElem?_append_right (Nat.le_refl _), Nat.sub_self]; rfl
theorem skip_get {S : Nat → Bool} {s : Nat} {i : Nat} (hi : i < s - (flt S s).length) : skipN (flt S s) i < s ∧ (flt (fun k => !S k) s)[i]? = some (skipN (flt S s) i) := by
  obtain ⟨h1, h2⟩ := skipN_law (flt S s) i (flt_sorted S s)
  have g := (skipN_ge (flt S s) i).2
  have lt : skipN (flt S s) i < s := by omega
  have no : S (skipN (flt S s) i) = false := by
    cases q : S (skipN (flt S s) i) with
    | false => rfl
    | true => exact absurd (flt_mem.mpr ⟨lt, q⟩) h1
  refine ⟨lt, ?_⟩
  have e : ((flt S s).filter fun r => decide (r < skipN (flt S s) i)) = flt S (skipN (flt S s) i) := by
    generalize skipN (flt S s) i = x at *
    obtain ⟨c, rfl⟩ := Nat.exists_eq_add_of_le (Nat.le_of_lt lt)
    unfold flt
    rw [List.filter_filter, List.range_add, List.filter_append]
    have tail : (List.map (fun x_1 => x + x_1) (List.range c)).filter (fun a => decide (a < x) && S a) = [] := by
      rw [List.filter_eq_nil_iff]
      intro y hy
      obtain ⟨z, _, rfl⟩ := List.mem_map.mp hy
      rw [decide_eq_false (by omega)]; simp
    rw [tail, List.append_nil]
    · refine List.filter_congr fun y hy => ?_
      rw [decide_eq_true (List.mem_range.mp hy), Bool.true_and]
  rw [e] at h2
  have hn := flt_not_len S (skipN (flt S s) i)
  have := flt_at (S := fun k => !S k) lt (by rw [no]; rfl)
  rw [show (flt (fun k => !S k) (skipN (flt S s) i)).length = i by omega] at this
  exact this

def rsB (ms : List Int) (s : Int) (k : Nat) : Bool := (List.range ms.length).any fun i => decide (plc ms i % s = (k : Int))
def rsL (ms : List Int) (s : Int) : List Nat := flt (rsB ms s) s.toNat
theorem rsB_iff {ms : List Int} {s : Int} {k : Nat} : rsB ms s k = true ↔ ∃ i, i < ms.length ∧ plc ms i % s = k := by
  unfold rsB
  rw [List.any_eq_true]
  constructor
  · intro ⟨i, hi, h⟩
    exact ⟨i, List.mem_range.mp hi, of_decide_eq_true h⟩
  · intro ⟨i, hi, h⟩
    exact ⟨i, List.mem_range.mpr hi, decide_eq_true h⟩
theorem rsL_mem {ms : List Int} {s : Int} (s1 : 1 ≤ s) {k : Nat} : k ∈ rsL ms s ↔ ∃ i, i < ms.length ∧ plc ms i % s = k := by
  unfold rsL
  rw [flt_mem, rsB_iff]
  refine ⟨fun h => h.2, fun h => ⟨?_, h⟩⟩
  obtain ⟨i, _, e⟩ := h
  have := Int.emod_lt_of_pos (plc ms i) (show 0 < s by omega)
  omega
theorem rsL_len (ms : List Int) (s : Int) : (rsL ms s).length ≤ ms.length := by
  have := pig (ys := rsL ms s) (xs := (List.range ms.length).map fun i => (plc ms i % s).toNat) ((flt_sorted _ _).imp fun z => by omega) fun y hy => by
    obtain ⟨i, hi, e⟩ := rsB_iff.mp (flt_mem.mp hy).2
    exact List.mem_map.mpr ⟨i, List.mem_range.mpr hi, by rw [e]; rfl⟩
  rw [List.length_map, List.length_range] at this
  exact this
theorem rsL_le (ms : List Int) (s : Int) : (rsL ms s).length ≤ s.toNat := by
  have := List.length_filter_le (rsB ms s) (List.range s.toNat)
  rw [List.length_range] at this
  exact this
/-- sorted(set(..)) of the rests -/
theorem rsL_of {ms : List Int} {s : Int} (s1 : 1 ≤ s) {xs : List Int} (hs : xs.Pairwise (· < ·)) (hm : ∀ k, k ∈ xs ↔ ∃ i, i < ms.length ∧ plc ms i % s = k) : xs = (rsL ms s).map fun (k : Nat) => (k : Int) := by
  refine List.Perm.eq_of_pairwise (le := (· < ·)) (fun a b _ _ h1 h2 => absurd h1 (by omega)) hs (List.pairwise_map.mpr ((flt_sorted _ _).imp fun z => by omega)) ?_
  refine (List.perm_ext_iff_of_nodup (hs.imp fun z => by omega) (nodup_map_on (fun a _ b _ e => by omega) ((flt_sorted _ _).imp fun z => by omega))).mpr fun a => ?_
  rw [hm, List.mem_map]
  constructor
  · intro ⟨i, hi, e⟩
    have := Int.emod_nonneg (plc ms i) (show s ≠ 0 by omega)
    exact ⟨a.toNat, (rsL_mem s1).mpr ⟨i, hi, by omega⟩, by omega⟩
  · intro ⟨k, hk, e⟩
    obtain ⟨i, hi, h⟩ := (rsL_mem s1).mp hk
    exact ⟨i, hi, by omega⟩
def gcdN (ms : List Int) (n : Int) : Nat := Int.gcd n ms.sum
def getB (ms : List Int) (n : Int) (c : Nat) : Bool := rsB ms (gcdN ms n : Nat) (c % gcdN ms n)
theorem gcdN_pos (ms : List Int) {n : Int} (n1 : 1 ≤ n) : 1 ≤ gcdN ms n := Int.gcd_pos_of_ne_zero_left _ (by omega)
theorem Wh.sN {ms : List Int} {n s l f v : Int} (h : Wh ms n s l f v) : s = (gcdN ms n : Nat) := h.sg
theorem rep_any {S : Nat → Bool} {p : Nat} (hp : 0 < p) (hr : Rep S p) : (∃ k, S k = true) ↔ flt S p ≠ [] := by
  constructor
  · intro ⟨k, hk⟩ e
    have := flt_mem.mpr ⟨Nat.mod_lt k hp, (hr.mod k).trans hk⟩
    rw [e] at this; cases this
  · intro h
    obtain ⟨k, hk⟩ := List.exists_mem_of_ne_nil _ h
    exact ⟨k, (flt_mem.mp hk).2⟩
theorem getB_iff {ms : List Int} {n : Int} (hm : Sc ms) (n1 : 1 ≤ n) {c : Nat} (c1 : (c : Int) < n) : getB ms n c = true ↔ ∃ k, At ms n c k = true := by
  obtain ⟨s, l, f, v, hw⟩ := wh_ex ms n1
  rw [rep_any (per_le hm n1).1 (At_rep hm n1 c)]
  have e := stL_len hm hw (show (0 : Int) ≤ c by omega) c1
  have h2 : flt (At ms n c) (per ms n) ≠ [] ↔ idx ms s ((c : Int) % s) ≠ [] := by
    rw [← List.length_pos_iff, ← List.length_pos_iff]
    exact iff_of_eq (congrArg _ e)
  rw [h2]
  unfold getB
  rw [rsB_iff, ← hw.sN]
  have ec : ((c % gcdN ms n : Nat) : Int) = (c : Int) % s := by rw [hw.sN]; rfl
  rw [ec]
  constructor
  · intro ⟨i, hi, h⟩ z
    have := idx_mem.mpr ⟨hi, h⟩
    rw [z] at this; cases this
  · intro h
    obtain ⟨i, hi⟩ := List.exists_mem_of_ne_nil _ h
    exact ⟨i, idx_mem.mp hi⟩
theorem getB_at {ms : List Int} {n : Int} (hm : Sc ms) (n1 : 1 ≤ n) (k : Nat) : getB ms n (far ms k % n).toNat = true := by
  have z0 := Int.emod_nonneg (far ms k) (show n ≠ 0 by omega)
  have z1 := Int.emod_lt_of_pos (far ms k) (show 0 < n by omega)
  refine (getB_iff hm n1 (by omega)).mpr ⟨k, ?_⟩
  rw [show (((far ms k % n).toNat : Nat) : Int) = far ms k % n by omega]
  exact At_far ms n k
theorem getB_rep (ms : List Int) (n : Int) : Rep (getB ms n) (gcdN ms n) := fun k => by
  unfold getB
  rw [Nat.add_mod_right]
/-- who never gets it, ascending -/
def nvL (ms : List Int) (n : Int) : List Nat := flt (fun c => !getB ms n c) n.toNat
theorem nvL_mem {ms : List Int} {n : Int} {c : Nat} : c ∈ nvL ms n ↔ c < n.toNat ∧ getB ms n c = false := by
  unfold nvL
  rw [flt_mem, Bool.not_eq_true']
theorem getB_low (ms : List Int) (n : Int) (m : Nat) (h : m ≤ gcdN ms n) : flt (getB ms n) m = flt (rsB ms (gcdN ms n : Nat)) m := by
  unfold flt
  refine List.filter_congr fun x hx => ?_
  unfold getB
  rw [Nat.mod_eq_of_lt (Nat.lt_of_lt_of_le (List.mem_range.mp hx) h)]
theorem nv_low (ms : List Int) (n : Int) : flt (fun c => !getB ms n c) (gcdN ms n) = flt (fun k => !rsB ms (gcdN ms n : Nat) k) (gcdN ms n) := by
  unfold flt
  refine List.filter_congr fun x hx => ?_
  unfold getB
  rw [Nat.mod_eq_of_lt (List.mem_range.mp hx)]
theorem nvL_len {ms : List Int} {n s l f v : Int} (h : Wh ms n s l f v) : ((nvL ms n).length : Int) = (s - (rsL ms s).length) * l := by
  have hr : Rep (fun c => !getB ms n c) (gcdN ms n) := fun k => by show (!_) = !_; rw [getB_rep]
  have l1 := h.l1
  have hs := h.sN
  have e : n.toNat = l.toNat * gcdN ms n := by
    have z : (n : Int) = ((l.toNat * gcdN ms n : Nat) : Int) := by
      rw [Int.natCast_mul, ← hs, show ((l.toNat : Nat) : Int) = l by omega, Int.mul_comm]; exact h.sl.symm
    omega
  unfold nvL
  rw [e, flt_len hr, nv_low]
  have z := flt_not_len (rsB ms (gcdN ms n : Nat)) (gcdN ms n)
  rw [show rsL ms s = flt (rsB ms (gcdN ms n : Nat)) (gcdN ms n) by unfold rsL; rw [hs]; rfl]
  rw [Int.natCast_mul, Int.mul_comm, show ((l.toNat : Nat) : Int) = l by omega]
  congr 1
  omega
/-- the one with a number among them -/
theorem nvL_get {ms : List Int} {n s l f v : Int} (h : Wh ms n s l f v) {i : Nat} (hi : i < (nvL ms n).length) :
    (rsL ms s).length < s.toNat ∧ (nvL ms n)[i]? = some (i / (s.toNat - (rsL ms s).length) * s.toNat + skipN (rsL ms s) (i % (s.toNat - (rsL ms s).length))) := by
  have hr : Rep (fun c => !getB ms n c) (gcdN ms n) := fun k => by show (!_) = !_; rw [getB_rep]
  have l1 := h.l1
  have hs := h.sN
  have e : n.toNat = l.toNat * gcdN ms n := by
    have z : (n : Int) = ((l.toNat * gcdN ms n : Nat) : Int) := by
      rw [Int.natCast_mul, ← hs, show ((l.toNat : Nat) : Int) = l by omega, Int.mul_comm]; exact h.sl.symm
    omega
  have er : rsL ms s = flt (rsB ms (gcdN ms n : Nat)) (gcdN ms n) := by unfold rsL; rw [hs]; rfl
  have es : s.toNat = gcdN ms n := by omega
  have z := flt_not_len (rsB ms (gcdN ms n : Nat)) (gcdN ms n)
  unfold nvL at hi ⊢
  rw [e] at hi ⊢
  have hi2 := hi
  rw [flt_len hr] at hi2
  have g := flt_get hr l.toNat i hi2
  rw [nv_low] at g hi2
  have el : (flt (fun k => !rsB ms (gcdN ms n : Nat) k) (gcdN ms n)).length = s.toNat - (rsL ms s).length := by rw [er, es]; omega
  rw [el] at g hi2
  have lp : 0 < s.toNat - (rsL ms s).length := by
    rcases Nat.eq_zero_or_pos (s.toNat - (rsL ms s).length) with q | q
    · rw [q, Nat.mul_zero] at hi2; omega
    · exact q
  refine ⟨by omega, ?_⟩
  rw [g]
  have sk := skip_get (S := rsB ms (gcdN ms n : Nat)) (s := gcdN ms n) (i := i % (s.toNat - (rsL ms s).length)) (by rw [← er, ← es]; exact Nat.mod_lt _ lp)
  rw [List.getD_eq_getElem?_getD, sk.2, ← er, es]
  show some (_ + _) = _
  rw [Nat.add_comm]; rfl
end Pz

set_option Elab.async false
set_option linter.all false
set_option autoImplicit false
set_option maxRecDepth 100000
namespace Pz
open PySem PySem.Spec PyProof.Rows L2

/-! ## a tuple once -/
theorem tup_once (p : Addr) (xs : Array Value) (m : Nat) (d0 : Option Addr) (sl : Array (Option Value)) (u : Tok) :
    Meets (Builtin.«tuple.__mul__» ⟨[.ref p, .int 1 u], []⟩) (fun _ R s => s.heap.get? p = some { cls := .type "tuple", dict := d0, data := .seq xs m, slots := sl } ∧ R (.ok (.ret (Value.ref p))) s) :=
  .of_wp fun prog w A R s h => by
    obtain ⟨hp, g, d, tk, os⟩ := s
    obtain ⟨hl, h⟩ := h
    have f1 := AutoSeq1.idx_int
    wp_walk using wpAny_loadPart' hl
    exact ⟨_, rfl, h⟩
section
variable {X : Cx}
def rOnce (K : PySem.W.Frag) : R2 := fun x y H Q => ∃ p xs, x = .ref p ∧ y = .int 1 ∧ SqT K H p xs ∧ Q (.ref p) H
theorem op_once : OpR X (binaryOp .Mult) (rOnce X.K) := by
  intro pins s σ H x y v u Q I rx ry h
  obtain ⟨p, xs, rfl, rfl, hT, q⟩ := h
  cases rx
  obtain ⟨t, rfl⟩ := ry
  obtain ⟨its, r, ⟨⟨cls, dd, data, sl⟩, ho, hc, n, hd⟩, hs⟩ := I.tuple hT
  simp only at hc hd
  subst hc hd
  refine wpAny_binaryOp_repeat_ref (T := "tuple") (U := "int") (by decide) ⟨_, ho, rfl⟩ (fun s' => typeIs_int s' 1 t) noFill_tuple_mul F.fills_int_mul F.slot_int_rmul repeat_tuple F.slot_int_index.lookup ?_
  refine call_meets F.slot_int_rmul (typeIs_int s 1 t) F.entry_int_rmul (F.args_int_rmul_2 _ _) (int_rmul_tuple 1 t p its.toArray n dd sl) ⟨ho, rfl, ⟨_, ho, rfl⟩, ?_⟩
  refine call_meets F.slot_tuple_mul ⟨_, ho, rfl⟩ F.entry_tuple_mul (F.args_tuple_mul_2 _ _) (tup_once p its.toArray n dd sl t) ⟨ho, ?_⟩
  exact ⟨.ref p, H, I.tok _, rfl, q⟩
def gMul2 : D → D → (L → Prop) → Prop
  | .tuple xs, .int k, P => if k = 1 then P (.val (.tuple xs)) else xs ≠ [] ∧ 2 ≤ k ∧ k ≤ 1000 ∧ xs.length ≤ 1000 ∧ P (.val (.tuple (List.replicate k.toNat xs).flatten))
  | x, y, P => gMul x y P
theorem op_mulD2 : OpR X (binaryOp .Mult) (rD X.K gMul2) := by
  intro pins s σ H x y v u Q I rx ry h
  obtain ⟨B, dx, dy, P, sB, hx, hy, hg, hQ⟩ := h
  have rest : gMul dx dy P → _ := fun z => op_mulD pins s σ H x y v u Q I rx ry ⟨B, dx, dy, P, sB, hx, hy, z, hQ⟩
  cases hx with
  | tup h1 r1 =>
    cases hy with
    | int k =>
      have hg : if k = 1 then _ else _ := hg
      split at hg
      · rename_i e
        subst e
        exact op_once pins s σ H _ _ v u Q I rx ry ⟨_, _, rfl, rfl, same_tup sB h1, hQ _ _ _ _ hg (PExt.refl sB) (.tup h1 r1)⟩
      · exact rest hg
    | _ => exact False.elim hg
  | _ => exact rest (by cases hy <;> exact hg)
end

/-! ## max(xs), min(xs), ints -/
section
variable {X : Cx}
def gMaxL : List D → (L → Prop) → Prop
  | [.list xs], P => ∃ ns, intsD? xs = some ns ∧ ns ≠ [] ∧ ∀ m, m ∈ ns → (∀ y ∈ ns, y ≤ m) → P (.val (.int m))
  | _, _ => False
def gMinL : List D → (L → Prop) → Prop
  | [.list xs], P => ∃ ns, intsD? xs = some ns ∧ ns ≠ [] ∧ ∀ m, m ∈ ns → (∀ y ∈ ns, m ≤ y) → P (.val (.int m))
  | _, _ => False
theorem cr_maxL (hc : X.calm = true) : CallR X (.builtin "max") (rDA X.K gMaxL) := by
  intro pins s σ H vs us Q I r h
  obtain ⟨B, ds, P, sB, ra, hg, hQ⟩ := h
  match ds, hg with
  | [.list xs], hg =>
    obtain ⟨ns, e, hne, hg⟩ := hg
    have e := intsD_of e
    subst e
    obtain ⟨v, rfl, rv⟩ := ra.one
    cases rv with
    | lst h rr =>
      have := rr.ints
      subst this
      exact cr_max hc pins s σ H _ us Q I r ⟨_, ns, rfl, .of (sB _ _ h), List.length_pos_iff.mpr hne, fun m h1 h2 => hQ _ _ _ _ (hg m h1 h2) (PExt.refl sB) (.int _)⟩
theorem cr_minL (hc : X.calm = true) : CallR X (.builtin "min") (rDA X.K gMinL) := by
  intro pins s σ H vs us Q I r h
  obtain ⟨B, ds, P, sB, ra, hg, hQ⟩ := h
  match ds, hg with
  | [.list xs], hg =>
    obtain ⟨ns, e, hne, hg⟩ := hg
    have e := intsD_of e
    subst e
    obtain ⟨v, rfl, rv⟩ := ra.one
    cases rv with
    | lst h rr =>
      have := rr.ints
      subst this
      exact cr_min hc pins s σ H _ us Q I r ⟨_, ns, rfl, .of (sB _ _ h), List.length_pos_iff.mpr hne, fun m h1 h2 => hQ _ _ _ _ (hg m h1 h2) (PExt.refl sB) (.int _)⟩
end
/-! ## a script, a number of children, or the error -/
def Duo (d dn : D) (Px : Str → Prop) (Q : List Int → Int → Prop) : Prop := Sh 20 d ∧
  (if fitsD d = true then if isIntD dn 1 (10 ^ 30) = true then ∀ ms n, d = scD ms → dn = .int n → Q ms n else Px "InvalidSize" else Px "InvalidScript")
theorem Duo.use {ms : List Int} {n : Int} {Px : Str → Prop} {Q : List Int → Int → Prop} (hm : Sc ms) (n1 : 1 ≤ n) (n2 : n ≤ 10 ^ 30) (h : Q ms n) : Duo (scD ms) (.int n) Px Q := by
  refine ⟨sh_sc ms, ?_⟩
  rw [if_pos (fits_sc hm), if_pos (isInt_of n1 n2)]
  intro ms' n' e1 e2
  cases sc_inj e1; cases e2
  exact h
/-! ## plain lists -/
def modV (s : Int) : D → D
  | .int p => .int (p % s)
  | d => d
theorem plc_mem {ms : List Int} {s k : Int} : k ∈ (placesFrom 0 ms).map (· % s) ↔ ∃ i, i < ms.length ∧ plc ms i % s = k := by
  rw [List.mem_map]
  constructor
  · intro ⟨p, hp, e⟩
    obtain ⟨i, hi⟩ := List.getElem?_of_mem hp
    have hl : i < ms.length := by
      have := (List.getElem?_eq_some_iff.mp hi).1
      rw [placesFrom_len] at this; exact this
    rw [placesFrom_get 0 ms i hl, Int.zero_add] at hi
    exact ⟨i, hl, by rw [← e, ← Option.some.inj hi]; rfl⟩
  · intro ⟨i, hi, e⟩
    have := placesFrom_get 0 ms i hi
    rw [Int.zero_add] at this
    exact ⟨_, List.mem_of_getElem? this, e⟩
theorem modV_map (s : Int) (ps : List Int) : (ps.map PyData.int).map (modV s) = (ps.map (· % s)).map .int := by
  rw [List.map_map, List.map_map]; rfl
end Pz

set_option Elab.async false
set_option linter.all false
set_option autoImplicit false
set_option maxRecDepth 100000
namespace Pz
open PySem PySem.Spec PyProof.Rows L2

/-! ## calendars -/
def perOk (A : List Bool) (m : Nat) : Bool := decide (A.length % m = 0) && ((List.replicate (A.length / m) (A.take m)).flatten == A)
def againGo (A : List Bool) : Nat → Nat → List Bool
  | 0, _ => A
  | f + 1, m => if perOk A m = true then A.take m else againGo A f (m + 1)
def againF (A : List Bool) : List Bool := againGo A A.length 1
def shrinkF : Nat → List Bool → List Bool → List Bool × List Bool
  | 0, E, A => (E, A)
  | m + 1, E, A => if E.getLast? = A.getLast? then shrinkF m E.dropLast (A.getLast?.toList ++ A.dropLast) else (E, A)
def leastF (E A : List Bool) : List Bool × List Bool := shrinkF E.length E (againF A)
def seqB (A : List Bool) (j : Nat) : Bool := A.getD (j % A.length) false
def tellB (E A : List Bool) (k : Nat) : Bool := if k < E.length then E.getD k false else seqB A (k - E.length)
def Prim (A : List Bool) : Prop := ∀ s, 1 ≤ s → s < A.length → s ∣ A.length → ¬ Rep (seqB A) s
theorem seqB_per (A : List Bool) : Rep (seqB A) A.length := fun k => by
  unfold seqB
  rw [Nat.add_mod_right]
theorem rep_flat (xs : List Bool) (q j : Nat) (h : j < q * xs.length) : ((List.replicate q xs).flatten).getD j false = xs.getD (j % xs.length) false := by
  induction q generalizing j with
  | zero => rw [Nat.zero_mul] at h; omega
  | succ q ih =>
    rw [List.replicate_succ, List.flatten_cons, List.getD_eq_getElem?_getD]
    rw [Nat.succ_mul] at h
    by_cases c : j < xs.length
    · rw [List.getElem?_append_left c, Nat.mod_eq_of_lt c, List.getD_eq_getElem?_getD]
    · rw [List.getElem?_append_right (by omega), ← List.getD_eq_getElem?_getD, ih _ (by omega)]
      rw [Nat.mod_eq_sub_mod (show xs.length ≤ j by omega)]
theorem getD_ext {xs ys : List Bool} (hl : xs.length = ys.length) (h : ∀ j, j < xs.length → xs.getD j false = ys.getD j false) : xs = ys := by
  apply List.ext_getElem hl
  intro i h1 h2
  have := h i h1
  rw [List.getD_eq_getElem?_getD, List.getD_eq_getElem?_getD, List.getElem?_eq_getElem h1, List.getElem?_eq_getElem h2] at this
  exact this
theorem flat_len (xs : List Bool) (q : Nat) : ((List.replicate q xs).flatten).length = q * xs.length := by
  induction q with
  | zero => simp
  | succ q ih => rw [List.replicate_succ, List.flatten_cons, List.length_append, ih, Nat.succ_mul]; omega
/-- a list is its first part again and again -/
theorem perOk_iff {A : List Bool} {m : Nat} (m1 : 1 ≤ m) (hm : m ≤ A.length) : perOk A m = true ↔ m ∣ A.length ∧ Rep (seqB A) m := by
  have hl : (A.take m).length = m := by rw [List.length_take]; omega
  unfold perOk
  rw [Bool.and_eq_true, decide_eq_true_eq, beq_iff_eq]
  constructor
  · intro ⟨h1, h2⟩
    have hd := Nat.dvd_of_mod_eq_zero h1
    refine ⟨hd, fun k => ?_⟩
    have key : ∀ j, seqB A j = (A.take m).getD (j % m) false := fun j => by
      unfold seqB
      have z : j % A.length < A.length / m * m := by rw [Nat.div_mul_cancel hd]; exact Nat.mod_lt _ (by omega)
      have e := rep_flat (A.take m) (A.length / m) (j % A.length) (by rw [hl]; exact z)
      rw [h2, hl, Nat.mod_mod_of_dvd _ hd] at e
      exact e
    rw [key, key, Nat.add_mod_right]
  · intro ⟨hd, hr⟩
    refine ⟨Nat.mod_eq_zero_of_dvd hd, ?_⟩
    refine getD_ext (by rw [flat_len, hl, Nat.div_mul_cancel hd]) fun j hj => ?_
    rw [flat_len, hl] at hj
    rw [rep_flat _ _ _ (by rw [hl]; exact hj), hl]
    rw [Nat.div_mul_cancel hd] at hj
    have hmm := Nat.mod_lt j (show 0 < m by omega)
    have e := hr.mod j
    unfold seqB at e
    rw [Nat.mod_eq_of_lt hj, Nat.mod_eq_of_lt (show j % m < A.length by omega)] at e
    rw [← e, List.getD_eq_getElem?_getD, List.getElem?_take, if_pos hmm, ← List.getD_eq_getElem?_getD]
theorem seqB_take {A : List Bool} {m : Nat} (m1 : 1 ≤ m) (hm : m ≤ A.length) (hd : m ∣ A.length) (hr : Rep (seqB A) m) (j : Nat) : seqB (A.take m) j = seqB A j := by
  have hl : (A.take m).length = m := by rw [List.length_take]; omega
  have hmm := Nat.mod_lt j (show 0 < m by omega)
  rw [← hr.mod j]
  unfold seqB
  rw [hl, Nat.mod_eq_of_lt (show j % m < A.length by omega), List.getD_eq_getElem?_getD, List.getElem?_take, if_pos hmm, ← List.getD_eq_getElem?_getD]
theorem againGo_law (A : List Bool) (hA : A ≠ []) : ∀ (f m : Nat), 1 ≤ m → m + f = A.length + 1 → (∀ s, 1 ≤ s → s < m → perOk A s = false) →
    againGo A f m ≠ [] ∧ (∀ j, seqB (againGo A f m) j = seqB A j) ∧ Prim (againGo A f m) ∧ (againGo A f m).length ≤ A.length
  | 0, m, m1, e, hno => by
    have hlen := List.length_pos_iff.mpr hA
    unfold againGo
    refine ⟨hA, fun _ => rfl, fun s s1 s2 sd hr => ?_, Nat.le_refl _⟩
    have := hno s s1 (by omega)
    rw [(perOk_iff s1 (by omega)).mpr ⟨sd, hr⟩] at this
    cases this
  | f + 1, m, m1, e, hno => by
    unfold againGo
    split
    · rename_i h
      have hm : m ≤ A.length := by omega
      obtain ⟨hd, hr⟩ := (perOk_iff m1 hm).mp h
      have hl : (A.take m).length = m := by rw [List.length_take]; omega
      have hs := seqB_take m1 hm hd hr
      refine ⟨fun z => by rw [z] at hl; simp at hl; omega, hs, fun s s1 s2 sd hr2 => ?_, by omega⟩
      rw [hl] at s2 sd
      have hr3 : Rep (seqB A) s := fun k => by rw [← hs, ← hs]; exact hr2 k
      have := hno s s1 s2
      rw [(perOk_iff s1 (by omega)).mpr ⟨Nat.dvd_trans sd hd, hr3⟩] at this
      cases this
    · rename_i h
      exact againGo_law A hA f (m + 1) (by omega) (by omega) fun s s1 s2 => by
        rcases (show s < m ∨ s = m by omega) with z | z
        · exact hno s s1 z
        · subst z; exact Bool.not_eq_true _ ▸ h
theorem againF_law {A : List Bool} (hA : A ≠ []) : againF A ≠ [] ∧ (∀ j, seqB (againF A) j = seqB A j) ∧ Prim (againF A) ∧ (againF A).length ≤ A.length :=
  againGo_law A hA A.length 1 (Nat.le_refl _) (by omega) fun s s1 s2 => by omega
theorem concat_of {xs : List Bool} (h : xs ≠ []) : ∃ ys y, xs = ys ++ [y] ∧ xs.getLast? = some y ∧ xs.dropLast = ys := by
  refine ⟨xs.dropLast, xs.getLast h, (List.dropLast_concat_getLast h).symm, List.getLast?_eq_some_getLast h, rfl⟩
theorem rot_seq (A : List Bool) (a : Bool) (j : Nat) : seqB (a :: A) (j + 1) = seqB (A ++ [a]) j := by
  unfold seqB
  rw [List.length_cons, List.length_append, List.length_cons, List.length_nil, Nat.zero_add]
  have hm := Nat.mod_lt j (show 0 < A.length + 1 by omega)
  by_cases c : j % (A.length + 1) = A.length
  · have e : (j + 1) % (A.length + 1) = 0 := by rw [Nat.add_mod, c]; simp
    rw [e, c, List.getD_eq_getElem?_getD, List.getD_eq_getElem?_getD, List.getElem?_append_right (Nat.le_refl _)]
    simp
  · have e : (j + 1) % (A.length + 1) = j % (A.length + 1) + 1 := by
      have : (j % (A.length + 1) + 1) % (A.length + 1) = (j + 1) % (A.length + 1) := by rw [Nat.mod_add_mod]
      rw [← this, Nat.mod_eq_of_lt (by omega)]
    rw [e, List.getD_eq_getElem?_getD, List.getD_eq_getElem?_getD, List.getElem?_cons_succ, List.getElem?_append_left (by omega)]
theorem rot_prim {A : List Bool} {a : Bool} (h : Prim (A ++ [a])) : Prim (a :: A) := fun s s1 s2 sd hr => by
  have hl : (A ++ [a]).length = (a :: A).length := by simp
  refine h s s1 (by rw [hl]; exact s2) (by rw [hl]; exact sd) fun k => ?_
  rw [← rot_seq, ← rot_seq, show k + s + 1 = (k + 1) + s by omega]
  exact hr (k + 1)
theorem shrinkF_law : ∀ (m : Nat) (E A : List Bool), E.length = m → A ≠ [] → Prim A → (∀ k, tellB (shrinkF m E A).1 (shrinkF m E A).2 k = tellB E A k) ∧ (shrinkF m E A).2 ≠ [] ∧ Prim (shrinkF m E A).2 ∧
    ((shrinkF m E A).1 = [] ∨ (shrinkF m E A).1.getLast? ≠ (shrinkF m E A).2.getLast?) ∧ (shrinkF m E A).1.length ≤ E.length ∧ (shrinkF m E A).2.length = A.length
  | 0, E, A, hE, hA, hp => ⟨fun _ => rfl, hA, hp, .inl (List.eq_nil_of_length_eq_zero hE), Nat.le_refl _, rfl⟩
  | m + 1, E, A, hE, hA, hp => by
    unfold shrinkF
    by_cases c : E.getLast? = A.getLast?
    · rw [if_pos c]
      obtain ⟨E', e, rfl, hl1, hd1⟩ := concat_of (show E ≠ [] from fun z => by subst z; simp at hE)
      obtain ⟨A', a, rfl, hl2, hd2⟩ := concat_of hA
      rw [hl1, hl2] at c
      cases c
      rw [hl2, hd1, hd2]
      show _ ∧ _
      have ih := shrinkF_law m E' (e :: A') (by rw [List.length_append] at hE; simpa using hE) (by simp) (rot_prim hp)
      refine ⟨fun k => (ih.1 k).trans ?_, ih.2.1, ih.2.2.1, ih.2.2.2.1, ?_, ?_⟩
      · unfold tellB
        rw [List.length_append, List.length_cons, List.length_nil]
        by_cases c1 : k < E'.length
        · rw [if_pos c1, if_pos (by omega), List.getD_eq_getElem?_getD, List.getD_eq_getElem?_getD, List.getElem?_append_left c1]
        · rw [if_neg c1]
          by_cases c2 : k < E'.length + (0 + 1)
          · rw [if_pos c2, show k = E'.length by omega, Nat.sub_self, List.getD_eq_getElem?_getD, List.getElem?_append_right (Nat.le_refl _), Nat.sub_self]
            unfold seqB
            rw [Nat.zero_mod]; rfl
          · rw [if_neg c2, ← rot_seq]
            congr 1
            omega
      · have := ih.2.2.2.2.1
        rw [List.length_append]
        show (shrinkF m E' (e :: A')).1.length ≤ _
        omega
      · have := ih.2.2.2.2.2
        show (shrinkF m E' (e :: A')).2.length = _
        rw [this]; simp
    · rw [if_neg c]
      exact ⟨fun _ => rfl, hA, hp, .inr c, Nat.le_refl _, rfl⟩
theorem leastF_law (E : List Bool) {A : List Bool} (hA : A ≠ []) : (∀ k, tellB (leastF E A).1 (leastF E A).2 k = tellB E A k) ∧ (leastF E A).2 ≠ [] ∧ Prim (leastF E A).2 ∧
    ((leastF E A).1 = [] ∨ (leastF E A).1.getLast? ≠ (leastF E A).2.getLast?) ∧ (leastF E A).1.length ≤ E.length ∧ (leastF E A).2.length ≤ A.length := by
  obtain ⟨h1, h2, h3, h4⟩ := againF_law hA
  obtain ⟨g1, g2, g3, g4, g5, g6⟩ := shrinkF_law E.length E (againF A) rfl h1 h3
  refine ⟨fun k => (g1 k).trans ?_, g2, g3, g4, g5, by unfold leastF; rw [g6]; exact h4⟩
  unfold tellB
  split
  · rfl
  · exact h2 _

/-! ## with which numbers of children all get it -/
def allB (ms : List Int) (n : Int) : Bool := decide ((rsL ms (gcdN ms n : Nat)).length = gcdN ms n)
theorem allB_congr {ms : List Int} {n m : Int} (h : gcdN ms n = gcdN ms m) : allB ms n = allB ms m := by unfold allB; rw [h]
theorem flt_all (S : Nat → Bool) (m : Nat) : (flt S m).length = m ↔ ∀ k, k < m → S k = true := by
  have h := flt_not_len S m
  have e : (flt (fun k => !S k) m).length = 0 ↔ ∀ k, k < m → S k = true := by
    rw [List.length_eq_zero_iff, List.eq_nil_iff_forall_not_mem]
    refine ⟨fun z k hk => ?_, fun z k hk => ?_⟩
    · cases q : S k with
      | true => rfl
      | false => exact absurd (flt_mem.mpr ⟨hk, by show (!S k) = true; rw [q]; rfl⟩) (z k)
    · have := flt_mem.mp hk
      have q := z k this.1
      rw [q] at this
      exact absurd this.2 (by decide)
  rw [← e]
  omega
theorem allB_iff {ms : List Int} {n : Int} : allB ms n = true ↔ ∀ r, r < gcdN ms n → rsB ms (gcdN ms n : Nat) r = true := by
  unfold allB
  rw [decide_eq_true_eq]
  exact flt_all _ _
theorem allB_nv {ms : List Int} {n : Int} (n1 : 1 ≤ n) : allB ms n = decide ((nvL ms n).length = 0) := by
  obtain ⟨s, l, f, v, hw⟩ := wh_ex ms n1
  have e := nvL_len hw
  have l1 := hw.l1
  have hs := hw.sN
  have hle := rsL_le ms s
  unfold allB
  refine decide_eq_decide.mpr ?_
  rw [← hs]
  constructor
  · intro h
    rw [h, hs, Int.sub_self, Int.zero_mul] at e
    omega
  · intro h
    rw [h] at e
    rcases Int.mul_eq_zero.mp e.symm with z | z <;> omega
theorem allB_get {ms : List Int} {n : Int} (n1 : 1 ≤ n) : allB ms n = true ↔ ∀ c, c < n.toNat → getB ms n c = true := by
  rw [allB_nv n1, decide_eq_true_eq]
  have h := flt_not_len (getB ms n) n.toNat
  have h2 := flt_all (getB ms n) n.toNat
  rw [← h2]
  unfold nvL
  omega
theorem gcdN_nat (ms : List Int) (k : Nat) : gcdN ms (k : Nat) = Nat.gcd k ms.sum.natAbs := rfl
theorem gcdN_per (ms : List Int) (k : Nat) : gcdN ms ((k + 1 : Nat) : Int) = gcdN ms ((k % ms.sum.natAbs + 1 : Nat) : Int) := by
  rw [gcdN_nat, gcdN_nat]
  have e := Nat.mod_add_div k ms.sum.natAbs
  have e2 : k + 1 = (k % ms.sum.natAbs + 1) + ms.sum.natAbs * (k / ms.sum.natAbs) := by omega
  rw [e2]
  generalize k % ms.sum.natAbs = a
  generalize k / ms.sum.natAbs = b
  rw [Nat.gcd_comm, Nat.gcd_comm (a + 1), Nat.gcd_add_mul_left_right]
def earlyL (ms : List Int) : List Bool := if ms.sum ≠ 0 then [] else (List.range ms.length).map fun j => allB ms ((j + 1 : Nat) : Int)
def laterL (ms : List Int) : List Bool := if ms.sum ≠ 0 then (List.range ms.sum.natAbs).map (fun j => allB ms ((j + 1 : Nat) : Int)) else [allB ms ((ms.length + 1 : Nat) : Int)]
def allCal (ms : List Int) : List Bool × List Bool := leastF (earlyL ms) (laterL ms)
theorem laterL_ne (ms : List Int) : laterL ms ≠ [] := by
  unfold laterL
  split
  · rename_i h
    intro z
    have := congrArg List.length z
    rw [List.length_map, List.length_range] at this
    simp at this; exact h this
  · simp
theorem allB_late {ms : List Int} (h : ms.sum = 0) {k : Nat} (hk : ms.length < k) : allB ms (k : Nat) = false := by
  unfold allB
  have e : gcdN ms (k : Nat) = k := by rw [gcdN_nat, h]; exact Nat.gcd_zero_right k
  rw [e]
  have := rsL_len ms ((k : Nat) : Int)
  exact decide_eq_false (by omega)
theorem tell_all (ms : List Int) (k : Nat) : tellB (earlyL ms) (laterL ms) k = allB ms ((k + 1 : Nat) : Int) := by
  by_cases h : ms.sum ≠ 0
  · unfold tellB earlyL laterL
    rw [if_pos h, if_pos h, List.length_nil, if_neg (Nat.not_lt_zero _), Nat.sub_zero]
    unfold seqB
    have hp : 0 < ms.sum.natAbs := by omega
    rw [List.length_map, List.length_range, List.getD_eq_getElem?_getD, List.getElem?_map, List.getElem?_range (Nat.mod_lt _ hp)]
    show allB ms ((k % ms.sum.natAbs + 1 : Nat) : Int) = _
    exact allB_congr (gcdN_per ms k).symm
  · have h0 : ms.sum = 0 := by omega
    unfold tellB earlyL laterL
    rw [if_neg h, if_neg h, List.length_map, List.length_range]
    by_cases c : k < ms.length
    · rw [if_pos c, List.getD_eq_getElem?_getD, List.getElem?_map, List.getElem?_range c]; rfl
    · rw [if_neg c]
      unfold seqB
      rw [show [allB ms ((ms.length + 1 : Nat) : Int)].length = 1 from rfl, Nat.mod_one]
      show allB ms ((ms.length + 1 : Nat) : Int) = _
      rw [allB_late h0 (show ms.length < ms.length + 1 by omega), allB_late h0 (show ms.length < k + 1 by omega)]
structure Cal (ms : List Int) (E A : List Bool) : Prop where
  tell : ∀ k, tellB E A k = allB ms ((k + 1 : Nat) : Int)
  ne : A ≠ []
  prim : Prim A
  last : E = [] ∨ E.getLast? ≠ A.getLast?
  le : E.length ≤ 8
  la : A.length ≤ 72
theorem allCal_law {ms : List Int} (hm : Sc ms) : Cal ms (allCal ms).1 (allCal ms).2 := by
  obtain ⟨h1, h2, h3, h4, h5, h6⟩ := leastF_law (earlyL ms) (laterL_ne ms)
  have hs := hm.sum
  have h8 := hm.2.1
  refine ⟨fun k => (h1 k).trans (tell_all ms k), h2, h3, h4, Nat.le_trans h5 ?_, Nat.le_trans h6 ?_⟩
  · unfold earlyL
    split
    · exact Nat.zero_le _
    · rw [List.length_map, List.length_range]; exact h8
  · unfold laterL
    split
    · rw [List.length_map, List.length_range]; omega
    · rw [List.length_singleton]; omega
def fairB (ms : List Int) : Bool := decide (ms.sum ≠ 0) && decide ((rsL ms (ms.sum.natAbs : Nat)).length = ms.sum.natAbs)
theorem fairB_iff {ms : List Int} (hm : Sc ms) : fairB ms = true ↔ ∀ k : Nat, allB ms ((k + 1 : Nat) : Int) = true := by
  unfold fairB
  rw [Bool.and_eq_true, decide_eq_true_eq, decide_eq_true_eq]
  constructor
  · intro ⟨h0, h⟩ k
    rw [allB_iff]
    intro r hr
    have hp : 0 < ms.sum.natAbs := by omega
    have hd : gcdN ms ((k + 1 : Nat) : Int) ∣ ms.sum.natAbs := by rw [gcdN_nat]; exact Nat.gcd_dvd_right _ _
    have hle := Nat.le_of_dvd hp hd
    obtain ⟨i, hi, e⟩ := rsB_iff.mp ((flt_all (rsB ms (ms.sum.natAbs : Nat)) ms.sum.natAbs).mp h r (by omega))
    refine rsB_iff.mpr ⟨i, hi, ?_⟩
    have e2 : plc ms i % (gcdN ms ((k + 1 : Nat) : Int) : Nat) = (plc ms i % (ms.sum.natAbs : Nat)) % (gcdN ms ((k + 1 : Nat) : Int) : Nat) := (Int.emod_emod_of_dvd _ (Int.ofNat_dvd.mpr hd)).symm
    rw [e2, e]
    exact Int.emod_eq_of_lt (by omega) (by omega)
  · intro h
    have h0 : ms.sum ≠ 0 := fun z => by
      have := h ms.length
      rw [allB_late z (by omega)] at this
      cases this
    refine ⟨h0, ?_⟩
    have := h (ms.sum.natAbs - 1)
    rw [show ms.sum.natAbs - 1 + 1 = ms.sum.natAbs by omega] at this
    have := of_decide_eq_true this
    have e : gcdN ms ((ms.sum.natAbs : Nat) : Int) = ms.sum.natAbs := by rw [gcdN_nat]; exact Nat.gcd_self _
    rw [e] at this
    exact this
theorem cal_fair {ms : List Int} {E A : List Bool} (hm : Sc ms) (h : Cal ms E A) : (E = [] ∧ A = [true]) ↔ fairB ms = true := by
  rw [fairB_iff hm]
  constructor
  · intro ⟨h1, h2⟩ k
    subst h1; subst h2
    rw [← h.tell]
    unfold tellB seqB
    rw [if_neg (by simp), show [true].length = 1 from rfl, Nat.mod_one]; rfl
  · intro hall
    have ht : ∀ k, tellB E A k = true := fun k => (h.tell k).trans (hall k)
    have hA : ∀ k, seqB A k = true := fun k => by
      have := ht (E.length + k)
      unfold tellB at this
      rw [if_neg (by omega), Nat.add_sub_cancel_left] at this
      exact this
    have lA : A.length = 1 := by
      have := List.length_pos_iff.mpr h.ne
      rcases (show A.length = 1 ∨ 1 < A.length by omega) with z | z
      · exact z
      · exact absurd (fun k => by rw [hA, hA]) (h.prim 1 (Nat.le_refl _) z (Nat.one_dvd _))
    have eA : A = [true] := by
      match A, lA with
      | [a], _ =>
        have := hA 0
        unfold seqB at this
        have this : a = true := this
        rw [this]
    refine ⟨?_, eA⟩
    rcases h.last with z | z
    · exact z
    · by_cases c : E = []
      · exact c
      · exfalso
        refine z ?_
        obtain ⟨E', e, rfl, hl, _⟩ := concat_of c
        have := ht E'.length
        unfold tellB at this
        rw [List.length_append, List.length_cons, List.length_nil, if_pos (by omega), List.getD_eq_getElem?_getD, List.getElem?_append_right (Nat.le_refl _), Nat.sub_self] at this
        have this : e = true := this
        rw [hl, eA, this]; rfl
end Pz

set_option Elab.async false
set_option linter.all false
set_option autoImplicit false
set_option maxRecDepth 100000
namespace Pz
open PySem PySem.Spec PyProof.Rows L2

section
variable {wi : WI} {g : WG} {u : WS} {ρ : En} {N : EndsD}
/-- a loop that may break: what stands behind it is shown once -/
theorem wFor_brk (R : En → Prop) (hR : ∀ ρ', R ρ' → N.nx ρ') (h : ∀ N0 : EndsD, (∀ ρ', R ρ' → N0.nx ρ') → (∀ l, N.rt l → N0.rt l) → N0.ex = N.ex → wFor wi g u ρ N0) : wFor wi g u ρ N := h N hR (fun _ h => h) rfl
end
theorem cut_dl (xs : List D) : cutD xs none (some (-1)) = xs.dropLast := by
  unfold cutD
  rw [HT.sIx_none, List.drop_zero, Nat.sub_zero, List.dropLast_eq_take]
  congr 1
  show (if (-1 : Int) < 0 then ((-1 : Int) + (xs.length : Int)).toNat else min (Int.toNat (-1)) xs.length) = xs.length - 1
  rw [if_pos (by decide)]
  omega
theorem cut_lt (xs : List D) : cutD xs (some (-1)) none = xs.drop (xs.length - 1) := by
  unfold cutD
  rw [HT.sIx_none]
  have e : HT.sIx xs.length 0 (some (-1)) = xs.length - 1 := by
    show (if (-1 : Int) < 0 then ((-1 : Int) + (xs.length : Int)).toNat else min (Int.toNat (-1)) xs.length) = xs.length - 1
    rw [if_pos (by decide)]
    omega
  rw [e, List.take_of_length_le (by rw [List.length_drop]; omega)]
theorem atI_last {α : Type} {xs : List α} {y : α} : atI (xs ++ [y]) (-1) = some y := by
  unfold atI
  have e : ixN (xs ++ [y]).length (-1) = some xs.length := by
    unfold ixN
    rw [if_neg (by decide), if_pos (by rw [List.length_append, List.length_singleton]; omega)]
    congr 1
    rw [List.length_append, List.length_singleton]; omega
  rw [e]
  show (xs ++ [y])[xs.length]? = some y
  rw [List.getElem?_append_right (Nat.le_refl _), Nat.sub_self]; rfl
abbrev bsD (xs : List Bool) : D := .tuple (xs.map .bool)
theorem eqvAll_bools : ∀ xs ys : List Bool, PyData.eqvAll (xs.map .bool) (ys.map .bool) = decide (xs = ys)
  | [], [] => rfl
  | [], _ :: _ => rfl
  | _ :: _, [] => rfl
  | x :: xs, y :: ys => by
    show (PyData.eqv (.bool x) (.bool y) && PyData.eqvAll (xs.map .bool) (ys.map .bool)) = _
    rw [eqvAll_bools xs ys, eqv_bb]
    by_cases h : x = y
    · subst h
      simp
    · simp [h]
theorem sh_bools {n : Nat} (bs : List Bool) : ∀ x ∈ bs.map PyData.bool, Sh n x := fun x hx => by
  obtain ⟨i, _, rfl⟩ := List.mem_map.mp hx
  exact sh_bool n i
theorem bools_flat (q : Nat) (xs : List Bool) : (List.replicate q (xs.map PyData.bool)).flatten = ((List.replicate q xs).flatten).map PyData.bool := by
  induction q with
  | zero => rfl
  | succ q ih => rw [List.replicate_succ, List.flatten_cons, ih, List.replicate_succ, List.flatten_cons, List.map_append]
end Pz

set_option Elab.async false
set_option linter.all false
set_option autoImplicit false
set_option maxRecDepth 100000
namespace Pz
open PySem PySem.Spec PyProof.Rows L2

/-! ## a list of our own is compared, and goes on -/
section
variable {X : Cx} {E : XK} {a b : Expr} {wb : WE} {pos p : Pos}
def kOwnNe (xs : List D) (P : L → Prop) (l : L) : Prop := ∃ d, l.d? = some d ∧ Sh 60 (.list xs) ∧ Sh 60 d ∧ P (.val (.bool (!PyData.eqv (.list xs) d)))
def wOwnNe (i : Nat) (wb : WE) (ρ : En) (P : L → Prop) (Px : Str → Prop) : Prop := ∃ xs, ρ[i]? = some (.own xs) ∧ wb ρ (kOwnNe xs P) Px
theorem tF_ownNe {K : PySem.W.Frag} {mg : Str → Option Value} {i : Nat} {σ : L2.St} {H : Hp} {Q : VK} (h : tF K mg E (wOwnNe i wb) σ H Q) : tOp (rNeD K) (tVar i) (tF K mg E wb) σ H Q := by
  obtain ⟨T0, B0, H0, T, B, ρ, P, Px, o, ⟨xs, hi, hw⟩, hQ, hx⟩ := h
  obtain ⟨v, si, a, vs, e2, h0, hb, hT, h3, h4⟩ := o.sl i _ hi
  subst e2
  refine ⟨_, si, T0, B0, H0, T, B, ρ, _, Px, o, hw, fun l v B1 H1 p e r => ?_, hx⟩
  obtain ⟨d, hd, s1, s2, p⟩ := p
  obtain ⟨B1', e', s', rd⟩ := to_d e r hd
  have z := (e'.k a _ h3 (nt_lst _) hb).2.resolve_right fun z => hT z.1
  exact ⟨.list xs, d, .lst (.of z) (RpA.dp e'.s (h4.mono e'.b) s1.2.2), rd.dp e'.s s2.2.2, s1.ok, s2.ok, hQ _ _ _ _ p e' (.bl _)⟩
theorem ft_ownNe (hu : X.A.units + 64 < cLine) {i : Nat} (ha : PE X a (tVar i)) (hb : FE X E b wb) (hm : behindInMarks .NotEq b = false) : FT X E (.Compare a [.NotEq] [b] pos) (wBT (wOwnNe i wb)) :=
  ⟨pt_imp (pt_cmpR (op_neD hu) ha hb.pe hm) fun σ H Q h => by
    have z := tFT_of h
    exact tF_ownNe z⟩
/-- isinstance(xs, list) -/
def wOwnIs (i : Nat) (ρ : En) (P : L → Prop) (_ : Str → Prop) : Prop := ∃ xs, ρ[i]? = some (.own xs) ∧ P (.val (.bool true))
theorem fe_ownIs {i : Nat} {py : Pos} (hg : Gl X "isinstance") (hm : X.mg "isinstance" = none) (hgt : Gl X "list") (hmt : X.mg "list" = none) (ha : PE X a (tVar i))
    (he : starEach [a, .Name "list" py] X.env = (false, eval a X.env) :: starEach [.Name "list" py] X.env := by rfl) (he2 : starEach [.Name "list" py] X.env = (false, eval (.Name "list" py) X.env) :: starEach [] X.env := by rfl) (hpl : (backTo pos (starEach [.Name "list" py] X.env)).any (·.1) = false := by rfl) :
    FE X E (.Call (.Name "isinstance" p) [a, .Name "list" py] [] pos) (wOwnIs i) :=
  ⟨pe_imp (pe_callB call_isi hg hm (by decide +kernel) (pa_cons ha (pa_cons (pe_bltn (v := .ty "list") hgt hmt (by decide +kernel) rfl (by decide) (by decide)) pa_nil he2) he) (by decide) (by decide) he hpl) fun σ H Q ⟨T0, B0, H0, T, B, ρ, P, Px, o, ⟨xs, hi, hw⟩, hQ, hx⟩ => by
    obtain ⟨v, si, a, vs, e2, h0, hb, hT, h3, h4⟩ := o.sl i _ hi
    subst e2
    exact ⟨_, si, _, .ty "list", _, _, true, rfl, .ty "list", .base (.lst h3), kit_isD (by simp) (by simp), hQ _ _ _ _ hw (Ext.refl o.sub o.th) (.bl true)⟩⟩
end
/-! ## single changes -/
def putL (ms : List Int) (i : Nat) (v : Int) : List Int := ms.take i ++ v :: ms.drop (i + 1)
theorem putL_sc {ms : List Int} (hm : Sc ms) {i : Nat} (hi : i < ms.length) {v : Int} (v1 : -9 ≤ v) (v2 : v ≤ 9) : Sc (putL ms i v) := sc_put hm hi v1 v2
def mvs : List Int := (List.range 19).map fun j => (-9 : Int) + (j : Nat)
/-- all other moves at a place that p likes -/
def chAt (p : Nat → Int → Bool) (ms : List Int) (i j : Nat) : List (Nat × Int) := ((List.range j).map fun j => (i, (-9 : Int) + (j : Nat))).filter fun q => decide (q.2 ≠ ms.getD i 0) && p q.1 q.2
def chL (p : Nat → Int → Bool) (ms : List Int) (n : Nat) : List (Nat × Int) := (List.range n).flatMap fun i => chAt p ms i 19
theorem chAt_succ (p : Nat → Int → Bool) (ms : List Int) (i j : Nat) : chAt p ms i (j + 1) = chAt p ms i j ++ if (decide ((-9 : Int) + (j : Nat) ≠ ms.getD i 0) && p i ((-9 : Int) + (j : Nat))) = true then [(i, (-9 : Int) + (j : Nat))] else [] := by
  unfold chAt
  rw [List.range_succ, List.map_append, List.filter_append, List.map_singleton, List.filter_cons]
  rfl
theorem chL_succ (p : Nat → Int → Bool) (ms : List Int) (n : Nat) : chL p ms (n + 1) = chL p ms n ++ chAt p ms n 19 := by
  unfold chL
  rw [List.range_succ, List.flatMap_append, List.flatMap_singleton]
theorem chAt_len (p : Nat → Int → Bool) (ms : List Int) (i j : Nat) : (chAt p ms i j).length ≤ j := by
  have := List.length_filter_le (fun q : Nat × Int => decide (q.2 ≠ ms.getD i 0) && p q.1 q.2) ((List.range j).map fun j => (i, (-9 : Int) + (j : Nat)))
  rw [List.length_map, List.length_range] at this
  exact this
theorem chL_len (p : Nat → Int → Bool) (ms : List Int) (n : Nat) : (chL p ms n).length ≤ 19 * n := by
  induction n with
  | zero => exact Nat.le_refl _
  | succ n ih =>
    rw [chL_succ, List.length_append]
    have := chAt_len p ms n 19
    omega
theorem chAt_all (p : Nat → Int → Bool) (ms : List Int) (i j : Nat) : chAt p ms i j = (chAt (fun _ _ => true) ms i j).filter fun q => p q.1 q.2 := by
  unfold chAt
  rw [List.filter_filter]
  refine List.filter_congr fun q _ => ?_
  rw [Bool.and_true, Bool.and_comm]
theorem chL_all (p : Nat → Int → Bool) (ms : List Int) (n : Nat) : chL p ms n = (chL (fun _ _ => true) ms n).filter fun q => p q.1 q.2 := by
  induction n with
  | zero => rfl
  | succ n ih => rw [chL_succ, chL_succ, List.filter_append, ih, chAt_all]
theorem chL_mem {p : Nat → Int → Bool} {ms : List Int} {n : Nat} {q : Nat × Int} (h : q ∈ chL p ms n) : q.1 < n ∧ -9 ≤ q.2 ∧ q.2 ≤ 9 := by
  unfold chL at h
  obtain ⟨i, hi, hq⟩ := List.mem_flatMap.mp h
  unfold chAt at hq
  obtain ⟨j, hj, e⟩ := List.mem_map.mp (List.mem_filter.mp hq).1
  have := List.mem_range.mp hi
  have := List.mem_range.mp hj
  subst e
  exact ⟨by assumption, by show (-9 : Int) ≤ -9 + (j : Nat); omega, by show -9 + (j : Int) ≤ 9; omega⟩
def pairD (q : Nat × Int) : D := .tuple [.int (q.1 : Nat), .int q.2]
def fcL (ms : List Int) : List (Nat × Int) := chL (fun i v => fairB (putL ms i v)) ms ms.length
theorem eqv_pair (a b : Nat × Int) : PyData.eqv (pairD a) (pairD b) = decide (a = b) := by
  unfold pairD
  rw [eqv_tt, eqvAll_cons, eqvAll_cons, eqv_ii, eqv_ii, eqvAll_nil, Bool.and_true]
  obtain ⟨a1, a2⟩ := a
  obtain ⟨b1, b2⟩ := b
  rw [Bool.eq_iff_iff, Bool.and_eq_true, decide_eq_true_eq, decide_eq_true_eq, decide_eq_true_eq, Prod.mk.injEq]
  omega
theorem eqvAll_pairs : ∀ xs ys : List (Nat × Int), PyData.eqvAll (xs.map pairD) (ys.map pairD) = decide (xs = ys)
  | [], [] => rfl
  | [], _ :: _ => rfl
  | _ :: _, [] => rfl
  | x :: xs, y :: ys => by
    show (PyData.eqv (pairD x) (pairD y) && PyData.eqvAll (xs.map pairD) (ys.map pairD)) = _
    rw [eqvAll_pairs xs ys, eqv_pair]
    by_cases h : x = y
    · subst h
      simp
    · simp [h]
theorem sh_pairs {n : Nat} (hn : 1 ≤ n) (qs : List (Nat × Int)) : ∀ x ∈ qs.map pairD, Sh n x := fun x hx => by
  obtain ⟨q, _, rfl⟩ := List.mem_map.mp hx
  unfold pairD
  rw [sh_tuple _ (by omega)]
  intro y hy
  simp only [List.mem_cons, List.not_mem_nil, or_false] at hy
  rcases hy with rfl | rfl <;> exact sh_int _ _

/-! ## x in xs, any data -/
section
variable {X : Cx}
theorem hu65 {A : Around} {k : Nat} (hr : Room k A) : A.units + 65 < cLine := by have := hr.un; omega
def gInX : D → D → (L → Prop) → Prop
  | x, .list ds, P => Sh 60 x ∧ Sh 60 (.list ds) ∧ P (.val (.bool (inD x ds)))
  | _, _, _ => False
def gNotInX : D → D → (L → Prop) → Prop
  | x, .list ds, P => Sh 60 x ∧ Sh 60 (.list ds) ∧ P (.val (.bool (!inD x ds)))
  | _, _, _ => False
theorem op_inX (hu : X.A.units + 65 < cLine) : OpR X (compareOp .In) (rD X.K gInX) := by
  intro pins s σ H x y v u Q I rx ry h
  obtain ⟨B, dx, dy, P, sB, hx, hy, hg, hQ⟩ := h
  cases dy with
  | list ds =>
    have hg : Sh 60 dx ∧ Sh 60 (.list ds) ∧ P (.val (.bool (inD dx ds))) := by cases dx <;> exact hg
    exact L2.op_inD hu pins s σ H _ _ v u Q I rx ry ⟨dx, ds, hx.dp sB hg.1.2.2, hy.dp sB hg.2.1.2.2, hg.1.ok, hg.2.1.ok, hQ _ _ _ _ hg.2.2 (PExt.refl sB) (.bl _)⟩
  | _ => exact False.elim (by cases dx <;> exact hg)
theorem op_notInX (hu : X.A.units + 65 < cLine) : OpR X (compareOp .NotIn) (rD X.K gNotInX) := by
  intro pins s σ H x y v u Q I rx ry h
  obtain ⟨B, dx, dy, P, sB, hx, hy, hg, hQ⟩ := h
  cases dy with
  | list ds =>
    have hg : Sh 60 dx ∧ Sh 60 (.list ds) ∧ P (.val (.bool (!inD dx ds))) := by cases dx <;> exact hg
    exact L2.op_notInD hu pins s σ H _ _ v u Q I rx ry ⟨dx, ds, hx.dp sB hg.1.2.2, hy.dp sB hg.2.1.2.2, hg.1.ok, hg.2.1.ok, hQ _ _ _ _ hg.2.2 (PExt.refl sB) (.bl _)⟩
  | _ => exact False.elim (by cases dx <;> exact hg)
end
theorem inD_pairs (q : Nat × Int) (qs : List (Nat × Int)) : inD (pairD q) (qs.map pairD) = decide (q ∈ qs) := by
  induction qs with
  | nil => rfl
  | cons x xs ih =>
    rw [List.map_cons]
    show (PyData.eqv (pairD x) (pairD q) || inD (pairD q) (xs.map pairD)) = _
    rw [ih, eqv_pair, Bool.eq_iff_iff, Bool.or_eq_true, decide_eq_true_eq, decide_eq_true_eq, decide_eq_true_eq, List.mem_cons]
    exact ⟨fun z => z.imp Eq.symm id, fun z => z.imp Eq.symm id⟩
/-- fair, the law's way -/
theorem fair_set {ms : List Int} {n : Int} (hm : Sc ms) (hn : n = (ms.sum.natAbs : Nat)) (h0 : 0 < n) {M m : Nat} (hM : M = ms.length) (h : ∀ ks : List Int, ks.Nodup → (∀ k, k ∈ ks ↔ k ∈ (List.range M).map (fun k => far ms k % n)) → ks.length = m) : decide ((m : Int) = n) = fairB ms := by
  have e := h ((rsL ms n).map fun (k : Nat) => (k : Int)) (nodup_map_on (fun a _ b _ e => by omega) ((flt_sorted _ _).imp fun z => by omega)) fun k => by
    rw [List.mem_map, List.mem_map]
    have fp : ∀ i, i < ms.length → far ms i = plc ms i := fun i hi => by
      have := far_split hm.1 hi 0
      rw [Nat.zero_mul, Nat.zero_add] at this
      rw [this]; unfold plc; simp
    constructor
    · intro ⟨c, hc, e⟩
      obtain ⟨i, hi, e2⟩ := (rsL_mem (show 1 ≤ n by omega)).mp hc
      exact ⟨i, List.mem_range.mpr (by omega), by show far ms i % n = k; rw [fp i hi, e2]; exact e⟩
    · intro ⟨i, hi, e⟩
      have hi : i < ms.length := by have := List.mem_range.mp hi; omega
      have e : far ms i % n = k := e
      rw [fp i hi] at e
      have := Int.emod_nonneg (plc ms i) (show n ≠ 0 by omega)
      exact ⟨k.toNat, (rsL_mem (show 1 ≤ n by omega)).mpr ⟨i, hi, by omega⟩, by omega⟩
  rw [List.length_map, hn] at e
  unfold fairB
  rw [decide_eq_true (show ms.sum ≠ 0 by omega), Bool.true_and, e, hn]
  exact decide_eq_decide.mpr (by omega)
end Pz

set_option Elab.async false
set_option linter.all false
set_option autoImplicit false
set_option maxRecDepth 100000
namespace Pz
open PySem PySem.Spec PyProof.Rows L2

/-! ## who gets it last of all -/
def whoW (s l f r t : Int) : Int := r + t * f % l * s
section
variable {ms : List Int} {n s l f v : Int}
theorem who_law (h : Wh ms n s l f v) {r t : Int} (r0 : 0 ≤ r) (r1 : r < s) (t0 : 0 ≤ t) (t1 : t < l) : whoW s l f r t % s = r ∧ turnW s l v (whoW s l f r t) = t ∧ 0 ≤ whoW s l f r t ∧ whoW s l f r t < n := by
  have s1 := h.s1
  have l1 := h.l1
  have q0 := Int.emod_nonneg (t * f) (show l ≠ 0 by omega)
  have q1 := Int.emod_lt_of_pos (t * f) (show 0 < l by omega)
  have em : whoW s l f r t % s = r := by
    unfold whoW
    rw [Int.add_mul_emod_self_right]
    exact Int.emod_eq_of_lt r0 r1
  refine ⟨em, ?_, ?_, ?_⟩
  · unfold turnW
    rw [em]
    have e1 : (whoW s l f r t - r) / s = t * f % l := by
      unfold whoW
      rw [show r + t * f % l * s - r = t * f % l * s by omega]
      exact Int.mul_ediv_cancel _ (by omega)
    rw [e1]
    obtain ⟨m, hm⟩ := h.iv
    have e2 : t * f % l * v % l = t % l := by
      rw [Int.mul_emod, Int.emod_emod, ← Int.mul_emod]
      have : t * f * v = t + l * (m * t) := by
        have : f * v = 1 + l * m := by omega
        rw [Int.mul_assoc, this]; grind
      rw [this, Int.add_mul_emod_self_left]
    rw [e2]
    exact Int.emod_eq_of_lt t0 t1
  · unfold whoW
    have := Int.mul_nonneg q0 (show 0 ≤ s by omega)
    omega
  · unfold whoW
    have : t * f % l * s ≤ (l - 1) * s := Int.mul_le_mul_of_nonneg_right (by omega) (by omega)
    have e : (l - 1) * s = n - s := by rw [← h.sl]; grind
    omega
theorem head_of {xs : List Nat} {k : Nat} (hs : xs.Pairwise (· < ·)) (hk : k ∈ xs) (h : ∀ x ∈ xs, k ≤ x) : xs.head? = some k := by
  cases xs with
  | nil => cases hk
  | cons x xs =>
    rcases List.mem_cons.mp hk with z | z
    · rw [z]; rfl
    · have h1 := (List.pairwise_cons.mp hs).1 k z
      have h2 := h x List.mem_cons_self
      omega
/-- between two turns -/
theorem turn_gap {t nx x y l : Int} (t0 : 0 ≤ t) (x0 : 0 ≤ x) (x1 : x < l) (h1 : x ≤ t ∨ nx ≤ x) (h2 : nx ≤ x + l) (y0 : t ≤ y) (y1 : y < nx) : (x = t → (y - x) % l = y - t) ∧ (x ≠ t → y - t + 1 ≤ (y - x) % l) := by
  constructor
  · intro e
    subst e
    exact Int.emod_eq_of_lt (by omega) (by omega)
  · intro e
    rcases h1 with z | z
    · rw [Int.emod_eq_of_lt (by omega) (by omega)]; omega
    · have : (y - x) % l = y - x + l := by
        rw [← Int.add_emod_right]
        exact Int.emod_eq_of_lt (by omega) (by omega)
      rw [this]; omega
/-- the first stop of a child between two turns -/
theorem first_gap (hm : Sc ms) (h : Wh ms n s l f v) {c t nx y : Int} {i0 : Nat} (c0 : 0 ≤ c) (c1 : c < n) (hy : y % l = turnW s l v c) (t0 : 0 ≤ t) (y0 : t ≤ y) (y1 : y < nx)
    (h1 : ∀ i ∈ idx ms s (c % s), turnW s l v (plc ms i) ≤ t ∨ nx ≤ turnW s l v (plc ms i)) (h2 : ∀ i ∈ idx ms s (c % s), nx ≤ turnW s l v (plc ms i) + l)
    (hi : i0 ∈ idx ms s (c % s)) (ht : turnW s l v (plc ms i0) = t) (hmin : ∀ i ∈ idx ms s (c % s), turnW s l v (plc ms i) = t → i0 ≤ i) :
    (StL ms n c).head? = some ((y - t) * ms.length + i0).toNat := by
  have l1 := h.l1
  have e : ∀ i, fst1 ms s l v c i = (y - turnW s l v (plc ms i)) % l * ms.length + i := fun i => by
    unfold fst1
    rw [← hy, Int.emod_sub_emod]
  have g : ∀ i ∈ idx ms s (c % s), (turnW s l v (plc ms i) = t → (y - turnW s l v (plc ms i)) % l = y - t) ∧ (turnW s l v (plc ms i) ≠ t → y - t + 1 ≤ (y - turnW s l v (plc ms i)) % l) := fun i hi =>
    turn_gap t0 (turnW_rg h _).1 (turnW_rg h _).2 (h1 i hi) (h2 i hi) y0 y1
  have nn : 0 ≤ (y - t) * (ms.length : Int) := Int.mul_nonneg (by omega) (by omega)
  have e0 : fst1 ms s l v c i0 = (((y - t) * ms.length + i0).toNat : Nat) := by
    rw [e, (g i0 hi).1 ht]; omega
  refine head_of (StL_sorted ms n c) ((StL_mem hm h c0 c1 _).mpr ⟨i0, hi, e0⟩) fun k hk => ?_
  obtain ⟨i, hi2, ek⟩ := (StL_mem hm h c0 c1 k).mp hk
  rw [e] at ek
  by_cases z : turnW s l v (plc ms i) = t
  · rw [(g i hi2).1 z] at ek
    have := hmin i hi2 z
    omega
  · have q := (g i hi2).2 z
    have := Int.mul_le_mul_of_nonneg_right q (show (0 : Int) ≤ ms.length by omega)
    rw [Int.add_mul, Int.one_mul] at this
    have hl := (idx_mem.mp hi).1
    omega
end
/-- the next turn -/
def nextT (ts : List Int) (l : Int) (j : Nat) : Int := if j + 1 < ts.length then ts.getD (j + 1) 0 else ts.getD 0 0 + l
theorem srt_lt {ts : List Int} (hs : ts.Pairwise (· < ·)) {i j : Nat} (hij : i < j) (hj : j < ts.length) : ts.getD i 0 < ts.getD j 0 := by
  rw [List.getD_eq_getElem?_getD, List.getD_eq_getElem?_getD, List.getElem?_eq_getElem (show i < ts.length by omega), List.getElem?_eq_getElem hj]
  exact List.pairwise_iff_getElem.mp hs i j (by omega) hj hij
theorem getD_mem2 {ts : List Int} {j : Nat} (h : j < ts.length) : ts.getD j 0 ∈ ts := by
  rw [List.getD_eq_getElem?_getD, List.getElem?_eq_getElem h]
  exact List.getElem_mem h
theorem mem_getD2 {ts : List Int} {x : Int} (h : x ∈ ts) : ∃ j, j < ts.length ∧ ts.getD j 0 = x := by
  obtain ⟨j, hj, e⟩ := List.getElem_of_mem h
  exact ⟨j, hj, by rw [List.getD_eq_getElem?_getD, List.getElem?_eq_getElem hj]; exact e⟩
theorem nextT_law {ts : List Int} {l : Int} (hs : ts.Pairwise (· < ·)) (hb : ∀ x ∈ ts, 0 ≤ x ∧ x < l) {j : Nat} (hj : j < ts.length) :
    ts.getD j 0 < nextT ts l j ∧ (∀ x ∈ ts, x ≤ ts.getD j 0 ∨ nextT ts l j ≤ x) ∧ (∀ x ∈ ts, nextT ts l j ≤ x + l) := by
  have b0 := hb _ (getD_mem2 (show 0 < ts.length by omega))
  have bj := hb _ (getD_mem2 hj)
  unfold nextT
  by_cases c : j + 1 < ts.length
  · rw [if_pos c]
    have b2 := hb _ (getD_mem2 c)
    refine ⟨srt_lt hs (by omega) c, fun x hx => ?_, fun x hx => by have := hb x hx; omega⟩
    obtain ⟨i, hi, rfl⟩ := mem_getD2 hx
    rcases Nat.lt_trichotomy i j with z | z | z
    · exact .inl (Int.le_of_lt (srt_lt hs z hj))
    · subst z; exact .inl (Int.le_refl _)
    · rcases (show i = j + 1 ∨ j + 1 < i by omega) with w | w
      · subst w; exact .inr (Int.le_refl _)
      · exact .inr (Int.le_of_lt (srt_lt hs w hi))
  · rw [if_neg c]
    refine ⟨by omega, fun x hx => ?_, fun x hx => ?_⟩
    · obtain ⟨i, hi, rfl⟩ := mem_getD2 hx
      rcases (show i = j ∨ i < j by omega) with z | z
      · subst z; exact .inl (Int.le_refl _)
      · exact .inl (Int.le_of_lt (srt_lt hs z hj))
    · obtain ⟨i, hi, rfl⟩ := mem_getD2 hx
      rcases (show i = 0 ∨ 0 < i by omega) with z | z
      · subst z; exact Int.le_refl _
      · have := srt_lt hs z hi; omega
/-- each turn lies between two of them -/
theorem nextT_cover {ts : List Int} {l : Int} (hs : ts.Pairwise (· < ·)) (hb : ∀ x ∈ ts, 0 ≤ x ∧ x < l) (hne : 0 < ts.length) {t : Int} (t0 : 0 ≤ t) (t1 : t < l) :
    ∃ j, j < ts.length ∧ ∃ y, ts.getD j 0 ≤ y ∧ y < nextT ts l j ∧ y % l = t := by
  have low : t < ts.getD 0 0 → ∃ j, j < ts.length ∧ ∃ y, ts.getD j 0 ≤ y ∧ y < nextT ts l j ∧ y % l = t := fun z => by
    have b := hb _ (getD_mem2 (show ts.length - 1 < ts.length by omega))
    refine ⟨ts.length - 1, by omega, t + l, by omega, ?_, ?_⟩
    · unfold nextT
      rw [if_neg (by omega)]; omega
    · rw [Int.add_emod_right]; exact Int.emod_eq_of_lt t0 t1
  have key : ∀ m, m < ts.length → ts.getD m 0 ≤ t → ∃ j, j < ts.length ∧ ∃ y, ts.getD j 0 ≤ y ∧ y < nextT ts l j ∧ y % l = t := by
    intro m
    obtain ⟨d, hd⟩ : ∃ d, ts.length - m = d := ⟨_, rfl⟩
    induction d generalizing m with
    | zero => intro hm; omega
    | succ d ih =>
      intro hm hle
      by_cases c : t < nextT ts l m
      · exact ⟨m, hm, t, hle, c, Int.emod_eq_of_lt t0 t1⟩
      · by_cases c2 : m + 1 < ts.length
        · unfold nextT at c
          rw [if_pos c2] at c
          exact ih (m + 1) (by omega) c2 (by omega)
        · unfold nextT at c
          rw [if_neg c2] at c
          have b := hb _ (getD_mem2 hne)
          omega
  by_cases c : ts.getD 0 0 ≤ t
  · exact key 0 hne c
  · exact low (by omega)
/-- c, k: the last child and its first stop, of those that C tells -/
def BestOk (ms : List Int) (n : Int) (C : Int → Prop) (d : D) : Prop := (d = .none ∧ ∀ c, 0 ≤ c → c < n → ¬ C c) ∨
  ∃ (c : Int) (k : Nat), d = .tuple [.int c, .int (k : Nat)] ∧ 0 ≤ c ∧ c < n ∧ (StL ms n c).head? = some k ∧ ∀ c', 0 ≤ c' → c' < n → C c' → ∀ k', (StL ms n c').head? = some k' → k' ≤ k
def Late (ms : List Int) (n c : Int) (k : Nat) : Prop := 0 ≤ c ∧ c < n ∧ (StL ms n c).head? = some k ∧ ∀ c', 0 ≤ c' → c' < n → ∀ k', (StL ms n c').head? = some k' → k' ≤ k
theorem head_at {ms : List Int} {n c : Int} {k : Nat} (h : (StL ms n c).head? = some k) : At ms n c k = true ∧ k < per ms n := by
  have hk : k ∈ StL ms n c := List.mem_of_head? h
  have := flt_mem.mp (show k ∈ flt (At ms n c) (per ms n) from hk)
  exact ⟨this.2, this.1⟩
theorem Late.uniq {ms : List Int} {n c c2 : Int} {k k2 : Nat} (h : Late ms n c k) (h2 : Late ms n c2 k2) : c = c2 ∧ k = k2 := by
  have a := h.2.2.2 c2 h2.1 h2.2.1 k2 h2.2.2.1
  have b := h2.2.2.2 c h.1 h.2.1 k h.2.2.1
  have e : k = k2 := by omega
  subst e
  have e1 := of_decide_eq_true (head_at h.2.2.1).1
  have e2 := of_decide_eq_true (head_at h2.2.2.1).1
  exact ⟨e1.symm.trans e2, rfl⟩

theorem BestOk.mono {ms : List Int} {n : Int} {C C' : Int → Prop} {d : D} (hB : BestOk ms n C d) (h : ∀ c, 0 ≤ c → c < n → C' c → C c) : BestOk ms n C' d := by
  rcases hB with ⟨e, h1⟩ | ⟨c, k, e, c0, c1, hk, h1⟩
  · exact .inl ⟨e, fun c c0 c1 z => h1 c c0 c1 (h c c0 c1 z)⟩
  · exact .inr ⟨c, k, e, c0, c1, hk, fun c' a b z => h1 c' a b (h c' a b z)⟩
theorem best_new {ms : List Int} {n c : Int} {k : Nat} {C N : Int → Prop} {d : D} (hB : BestOk ms n C d) (gt : ∀ c0 (k0 : Nat), d = .tuple [.int c0, .int (k0 : Nat)] → k0 ≤ k) (c0 : 0 ≤ c) (c1 : c < n) (hk : (StL ms n c).head? = some k)
    (hn : ∀ c', 0 ≤ c' → c' < n → N c' → ∀ k', (StL ms n c').head? = some k' → k' ≤ k) : BestOk ms n (fun c => C c ∨ N c) (.tuple [.int c, .int (k : Nat)]) := by
  refine .inr ⟨c, k, rfl, c0, c1, hk, fun c' a b z k' hk' => ?_⟩
  rcases z with z | z
  · rcases hB with ⟨e, h1⟩ | ⟨c2, k2, e, _, _, _, h1⟩
    · exact absurd z (h1 c' a b)
    · have := gt c2 k2 e
      have := h1 c' a b z k' hk'
      omega
  · exact hn c' a b z k' hk'
theorem best_old {ms : List Int} {n c0 : Int} {k k0 : Nat} {C N : Int → Prop} (hB : BestOk ms n C (.tuple [.int c0, .int (k0 : Nat)])) (hle : k ≤ k0)
    (hn : ∀ c', 0 ≤ c' → c' < n → N c' → ∀ k', (StL ms n c').head? = some k' → k' ≤ k) : BestOk ms n (fun c => C c ∨ N c) (.tuple [.int c0, .int (k0 : Nat)]) := by
  rcases hB with ⟨e, h1⟩ | ⟨c2, k2, e, a0, a1, hk2, h1⟩
  · cases e
  · injection e with e
    injection e with e1 e
    injection e with e2 _
    injection e1 with e1
    injection e2 with e2
    subst e1
    have e2 : k0 = k2 := by omega
    subst e2
    refine .inr ⟨c0, k0, rfl, a0, a1, hk2, fun c' a b z k' hk' => ?_⟩
    rcases z with z | z
    · exact h1 c' a b z k' hk'
    · exact Nat.le_trans (hn c' a b z k' hk') hle
/-- the last one between two turns -/
theorem best_step {ms : List Int} {n s l f v : Int} (hm : Sc ms) (h : Wh ms n s l f v) {r : Nat} (r1 : (r : Int) < s) {ts : List Int} (hs : ts.Pairwise (· < ·)) (hb : ∀ x ∈ ts, 0 ≤ x ∧ x < l) (htm : ∀ z, z ∈ ts ↔ ∃ i, i ∈ idx ms s (r : Nat) ∧ turnW s l v (plc ms i) = z)
    {t : Nat} (ht : t < ts.length) {i0 : Nat} (hi : i0 ∈ idx ms s (r : Nat)) (hti : turnW s l v (plc ms i0) = ts.getD t 0) (hmin : ∀ i ∈ idx ms s (r : Nat), turnW s l v (plc ms i) = ts.getD t 0 → i0 ≤ i) :
    (0 ≤ whoW s l f r ((nextT ts l t - 1) % l) ∧ whoW s l f r ((nextT ts l t - 1) % l) < n) ∧ (StL ms n (whoW s l f r ((nextT ts l t - 1) % l))).head? = some ((nextT ts l t - ts.getD t 0 - 1) * ms.length + i0).toNat ∧
      ∀ c', 0 ≤ c' → c' < n → (c' % s = r ∧ ∃ y, ts.getD t 0 ≤ y ∧ y < nextT ts l t ∧ y % l = turnW s l v c') → ∀ k', (StL ms n c').head? = some k' → k' ≤ ((nextT ts l t - ts.getD t 0 - 1) * ms.length + i0).toNat := by
  have l1 := h.l1
  obtain ⟨g1, g2, g3⟩ := nextT_law hs hb ht
  have t0 := (hb _ (getD_mem2 ht)).1
  have first : ∀ c', 0 ≤ c' → c' < n → c' % s = r → ∀ y, ts.getD t 0 ≤ y → y < nextT ts l t → y % l = turnW s l v c' → (StL ms n c').head? = some ((y - ts.getD t 0) * ms.length + i0).toNat := fun c' a b er y y0 y1 ey =>
    first_gap hm h a b ey t0 y0 y1 (fun i hi => g2 _ ((htm _).mpr ⟨i, by rw [← er]; exact hi, rfl⟩)) (fun i hi => g3 _ ((htm _).mpr ⟨i, by rw [← er]; exact hi, rfl⟩)) (by rw [er]; exact hi) hti (fun i hi => hmin i (by rw [← er]; exact hi))
  have z0 := Int.emod_nonneg (nextT ts l t - 1) (show l ≠ 0 by omega)
  have z1 := Int.emod_lt_of_pos (nextT ts l t - 1) (show 0 < l by omega)
  obtain ⟨w1, w2, w3, w4⟩ := who_law h (show (0 : Int) ≤ (r : Int) by omega) r1 z0 z1
  refine ⟨⟨w3, w4⟩, ?_, fun c' a b ⟨er, y, y0, y1, ey⟩ k' hk' => ?_⟩
  · rw [show nextT ts l t - ts.getD t 0 - 1 = (nextT ts l t - 1) - ts.getD t 0 by omega]
    exact first _ w3 w4 w1 _ (by omega) (by omega) w2.symm
  · rw [first c' a b er y y0 y1 ey] at hk'
    have e := Option.some.inj hk'
    have := Int.mul_le_mul_of_nonneg_right (show y - ts.getD t 0 ≤ nextT ts l t - ts.getD t 0 - 1 by omega) (show (0 : Int) ≤ ms.length by omega)
    omega
theorem head_rs {ms : List Int} {n s l f v c : Int} {k : Nat} (hm : Sc ms) (h : Wh ms n s l f v) (c0 : 0 ≤ c) (c1 : c < n) (hk : (StL ms n c).head? = some k) : ∃ i, i < (rsL ms s).length ∧ (rsL ms s)[i]? = some (c % s).toNat := by
  have s1 := h.s1
  obtain ⟨i, hi, _⟩ := (StL_mem hm h c0 c1 k).mp (List.mem_of_head? hk)
  obtain ⟨hi, e⟩ := idx_mem.mp hi
  have := Int.emod_nonneg c (show s ≠ 0 by omega)
  have hr : (c % s).toNat ∈ rsL ms s := (rsL_mem s1).mpr ⟨i, hi, by omega⟩
  obtain ⟨j, hj, ej⟩ := List.getElem_of_mem hr
  exact ⟨j, hj, by rw [List.getElem?_eq_getElem hj, ej]⟩
/-- all of them: the last one -/
theorem best_all {ms : List Int} {n s l f v : Int} {d : D} (hm : Sc ms) (h : Wh ms n s l f v) (hB : BestOk ms n (fun c => ∃ i, i < (rsL ms s).length ∧ (rsL ms s)[i]? = some (c % s).toNat) d) : ∃ c k, d = .tuple [.int c, .int (k : Nat)] ∧ Late ms n c k := by
  have n1 := h.n1
  rcases hB with ⟨_, h1⟩ | ⟨c, k, e, c0, c1, hk, h1⟩
  · exfalso
    have z0 := Int.emod_nonneg (far ms 0) (show n ≠ 0 by omega)
    have z1 := Int.emod_lt_of_pos (far ms 0) (show 0 < n by omega)
    have hne : (StL ms n (far ms 0 % n)) ≠ [] := (rep_any (per_le hm n1).1 (At_rep hm n1 _)).mp ⟨0, At_far ms n 0⟩
    obtain ⟨k, hk⟩ : ∃ k, (StL ms n (far ms 0 % n)).head? = some k := by
      cases q : StL ms n (far ms 0 % n) with
      | nil => exact absurd q hne
      | cons x xs => exact ⟨x, rfl⟩
    exact h1 _ z0 z1 (head_rs hm h z0 z1 hk)
  · exact ⟨c, k, e, c0, c1, hk, fun c' a b k' hk' => h1 c' a b (head_rs hm h a b hk') k' hk'⟩
end Pz

set_option Elab.async false
set_option linter.all false
set_option autoImplicit false
set_option maxRecDepth 100000
namespace Pz
open PySem PySem.Spec PyProof.Rows L2

/-! ## max(xs), pairs of ints -/
def ipD (q : Int × Int) : D := .tuple [.int q.1, .int q.2]
theorem toks_pair (q : Int × Int) : W.keyToks (ipD q) = [.inl 1, .inl q.1, .inl 1, .inl q.2, .inl 0] := rfl
theorem lt_pair (a b : Int × Int) : W.dataLt (ipD a) (ipD b) = (decide (a.1 < b.1) || (decide (a.1 = b.1) && decide (a.2 < b.2))) := by
  unfold W.dataLt
  rw [toks_pair, toks_pair]
  have hb : ∀ x y : Int, itemOrd.blt (.inl x) (.inl y) = decide (x < y) := fun _ _ => rfl
  rw [lex_self (O := itemOrd), lex_cons (O := itemOrd), lex_self (O := itemOrd), lex_cons (O := itemOrd), lex_self (O := itemOrd), hb, hb, hb, hb]
  rw [show PyProof.Rows.lexLt itemOrd [] [] = false from rfl]
  rw [Bool.eq_iff_iff]
  simp only [Bool.or_eq_true, Bool.and_eq_true, Bool.not_eq_true', decide_eq_true_eq, decide_eq_false_iff_not, Bool.and_false, Bool.false_eq_true, or_false, and_false]
  omega
theorem max_pairs : ∀ (qs : List (Int × Int)) (q : Int × Int), ∃ b, W.maxD (ipD q) (qs.map ipD) = ipD b ∧ b ∈ q :: qs ∧ ∀ r ∈ q :: qs, r.1 ≤ b.1
  | [], q => ⟨q, rfl, List.mem_cons_self, fun r hr => by rw [List.mem_singleton.mp hr]; exact Int.le_refl _⟩
  | x :: qs, q => by
    have e : W.maxD (ipD q) ((x :: qs).map ipD) = W.maxD (ipD (if W.dataLt (ipD q) (ipD x) = true then x else q)) (qs.map ipD) := by
      unfold W.maxD
      rw [List.map_cons, List.foldl_cons]
      split <;> rfl
    obtain ⟨b, h1, h2, h3⟩ := max_pairs qs (if W.dataLt (ipD q) (ipD x) = true then x else q)
    refine ⟨b, e.trans h1, ?_, fun r hr => ?_⟩
    · rcases List.mem_cons.mp h2 with z | z
      · rw [z]
        split
        · exact List.mem_cons_of_mem _ List.mem_cons_self
        · exact List.mem_cons_self
      · exact List.mem_cons_of_mem _ (List.mem_cons_of_mem _ z)
    · have key : q.1 ≤ (if W.dataLt (ipD q) (ipD x) = true then x else q).1 ∧ x.1 ≤ (if W.dataLt (ipD q) (ipD x) = true then x else q).1 := by
        rw [lt_pair]
        split
        · rename_i z
          simp only [Bool.or_eq_true, Bool.and_eq_true, decide_eq_true_eq] at z
          omega
        · rename_i z
          simp only [Bool.or_eq_true, Bool.and_eq_true, decide_eq_true_eq] at z
          omega
      have hb := h3 _ List.mem_cons_self
      rcases List.mem_cons.mp hr with z | z
      · rw [z]; omega
      · rcases List.mem_cons.mp z with z | z
        · rw [z]; omega
        · exact h3 r (List.mem_cons_of_mem _ z)
theorem alike_pairs (qs : List (Int × Int)) : W.AlikeAll (qs.map ipD) := by
  refine ⟨fun x hx y hy => ?_, fun x hx => ?_⟩
  · obtain ⟨a, _, rfl⟩ := List.mem_map.mp hx
    obtain ⟨b, _, rfl⟩ := List.mem_map.mp hy
    rfl
  · obtain ⟨a, _, rfl⟩ := List.mem_map.mp hx
    exact fun z => nomatch z
theorem dep_pairs : ∀ qs : List (Int × Int), PyData.depthAll (qs.map ipD) ≤ 1
  | [] => Nat.zero_le _
  | q :: qs => by
    show max (ipD q).depth (PyData.depthAll (qs.map ipD)) ≤ 1
    exact Nat.max_le.mpr ⟨Nat.le_refl _, dep_pairs qs⟩
theorem vals_at : ∀ {xs : List V} {us : List Value} {i : Nat} {u : Value}, Vals xs us → us[i]? = some u → ∃ x, xs[i]? = some x ∧ RelV x u
  | _, _, _, _, .nil, e => by simp at e
  | _, _, 0, _, .cons h _, e => by simp at e; subst e; exact ⟨_, rfl, h⟩
  | _, _, i + 1, u, .cons _ t, e => by
    obtain ⟨x, h1, h2⟩ := vals_at (i := i) (u := u) t (by simpa using e)
    exact ⟨x, by simpa using h1, h2⟩
section
variable {X : Cx}
def gMaxP : List D → (L → Prop) → Prop
  | [.list xs], P => ∃ qs : List (Int × Int), xs = qs.map ipD ∧ qs ≠ [] ∧ ∀ q ∈ qs, (∀ r ∈ qs, r.1 ≤ q.1) → P (.val (ipD q))
  | _, _ => False
theorem cr_maxP (hc : X.calm = true) (hu : X.A.units + 64 < cLine) : CallR X (.builtin "max") (rDA X.K gMaxP) := by
  intro pins s σ H vs us Q I r h
  obtain ⟨B, ds, P, sB, ra, hg, hQ⟩ := h
  match ds, hg with
  | [.list xs], hg =>
    obtain ⟨qs, rfl, hne, hg⟩ := hg
    obtain ⟨v, rfl, rv⟩ := ra.one
    cases rv with
    | lst h rr =>
      rename_i a vs
      obtain ⟨its, rvals, hl, hz⟩ := I.list (SqL.of (sB _ _ h))
      obtain rfl := Vals.ref1 r
      have hnd : noDs (qs.map ipD) = true := noDs_all.mpr fun x hx => by obtain ⟨q, _, rfl⟩ := List.mem_map.mp hx; rfl
      obtain ⟨as, hra⟩ := Dp.readsAll I _ _ _ (RpA.dp sB rr hnd) rvals
      cases qs with
      | nil => exact absurd rfl hne
      | cons q qs =>
        have hdep := dep_pairs (q :: qs)
        refine W.max_list_data (I.ok.hd hc) hl.isList (by simpa using hra) (alike_pairs (q :: qs)) (by have hdep : PyData.depthAll (ipD q :: qs.map ipD) ≤ 1 := hdep; omega) fun i v h' tk bs hv hr2 hk => ?_
        have hv2 : its[i]? = some v := by simpa using hv
        obtain ⟨w, hw, rw2⟩ := vals_at rvals hv2
        obtain ⟨d, hd, rd⟩ := rr.get' hw
        obtain ⟨as2, hr3⟩ := Dp.reads I d w v (rd.dp sB (noDs_all.mp hnd d (List.mem_of_getElem? hd))) rw2
        have e := (Reads.unique hr2 _ _ (Reads.keeps hk hr3)).1
        obtain ⟨b, e2, hb1, hb2⟩ := max_pairs qs q
        rw [e2] at e
        rw [← e] at rd
        exact ⟨w, H, I.kept hk, rw2, hQ _ _ _ _ (hg b hb1 hb2) (PExt.refl sB) rd⟩
end
end Pz

set_option Elab.async false
set_option linter.all false
set_option autoImplicit false
set_option maxRecDepth 100000
namespace Pz
open PySem PySem.Spec PyProof.Rows L2

/-! ## who has it most often -/
def cntN (ms : List Int) (n : Int) (k : Nat) (c : Int) : Nat := (flt (At ms n c) k).length
/-- the pairs (how often, child): each is so, and each number of times is told -/
structure CntOk (ms : List Int) (n : Int) (k : Nat) (qs : List (Int × Int)) : Prop where
  ok : ∀ q ∈ qs, 0 ≤ q.2 ∧ q.2 < n ∧ q.1 = (cntN ms n k q.2 : Nat)
  all : ∀ c, 0 ≤ c → c < n → ∃ q ∈ qs, q.1 = (cntN ms n k c : Nat)
theorem hit_same {l T R b t : Int} (T0 : 0 ≤ T) (T1 : T < l) (R0 : 0 ≤ R) (R1 : R < l) (b0 : 0 ≤ b) (bt : b ≤ t) (t1 : t < l) (h1 : T ≤ b ∨ t < T) (h2 : (T + R) % l ≤ b ∨ t < (T + R) % l) : (t - T) % l < R ↔ (b - T) % l < R := by
  have e : (T + R) % l = if T + R < l then T + R else T + R - l := by
    split
    · exact Int.emod_eq_of_lt (by omega) (by omega)
    · have : T + R = (T + R - l) + l := by omega
      rw [this, Int.add_emod_right]
      exact (Int.emod_eq_of_lt (by omega) (by omega)).trans (by omega)
  have m : ∀ x, 0 ≤ x → x < l → (x - T) % l = if T ≤ x then x - T else x - T + l := fun x x0 x1 => by
    split
    · exact Int.emod_eq_of_lt (by omega) (by omega)
    · rw [← Int.add_emod_right]
      exact Int.emod_eq_of_lt (by omega) (by omega)
  rw [m t (by omega) t1, m b b0 (by omega)]
  rw [e] at h2
  split at h2 <;> split <;> split <;> omega
theorem max_below {us : List Int} (h0 : (0 : Int) ∈ us) {t : Int} (t0 : 0 ≤ t) : ∃ b ∈ us, b ≤ t ∧ ∀ x ∈ us, x ≤ b ∨ t < x := by
  induction us with
  | nil => cases h0
  | cons u us ih =>
    by_cases hz : (0 : Int) ∈ us
    · obtain ⟨b, hb, hbt, hx⟩ := ih hz
      by_cases c : b ≤ u ∧ u ≤ t
      · refine ⟨u, List.mem_cons_self, c.2, fun x hx' => ?_⟩
        rcases List.mem_cons.mp hx' with z | z
        · exact .inl (by omega)
        · have := hx x z; omega
      · refine ⟨b, List.mem_cons_of_mem _ hb, hbt, fun x hx' => ?_⟩
        rcases List.mem_cons.mp hx' with z | z
        · omega
        · exact hx x z
    · have e : u = 0 := by
        rcases List.mem_cons.mp h0 with z | z
        · exact z.symm
        · exact absurd z hz
      subst e
      by_cases hn : ∃ b ∈ us, b ≤ t ∧ 0 ≤ b ∧ ∀ x ∈ us, x ≤ b ∨ t < x
      · obtain ⟨b, hb, h1, h2, h3⟩ := hn
        refine ⟨b, List.mem_cons_of_mem _ hb, h1, fun x hx' => ?_⟩
        rcases List.mem_cons.mp hx' with z | z
        · subst z; exact .inl h2
        · exact h3 x z
      · clear ih
        have key : ∀ vs : List Int, (∃ b ∈ vs, b ≤ t ∧ 0 ≤ b ∧ ∀ x ∈ vs, x ≤ b ∨ t < x) ∨ ∀ x ∈ vs, x ≤ 0 ∨ t < x := by
          intro vs
          induction vs with
          | nil => exact .inr fun x hx => nomatch hx
          | cons v vs ih =>
            rcases ih with ⟨b, hb, h1, h2, h3⟩ | h
            · by_cases c : b ≤ v ∧ v ≤ t
              · exact .inl ⟨v, List.mem_cons_self, c.2, by omega, fun x hx' => by
                  rcases List.mem_cons.mp hx' with z | z
                  · exact .inl (by omega)
                  · have := h3 x z; omega⟩
              · exact .inl ⟨b, List.mem_cons_of_mem _ hb, h1, h2, fun x hx' => by
                  rcases List.mem_cons.mp hx' with z | z
                  · omega
                  · exact h3 x z⟩
            · by_cases c : 0 ≤ v ∧ v ≤ t
              · exact .inl ⟨v, List.mem_cons_self, c.2, c.1, fun x hx' => by
                  rcases List.mem_cons.mp hx' with z | z
                  · exact .inl (by omega)
                  · have := h x z; omega⟩
              · exact .inr fun x hx' => by
                  rcases List.mem_cons.mp hx' with z | z
                  · omega
                  · exact h x z
        rcases key us with z | z
        · exact absurd z hn
        · exact ⟨0, List.mem_cons_self, t0, fun x hx' => by
            rcases List.mem_cons.mp hx' with w | w
            · exact .inl (by omega)
            · exact z x w⟩
section
variable {ms : List Int} {n s l f v : Int}
/-- between two of the turns the number is the same -/
theorem times_same (h : Wh ms n s l f v) {r b t : Int} {k : Nat} (b0 : 0 ≤ b) (bt : b ≤ t) (t1 : t < l)
    (h1 : ∀ i ∈ idx ms s r, turnW s l v (plc ms i) ≤ b ∨ t < turnW s l v (plc ms i)) (h2 : ∀ i ∈ idx ms s r, (turnW s l v (plc ms i) + (rnds ms.length k i : Nat)) % l ≤ b ∨ t < (turnW s l v (plc ms i) + (rnds ms.length k i : Nat)) % l) :
    timesI ms s l v r b k = timesI ms s l v r t k := by
  have l1 := h.l1
  unfold timesI
  congr 1
  refine List.map_congr_left fun i hi => ?_
  obtain ⟨T0, T1⟩ := turnW_rg h (plc ms i)
  have d0 : ∀ x, 0 ≤ dI ms s l v x i := fun x => Int.emod_nonneg _ (by omega)
  rw [← hits_cast l1 (d0 b), ← hits_cast l1 (d0 t)]
  have R0 := Int.emod_nonneg (rnds ms.length k i : Int) (show l ≠ 0 by omega)
  have R1 := Int.emod_lt_of_pos (rnds ms.length k i : Int) (show 0 < l by omega)
  have e2 : (turnW s l v (plc ms i) + (rnds ms.length k i : Nat)) % l = (turnW s l v (plc ms i) + (rnds ms.length k i : Int) % l) % l := by rw [Int.add_emod_emod]
  have key := hit_same T0 T1 R0 R1 b0 bt t1 (h1 i hi) (by rw [← e2]; exact h2 i hi)
  unfold dI
  congr 1
  by_cases c : (t - turnW s l v (plc ms i)) % l < (rnds ms.length k i : Int) % l
  · rw [if_pos c, if_pos (key.mp c)]
  · rw [if_neg c, if_neg (fun z => c (key.mpr z))]
theorem cnt_times (hm : Sc ms) (h : Wh ms n s l f v) {c : Int} (c0 : 0 ≤ c) (c1 : c < n) (k : Nat) : (cntN ms n k c : Int) = timesI ms s l v (c % s) (turnW s l v c) k := (times_law hm h c0 c1 k).symm
theorem cnt_who (hm : Sc ms) (h : Wh ms n s l f v) {r : Nat} {t : Int} (r1 : (r : Int) < s) (t0 : 0 ≤ t) (t1 : t < l) (k : Nat) : (cntN ms n k (whoW s l f r t) : Int) = timesI ms s l v r t k := by
  obtain ⟨w1, w2, w3, w4⟩ := who_law h (show (0 : Int) ≤ (r : Int) by omega) r1 t0 t1
  rw [cnt_times hm h w3 w4, w1, w2]
theorem cnt_zero (hm : Sc ms) (n1 : 1 ≤ n) {c : Nat} (c1 : (c : Int) < n) (hg : getB ms n c = false) (k : Nat) : cntN ms n k (c : Nat) = 0 := by
  unfold cntN
  rw [List.length_eq_zero_iff, List.eq_nil_iff_forall_not_mem]
  intro x hx
  have := (getB_iff hm n1 c1).mpr ⟨x, (flt_mem.mp hx).2⟩
  rw [hg] at this
  cases this
theorem getB_rs (h : Wh ms n s l f v) (c : Nat) : getB ms n c = true ↔ c % s.toNat ∈ rsL ms s := by
  have hs := h.sN
  have s1 := h.s1
  unfold getB rsL
  rw [flt_mem, show s.toNat = gcdN ms n by omega, ← hs]
  exact ⟨fun z => ⟨Nat.mod_lt _ (by omega), z⟩, fun z => z.2⟩
/-- one who never gets it stands among the first -/
theorem lack_low (hm : Sc ms) (h : Wh ms n s l f v) {c : Nat} (hg : getB ms n c = false) : ∃ r : Nat, (r : Int) < min s (ms.length + 1) ∧ r ∉ rsL ms s := by
  have s1 := h.s1
  have hl := rsL_len ms s
  by_cases hx : ∃ r : Nat, (r : Int) < min s (ms.length + 1) ∧ r ∉ rsL ms s
  · exact hx
  · exfalso
    have all : ∀ r ∈ List.range (min s (ms.length + 1)).toNat, r ∈ rsL ms s := fun r hr => by
      have := List.mem_range.mp hr
      by_cases z : r ∈ rsL ms s
      · exact z
      · exact absurd ⟨r, by omega, z⟩ hx
    have := pig List.nodup_range all
    rw [List.length_range] at this
    have hc : c % s.toNat < s.toNat := Nat.mod_lt _ (by omega)
    have hn : c % s.toNat ∉ rsL ms s := fun z => by
      rw [← getB_rs h, hg] at z
      cases z
    have : c % s.toNat ∈ rsL ms s := all _ (List.mem_range.mpr (by omega))
    exact hn this
end
/-- the least and the greatest number -/
def SprOk (ms : List Int) (n : Int) (k : Nat) (lo hi : Nat) : Prop := (∃ c, 0 ≤ c ∧ c < n ∧ cntN ms n k c = lo) ∧ (∃ c, 0 ≤ c ∧ c < n ∧ cntN ms n k c = hi) ∧ ∀ c, 0 ≤ c → c < n → lo ≤ cntN ms n k c ∧ cntN ms n k c ≤ hi
def FavOk (ms : List Int) (n : Int) (k : Nat) (c : Int) : Prop := 0 ≤ c ∧ c < n ∧ ∀ c', 0 ≤ c' → c' < n → cntN ms n k c' ≤ cntN ms n k c
theorem spr_of {ms : List Int} {n : Int} {k : Nat} {qs : List (Int × Int)} (h : CntOk ms n k qs) {lo hi : Int} (l1 : lo ∈ qs.map (·.1)) (l2 : ∀ y ∈ qs.map (·.1), lo ≤ y) (h1 : hi ∈ qs.map (·.1)) (h2 : ∀ y ∈ qs.map (·.1), y ≤ hi) : ∃ a b : Nat, lo = (a : Nat) ∧ hi = (b : Nat) ∧ SprOk ms n k a b := by
  obtain ⟨q, hq, rfl⟩ := List.mem_map.mp l1
  obtain ⟨q2, hq2, rfl⟩ := List.mem_map.mp h1
  obtain ⟨a0, a1, ae⟩ := h.ok q hq
  obtain ⟨b0, b1, be⟩ := h.ok q2 hq2
  refine ⟨_, _, ae, be, ⟨_, a0, a1, rfl⟩, ⟨_, b0, b1, rfl⟩, fun c c0 c1 => ?_⟩
  obtain ⟨q3, hq3, e⟩ := h.all c c0 c1
  have x := l2 _ (List.mem_map_of_mem hq3)
  have y := h2 _ (List.mem_map_of_mem hq3)
  omega
theorem fav_of {ms : List Int} {n : Int} {k : Nat} {qs : List (Int × Int)} (h : CntOk ms n k qs) {q : Int × Int} (hq : q ∈ qs) (hx : ∀ r ∈ qs, r.1 ≤ q.1) : FavOk ms n k q.2 := by
  obtain ⟨a0, a1, ae⟩ := h.ok q hq
  refine ⟨a0, a1, fun c c0 c1 => ?_⟩
  obtain ⟨q3, hq3, e⟩ := h.all c c0 c1
  have := hx q3 hq3
  omega
end Pz

set_option Elab.async false
set_option linter.all false
set_option autoImplicit false
set_option maxRecDepth 100000
namespace Pz
open PySem PySem.Spec PyProof.Rows L2

/-! ## the last new one of a row -/
def newG (g : Nat → Int) (k : Nat) : Bool := !((List.range k).any fun j => decide (g j = g k))
def lastG (g : Nat → Int) : Nat → D
  | 0 => .none
  | i + 1 => if newG g i = true then .tuple [.int (g i), .int (i : Nat)] else lastG g i
theorem newG_iff {g : Nat → Int} {k : Nat} : newG g k = true ↔ ∀ j, j < k → g j ≠ g k := by
  unfold newG
  rw [Bool.not_eq_true', ← Bool.not_eq_true, List.any_eq_true]
  constructor
  · intro h j hj e
    exact h ⟨j, List.mem_range.mpr hj, decide_eq_true e⟩
  · intro h ⟨j, hj, e⟩
    exact h j (List.mem_range.mp hj) (of_decide_eq_true e)
section
variable {K : PySem.W.Frag} {T0 T : Tr} {B0 H0 B H : Hp} {σ : L2.St} {ρ : En}
/-- a slot of which nothing is told -/
theorem OK.setNo (o : OK K T0 B0 H0 T B H σ ρ) (i : Nat) (x : Option V) : OK K T0 B0 H0 T B H (σ.set i x) (ρ.set i .no) where
  x := o.x
  fr := o.fr
  t0 := o.t0
  t1 := o.t1
  tq := o.tq
  tw := o.tw
  nt := o.nt
  tb := o.tb
  th := o.th
  len := by rw [List.length_set, List.length_set]; exact o.len
  sl := fun j l hl => by
    by_cases q : i = j
    · subst q
      have hi : i < ρ.length := by
        have := (List.getElem?_eq_some_iff.mp hl).1
        rw [List.length_set] at this; exact this
      rw [List.getElem?_set_self hi] at hl
      cases hl
      trivial
    · rw [List.getElem?_set_ne q] at hl ⊢
      exact o.sl j l hl
  ap := fun j k xs ys a hj hk sj sk => by
    have old : ∀ {j : Nat} {xs : List D}, (ρ.set i .no)[j]? = some (.own xs) → i ≠ j ∧ ρ[j]? = some (.own xs) := by
      intro j xs hj
      by_cases q : i = j
      · subst q
        have hi : i < ρ.length := by
          have := (List.getElem?_eq_some_iff.mp hj).1
          rw [List.length_set] at this; exact this
        rw [List.getElem?_set_self hi] at hj
        cases hj
      · rw [List.getElem?_set_ne q] at hj; exact ⟨q, hj⟩
    obtain ⟨q1, q2⟩ := old hj
    obtain ⟨q3, q4⟩ := old hk
    rw [List.getElem?_set_ne q1] at sj
    rw [List.getElem?_set_ne q3] at sk
    exact o.ap j k xs ys a q2 q4 sj sk
theorem OK.notp (o : OK K T0 B0 H0 T B H σ ρ) {p : Addr} {kvs : List (Key × V)} (hp : H p = some (.dK kvs)) : ∀ (j : Nat) (xs : List D), ρ[j]? = some (.own xs) → σ[j]? ≠ some (some (.ref p)) := fun j xs hj sj => by
  obtain ⟨v, e1, a, vs, e2, _, _, _, h3, _⟩ := o.sl j _ hj
  rw [sj] at e1
  cases e1
  cases e2
  rw [hp] at h3
  cases h3
end
def wSeen (wi : WI) (ρ : En) (N : EndsD) : Prop := ∃ l0 l1 l2 l3 l4 l5, ρ = [l0, l1, l2, l3, l4, l5] ∧ wi [l0, l1, .no, .val .none, l4, l5] (fun xs => ∃ (g : Nat → Int) (M : Nat), xs = enD ((List.range M).map fun k => .int (g k)) ∧ M ≤ 1000000 ∧ N.rt (.val (lastG g M))) N.ex
theorem nt_dk {kvs : List (Key × V)} : NT (.dK kvs) := fun _ z => by cases z
/-- the dict at p: its keys are the first i of g -/
def SeenAt (T : Tr) (H0 B H : Hp) (p : Addr) (g : Nat → Int) (i : Nat) : Prop := Fr H0 p ∧ B p = none ∧ ¬ T p ∧ ∃ kvs : List (Key × V), H p = some (.dK kvs) ∧ kvs.length ≤ i ∧ ∀ x : Int, (valV kvs (.inl x)).isSome = true ↔ ∃ j, j < i ∧ g j = x
section
variable {X : Cx} {E : XK} {wi : WI} {is : List Nat} {tg iter c tgt e r : Expr} {s1 : Stmt} {p1 p2 p3 p4 : Pos} {g : WG} {we : WE}
theorem fss_seen (hp : PassesOwn (model X.prog X.w) X.A X.env X.xe) (hc : X.calm = true)
    (h1 : PS X s1 (tPar 2 3 (tCons tDNewK (tCons (tC .non) tNil)))) (hi : FI X E tg iter wi) (hg : FG X is tg (wgT 2 (wgCons (wgN 4) (wgCons (wgN 5) wgNil)))) (his : ∀ i ∈ is, i = 4 ∨ i = 5)
    (ht : PT X c (tB (tDNotIn (tVar 5) (tVar 2)))) (he : FE X E e (wDs gTupD (wCons (wC (.bool true)) (wCons (wDs gTupD (wCons (wVar 5) (wCons (wVar 4) wNil))) wNil))))
    (ha : PG X tgt (gTup X.K 2 (gCons (L2.gSub (tVar 2) (tVar 5) rSetD) (gCons (gName 3) gNil)))) (hr : PE X r (tVar 3))
    (hs : swapsWithSole [tgt] e p3.line X.env = pure false) (hw : swappedStores [tgt] e X.env = pure none) (h2 : (assignEach [tgt] X.env).map (·.2) = [assign tgt X.env])
    (hf : ∀ x, foldedSetIterable iter X.env x = pure x) :
    FSs X E [s1, .For tg iter [.If c [.Assign [tgt] e p3] [] p2] [] p1, .Return (some r) p4] (wSeen wi) := by
  refine ⟨pss_imp (pss_cons h1 (pss_cons (ps_for hp hc hi.pi hg.pg (pss_one (ps_if ht (pss_one (ps_asg he.pe ha hs hw h2)) pss_nil)) hf) (pss_one (ps_ret hr)))) fun D σ H ⟨T0, B0, H0, T, B, ρ, N, o, ⟨l0, l1, l2, l3, l4, l5, eρ, hw⟩, n1, n2, n3, n4, hx⟩ => ?_⟩
  subst eρ
  intro p hp
  refine ⟨_, _, rfl, ?_⟩
  have pe0 : PExt B H B (upd H p (.dK [])) := PExt.newOwn o.sub hp
  have o1 := ((o.pstep pe0).setNo 2 (some (.ref p)))
  have o2 := o1.set (Ext.refl o1.sub o1.th) (show RpL X.K T _ B _ .non (.val .none) from .non) 3
  have hσ2 : 2 < σ.length := by rw [← o.len]; show 2 < 6; decide
  have seen0 : ∀ g, SeenAt T H0 B (upd H p (.dK [])) p g 0 := fun g => ⟨o.fr p (.of hp), o.sub.free hp, not_hat o.th hp, [], upd_same, Nat.le_refl _, fun x => ⟨(fun z => by cases z), fun ⟨j, hj, _⟩ => by omega⟩⟩
  have s20 : ((σ.set 2 (some (.ref p))).set 3 (some .non))[2]? = some (some (.ref p)) := by
    rw [List.getElem?_set_ne (by decide), List.getElem?_set_self hσ2]
  refine ⟨T0, B0, H0, T, B, _, _, _, o2, hw, fun xs J B1 H1 px ex sj => ?_, o2.exk hx⟩
  obtain ⟨g, M, rfl, hM, hrt⟩ := px
  have oe := o2.step ex
  have e1 := oe.x
  have seenE : ∀ {T' : Tr} {B' H' B'' H'' : Hp} {i : Nat}, SeenAt T' H0 B' H' p g i → Ext T' B' H' B'' H'' → SeenAt T' H0 B'' H'' p g i := fun ⟨a, b, c, kvs, h, r⟩ e => ⟨a, (e.k p _ h nt_dk b).1, c, kvs, (e.k p _ h nt_dk b).2.resolve_right fun z => c z.1, r⟩
  have hlen : (enD ((List.range M).map fun k => PyData.int (g k))).length = M := by rw [en_map, List.length_map, List.length_range]
  refine ⟨fun i m σ' H' => m = M - i ∧ i ≤ M ∧ σ'[2]? = some (some (.ref p)) ∧ ∃ T' B' m4 m5, OK X.K T0 B1 H0 T' B' H' σ' [l0, l1, .no, .val (lastG g i), m4, m5] ∧ SeenAt T' H0 B' H' p g i, ⟨M, by omega, Nat.zero_le _, s20, T, B1, l4, l5, oe.re, seenE (seen0 g) ex⟩, ?_⟩
  rintro i m σ' H' ⟨rfl, hi, s2, T', B', m4, m5, o3, sn⟩
  have sq := sj B' H' o3.x.b o3.sub
  by_cases hlt : i < M
  · have hd : (enD ((List.range M).map fun k => PyData.int (g k)))[i]? = some (.tuple [.int (i : Nat), .int (g i)]) := by
      rw [en_map, List.getElem?_map, List.getElem?_range hlt]; rfl
    obtain ⟨go, yl⟩ := sq.1 i _ hd
    refine .inr ⟨go, fun σ' H' => σ'[2]? = some (some (.ref p)) ∧ ∃ T' B' m4 m5, OK X.K T0 B1 H0 T' B' H' σ' [l0, l1, .no, .val (lastG g (i + 1)), m4, m5] ∧ SeenAt T' H0 B' H' p g (i + 1), fun σ' H' ⟨a, b⟩ => ⟨M - (i + 1), by omega, rfl, hlt, a, b⟩, fun x H3 y => ?_⟩
    obtain ⟨B3, pe, rx⟩ := yl x H3 y
    have o4 := o3.pstep pe
    have sn4 := seenE sn (pe.ext o3.th)
    refine ⟨T0, B1, H0, T', B3, _, _, fun ρ' => ρ' = [l0, l1, .no, .val (lastG g i), .val (.int (i : Nat)), .val (.int (g i))], o4, rx, ⟨_, rfl, rfl, rfl, rfl⟩, fun ρ' σ2 p5 o5 s5 => ?_⟩
    subst p5
    have s22 : σ2[2]? = some (some (.ref p)) := by
      have z := congrArg (fun s : L2.St => s[2]?) (s5 [4, 5] fun j hj => by rcases his j hj with w | w <;> simp [w])
      simp only [wipe_get] at z
      rw [if_neg (by decide), if_neg (by decide)] at z
      rw [z]; exact s2
    obtain ⟨a0, a1, a2, kvs, a3, a4, a5⟩ := sn4
    obtain ⟨v5, e5, r5⟩ := o5.sl 5 _ rfl
    have r5' : Rp X.K B3 v5 (.int (g i)) := r5
    cases r5'
    have e5 : σ2[5]? = some (some (.int (g i))) := e5
    refine ⟨_, e5, _, s22, p, valV kvs (.inl (g i)), rfl, .inl ⟨kvs, .inl (g i), .of a3, rfl, rfl⟩, _, rfl, ?_⟩
    have hiff := a5 (g i)
    have hnew : newG g i = !(valV kvs (.inl (g i))).isSome := by
      rw [Bool.eq_iff_iff, newG_iff, Bool.not_eq_true', ← Bool.not_eq_true, hiff]
      exact ⟨fun z ⟨j, hj, e⟩ => z j hj e, fun z j hj e => z ⟨j, hj, e⟩⟩
    cases hq : (valV kvs (.inl (g i))).isSome with
    | true =>
      rw [hq] at hnew
      have el : lastG g (i + 1) = lastG g i := by
        show (if newG g i = true then _ else _) = _
        rw [hnew]; rfl
      refine ⟨s22, T', B3, _, _, by rw [el]; exact o5, a0, a1, a2, kvs, a3, by omega, fun x => (a5 x).trans ⟨fun ⟨j, hj, e⟩ => ⟨j, by omega, e⟩, fun ⟨j, hj, e⟩ => ?_⟩⟩
      rcases (show j < i ∨ j = i by omega) with w | w
      · exact ⟨j, w, e⟩
      · subst w
        obtain ⟨j2, hj2, e2⟩ := hiff.mp hq
        exact ⟨j2, hj2, e2.trans e⟩
    | false =>
      rw [hq] at hnew
      have el : lastG g (i + 1) = .tuple [.int (g i), .int (i : Nat)] := by
        show (if newG g i = true then _ else _) = _
        rw [hnew]; rfl
      refine ⟨T0, B1, H0, T', B3, _, fun l => l = .val (.tuple [.bool true, .tuple [.int (g i), .int (i : Nat)]]), fun _ => False, o5, ⟨_, rfl, (show 2 ≤ 1000000 by decide), _, rfl, (show 2 ≤ 1000000 by decide), rfl⟩, fun l v B6 H6 p6 e6 r6 => ?_, exk_no⟩
      subst p6
      have o6 := o5.step e6
      have snew : SeenAt T' H0 B6 H6 p g i := seenE ⟨a0, a1, a2, kvs, a3, a4, a5⟩ e6
      obtain ⟨b0, b1, b2, kvs2, b3, b4, b5⟩ := snew
      have r6' : Rp X.K B6 v (.tuple [.bool true, .tuple [.int (g i), .int (i : Nat)]]) := r6
      cases r6' with
      | tup hsq rr =>
        cases rr with
        | cons r7 rr =>
          cases rr with
          | cons r8 rr =>
            cases rr
            cases r7
            rename_i a v8
            refine ⟨a, [.bl true, v8], rfl, same_tup e6.s hsq, rfl, _, _, rfl, _, s22, _, e5, p, _, rfl, DPut.k (k := .inl (g i)) b3 (line_lt (by omega)), _, _, rfl, ?_⟩
            have o7 := o6.mut (u := .dK (putK kvs2 (.inl (g i)) (.bl true))) b1 b2 b0 (o6.notp b3) (.dk b3)
            have o8 := o7.set (Ext.refl o7.sub o7.th) (show RpL X.K T' _ B6 _ v8 (.val (.tuple [.int (g i), .int (i : Nat)])) from r8) 3
            refine ⟨rfl, ?_, T', B6, _, _, by rw [el]; exact o8, b0, b1, b2, _, upd_same, Nat.le_trans (length_putK _ _ _) (by omega), fun x => ?_⟩
            · rw [List.getElem?_set_ne (by decide)]; exact s22
            · rw [valV_put]
              by_cases ex2 : (Sum.inl x : Key) = .inl (g i)
              · rw [if_pos ex2]
                injection ex2 with ex2
                subst ex2
                exact ⟨fun _ => ⟨i, Nat.lt_succ_self _, rfl⟩, fun _ => rfl⟩
              · rw [if_neg ex2, b5 x]
                exact ⟨fun ⟨j, hj, e⟩ => ⟨j, by omega, e⟩, fun ⟨j, hj, e⟩ => by
                  rcases (show j < i ∨ j = i by omega) with w | w
                  · exact ⟨j, w, e⟩
                  · subst w; exact absurd (by rw [e]) ex2⟩
  · have hi2 : i = M := by omega
    subst hi2
    obtain ⟨v3, e3, r3⟩ := o3.sl 3 _ rfl
    exact .inl ⟨sq.2 _ (by rw [hlen]; exact Nat.le_refl _), v3, e3, n4 _ _ _ _ hrt (e1.un o3.x) r3⟩
end

theorem lastG_spec (g : Nat → Int) : ∀ M, 0 < M → ∃ K, K < M ∧ newG g K = true ∧ (∀ j, K < j → j < M → newG g j = false) ∧ lastG g M = .tuple [.int (g K), .int (K : Nat)]
  | 0, h => absurd h (Nat.lt_irrefl _)
  | M + 1, _ => by
    show ∃ K, _ ∧ _ ∧ _ ∧ (if newG g M = true then _ else _) = _
    cases q : newG g M with
    | true => exact ⟨M, Nat.lt_succ_self _, q, fun j a b => by omega, by rw [if_pos rfl]⟩
    | false =>
      rw [if_neg (by decide)]
      by_cases z : M = 0
      · subst z
        have : newG g 0 = true := newG_iff.mpr fun j hj => by omega
        rw [this] at q; cases q
      · obtain ⟨K, h1, h2, h3, h4⟩ := lastG_spec g M (by omega)
        refine ⟨K, by omega, h2, fun j a b => ?_, h4⟩
        rcases (show j < M ∨ j = M by omega) with w | w
        · exact h3 j a w
        · subst w; exact q
theorem last_late {ms : List Int} {n : Int} (hm : Sc ms) (n1 : 1 ≤ n) {M : Nat} (hM : per ms n ≤ M) : ∃ c k, lastG (fun k => far ms k % n) M = .tuple [.int c, .int (k : Nat)] ∧ Late ms n c k := by
  have hp := (per_le hm n1).1
  obtain ⟨K, h1, h2, h3, h4⟩ := lastG_spec (fun k => far ms k % n) M (by omega)
  have hnew := newG_iff.mp h2
  have head : ∀ c k, At ms n c k = true → (∀ j, j < k → At ms n c j = false) → (StL ms n c).head? = some k := fun c k hk hj => by
    have lt : k < per ms n := by
      rcases Nat.lt_or_ge k (per ms n) with z | z
      · exact z
      · have := hj (k % per ms n) (by have := Nat.mod_lt k hp; omega)
        rw [(At_rep hm n1 c).mod, hk] at this
        cases this
    refine head_of (StL_sorted ms n c) (flt_mem.mpr ⟨lt, hk⟩) fun x hx => ?_
    have hx := (flt_mem.mp (show x ∈ flt (At ms n c) (per ms n) from hx)).2
    rcases Nat.lt_or_ge x k with z | z
    · rw [hj x z] at hx; cases hx
    · exact z
  have z0 := Int.emod_nonneg (far ms K) (show n ≠ 0 by omega)
  have z1 := Int.emod_lt_of_pos (far ms K) (show 0 < n by omega)
  refine ⟨_, K, h4, z0, z1, head _ K (At_far ms n K) fun j hj => decide_eq_false (hnew j hj), fun c' a b k' hk' => ?_⟩
  obtain ⟨hA, hlt⟩ := head_at hk'
  rcases Nat.lt_or_ge K k' with z | z
  · exfalso
    have hn := h3 k' z (by omega)
    have : newG (fun k => far ms k % n) k' = true := newG_iff.mpr fun j hj e => by
      have e : far ms j % n = far ms k' % n := e
      have hA2 : At ms n c' j = true := decide_eq_true (e.trans (of_decide_eq_true hA))
      have hmem : j ∈ StL ms n c' := flt_mem.mpr ⟨by omega, hA2⟩
      cases q : StL ms n c' with
      | nil => rw [q] at hmem; cases hmem
      | cons x xs =>
        have hs := StL_sorted ms n c'
        rw [q] at hk' hmem hs
        have hk' : x = k' := Option.some.inj hk'
        rcases List.mem_cons.mp hmem with w | w
        · omega
        · have := (List.pairwise_cons.mp hs).1 j w; omega
    rw [this] at hn; cases hn
  · exact z
theorem hu1 {A : Around} (h : A.units + 64 < cLine) : A.units + 1 < cLine := by omega
theorem head_first {ms : List Int} {n : Int} (hm : Sc ms) (n1 : 1 ≤ n) {c : Int} {k : Nat} (hk : At ms n c k = true) (hj : ∀ j, j < k → At ms n c j = false) : (StL ms n c).head? = some k := by
  have hp := (per_le hm n1).1
  have lt : k < per ms n := by
    rcases Nat.lt_or_ge k (per ms n) with z | z
    · exact z
    · have := hj (k % per ms n) (by have := Nat.mod_lt k hp; omega)
      rw [(At_rep hm n1 c).mod, hk] at this
      cases this
  refine head_of (StL_sorted ms n c) (flt_mem.mpr ⟨lt, hk⟩) fun x hx => ?_
  have hx := (flt_mem.mp (show x ∈ flt (At ms n c) (per ms n) from hx)).2
  rcases Nat.lt_or_ge x k with z | z
  · rw [hj x z] at hx; cases hx
  · exact z
theorem first_le {ms : List Int} {n c : Int} {k k' : Nat} (hk : At ms n c k = true) (h : (StL ms n c).head? = some k') : k' ≤ k := by
  obtain ⟨hA, hlt⟩ := head_at h
  rcases Nat.lt_or_ge k (per ms n) with z | z
  · have hm : k ∈ StL ms n c := flt_mem.mpr ⟨z, hk⟩
    have hs := StL_sorted ms n c
    cases q : StL ms n c with
    | nil => rw [q] at hm; cases hm
    | cons x xs =>
      rw [q] at hm hs h
      have h : x = k' := Option.some.inj h
      rcases List.mem_cons.mp hm with w | w
      · omega
      · have := (List.pairwise_cons.mp hs).1 k w; omega
  · omega
theorem hd_head {xs : List Nat} {k : Nat} (h : xs.head? = some k) : ∃ ys, xs = k :: ys := by
  cases xs with
  | nil => cases h
  | cons x ys => exact ⟨ys, by rw [show x = k from Option.some.inj h]⟩
end Pz

set_option Elab.async false
set_option linter.all false
set_option autoImplicit false
set_option maxRecDepth 100000
namespace Pz
open PySem PySem.Spec PyProof.Rows L2

/-! ## try with several clauses, some of which are known not to match -/
abbrev SuT := Addr → Value → Option Addr → TS
inductive HdsS (X : Cx) : List ExceptHandler → List (Value × Option SuT) → Prop
  | nil : HdsS X [] []
  | one {x : Str} {c : Value} {ts : SuT} {b₀ : Stmt} {su : List Stmt} {p p' : Pos} {hs : List ExceptHandler} {l : List (Value × Option SuT)} (hc : Names X x c)
      (hu : ∀ (a : Addr) (oe : Obj) (cls : Value) (d : Option Addr) (pn : List (Addr × Obj)), Zc cls d oe → (∃ vs, oe.data = .fields vs) → PSs (X.suite a ((a, oe) :: pn)) (b₀ :: su) (ts a cls d))
      (r : HdsS X hs l) : HdsS X (.ExceptHandler (some (.Name x p)) none (b₀ :: su) p' :: hs) ((c, some ts) :: l)
  | skip {x : Str} {c : Value} {nm : Option Str} {su : List Stmt} {p p' : Pos} {hs : List ExceptHandler} {l : List (Value × Option SuT)} (hc : Names X x c)
      (r : HdsS X hs l) : HdsS X (.ExceptHandler (some (.Name x p)) nm su p' :: hs) ((c, none) :: l)
def wHds (K : PySem.W.Frag) (Wo : WX) (D : Ends) : List (Value × Option SuT) → WX
  | [] => Wo
  | (c, some ts) :: r => fun cls d σ H => ∃ b, PySem.W.exmOne K cls c = some b ∧ (b = true → ∀ a, H a = none → ts a cls d D σ H) ∧ (b = false → wHds K Wo D r cls d σ H)
  | (c, none) :: r => fun cls d σ H => PySem.W.exmOne K cls c = some false ∧ wHds K Wo D r cls d σ H
section
variable {X : Cx} {body : List Stmt} {h0 : ExceptHandler} {hs : List ExceptHandler} {l : List (Value × Option SuT)} {pos : Pos} {tb : WX → TS} {Wo : WX}
/-- what is so behind the body's exception, at the clauses -/
structure AtHds (X : Cx) (pins : List (Addr × Obj)) (D : Ends) (a : Addr) (cls : Value) (d : Option Addr) (σ : L2.St) (H : Hp) (s : Shared) : Prop where
  name : ∀ {x : Str} {c : Value} {np : Pos} {b : Bool} {Q : Bool → Shared → Prop} {E : Value → Shared → Prop}, Names X x c → PySem.W.exmOne X.K cls c = some b → Q b s →
    wpAny (model X.prog X.w) (X.A.mark (some (.ref a))) (eval (.Name x np) X.env) (fun c s₁ => wpAny (model X.prog X.w) (X.A.mark (some (.ref a))) (excMatches (.ref a) c) Q E s₁) E s
  suite : ∀ {b₀ : Stmt} {su : List Stmt} {ts : SuT} {E : Value → Shared → Prop}, (∀ (oe : Obj) (pn : List (Addr × Obj)), Zc cls d oe → (∃ vs, oe.data = .fields vs) → PSs (X.suite a ((a, oe) :: pn)) (b₀ :: su) (ts a cls d)) → ts a cls d D σ H →
    wpAny (model X.prog X.w) (X.A.mark (some (.ref a))) (setFlight (.ref a) none) (fun _ s₁ => wpAny (model X.prog X.w) (X.A.mark (some (.ref a))) (execs (b₀ :: su) X.env) (fun f s₂ => SP X pins D f s₂) E s₁) E s
  on : ∀ {W : WX}, Takes X W → W cls d σ H → wpAny (model X.prog X.w) X.A (handleBy (.ref a) X.env []) (SP X pins D) X.xe s
  fresh : H a = none
theorem hds_go {pins : List (Addr × Obj)} {D : Ends} {a : Addr} {cls : Value} {d : Option Addr} {σ : L2.St} {H : Hp} {s : Shared} (at_ : AtHds X pins D a cls d σ H s) (tk : Takes X Wo) :
    ∀ {hs : List ExceptHandler} {l : List (Value × Option SuT)}, HdsS X hs l → wHds X.K Wo D l cls d σ H → wpAny (model X.prog X.w) X.A (handleBy (.ref a) X.env hs) (SP X pins D) X.xe s := by
  intro hs l hk
  induction hk with
  | nil => exact fun w => at_.on tk w
  | one hc hu r ih =>
    rintro ⟨b, e1, yes, no⟩
    refine wpAny_handleBy_cons (codeAny_handlers_test (at_.name hc e1 ?_)) (by intro q; cases q)
    cases b with
    | false => exact ih (no rfl)
    | true =>
      refine codeAny_handlers_suite (wpAny_mono (at_.suite (E := fun _ _ => False) (fun oe pn z v => hu a oe cls d pn z v) (yes rfl a at_.fresh)) (fun _ s1 h1 => ?_) (fun _ _ z => z.elim))
      exact wpAny_mono h1 (fun f s2 h2 => h2) (fun _ _ z => z.elim)
  | skip hc r ih =>
    rintro ⟨e1, w⟩
    refine wpAny_handleBy_cons (codeAny_handlers_test (at_.name hc e1 ?_)) (by intro q; cases q)
    exact ih w
/-- the rule -/
theorem ps_tryS (hst : X.stack = X.env :: X.outer) (hf : X.env.frame = some X.env.locals) (tk : Takes X Wo)
    (hb : ∀ (W : WX) (pn : List (Addr × Obj)) (xe : Value → Shared → Prop), Takes (X.tr pn xe) W → PassesOwn (model X.prog X.w) X.A X.env xe → PSs (X.tr pn xe) body (tb W))
    (hh : HdsS X (h0 :: hs) l) : PS X (.Try body (h0 :: hs) [] [] pos) (fun D σ H => tb (fun cls d σ' H' => σ'.length = X.N.length → wHds X.K Wo D l cls d σ' H') D σ H) := by
  refine ⟨fun pins s σ H D I h => ?_⟩
  have ok := I.ok
  have hfr : X.A.frames = some (X.env :: X.outer) := by rw [ok.frames, hst]
  refine wpAny_Try_except ?_
  have hrun := (hb (fun cls d σ' H' => σ'.length = X.N.length → wHds X.K Wo D l cls d σ' H') (X.pn ++ pins)
    (fun e s₁ => wpAny (model X.prog X.w) X.A (noteFrame e X.env)
      (fun _ s₂ => wpAny (model X.prog X.w) X.A (setFlight e none)
        (fun _ s₃ => wpAny (model X.prog X.w) X.A (handleBy e X.env (h0 :: hs)) (SP X pins D) X.xe s₃) X.xe s₂) X.xe s₁)
    (fun u s' xx => ?_) PassesOwn.looking).run [] s σ H D (I.toTry _) h
  · refine wpAny_mono hrun (fun f s1 q => ?_) fun _ _ z => z
    cases f with
    | ret u => obtain ⟨v, σ1, H1, J, r, q⟩ := q; exact ⟨v, σ1, H1, J.ofTry ok, r, q⟩
    | next => obtain ⟨σ1, H1, J, q⟩ := q; exact wpAny_execs_nil ⟨σ1, H1, J.ofTry ok, q⟩
    | brk => obtain ⟨σ1, H1, J, q⟩ := q; exact ⟨σ1, H1, J.ofTry ok, q⟩
    | cont => obtain ⟨σ1, H1, J, q⟩ := q; exact ⟨σ1, H1, J.ofTry ok, q⟩
  · obtain ⟨a, B, sI, pins', σ1, H1, cls, d, rfl, J1, nb, up, sky, na, os, ag, w⟩ := xx
    have J := J1.ofTry ok
    rw [hst] at sky
    show wpAny (model X.prog X.w) X.A (noteFrame (.ref a) X.env) _ _ _
    refine Sky.land Zc.steady hfr hf sky fun hp fl up' => ?_
    have Jl : Inv X pins σ1 H1 { s' with heap := hp } :=
      J.landed nb fl.1 (up.trans up') os ag
    obtain ⟨oe, us, ge, ze, de⟩ := fl.there
    -- the exception is no frame
    have off : a ∉ frs (X.env :: X.outer) := fun z => by
      obtain ⟨_, o, go, no⟩ := fl.2.2.1.mem z
      rw [ge] at go
      cases go
      exact no _ de
    have nL : a ≠ X.env.locals := fun z => off (List.mem_filterMap.mpr ⟨X.env, .head _, by rw [hf, z]⟩)
    have nF : a ∉ X.fs := fun z => by
      obtain ⟨e, he, q⟩ := List.mem_filterMap.mp z
      exact off (List.mem_filterMap.mpr ⟨e, .tail _ he, q⟩)
    have Js := Jl.suite ge de na nL nF
    refine hds_go (d := d) ⟨fun {x c np b Q E} hc e1 q => ?_, fun {b₀ su ts E} hu ht => ?_, fun {W} tk' w' => ?_, na⟩ tk hh (w J.len)
    · have seen : PySem.W.Looks (model X.prog X.w) hp (typeOf (.ref a)) cls := fun A Q E s k q => wpAny_typeOf_ref (k _ _ ge) (by rw [ze.1]; exact q)
      have told := PySem.W.exm_one (M := model X.prog X.w) Jl.kIn seen e1
      obtain ⟨g1, g2, g3 | ⟨g3, g4, g5⟩⟩ := hc
      · exact ld_glob (X := X.suite a ((a, oe) :: (X.pn ++ pins))) Js g1 g3 (told.here q) g2
      · exact ld_blt (X := X.suite a ((a, oe) :: (X.pn ++ pins))) Js g1 g3 g4 (told.here q) g5 g2
    · refine HandSPX.lands_againZ fl fun hp2 fl2 up2 => ?_
      have J2 : Inv X pins σ1 H1 { s' with heap := hp2 } :=
        J.landed nb fl2.1 ((up.trans up').trans up2) os ag
      obtain ⟨o2, u2, g2, z2, d2⟩ := fl2.there
      refine wpAny_mono ((hu o2 (X.pn ++ pins) z2 ⟨_, d2⟩).run [] _ _ H1 D (J2.suite g2 d2 na nL nF) ht) (fun f s3 q => ?_) fun _ _ z => z.elim
      cases f with
      | ret u => obtain ⟨v, σ3, H3, S3, r, q⟩ := q; exact ⟨v, σ3, H3, S3.unsuite ok, r, q⟩
      | next => obtain ⟨σ3, H3, S3, q⟩ := q; exact ⟨σ3, H3, S3.unsuite ok, q⟩
      | brk => obtain ⟨σ3, H3, S3, q⟩ := q; exact ⟨σ3, H3, S3.unsuite ok, q⟩
      | cont => obtain ⟨σ3, H3, S3, q⟩ := q; exact ⟨σ3, H3, S3.unsuite ok, q⟩
    · refine wpAny_handleBy_nil ?_
      obtain ⟨_, _, _, _, us', T, _, _, ge', _, de', f1, _⟩ := id fl
      unfold PySem.passOn
      refine wpAny_bind (wpAny_field ge' de' f1 ?_)
      rw [if_neg (show ¬ ((Value.ref T == Value.none) = true) from by simp)]
      have fin : wpAny (model X.prog X.w) X.A (setFlight (.ref a) X.env.frame) (fun _ s4 => wpAny (model X.prog X.w) X.A (throw (.ref a) : Sem Flow) (SP X pins D) X.xe s4) X.xe { s' with heap := hp } := by
        rw [hf]
        refine HandSPX.setFlight_upZ fl fun hp3 sk up3 => wpAny_throw (tk' _ _ ?_)
        exact ⟨a, B, sI, pins, σ1, H1, cls, d, rfl, J, nb, (up.trans up').trans up3, .inr (.inr (by rw [hst]; exact sk)), na, os, ag, w'⟩
      first
        | exact wpAny_bind (wpAny_pure (wpAny_bind fin))
        | exact wpAny_bind fin
end

/-! ## a def that calls what it got and tells a word for its error -/
/-- the exception classes, in the order in which the words' def names them -/
def clsL : List Str := ["InvalidScript", "InvalidSize", "InvalidStop", "InvalidChild", "InvalidNumber", "InvalidFacts", "InvalidPaper", "InvalidIndex", "InvalidText", "NothingToUndo", "TooMany", "ParcelError"]
def wordL : List Str := ["script", "size", "stop", "child", "number", "facts", "paper", "index", "text", "undo"]
/-- what the module's top tells of the classes -/
structure TxW (K : PySem.W.Frag) (mg : Str → Option Value) (C : Nat → Addr) (ws : List Nat) : Prop where
  cls : ∀ i x, clsL[i]? = some x → mg x = some (.ref (C i))
  own : ∀ i ∈ ws, i < 10 ∧ PySem.W.exmOne K (.ref (C i)) (.ref (C i)) = some true ∧ ∀ j, j < i → PySem.W.exmOne K (.ref (C i)) (.ref (C j)) = some false
/-- the word of a class -/
def WordOf (ws : List Nat) (nm w : Str) : Prop := ∃ i ∈ ws, clsL[i]? = some nm ∧ wordL[i]? = some w
def TWord (C : Nat → Addr) (ws : List Nat) (tl : XK → Hp → VK → Prop) (H : Hp) (Q : VK) : Prop :=
  ∀ Q' : VK, (∀ v H', Q (.str "") H' → Q' v H') → tl (fun cls _ H' => ∃ i w, i ∈ ws ∧ cls = .ref (C i) ∧ wordL[i]? = some w ∧ Q (.str w) H') H Q'
theorem wHds_at {K : PySem.W.Frag} {Wo : WX} {D : Ends} {cls : Value} {d : Option Addr} {σ : L2.St} {H : Hp} : ∀ {l : List (Value × Option SuT)} {i : Nat} {c : Value} {ts : SuT},
    (∀ j, j < i → ∃ c' o, l[j]? = some (c', o) ∧ PySem.W.exmOne K cls c' = some false) → l[i]? = some (c, some ts) → PySem.W.exmOne K cls c = some true → (∀ a, ts a cls d D σ H) → wHds K Wo D l cls d σ H
  | [], i, c, ts, _, h, _, _ => by simp at h
  | (c0, o0) :: l, 0, c, ts, _, h, e, t => by
    simp only [List.getElem?_cons_zero, Option.some.injEq, Prod.mk.injEq] at h
    obtain ⟨rfl, rfl⟩ := h
    exact ⟨true, e, fun _ a _ => t a, fun z => nomatch z⟩
  | (c0, o0) :: l, i + 1, c, ts, hf, h, e, t => by
    have rec_ := wHds_at (K := K) (Wo := Wo) (l := l) (i := i) (fun j hj => hf (j + 1) (by omega)) (by simpa using h) e t
    obtain ⟨c', o, h0, h1⟩ := hf 0 (by omega)
    simp only [List.getElem?_cons_zero, Option.some.injEq, Prod.mk.injEq] at h0
    obtain ⟨rfl, rfl⟩ := h0
    cases o0 with
    | none => exact ⟨h1, rec_⟩
    | some ts' => exact ⟨false, h1, fun z => (nomatch z), fun _ => rec_⟩
/-- the def, as its callers see it -/
structure LamTo (K : PySem.W.Frag) (mg : Str → Option Value) (x a : Str) (Ng : List Str) (st : Stmt) (C : Nat → Addr) (ws : List Nat) : Prop where
  cls : ∀ i n, clsL[i]? = some n → mg n = some (.ref (C i))
  ex : ∃ g fd, Fun K x x st g fd ∧ mg x = some (.ref g) ∧ L2.Binds K fd [a] []
  sc : FnScope Ng [a] (defScope st)
  N0 : Ng[0]? = some a
  va : Vis (defScope st) a
  gives : ∀ (X : Cx) (g : Addr) (cdv : Value) (q : Str), X.K = K → X.mg = mg → LamX.GivesTo X Ng x (defScope st) g cdv (defBody st) a q (TWord C ws)
def wWord (ws : List Nat) (w : WE) (ρ : En) (P : L → Prop) (_ : Str → Prop) : Prop := w ρ (fun _ => P (.val (.str ""))) fun nm => ∃ u, WordOf ws nm u ∧ P (.val (.str u))
section
variable {K : PySem.W.Frag} {T0 T : Tr} {B0 H0 B H H1 : Hp} {σ : L2.St} {ρ : En}
theorem OK.tabs (o : OK K T0 B0 H0 T B H σ ρ) : LamX.Tabs (tabsOf K) H := fun p hp => by
  obtain ⟨h1, h2⟩ := (o.tw p.1 p.2).mp hp
  have m := o.th _ h1
  unfold MutAt at m
  rw [h2] at m
  exact m
/-- a lambda was made -/
theorem OK.lam (o : OK K T0 B0 H0 T B H σ ρ) (e : LamX.ExtN H H1) (t : LamX.Tabs (tabsOf K) H1) : Ext T B H B H1 where
  b := Same.refl B
  s := fun a u h => e a u (o.sub _ _ h) (o.ntB.nt h)
  k := fun a u h n hb => ⟨hb, .inl (e a u h n)⟩
  t := fun a ha => by
    have m := o.th a ha
    unfold MutAt at m ⊢
    split at m
    · obtain ⟨x, y, z, w⟩ := m
      exact ⟨x, y, e _ _ z (nt_lst _), w⟩
    · rename_i q hq
      exact t (a, q) ((o.tw a q).mpr ⟨ha, hq⟩)
  n := id
end
section
variable {X : Cx} {E : XK} {w : WE}
/-- x(lambda: body) -/
theorem fe_lamcall {x a : Str} {Ng : List Str} {st : Stmt} {C : Nat → Addr} {ws : List Nat} {c P : Addr} {k : Nat} {params : Arguments} {body : Expr} {scope : Scope} {p lpos pos : Pos} (Wc : LamTo X.K X.mg x a Ng st C ws) (hg : Gl X x)
    (TB : LamX.TabB X.base X.mg c P) (hcode : X.env.code = .ref c) (hmT : (P, X.env.qual ++ "<lambda>") ∈ tabsOf X.K) (hnd : ((tabsOf X.K).map (·.1)).Nodup) (hr : Room (k + 2) X.A) (L : LamX.LamS X.env.scope scope) (hdef : defaultsOf params X.env = ([], []))
    (hbind : ∀ (q : Str) (cl : List (Str × Addr)) (pm cv ctv : Value), bindArgs (PySem.W.kla_fn "<lambda>" q params body scope cl pm cv ctv) ⟨[], []⟩ = pure [])
    (hbody : ∀ (A : Around) (outer : List Env) (s : Shared) (H : Hp) (E : XK) (f c' : Addr), Room k (A.deeper (LamX.lamEnv X scope s.heap.objs.size f c')) → FE (LamX.lamCx X A outer s H E scope f c') E body w)
    (hdb : (x == ("__debug__" : Str)) = false := by decide) (hd : (a == ("__debug__" : Str)) = false := by decide) (hcd : (a == ("__classdict__" : Str)) = false := by decide) :
    FE X E (.Call (.Name x p) [.Lambda params body scope lpos] [] pos) (wWord ws w) := by
  obtain ⟨g, fd, F, hm, hb⟩ := Wc.ex
  obtain ⟨oc, od, kV, doc, pm, an, cdv, ct, osl, rfl, lk, hcg⟩ := F.ex
  have hu : ∀ p ∈ tabsOf X.K, p.1 = P → p.2 = X.env.qual ++ "<lambda>" := fun p hp e => by
    have z1 := lookup_of hnd (show (p.1, p.2) ∈ tabsOf X.K from hp)
    rw [e, lookup_of hnd hmT] at z1
    exact (Option.some.inj z1).symm
  refine ⟨pe_imp (LamX.pe_lamcall (T := tabsOf X.K) (TT := TWord C ws) (t := fun E => tF X.K X.mg E w) (c := c) (P := P) (k := k) hg hm F.kp lk hcg hb Wc.sc Wc.N0 Wc.va (Wc.gives X g cdv _ rfl rfl) TB hcode hmT hu hr L hdef hbind
    (fun A outer s H E f c' hr' => (hbody A outer s H E f c' hr').pe) hdb hd hcd) fun σ H Q h => ?_⟩
  obtain ⟨T0, B0, H0, T, B, ρ, Pd, Px, o, hw, hQ, hx⟩ := h
  refine ⟨o.tabs, fun H1 e t Q' hQ' => ?_⟩
  have ex := o.lam e t
  refine ⟨T0, B0, H0, T, B, ρ, _, _, o.step ex, hw, fun l v B' H' p e' r => hQ' _ _ (hQ _ _ _ _ p (ex.trans e') (.str _)), fun nm cc B' H' p m e' => ?_⟩
  obtain ⟨u, ⟨i, hi, h1, h2⟩, p⟩ := p
  have z := Wc.cls i nm h1
  rw [m] at z
  exact ⟨i, u, hi, Option.some.inj z, h2, hQ _ _ _ _ p (ex.trans e') (.str _)⟩
end

/-! ## a def that makes lambdas: its code object is known -/
section
variable {P : Program} {w : World} {K : PySem.W.Frag} {mg : Str → Option Value} {base : Heap}
theorem tab_mem {x : Str} {c A : Addr} (hx : x ∈ lamDefs) (h : PySem.W.tabIn K x = some (c, A)) : (A, x ++ ".<locals>." ++ "<lambda>") ∈ tabsOf K :=
  List.mem_filterMap.mpr ⟨x, hx, by rw [h]; rfl⟩
theorem cs_mem {x : Str} {c A : Addr} (hx : x ∈ lamDefs) (h : PySem.W.tabIn K x = some (c, A)) : (c, A) ∈ csOf K :=
  List.mem_filterMap.mpr ⟨x, hx, h⟩
/-- what a maker of lambdas knows of its table -/
structure MkL (K : PySem.W.Frag) (mg : Str → Option Value) (base : Heap) (x : Str) (fd : FuncData) (c A : Addr) : Prop where
  code : fd.code = .ref c
  tb : LamX.TabB base mg c A
  mem : (A, x ++ ".<locals>." ++ "<lambda>") ∈ tabsOf K
  nd : ((tabsOf K).map (·.1)).Nodup
theorem df_fnC {x qual : Str} {st : Stmt} {f c : Addr} {fd : FuncData} {N ps : List Str} {k n : Nat} {wf : WF} (F : Fun K x qual st f fd) (hc : fd.code = .ref c) (S : FnScope N ps (defScope st)) (hn : ps.length = n)
    {ws : WS} (body : ∀ (A : Around) (outer : List Env) (s : Shared) (H : Hp) (E : XK), Room k (A.deeper (envOfC qual (defScope st) s.heap.objs.size f (.ref c))) →
      FSs (cxOf (L2.CX P w) P w K mg base N qual (defScope st) f (.ref c) A outer s H E) E (defBody st) ws)
    (hw : ∀ ls Pd Px, ls.length = n → wf ls Pd Px → ws (ls ++ List.replicate (N.length - n) .no) (endsOf Pd Px)) : FnOk P w K mg base (L2.CX P w) (k + 1) f fd ps (spF K mg n wf) := by
  obtain ⟨oc, od, kV, doc, pm, an, cdv, ct, osl, rfl, lk, hcd⟩ := F.ex
  have hc' : cdv = .ref c := hc
  subst hc'
  refine fn_of lk hcd S (fun vs H Q E h => ?_) fun A outer s H vs Q E hr h => ⟨_, (body A outer s H E hr).pss, ?_⟩
  · obtain ⟨T, B, ls, Pd, Px, hl, r, _⟩ := h
    rw [wpair_len r, hl, hn]
  · obtain ⟨T, B, ls, Pd, Px, hl, r, sB, tb, th, hf, hQ, hx⟩ := h
    have o := ok_start (N := N) sB r tb th
    rw [hl] at o
    exact ⟨T, B, H, T, B, _, endsOf Pd Px, o, hw ls Pd Px hl hf, fun T' B' H' σ' ρ' q o' => hQ _ _ _ _ q o'.x .non, fun T' B' H' σ' ρ' q o' => q.elim, fun T' B' H' σ' ρ' q o' => q.elim, hQ, hx⟩
theorem df_okC {x qual : Str} {st : Stmt} {f c : Addr} {fd : FuncData} {N ps : List Str} {k n : Nat} {wf : WF} (F : Fun K x qual st f fd) (hc : fd.code = .ref c) (S : FnScope N ps (defScope st)) (hn : ps.length = n) (hm : mg x = some (.ref f)) (hb : Binds K fd ps [])
    {ws : WS} (body : ∀ (A : Around) (outer : List Env) (s : Shared) (H : Hp) (E : XK), Room k (A.deeper (envOfC qual (defScope st) s.heap.objs.size f (.ref c))) →
      FSs (cxOf (L2.CX P w) P w K mg base N qual (defScope st) f (.ref c) A outer s H E) E (defBody st) ws)
    (hw : ∀ ls Pd Px, ls.length = n → wf ls Pd Px → ws (ls ++ List.replicate (N.length - n) .no) (endsOf Pd Px)) : Df P w K mg base (k + 1) x n wf :=
  ⟨f, fd, ps, df_fnC F hc S hn body hw, hm, F.kp, hb⟩
end
/-- a script, a number of children, a child, or the error -/
def Trio (d dn dc : D) (Px : Str → Prop) (Q : List Int → Int → Int → Prop) : Prop := Sh 20 d ∧
  (if fitsD d = true then if isIntD dn 1 (10 ^ 30) = true then ∀ n, dn = .int n → if isIntD dc 0 (n - 1) = true then ∀ ms c, d = scD ms → dc = .int c → Q ms n c else Px "InvalidChild" else Px "InvalidSize" else Px "InvalidScript")
theorem Trio.use {ms : List Int} {n c : Int} {Px : Str → Prop} {Q : List Int → Int → Int → Prop} (hm : Sc ms) (n1 : 1 ≤ n) (n2 : n ≤ 10 ^ 30) (c0 : 0 ≤ c) (c1 : c < n) (h : Q ms n c) : Trio (scD ms) (.int n) (.int c) Px Q := by
  refine ⟨sh_sc ms, ?_⟩
  rw [if_pos (fits_sc hm), if_pos (isInt_of n1 n2)]
  intro n' e
  cases e
  rw [if_pos (isInt_of c0 (by omega))]
  intro ms' c' e1 e2
  cases sc_inj e1; cases e2
  exact h
end Pz

set_option Elab.async false
set_option linter.all false
set_option autoImplicit false
set_option maxRecDepth 100000
namespace Pz
open PySem PySem.Spec PyProof.Rows L2

/-! ## texts -/
def strsD? : List D → Option (List Str)
  | [] => some []
  | .str z :: ds => (strsD? ds).map (z :: ·)
  | _ => none
theorem strsD_map (zs : List Str) : strsD? (zs.map .str) = some zs := by
  induction zs with
  | nil => rfl
  | cons z zs ih => rw [List.map_cons]; unfold strsD?; rw [ih]; rfl
theorem strsD_of : ∀ {ds : List D} {zs : List Str}, strsD? ds = some zs → ds = zs.map .str
  | [], zs, h => by cases h; rfl
  | d :: ds, zs, h => by
    cases d with
    | str z =>
      unfold strsD? at h
      cases q : strsD? ds with
      | none => rw [q] at h; cases h
      | some ys => rw [q] at h; cases h; rw [strsD_of q]; rfl
    | _ => cases h
theorem rpa_strs {K : PySem.W.Frag} {B : Hp} : ∀ zs : List Str, RpA K B (zs.map .str) (zs.map .str)
  | [] => .nil
  | z :: zs => .cons (.str z) (rpa_strs zs)
def gSplit : D → D → (L → Prop) → Prop
  | .str a, .str b, P => (b.length == 0) = false ∧ a.length ≤ 1000000 ∧ P (.own ((Txt.split a b).map .str))
  | _, _, _ => False
def gJoin : D → D → (L → Prop) → Prop
  | .str a, .list xs, P => ∃ ys, strsD? xs = some ys ∧ (ys.map (·.length)).sum + ys.length * a.length ≤ 16777216 ∧ P (.val (.str (Txt.join a ys)))
  | _, _, _ => False
def kM1 (g : D → D → (L → Prop) → Prop) (wb : WE) (ρ : En) (P : L → Prop) (Px : Str → Prop) (l : L) : Prop := ∃ a : Str, l = .val (.str a) ∧ wb ρ (k2b g (.str a) P) Px
def wM1 (g : D → D → (L → Prop) → Prop) (wa wb : WE) (ρ : En) (P : L → Prop) (Px : Str → Prop) : Prop := wa ρ (kM1 g wb ρ P Px) Px
section
variable {X : Cx} {E : XK} {a e : Expr} {wa we : WE} {apos pos : Pos}
theorem fe_m1 {id : String} {name : Str} {r : V → List V → Hp → VK → Prop} {g : D → D → (L → Prop) → Prop} (slot : Slot "str" name id) (ty : typeOf (.builtin id) = pure (.type "method_descriptor")) (rule : MtR X id r)
    (hr : ∀ x y H Q, rD X.K g x y H Q → r x [y] H Q) (ha : FE X E a wa) (he : FE X E e we) (hs : starEach [e] X.env = [(false, eval e X.env)]) (hbase : attributeBase a name X.env (eval a X.env) = eval a X.env) (hline : (apos.endLine == pos.line) = true) :
    FE X E (.Call (.Attribute a name apos) [e] [] pos) (wM1 g wa we) :=
  ⟨pe_imp (pe_m1 slot ty rule ha.pe he.pe hs hbase hline) fun σ H Q ⟨T0, B0, H0, T, B, ρ, P, Px, o, hw, hQ, hx⟩ => ⟨T0, B0, H0, T, B, ρ, _, Px, o, hw, fun l v B1 H1 p e1 r1 => by
    obtain ⟨x, rfl, p⟩ := p
    have rx : Rp X.K B1 v (.str x) := r1
    refine ⟨by cases rx; exact ⟨_, rfl⟩, T0, B0, H0, T, B1, ρ, _, Px, o.step e1, p, fun l2 u B2 H2 p2 e2 r2 => ?_, hx.step e1⟩
    obtain ⟨y, hy, gy⟩ := p2
    obtain ⟨B2', e2', s2, ry⟩ := to_d e2 r2 hy
    exact hr _ _ _ _ ⟨B2', .str x, y, P, e2'.s, rx.mono e2'.b, ry, gy, fun l3 v3 B3 H3 p3 pe r3 => hQ l3 v3 B3 H3 p3 (e1.trans (e2'.trans (pe.ext e2'.t))) ((RpP.l e2'.t r3).back o.sub (e1.trans e2'))⟩, hx⟩⟩
theorem fe_split (ha : FE X E a wa) (he : FE X E e we) (hs : starEach [e] X.env = [(false, eval e X.env)]) (hbase : attributeBase a "split" X.env (eval a X.env) = eval a X.env) (hline : (apos.endLine == pos.line) = true) :
    FE X E (.Call (.Attribute a "split" apos) [e] [] pos) (wM1 gSplit wa we) :=
  fe_m1 F.slot_str_split F.type_str_split mt_split (fun x y H Q ⟨B, dx, dy, P, sB, hx, hy, hg, hQ⟩ => by
    cases hx with
    | str z =>
      cases hy with
      | str w =>
        refine ⟨z, w, rfl, rfl, hg.1, Nat.le_trans (Nat.add_le_add_right hg.2.1 2) (by decide), fun p hp => ?_⟩
        refine hQ _ _ _ _ hg.2.2 (PExt.newOwn sB hp) ⟨p, _, rfl, hp, sB.free hp, upd_same, ?_⟩
        exact rpa_strs _
      | _ => exact False.elim hg
    | _ => exact False.elim (by cases hy <;> exact hg)) ha he hs hbase hline
theorem fe_join (ha : FE X E a wa) (he : FE X E e we) (hs : starEach [e] X.env = [(false, eval e X.env)]) (hbase : attributeBase a "join" X.env (eval a X.env) = eval a X.env) (hline : (apos.endLine == pos.line) = true) :
    FE X E (.Call (.Attribute a "join" apos) [e] [] pos) (wM1 gJoin wa we) :=
  fe_m1 F.slot_str_join F.type_str_join mt_join (fun x y H Q ⟨B, dx, dy, P, sB, hx, hy, hg, hQ⟩ => by
    cases hx with
    | str z =>
      cases hy with
      | lst h r =>
        obtain ⟨ys, e, hl, hp⟩ := hg
        have e := strsD_of e
        subst e
        have ev := RpA.strs (ns := ys) r
        subst ev
        exact ⟨z, _, ys, rfl, rfl, .inl (.of (sB _ _ h)), hl, hQ _ _ _ _ hp (PExt.refl sB) (.str _)⟩
      | _ => exact False.elim hg
    | _ => exact False.elim (by cases hy <;> exact hg)) ha he hs hbase hline
def gStrI : List D → (L → Prop) → Prop
  | [.int i], P => i.natAbs.log2 < 1920 ∧ P (.val (.str (toString i)))
  | _, _ => False
theorem cr_strI : CallR X (.type "str") (rDA X.K gStrI) := by
  intro pins s σ H vs us Q I r h
  obtain ⟨B, ds, P, sB, ra, hg, hQ⟩ := h
  match ds, hg with
  | [.int i], hg =>
    obtain ⟨v, rfl, r1⟩ := ra.one
    cases r1
    exact call_str_int pins s σ H _ us Q I r ⟨i, rfl, hg.1, hQ _ _ _ _ hg.2 (PExt.refl sB) (.str _)⟩
def gIntS : List D → (L → Prop) → Prop
  | [.str a], P => ∃ n, PySem.intText? a = some n ∧ a.length ≤ 640 ∧ P (.val (.int n))
  | _, _ => False
theorem cr_intS : CallR X (.type "int") (rDA X.K gIntS) := by
  intro pins s σ H vs us Q I r h
  obtain ⟨B, ds, P, sB, ra, hg, hQ⟩ := h
  match ds, hg with
  | [.str a], hg =>
    obtain ⟨v, rfl, r1⟩ := ra.one
    cases r1
    obtain ⟨n, h1, h2, h3⟩ := hg
    exact call_int_str pins s σ H _ us Q I r ⟨a, n, rfl, h1, h2, hQ _ _ _ _ h3 (PExt.refl sB) (.int _)⟩
/-- a text in a text -/
def subB (a b : Str) : Bool := !(Builtin.Str.occurrences b a 0 b.length 1).isEmpty
def gInS : D → D → (L → Prop) → Prop
  | .str a, .str b, P => P (.val (.bool (subB a b)))
  | _, _, _ => False
def gNotInS : D → D → (L → Prop) → Prop
  | .str a, .str b, P => P (.val (.bool (!subB a b)))
  | _, _, _ => False
theorem op_notInS : OpR X (compareOp .NotIn) (rD X.K gNotInS) := by
  intro pins s σ H x y v u Q I rx ry h
  obtain ⟨B, dx, dy, P, sB, hx, hy, hg, hQ⟩ := h
  cases hx with
  | str a =>
    cases hy with
    | str b => exact op_notin_str pins s σ H _ _ v u Q I rx ry ⟨a, b, rfl, rfl, hQ _ _ _ _ hg (PExt.refl sB) (.bl _)⟩
    | _ => exact False.elim hg
  | _ => exact False.elim (by cases hy <;> exact hg)
/-! ## a dict of texts to ints -/
def dsiD (ps : List (Str × Int)) : D := .dict (ps.map fun p => (.str p.1, .int p.2))
def kvI (ps : List (Str × Int)) : List (Key × V) := ps.map fun p => (.inr p.1, .int p.2)
def pairSI (p : Str × Int) : D := .tuple [.str p.1, .int p.2]
theorem putK_new {kvs : List (Key × V)} {k : Key} {v : V} (h : ∀ p ∈ kvs, p.1 ≠ k) : putK kvs k v = kvs ++ [(k, v)] := by
  unfold putK
  rw [if_neg]
  intro z
  obtain ⟨p, hp, e⟩ := List.any_eq_true.mp z
  exact h p hp (of_decide_eq_true e)
theorem mergeK_nodup : ∀ (ps : List (Str × Int)) (acc : List (Key × V)), (ps.map (·.1)).Nodup → (∀ p ∈ acc, ∀ q ∈ ps, p.1 ≠ .inr q.1) → mergeK acc (kvI ps) = acc ++ kvI ps
  | [], acc, _, _ => by show acc = acc ++ []; rw [List.append_nil]
  | p :: ps, acc, nd, h => by
    rw [List.map_cons, List.nodup_cons] at nd
    show mergeK (putK acc (.inr p.1) (.int p.2)) (kvI ps) = acc ++ ((.inr p.1, .int p.2) :: kvI ps)
    rw [putK_new fun x hx => h x hx p List.mem_cons_self, mergeK_nodup ps _ nd.2, List.append_assoc]; rfl
    intro x hx q hq
    rcases List.mem_append.mp hx with hx | hx
    · exact h x hx q (List.mem_cons_of_mem _ hq)
    · rw [List.mem_singleton] at hx
      subst hx
      intro e
      have e : p.1 = q.1 := Sum.inr.inj e
      exact nd.1 (e ▸ List.mem_map.mpr ⟨q, hq, rfl⟩)
def gDictSI : List D → (L → Prop) → Prop
  | [.list ds], P => ∃ ps : List (Str × Int), ds = ps.map pairSI ∧ (ps.map (·.1)).Nodup ∧ P (.val (dsiD ps))
  | _, _ => False
theorem pairs_refs {K : PySem.W.Frag} {B H : Hp} (s : Same B H) : ∀ {vs : List V} {ps : List (Str × Int)}, RpA K B vs (ps.map pairSI) → ∃ as : List Addr, vs = as.map V.ref ∧ Paired (fun p kv => SqT K H p [kV kv.1, kv.2]) as (kvI ps)
  | _, [], .nil => ⟨[], rfl, .nil⟩
  | _, p :: ps, .cons h t => by
    obtain ⟨as, e, q⟩ := pairs_refs s t
    cases h with
    | tup h r =>
      rename_i a us
      have e2 : us = [.str p.1, .int p.2] := by
        cases r with
        | cons r1 r2 =>
          cases r1
          cases r2 with
          | cons r2 r3 => cases r2; cases r3; rfl
      subst e2
      exact ⟨a :: as, by rw [e]; rfl, .cons (same_tup s h) q⟩
theorem cr_dictSI (hc : X.calm = true) : CallR X (.type "dict") (rDA X.K gDictSI) := by
  intro pins s σ H vs us Q I r h
  obtain ⟨B, ds, P, sB, ra, hg, hQ⟩ := h
  match ds, hg with
  | [.list ds], hg =>
    obtain ⟨v, rfl, r1⟩ := ra.one
    obtain ⟨ps, rfl, nd, hp⟩ := hg
    cases r1 with
    | lst h rr =>
      obtain ⟨as, rfl, pr⟩ := pairs_refs sB rr
      refine call_dictP hc pins s σ H _ us Q I r ⟨_, as, kvI ps, rfl, .of (sB _ _ h), pr, fun p hn => ?_⟩
      rw [mergeK_nodup ps [] nd (fun x hx => absurd hx List.not_mem_nil), List.nil_append]
      have pe := PExt.new (o := .dK (kvI ps)) sB hn
      exact hQ _ _ _ _ hp pe (.dsi upd_same)
/-- d.get(k, None) -/
def getSI (ps : List (Str × Int)) (k : Str) : D := match ps.find? fun p => decide (p.1 = k) with
  | some p => .int p.2
  | none => .none
theorem valV_kvI (ps : List (Str × Int)) (k : Str) : valV (kvI ps) (.inr k) = (ps.find? fun p => decide (p.1 = k)).map fun p => .int p.2 := by
  unfold valV kvI
  induction ps with
  | nil => rfl
  | cons p ps ih =>
    rw [List.map_cons, List.find?_cons, List.find?_cons]
    by_cases h : p.1 = k
    · have h2 : (Sum.inr p.1 : Key) = .inr k := by rw [h]
      rw [decide_eq_true h, decide_eq_true h2]; rfl
    · have h2 : ¬ (Sum.inr p.1 : Key) = .inr k := fun z => h (Sum.inr.inj z)
      rw [decide_eq_false h, decide_eq_false h2]; exact ih
def kGetC (ps : List (Str × Int)) (k : Str) (P : L → Prop) (l : L) : Prop := l = .val .none ∧ P (.val (getSI ps k))
def kGetB (ps : List (Str × Int)) (wf : WE) (ρ : En) (P : L → Prop) (Px : Str → Prop) (l : L) : Prop := ∃ k : Str, l = .val (.str k) ∧ wf ρ (kGetC ps k P) Px
def kGetA (wb wf : WE) (ρ : En) (P : L → Prop) (Px : Str → Prop) (l : L) : Prop := ∃ ps : List (Str × Int), l = .val (dsiD ps) ∧ wb ρ (kGetB ps wf ρ P Px) Px
def wGetN (wa wb wf : WE) (ρ : En) (P : L → Prop) (Px : Str → Prop) : Prop := wa ρ (kGetA wb wf ρ P Px) Px
theorem dsi_inv {K : PySem.W.Frag} {B : Hp} {v : V} {ps : List (Str × Int)} (h : Rp K B v (dsiD ps)) : ∃ a, v = .ref a ∧ B a = some (.dK (kvI ps)) := by
  generalize hd : dsiD ps = d at h
  cases h with
  | dsi e =>
    rename_i a qs
    have z : (ps.map fun p => ((PyData.str p.1, PyData.int p.2) : D × D)) = qs.map fun p => (.str p.1, .int p.2) := PyData.dict.inj hd
    refine ⟨_, rfl, ?_⟩
    rw [e]
    have y : ∀ {ps qs : List (Str × Int)}, (ps.map fun p => ((PyData.str p.1, PyData.int p.2) : D × D)) = qs.map (fun p => (.str p.1, .int p.2)) → ps = qs := by
      intro ps
      induction ps with
      | nil => intro qs e; cases qs with
        | nil => rfl
        | cons _ _ => cases e
      | cons p ps ih => intro qs e; cases qs with
        | nil => cases e
        | cons q qs =>
          simp only [List.map_cons, List.cons.injEq, Prod.mk.injEq, PyData.str.injEq, PyData.int.injEq] at e
          rw [ih e.2, show p = q from Prod.ext e.1.1 e.1.2]
    rw [y z]; rfl
  | exc _ _ _ => have z := PyData.dict.inj hd; cases ps with
    | nil => cases z
    | cons p ps => simp at z
  | exl _ _ _ _ => have z := PyData.dict.inj hd; cases ps with
    | nil => cases z
    | cons p ps => simp at z
  | ins _ _ _ _ => have z := PyData.dict.inj hd; cases ps with
    | nil => cases z
    | cons p ps => simp at z
  | _ => cases hd
theorem fe_getN {f : Expr} {wf : WE} (hu : X.A.units + 1 < cLine) (ha : FE X E a wa) (he : FE X E e we) (hf : FE X E f wf) (m : M2 X a "get" apos e f pos) : FE X E (.Call (.Attribute a "get" apos) [e, f] [] pos) (wGetN wa we wf) :=
  ⟨pe_imp (pe_dget2 hu ha.pe he.pe hf.pe m) fun σ H Q ⟨T0, B0, H0, T, B, ρ, P, Px, o, hw, hQ, hx⟩ => ⟨T0, B0, H0, T, B, ρ, _, Px, o, hw, fun l v B1 H1 p e1 r1 => by
    obtain ⟨ps, rfl, p⟩ := p
    obtain ⟨a, rfl, hB⟩ := dsi_inv (show Rp X.K B1 v (dsiD ps) from r1)
    refine ⟨a, rfl, .inl ⟨_, .of (e1.s _ _ hB)⟩, T0, B0, H0, T, B1, ρ, _, Px, o.step e1, p, fun l2 u B2 H2 p2 e2 r2 => ?_, hx.step e1⟩
    obtain ⟨k, rfl, p2⟩ := p2
    have e12 := e1.trans e2
    refine ⟨T0, B0, H0, T, B2, ρ, _, Px, o.step e12, p2, fun l3 w B3 H3 p3 e3 r3 => ?_, hx.step e12⟩
    obtain ⟨rfl, p3⟩ := p3
    have e13 := e12.trans e3
    have ru : Rp X.K B2 u (.str k) := r2
    have rw_ : Rp X.K B3 w .none := r3
    cases ru
    cases rw_
    refine ⟨_, DGet.k (k := Sum.inr k) (e13.s _ _ ((e2.trans e3).b _ _ hB)), ?_⟩
    have z : ∀ o : Option V, o = valV (kvI ps) (.inr k) → Rp X.K B3 (o.getD .non) (getSI ps k) := fun o eo => by
      rw [eo, valV_kvI]
      unfold getSI
      cases ps.find? fun p => decide (p.1 = k) with
      | none => exact .non
      | some p => exact .int p.2
    exact hQ _ _ _ _ p3 e13 (z _ rfl), hx⟩⟩
/-- a text so many times -/
def repS (a : Str) (n : Nat) : Str := ⟨(List.replicate n a.cps).foldl (· ++ ·) #[]⟩
def gMulS : D → D → (L → Prop) → Prop
  | .str a, .int k, P => 2 ≤ k ∧ k ≤ 1000 ∧ 1 ≤ a.length ∧ a.length ≤ 1000 ∧ P (.val (.str (repS a k.toNat)))
  | _, _, _ => False
theorem op_mulS : OpR X (binaryOp .Mult) (rD X.K gMulS) := by
  intro pins s σ H x y v u Q I rx ry h
  obtain ⟨B, dx, dy, P, sB, hx, hy, hg, hQ⟩ := h
  cases hx with
  | str a =>
    cases hy with
    | int k =>
      obtain ⟨k1, k2, a1, a2, hp⟩ := hg
      obtain ⟨t, rfl⟩ := rx
      obtain ⟨t', rfl⟩ := ry
      have c1 : (k == 1 || a.length == 0) = false := by
        rw [beq_false_of_ne (show k ≠ 1 by omega), beq_false_of_ne (show a.length ≠ 0 by omega)]; rfl
      have hl : a.length * k.toNat ≤ 1000 * 1000 := Nat.mul_le_mul a2 (by omega)
      have tl : PySem.Builtin.Str.tooLong (a.length * k.toNat) = false := decide_eq_false (Nat.not_lt.mpr (Nat.le_trans hl (by decide)))
      refine PySem.P.mul_str (by rw [decide_eq_false (by omega), decide_eq_false (by omega)]; rfl) (fun _ _ => ?_) (fun _ _ => ?_) ?_
      · have : (1000 : Int) ≤ (2 ^ 63 - 1) / k := (Int.le_ediv_iff_mul_le (by omega)).mpr (by omega)
        omega
      · exact tl
      · rw [if_neg (by omega), if_neg (by rw [c1]; decide)]
        exact ⟨fits_reps tl, .str (repS a k.toNat), H, I.tok _, ⟨_, rfl⟩, hQ _ _ _ _ hp (PExt.refl sB) (.str _)⟩
    | _ => exact False.elim hg
  | _ => exact False.elim (by cases hy <;> exact hg)
end
end Pz

set_option Elab.async false
set_option linter.all false
set_option autoImplicit false
set_option maxRecDepth 100000
set_option maxHeartbeats 4000000
namespace Pz
open PySem PySem.Spec PyProof.Rows L2

/-! ## exceptions as values -/
theorem exc_inv {K : PySem.W.Frag} {B : Hp} {v : V} {nm : Str} (h : Rp K B v (excD nm)) : ∃ a C, v = .ref a ∧ ClsAt K nm C ∧ ExK1 K C ∧ B a = some (ExO (.ref C) a) := by
  generalize hd : excD nm = d at h
  cases h with
  | exc q k e =>
    have z := PyData.dict.inj hd
    simp only [List.cons.injEq, Prod.mk.injEq, PyData.str.injEq, and_true, true_and] at z
    subst z
    exact ⟨_, _, rfl, q, k, e⟩
  | exl _ _ _ _ => have z := PyData.dict.inj hd; simp at z
  | ins _ _ _ _ => have z := PyData.dict.inj hd; simp at z
  | @dsi _ ps _ => have z := PyData.dict.inj hd; cases ps with
    | nil => cases z
    | cons p ps => simp at z
  | _ => cases hd
theorem exl_inv {K : PySem.W.Frag} {B : Hp} {v : V} {nm : Str} {n : Int} (h : Rp K B v (exlD nm n)) : ∃ a C d, v = .ref a ∧ ClsAt K nm C ∧ ExK1 K C ∧ B a = some (exo a C (some d)) ∧ B d = some (exd d [("limit", .int n)]) := by
  generalize hd : exlD nm n = d at h
  cases h with
  | exl q k e f =>
    have z := PyData.dict.inj hd
    simp only [List.cons.injEq, Prod.mk.injEq, PyData.str.injEq, PyData.int.injEq, and_true, true_and] at z
    obtain ⟨rfl, rfl⟩ := z
    exact ⟨_, _, _, rfl, q, k, e, f⟩
  | exc _ _ _ => have z := PyData.dict.inj hd; simp at z
  | ins _ _ _ _ => have z := PyData.dict.inj hd; simp at z
  | @dsi _ ps _ => have z := PyData.dict.inj hd; cases ps with
    | nil => cases z
    | cons p ps => simp at z
  | _ => cases hd
/-- an exception of a class -/
def IsEx (d : D) (nm : Str) : Prop := d = excD nm ∨ ∃ n, d = exlD nm n
def exL : List Str := ["InvalidScript", "InvalidSize", "InvalidStop", "InvalidChild", "InvalidNumber", "InvalidFacts", "InvalidPaper", "InvalidIndex", "InvalidText", "NothingToUndo", "TooMany", "ParcelError"]
/-- what the module's top tells of the exception classes -/
structure TxE (K : PySem.W.Frag) (mg : Str → Option Value) : Prop where
  at_ : ∀ x ∈ exL, ∃ C, ClsAt K x C ∧ mg x = some (.ref C) ∧ ExK1 K C ∧ PySem.W.keepIn K (.ref C) = true
  new : ∀ x ∈ exL, x ≠ "TooMany" → ∀ C, ClsAt K x C → PySem.W.excIn K C [.type "ValueError", .type "Exception", .type "BaseException", .type "object"] "ValueError.__new__" = true
  kit : ∀ x ∈ exL, ∀ y ∈ exL, ∀ C D, ClsAt K x C → ClsAt K y D → PySem.W.kitOne K (.ref C) (.ref D) = some (x == y || y == "ParcelError")
  kitV : ∀ x ∈ exL, ∀ C, ClsAt K x C → PySem.W.kitOne K (.ref C) (.type "ValueError") = some true
  lim : ∀ C, ClsAt K "TooMany" C → PySem.W.findIn K (.ref C) "limit" = some none
theorem cls_uniq {K : PySem.W.Frag} {x : Str} {C D : Addr} (h : ClsAt K x C) (k : ClsAt K x D) : C = D := by
  unfold ClsAt at h k
  rw [h] at k
  injection k with k
  injection k with k
  injection k
section
variable {X : Cx} {E : XK} {e : Expr} {w : WE} {pos p : Pos}
theorem kit_ex {B H : Hp} (s : Same B H) {v : V} {d : D} {nm : Str} (h : Rp X.K B v d) (i : IsEx d nm) : ∃ C, ClsAt X.K nm C ∧ KitV X H v (.ref C) := by
  rcases i with rfl | ⟨n, rfl⟩
  · obtain ⟨a, C, rfl, q, k, e⟩ := exc_inv h
    exact ⟨C, q, kitv_exc k (s _ _ e)⟩
  · obtain ⟨a, C, d, rfl, q, k, e, f⟩ := exl_inv h
    exact ⟨C, q, kitv_exl k (s _ _ e) (s _ _ f)⟩
/-- isinstance(e, y), y an own exception class -/
def kIsE (y : Str) (P : L → Prop) (l : L) : Prop := ∃ d nm, l = .val d ∧ IsEx d nm ∧ nm ∈ exL ∧ P (.val (.bool (nm == y || y == "ParcelError")))
def wIsE (y : Str) (w : WE) (ρ : En) (P : L → Prop) (Px : Str → Prop) : Prop := w ρ (kIsE y P) Px
theorem fe_isE {y : Str} {py : Pos} (T : TxE X.K X.mg) (hy : y ∈ exL) (hg : Gl X "isinstance") (hm : X.mg "isinstance" = none) (hgt : Gl X y) (ha : FE X E e w)
    (hdb : (y == ("__debug__" : Str)) = false := by decide)
    (he : starEach [e, .Name y py] X.env = (false, eval e X.env) :: starEach [.Name y py] X.env := by rfl) (he2 : starEach [.Name y py] X.env = (false, eval (.Name y py) X.env) :: starEach [] X.env := by rfl) (hpl : (backTo pos (starEach [.Name y py] X.env)).any (·.1) = false := by rfl) :
    FE X E (.Call (.Name "isinstance" p) [e, .Name y py] [] pos) (wIsE y w) := by
  obtain ⟨D, qD, mD, kD, _⟩ := T.at_ y hy
  exact ⟨pe_imp (pe_callB call_isiV hg hm (by decide +kernel) (pa_cons ha.pe (pa_cons (pe_glob (v := .ref D) hgt mD rfl hdb) pa_nil he2) he) (by decide) (by decide) he hpl) fun σ H Q ⟨T0, B0, H0, T1, B, ρ, P, Px, o, hw, hQ, hx⟩ => ⟨T0, B0, H0, T1, B, ρ, _, Px, o, hw, fun l v B1 H1 p e r => by
    obtain ⟨d, nm, rfl, ie, hn, p⟩ := p
    obtain ⟨C, qC, kv⟩ := kit_ex (X := X) e.s r ie
    exact ⟨v, .ref D, _, _, _, rfl, .own D, kv, T.kit nm hn y hy C D qC qD, hQ _ _ _ _ p e (.bl _)⟩, hx⟩⟩
def kIsV (P : L → Prop) (l : L) : Prop := ∃ d nm, l = .val d ∧ IsEx d nm ∧ nm ∈ exL ∧ P (.val (.bool true))
def wIsV (w : WE) (ρ : En) (P : L → Prop) (Px : Str → Prop) : Prop := w ρ (kIsV P) Px
theorem fe_isV {y : Str} {py : Pos} (T : TxE X.K X.mg) (hg : Gl X "isinstance") (hm : X.mg "isinstance" = none) (hgt : Gl X y) (hmt : X.mg y = none) (hv : bootBuiltins y = some (.type "ValueError")) (ha : FE X E e w)
    (hn : y ≠ "__name__" := by decide) (hdb : (y == ("__debug__" : Str)) = false := by decide)
    (he : starEach [e, .Name y py] X.env = (false, eval e X.env) :: starEach [.Name y py] X.env := by rfl) (he2 : starEach [.Name y py] X.env = (false, eval (.Name y py) X.env) :: starEach [] X.env := by rfl) (hpl : (backTo pos (starEach [.Name y py] X.env)).any (·.1) = false := by rfl) :
    FE X E (.Call (.Name "isinstance" p) [e, .Name y py] [] pos) (wIsV w) :=
  ⟨pe_imp (pe_callB call_isiV hg hm (by decide +kernel) (pa_cons ha.pe (pa_cons (pe_bltn (v := .ty "ValueError") hgt hmt hv rfl hn hdb) pa_nil he2) he) (by decide) (by decide) he hpl) fun σ H Q ⟨T0, B0, H0, T1, B, ρ, P, Px, o, hw, hQ, hx⟩ => ⟨T0, B0, H0, T1, B, ρ, _, Px, o, hw, fun l v B1 H1 p e r => by
    obtain ⟨d, nm, rfl, ie, hn, p⟩ := p
    obtain ⟨C, qC, kv⟩ := kit_ex (X := X) e.s r ie
    exact ⟨v, .ty "ValueError", _, _, _, rfl, .ty "ValueError", kv, T.kitV nm hn C qC, hQ _ _ _ _ p e (.bl _)⟩, hx⟩⟩
/-- x(e), x an own exception class without own __init__ -/
def kExc (x : Str) (P : L → Prop) (_ : L) : Prop := P (.val (excD x))
def wExc (x : Str) (w : WE) (ρ : En) (P : L → Prop) (Px : Str → Prop) : Prop := w ρ (kExc x P) Px
theorem nt_exO {c : Value} {a : Addr} : NT (ExO c a) := fun ps z => by
  have z' : HO.ext _ = HO.tbl ps := z
  cases z'
theorem fe_exc {x : Str} (T : TxE X.K X.mg) (hx : x ∈ exL) (hn : x ≠ "TooMany") (hg : Gl X x) (ha : FE X E e w) (hs : starEach [e] X.env = (false, eval e X.env) :: starEach [] X.env := by rfl) (hdb : (x == ("__debug__" : Str)) = false := by decide) :
    FE X E (.Call (.Name x p) [e] [] pos) (wExc x w) := by
  obtain ⟨C, qC, mC, kC, keep⟩ := T.at_ x hx
  exact ⟨pe_imp (pe_exc1 PySem.F.excBase_ValueError (T.new x hx hn C qC) mC keep hg ha.pe hs hdb) fun σ H Q ⟨T0, B0, H0, T1, B, ρ, P, Px, o, hw, hQ, hx⟩ => ⟨T0, B0, H0, T1, B, ρ, _, Px, o, hw, fun l v B1 H1 p e r a hna => by
    have pe := PExt.new (o := ExO (.ref C) a) e.s hna nt_exO
    exact hQ _ _ _ _ p (e.trans (pe.ext e.t)) (.exc qC kC upd_same), hx⟩⟩
/-- e.limit -/
def kLim (P : L → Prop) (l : L) : Prop := ∃ n, l = .val (exlD "TooMany" n) ∧ P (.val (.int n))
def wLim (w : WE) (ρ : En) (P : L → Prop) (Px : Str → Prop) : Prop := w ρ (kLim P) Px
theorem fe_limit (T : TxE X.K X.mg) (ha : FE X E e w) (hb : attributeBase e "limit" X.env (eval e X.env) = eval e X.env := by rfl) : FE X E (.Attribute e "limit" pos) (wLim w) := by
  refine ⟨⟨fun pins s σ H Q I h => ?_⟩⟩
  obtain ⟨T0, B0, H0, T1, B, ρ, P, Px, o, hw, hQ, hx⟩ := h
  refine attr_of hb (thn (ha.pe.run pins s σ H (fun v H1 => ∃ n B1, v ∈ ([v] : List V) ∧ Rp X.K B1 v (exlD "TooMany" n) ∧ Ext T1 B H B1 H1 ∧ P (.val (.int n))) I ⟨T0, B0, H0, T1, B, ρ, _, Px, o, hw, fun l v B1 H1 p e r => ?_, hx⟩) fun u s1 hh => ?_)
  · obtain ⟨n, rfl, p⟩ := p
    exact ⟨n, B1, List.mem_singleton.mpr rfl, r, e, p⟩
  · obtain ⟨x, H1, I1, rx, n, B1, _, rp, e1, pp⟩ := hh
    obtain ⟨a, C, d, rfl, qC, kC, ea, ed⟩ := exl_inv rp
    obtain rfl : u = Value.ref a := rx
    have ea' := e1.s _ _ ea
    have ed' := e1.s _ _ ed
    obtain ⟨t1, ha⟩ := exo_at I1.hok ea'
    obtain ⟨mA, hns, hr⟩ := exd_at I1.hok ed'
    obtain ⟨od, ho, hl⟩ := lookIn_ns hns
    have l : ([("limit", V.int n)] : List (Str × V)).lookup ("limit" : Str) = some (.int n) := by simp [List.lookup]
    obtain ⟨u, hu, ru⟩ := RelO.some_of (v := .int n) (o := mA "limit") (by rw [← l]; exact hr "limit")
    have J : PySem.W.InstAt s1.heap a { cls := .ref C, dict := some d, data := .fields #[.ref t1, .none, .none, .none, .bool false, .none] } C (some od) := ⟨ha, rfl, rfl, ho⟩
    exact HandSPX.exc_get I1.kIn J kC.c.hg kC.c.hk kC.c.hs (PySem.W.findObj_own kC.c.hd (T.lim C qC) rfl (by rw [hl, hu])) (handed_of ru) ⟨.int n, H1, I1.tok _, ru, hQ _ _ _ _ pp e1 (.int n)⟩
end
end Pz

set_option Elab.async false
set_option linter.all false
set_option autoImplicit false
set_option maxRecDepth 100000
set_option maxHeartbeats 4000000
namespace Pz
open PySem PySem.Spec PyProof.Rows L2

/-! ## an exception with an own __init__, as a value -/
def tMkV (C : Addr) (sp : Sp) (ta : TA) : TE := fun σ H Q => ta σ H fun vs H1 => vs.length ≤ 1000 ∧ ∀ a, H1 a = none → sp (.ref a :: vs) (upd H1 a (exo a C none)) (fun v H2 => v = .non ∧ Q (.ref a) H2) (fun _ _ _ => False)
section
variable {X : Cx} {E : XK} {e : Expr} {es : List Expr} {ta : TA} {w : WE} {pos p p1 p2 : Pos}
theorem pe_oexV {CX : CXT} {x : Str} {C fI : Addr} {k : Nat} {fd : FuncData} {ps : List Str} {sp : Sp} (T : OexC X.K C) (iC : PySem.W.findIn X.K (.ref C) "__init__" = some (some (.ref fI))) (tI : PySem.W.typeIn X.K (.ref fI) = some (.type "function"))
    (F1 : FnOk X.prog X.w X.K X.mg X.base CX k fI fd ps sp) (hr : Room (k + 1) X.A) (hb : Binds X.K fd ps []) (hx : Passes CX X (fun _ _ _ => False)) (hg : Gl X x) (hm : X.mg x = some (.ref C)) (ha : PA X (e :: es) ta)
    (hdb : (x == ("__debug__" : Str)) = false := by decide) (he : starEach (e :: es) X.env = (false, eval e X.env) :: starEach es X.env := by rfl) (hpl : (backTo pos (starEach es X.env)).any (·.1) = false := by rfl) :
    PE X (.Call (.Name x p) (e :: es) [] pos) (tMkV C sp ta) := by
  refine ⟨fun pins s σ H Q I h => ?_⟩
  obtain ⟨nm, q, N, bs, bm, sn, sub, ab, col, dd, k0, k1, k2, k3, k5, hC, hbm⟩ := T.cls
  refine wpAny_Call_Name_kw (ld_glob I hg hm ?_ hdb)
  refine PySem.W.callWith_K (h₀ := X.base) I.ok.mod.kin T.kC (thn (ha.run pos pins s σ H _ I h) fun us s1 ⟨vs, H1, I1, r1, hz, q1⟩ => ⟨I1.kIn, ?_⟩) he hpl
  show wpAny _ _ (call (.ref C) us) _ _ _
  obtain ⟨hp, g, dr, tk, os⟩ := s1
  have hsz : hp.objs.size ≤ hp.objs.size + 1 := Nat.le_succ _
  have hn : H1 (hp.objs.size + 1) = none := I1.hok.fresh hsz
  have hq := q1 (hp.objs.size + 1) hn
  have kk : ∀ b o, hp.get? b = some o → ((hp.push (PySem.W.kdv_tup us)).push (PySem.HandSPX.excO C hp.objs.size)).get? b = some o := fun b o e => Heap.get?_push_of_some _ (Heap.get?_push_of_some _ e)
  have hget : ((hp.push (PySem.W.kdv_tup us)).push (PySem.HandSPX.excO C hp.objs.size)).get? (hp.objs.size + 1) = some (PySem.HandSPX.excO C hp.objs.size) := by heap_get
  have I2 : Inv X pins σ (upd H1 (hp.objs.size + 1) (exo (hp.objs.size + 1) C none)) ⟨(hp.push (PySem.W.kdv_tup us)).push (PySem.HandSPX.excO C hp.objs.size), g, dr, tk, os⟩ :=
    I1.laid (t' := tk) (a := hp.objs.size + 1) (o := exo (hp.objs.size + 1) C none) (h' := (hp.push (PySem.W.kdv_tup us)).push (PySem.HandSPX.excO C hp.objs.size)) kk hsz (exo_ok hget)
  have r2 : Vals (V.ref (hp.objs.size + 1) :: vs) (Value.ref (hp.objs.size + 1) :: us) := .cons rfl r1
  have hl : (Value.ref (hp.objs.size + 1) :: us ++ []).length = ps.length := by
    have e := r2.length
    rw [F1.len _ _ _ _ hq] at e
    rw [List.append_nil]
    exact e.symm
  have hus : us.length ≤ sizeLine := by
    rw [← Paired.length r1, sizeLine_eq]
    omega
  have hbind := hb _ (Value.ref (hp.objs.size + 1) :: us) I2.kIn hl
  rw [List.append_nil] at hbind
  refine wpAny_call (PySem.HandSPX.call_own F.excBase_ValueError (fun Y => PySem.HandSPX.refsVE_contains Y bm hbm) (I1.kIn _ _ hC) (PySem.W.looks_findIn I1.kIn iC) (fun self => PySem.W.bind_fn I1.kIn self tI) hus
    (codeAny_mono (F1.run _ X.stack _ _ ⟨Value.ref (hp.objs.size + 1) :: us, []⟩ (Value.ref (hp.objs.size + 1) :: us) _ _ (fun _ _ _ => False) (hr.make C us []) (I2.env0.make C us []) hbind r2 hq) fun r s' hq' => ?_))
  cases r with
  | error er => exact hx pins σ _ _ er s' I2 hq'
  | ok fl =>
    cases fl with
    | ret u =>
      obtain ⟨v, H2, os2, bare2, un2, hok2, rv, ev, q2⟩ := hq'
      subst ev
      obtain ⟨h2, g2, d2, t2, os'⟩ := s'
      have J : Inv X pins σ H2 ⟨h2, g2, d2, t2, os'⟩ := I1.call' (ch := []) os2 (Un.trans (Un.laid kk hsz hn) un2) hok2 bare2 (fun b z => absurd z (by simp))
      exact ⟨rv, .ref (hp.objs.size + 1), H2, J, rfl, q2⟩
    | next => exact False.elim hq'
    | brk => exact False.elim hq'
    | cont => exact False.elim hq'
/-- C.__init__(self, ..), C an own exception class without own __init__ -/
theorem pe_clsinit {pl : Sem Bool} {x : Str} {C : Addr} (hg : Gl X x) (hm : X.mg x = some (.ref C)) (rd : ClX.CRead X.K C (.type "type")) (vV : PySem.W.findCls X.K (.ref C) (.type "type") "__init__" = some (.val (.builtin "ValueError.__init__"))) (ha : PA X (e :: es) ta)
    (hdb : (x == ("__debug__" : Str)) = false := by decide)
    (hc : eval (.Call (.Attribute (.Name x p1) "__init__" p2) (e :: es) [] pos) X.env = (do
      let ov ← eval (.Name x p1) X.env
      standAt p2.atName
      let (f, first) ← holding [ov] (getMethod ov "__init__" pl)
      callWith pos f first (backTo pos (starEach (e :: es) X.env)) (backToKw pos (keywordEach [] X.env))) := by rfl)
    (he : starEach (e :: es) X.env = (false, eval e X.env) :: starEach es X.env := by rfl) (hpl : (backTo pos (starEach es X.env)).any (·.1) = false := by rfl) :
    PE X (.Call (.Attribute (.Name x p1) "__init__" p2) (e :: es) [] pos) (tVeI X.K ta) := by
  refine ⟨fun pins s σ H Q I h => ?_⟩
  refine PySem.W.methodCall_KW (ld_glob I hg hm ?_ hdb) hc
  refine PySem.W.method_cls I.kIn rd.ga (PySem.W.cls_value I.kIn rd.rd vV (by rfl) ?_)
  show wpAny _ _ (callWith pos (Value.builtin "ValueError.__init__") [] (backTo pos (starEach (e :: es) X.env)) []) _ _ _
  refine PyProof.Rows.callWith_method1 (thn (ha.run pos pins _ σ H _ (I.tok _) h) fun us s1 ⟨vs, H1, I1, r1, a, C, ws, ev, hl, T, ea, q⟩ => ?_) he hpl
  subst ev
  cases r1 with
  | @cons _ u0 _ ur ra rw' =>
    obtain rfl : u0 = Value.ref a := ra
    have hlen : ur.length ≤ sizeLine := by
      rw [← Paired.length rw', sizeLine_eq]
      omega
    exact oinit_ok T I1 ea hlen fun s' J => ⟨.non, H1, J, rfl, q⟩
end
/-! ### TooMany -/
/-- self, the number -/
def spTm (C : Addr) : Sp := fun vs H Q _ => ∃ (a : Addr) (n : Int), vs = [.ref a, .int n] ∧ H a = some (exo a C none) ∧ ∀ dx, H dx = none → dx ≠ a → Q .non (upd (upd H dx (exd dx [("limit", .int n)])) a (exo a C (some dx)))
/-- what the module's top tells of TooMany's making -/
structure TxM (P : Program) (w : World) (K : PySem.W.Frag) (mg : Str → Option Value) (base : Heap) : Prop where
  ex : ∃ (C fI : Addr) (fd : FuncData), ClsAt K "TooMany" C ∧ OexC K C ∧ PySem.W.findIn K (.ref C) "__init__" = some (some (.ref fI)) ∧ PySem.W.typeIn K (.ref fI) = some (.type "function") ∧
    FnOk P w K mg base CX0 1 fI fd ["self", "limit"] (spTm C) ∧ Binds K fd ["self", "limit"] []
def kTm (P : L → Prop) (ls : List L) : Prop := ∃ n, ls = [.val (.int n)] ∧ P (.val (exlD "TooMany" n))
def wTm (w : WE) (ρ : En) (P : L → Prop) (Px : Str → Prop) : Prop := wCons w wNil ρ (kTm P) Px
theorem nt_exo {e C : Addr} {d : Option Addr} : NT (exo e C d) := fun ps => exo_tbl
theorem nt_exd {e : Addr} {fs : List (Str × V)} : NT (exd e fs) := fun ps z => by
  have z' : HO.ext _ = HO.tbl ps := z
  cases z'
section
variable {X : Cx} {E : XK} {e : Expr} {w : WE} {pos p : Pos}
theorem fe_tm (T : TxE X.K X.mg) (M : TxM X.prog X.w X.K X.mg X.base) (hr : Room 2 X.A) (hg : Gl X "TooMany") (ha : FE X E e w) (he : starEach [e] X.env = (false, eval e X.env) :: starEach [] X.env := by rfl) :
    FE X E (.Call (.Name "TooMany" p) [e] [] pos) (wTm w) := by
  obtain ⟨C, fI, fd, qC, oC, iC, tI, F, hb⟩ := M.ex
  obtain ⟨C', qC', mC, kC, _⟩ := T.at_ "TooMany" (by decide)
  obtain rfl := cls_uniq qC qC'
  refine ⟨pe_imp (pe_oexV oC iC tI F hr hb pass0 hg mC (fa_cons ha fa_nil he).pa (by decide) he) fun σ H Q ⟨T0, B0, H0, T1, B, ρ, P, Px, o, hw, hQ, hx⟩ => ⟨T0, B0, H0, T1, B, ρ, _, Px, o, hw, fun ls vs B1 H1 p e r => ?_, hx⟩⟩
  obtain ⟨n, rfl, p⟩ := p
  cases r with
  | cons r0 r1 =>
    cases r1
    have r0' : Rp X.K B1 _ (.int n) := r0
    cases r0'
    refine ⟨by simp, fun a hna => ⟨a, n, rfl, upd_same, fun dx hd ne => ⟨rfl, ?_⟩⟩⟩
    have hd' : H1 dx = none := by rw [upd_ne ne] at hd; exact hd
    have eq : upd (upd (upd H1 a (exo a C none)) dx (exd dx [("limit", .int n)])) a (exo a C (some dx)) = upd (upd H1 dx (exd dx [("limit", .int n)])) a (exo a C (some dx)) := by
      funext b
      by_cases hb : b = a
      · rw [hb, upd_same, upd_same]
      · rw [upd_ne hb, upd_ne hb]
        by_cases hc : b = dx
        · rw [hc, upd_same, upd_same]
        · rw [upd_ne hc, upd_ne hc, upd_ne hb]
    rw [eq]
    have pe1 := PExt.new (o := exd dx [("limit", V.int n)]) e.s hd' nt_exd
    have hna' : upd H1 dx (exd dx [("limit", V.int n)]) a = none := by rw [upd_ne (Ne.symm ne)]; exact hna
    have e1 := e.trans (pe1.ext e.t)
    have pe2 := PExt.new (o := exo a C (some dx)) e1.s hna' nt_exo
    exact hQ _ _ _ _ p (e1.trans (pe2.ext e1.t)) (.exl qC kC upd_same (by rw [upd_ne ne, upd_same]))
end
/-! ### from the written part -/
def exK1B (K : PySem.W.Frag) (C : Addr) : Bool :=
  decide (PySem.W.findIn K (.ref C) "__getattribute__" = some (some (.builtin "BaseException.__getattribute__"))) && (decide (PySem.W.findIn K (.ref C) "__getattr__" = some none) && (decide (PySem.W.subIn K (.ref C) (.type "BaseException") = some true) && (PySem.W.hasDictIn K C &&
  (decide (PySem.W.findIn K (.ref C) "__class__" = some (some (.builtin "object.__class__"))) && (decide (PySem.W.specialIn K (.builtin "object.__class__") "__get__" = some (some (.builtin "getset_descriptor.__get__"))) && (decide (PySem.W.takesIn K (.builtin "object.__class__") = some true) &&
  (decide (PySem.W.mroIn K C (.type "object") = some true) && tyL.all fun t => decide (PySem.W.kitOne K (.ref C) (.type t) = some false))))))))
theorem exK1B_ok {K : PySem.W.Frag} {C : Addr} (h : exK1B K C = true) : ExK1 K C := by
  unfold exK1B at h
  simp only [Bool.and_eq_true, decide_eq_true_eq, List.all_eq_true] at h
  obtain ⟨h1, h2, h3, h4, h5, h6, h7, h8, h9⟩ := h
  exact ⟨⟨h1, h2, h3, h4, h5, h6, h7, h8⟩, h9⟩
def exOneB (K : PySem.W.Frag) (p : Str × Addr) : Bool := decide (PySem.W.nsIn K mainGlobals p.1 = some (some (.ref p.2))) && (PySem.W.keepIn K (.ref p.2) && (exK1B K p.2 && (decide (PySem.W.kitOne K (.ref p.2) (.type "ValueError") = some true) &&
  if p.1 == "TooMany" then decide (PySem.W.findIn K (.ref p.2) "limit" = some none) else PySem.W.excIn K p.2 [.type "ValueError", .type "Exception", .type "BaseException", .type "object"] "ValueError.__new__")))
def exKitB (K : PySem.W.Frag) (ps : List (Str × Addr)) : Bool := ps.all fun p => ps.all fun q => decide (PySem.W.kitOne K (.ref p.2) (.ref q.2) = some (p.1 == q.1 || q.1 == "ParcelError"))
theorem txE_mk {K : PySem.W.Frag} {h : Heap} {mg : Str → Option Value} (X : K.In h) (G : h.Ns mainGlobals mg) (ps : List (Str × Addr)) (hn : ps.map (·.1) = exL) (h1 : (ps.all fun p => exOneB K p) = true) (h2 : exKitB K ps = true) : TxE K mg := by
  have at1 : ∀ x ∈ exL, ∃ C, (x, C) ∈ ps := fun x hx => by
    rw [← hn] at hx
    obtain ⟨p, hp, rfl⟩ := List.mem_map.mp hx
    exact ⟨p.2, hp⟩
  have one : ∀ x C, (x, C) ∈ ps → exOneB K (x, C) = true := fun x C hp => List.all_eq_true.mp h1 _ hp
  have one' : ∀ x ∈ exL, ∀ C, ClsAt K x C → (x, C) ∈ ps ∧ exOneB K (x, C) = true := fun x hx C hc => by
    obtain ⟨D, hD⟩ := at1 x hx
    have z := one x D hD
    have z2 := z
    unfold exOneB at z2
    simp only [Bool.and_eq_true, decide_eq_true_eq] at z2
    have e := cls_uniq hc z2.1
    subst e
    exact ⟨hD, z⟩
  refine ⟨fun x hx => ?_, fun x hx ne C hc => ?_, fun x hx y hy C D hc hd => ?_, fun x hx C hc => ?_, fun C hc => ?_⟩
  · obtain ⟨C, hC⟩ := at1 x hx
    have z := one x C hC
    unfold exOneB at z
    simp only [Bool.and_eq_true, decide_eq_true_eq] at z
    exact ⟨C, z.1, PySem.W.mg_of X G z.1, exK1B_ok z.2.2.1, z.2.1⟩
  · have z := (one' x hx C hc).2
    unfold exOneB at z
    simp only [Bool.and_eq_true, decide_eq_true_eq] at z
    have q := z.2.2.2.2
    rw [if_neg (by simpa using ne)] at q
    exact q
  · have z := List.all_eq_true.mp (List.all_eq_true.mp h2 _ (one' x hx C hc).1) _ (one' y hy D hd).1
    exact of_decide_eq_true z
  · have z := (one' x hx C hc).2
    unfold exOneB at z
    simp only [Bool.and_eq_true, decide_eq_true_eq] at z
    exact z.2.2.2.1
  · have z := (one' "TooMany" (by decide) C hc).2
    unfold exOneB at z
    simp only [Bool.and_eq_true, decide_eq_true_eq] at z
    have q := z.2.2.2.2
    rw [if_pos (by decide)] at q
    exact of_decide_eq_true q
end Pz

set_option Elab.async false
set_option linter.all false
set_option autoImplicit false
set_option maxRecDepth 100000
set_option maxHeartbeats 4000000
namespace Pz
open PySem PySem.Spec PyProof.Rows L2
local macro_rules | `(tactic| walk_at "d") => `(tactic| try simp only [kIsE, wIsE, kIsV, wIsV, kExc, wExc, kLim, wLim, kTm, wTm, wWord, wM1, kM1, gSplit, gJoin, gStrI, gIntS, gInS, gNotInS, gDictSI, wGetN, kGetA, kGetB, kGetC, gMulS, kCntB, kCntA, wCnt, gSortSetT, gMaxP, gInX, gNotInX, kOwnNe, wOwnNe, wOwnIs, gSortSetL, gLenSetL, gMul2, gMaxL, gMinL, gMinD, kLrB, kLrA, wListRg, gSortI, gSortP, kiR3, wiR3, kiE, wiE, wPar2, kP2a, kP2m, kP2b, kP2c, wPar3, kP3a, kP3o, kP3n, kP3m, kP3b, kP3c, keepL, L.d?, L.arg, wVar, wC, k2a, k2b, w2, k1, w1, kBT, wBT, kCa, kCb, kCc, wCh, kAnd, kOr, kNot, wAnd, wOr, wNot, kAndV, kOrV, kNotV, wAndV, wOrV, wNotV, kIf, wIf, wNil, kConsA, kConsB, wCons, ds?, kDs, wDs, gTupD, gLstD, kCall, wCallN, thn_nx, thn_rt, thn_bk, thn_ct, thn_ex, loop_nx, loop_rt, loop_bk, loop_ct, loop_ex, ends_nx, ends_rt, ends_bk, ends_ct, ends_ex, wNext, wBreak, wCont, wSeq, wFrz, kSet, wSet, kSetHat, wSetHat, kDrop, wDrop, kRet, wRet, wRetN, kIfS, wIfS, kApp, wApp, wRaise, wgN, wgNil, kgCons, wgCons, wgT, kAsg, wAsg, kPar, wPar, kWh, kiL, kiT, wiL, wiT, kiR1, wiR1, kiR2, wiR2, kBody, wYes, kLcE, kLcT, kLcG, gAdd, gSub, gMul, gMod, gDiv, gPow, gNeg, gCmp, gEq, gNe, isNone, gIs, gIsNot, flatD, gIn, gNotIn, gIx, woN, koS, woS, gSl, kSlA, kSlB, kSlC, wSl, gLen, gMax2, gMin2, gAbs, gInt, gSum, gList, gTuple, tyD, isD, wHat0, wHat1, kHatS0, wHatS0, kHatS1, wHatS1, wLenS, kIxS, wIxS, gIsi, kSetF, wSetF, wRetO, wipeD, List.getElem?_cons_zero, List.getElem?_cons_succ, List.getElem?_nil, List.set_cons_zero, List.set_cons_succ, List.replicate, List.length_cons, List.length_nil, List.cons_append, List.nil_append, List.map_cons, List.map_nil, Option.map_some, Option.map_none, exists_eq_left', exists_eq_left, exists_and_left, exists_eq', exists_eq, Option.some.injEq, L.val.injEq, L.own.injEq, L.scr.injEq, PyData.int.injEq, PyData.bool.injEq, PyData.tuple.injEq, PyData.list.injEq, PyData.str.injEq, List.cons.injEq, reduceCtorEq, ne_eq, not_false_eq_true, not_true_eq_false, true_and, and_true, false_and, and_false, and_self, if_true, if_false, ite_true, ite_false, eq_self, Bool.not_true, Bool.not_false, Bool.false_eq_true, Bool.true_or, Bool.or_true, Bool.false_or, Bool.or_false, Bool.true_and, Bool.and_true, Bool.false_and, Bool.and_false, beq_self_eq_true, decide_eq_true_eq, Nat.reduceAdd, Nat.reduceSub, Nat.reduceLT, Nat.reduceLeDiff, Nat.reduceEqDiff, Nat.zero_le, Nat.sub_zero, Nat.sub_self, true_implies, implies_true, forall_const, forall_eq', forall_eq, sh_none, sh_bool, sh_int, sh_list, sh_tuple, List.forall_mem_cons, List.not_mem_nil, false_implies, List.mem_cons, List.mem_map, forall_exists_index, and_imp, forall_apply_eq_imp_iff₂, forall_eq_or_imp, forall_apply_eq_imp_iff, String.reduceBEq, String.reduceEq, decide_eq_false_iff_not, Int.reduceNeg, Bool.not_eq_true', Bool.not_eq_false', Bool.decide_eq_true, Bool.decide_eq_false, decide_not, and_assoc, eqv_ii, eqv_bb, eqv_ss, eqv_nn, eqv_in, eqv_ni, eqvAll_nil, eqvAll_cons, eqv_tt, eqv_ll, eqvAll_ints, eqvAll_selfI, atI0, atI1, atI2, atI3, atI4, Int.cast_ofNat_Int, beq_iff_eq, Int.reduceLE, Int.reduceLT, Int.reduceAdd, Int.reduceSub, Int.reduceMul, Int.reduceToNat, Int.reduceEq, Nat.reduceMul, List.flatten_cons, List.flatten_nil, List.append_nil, List.map_append, List.append_assoc, Int.reduceAbs, Nat.reducePow])
namespace Law
def topS (i : Nat) : Stmt := PySem.Challenge.pw_anyparcels_k19_errors_and_their_classes.main.body.getD i (.Pass ⟨0, 0, 0, 0⟩)
/-- what the top has left -/
structure Tx (K : PySem.W.Frag) (mg : Str → Option Value) : Prop where
  n_ValueError : mg "ValueError" = none
  n_abs : mg "abs" = none
  n_enumerate : mg "enumerate" = none
  n_int : mg "int" = none
  n_isinstance : mg "isinstance" = none
  n_len : mg "len" = none
  n_min : mg "min" = none
  n_range : mg "range" = none
  ex : TxE K mg
def sp__law_hat_of : WF := fun ls P Px => ∃ (ns : List Int) (k : Int), ls = [.scr ns, .val (.int k)] ∧ 0 ≤ k ∧ k ≤ 100 ∧ ∀ x y, HatB x y → P (.own [.int x, .int y])
abbrev s__law_hat_of : Stmt := topS 14
abbrev n__law_hat_of : List Str := ["script", "k", "cell"]
theorem sc__law_hat_of : FnScope n__law_hat_of ["script", "k"] (defScope s__law_hat_of) := ⟨rfl, rfl, rfl, by decide +kernel, rfl, by decide +kernel, by decide +kernel⟩
theorem df__law_hat_of {P : Program} {w : World} {K : PySem.W.Frag} {mg : Str → Option Value} {base : Heap} (T : Tx K mg) {f : Addr} {fd : FuncData} (F : Fun K "_law_hat_of" "_law_hat_of" s__law_hat_of f fd) (hm : mg "_law_hat_of" = some (.ref f))  :
    Df P w K mg base 1 "_law_hat_of" 2 sp__law_hat_of := by
  refine df_ok (wf := sp__law_hat_of) F sc__law_hat_of rfl hm (F.binds fun _ _ _ _ _ _ us hl => match us, hl with | [_, _], _ => rfl) (fun cdv A outer s H E hr => by
    have hu := hu64 hr
    have htk := takes_of (X := cxOf (L2.CX P w) P w K mg base n__law_hat_of "_law_hat_of" (defScope s__law_hat_of) f cdv A outer s H E) (E := E) rfl rfl rfl rfl
    exact (fss_cons (fs_setF (i := 2) sc__law_hat_of.nd rfl (by first | exact .inl rfl | exact .inr rfl) (fe_op op_addD (fe_op op_mulD fe_int (fe_var 1 (pv 1))) fe_int))
      (fss_cons (fs_if (ft_cmp op_ltD (fe_var 1 (pv 1)) (fe_lenS (by rfl) T.n_len (pv 0)) (nomark _))
        (fss_one (fs_setF (i := 2) sc__law_hat_of.nd rfl (by first | exact .inl rfl | exact .inr rfl) (fe_op op_modD (fe_callB cr_abs (by rfl) T.n_abs (by decide +kernel) (fa_cons (fe_callTy cr_int (by rfl) T.n_int (by decide +kernel) (fa_cons (fe_ixS (pv 0) (fe_var 1 (pv 1)) (fun _ _ => rfl)) fa_nil)) fa_nil)) (fe_op op_mulD (fe_op op_mulD (fe_op op_mulD (fe_op op_powD fe_int fe_int) (fe_op op_powD fe_int fe_int)) (fe_op op_powD fe_int fe_int)) (fe_op op_powD fe_int fe_int)))))
        (fss_one (fs_if (ft_cmp op_gtD (fe_lenS (by rfl) T.n_len (pv 0)) fe_int (nomark _))
        (fss_one (fs_setF (i := 2) sc__law_hat_of.nd rfl (by first | exact .inl rfl | exact .inr rfl) (fe_op op_addD (fe_var 2 (pv 2)) (fe_op op_modD (fe_callB cr_abs (by rfl) T.n_abs (by decide +kernel) (fa_cons (fe_callTy cr_int (by rfl) T.n_int (by decide +kernel) (fa_cons (fe_ixS (pv 0) fe_int (fun _ _ => rfl)) fa_nil)) fa_nil)) fe_int))))
        fss_nil)))
      (fss_one (fs_ret (fe_lst (fa_cons (fe_if (ft_cmp op_geD (fe_var 2 (pv 2)) (fe_op op_powD fe_int fe_int) (nomark _)) (fe_var 2 (pv 2)) fe_int) (fa_cons (fe_op op_addD (fe_op op_modD (fe_callTy cr_int (by rfl) T.n_int (by decide +kernel) (fa_cons (fe_op op_addD (fe_op op_addD (fe_op op_mulD (fe_op op_modD (fe_var 2 (pv 2)) fe_int) fe_int) (fe_op op_mulD fe_int (fe_var 1 (pv 1)))) fe_int) fa_nil)) fe_int) fe_int) fa_nil)))))))) ?_
  clear T F hm 
  intro ls P Px hl h
  obtain ⟨ns, k, rfl, k0, k1, h⟩ := h
  have e240 : (10 : Int) ^ 60 * 10 ^ 60 * 10 ^ 60 * 10 ^ 60 = 10 ^ 240 := by decide +kernel
  have m1 : MulOk (10 ^ 60) (10 ^ 60) := .inr (by decide +kernel)
  have m2 : MulOk (10 ^ 60 * 10 ^ 60) (10 ^ 60) := .inr (by decide +kernel)
  have m3 : MulOk (10 ^ 60 * 10 ^ 60 * 10 ^ 60) (10 ^ 60) := .inr (by decide +kernel)
  have h2 : ∀ c : Int, 0 ≤ c → c < 10 ^ 240 → (10 : Int) ^ 18 ≤ c → P (.own [.int c, .int ((c % 2147482739 * 37 + 113 * k + 71) % 2147482739 + 1)]) := fun c c0 c1 _ => h _ _ ⟨c0, c1, by omega, by omega⟩
  have h3 : ∀ c : Int, P (.own [.int 0, .int ((c % 2147482739 * 37 + 113 * k + 71) % 2147482739 + 1)]) := fun c => h _ _ ⟨by decide, by decide +kernel, by omega, by omega⟩
  have mr : ∀ i j : Int, -(2 ^ 64) < j ∧ j < 2 ^ 64 → MulOk i j := fun i j h => .inl (.inr h)
  have tail : ∀ c : Int, 0 ≤ c → c < 10 ^ 240 → (if (10 : Int) ^ 18 ≤ c then MulOk (c % 2147482739) 37 ∧ MulOk 113 k ∧ P (.own [.int c, .int ((c % 2147482739 * 37 + 113 * k + 71) % 2147482739 + 1)])
      else MulOk (c % 2147482739) 37 ∧ MulOk 113 k ∧ P (.own [.int 0, .int ((c % 2147482739 * 37 + 113 * k + 71) % 2147482739 + 1)])) := fun c c0 c1 => by
    split
    · rename_i hc
      exact ⟨mr _ _ (by decide), mr _ _ (by omega), h2 c c0 c1 hc⟩
    · exact ⟨mr _ _ (by decide), mr _ _ (by omega), h3 c⟩
  walk_at "d"
  refine ⟨mr _ _ (by omega), ?_⟩
  split
  · rename_i hk
    obtain ⟨x, hx⟩ := atI_some k0 hk
    refine ⟨x, hx, m1, m2, m3, by decide +kernel, ?_⟩
    rw [e240]
    have z := Int.emod_nonneg (if x < 0 then -x else x) (show (10 : Int) ^ 240 ≠ 0 by decide +kernel)
    have z2 := Int.emod_lt_of_pos (if x < 0 then -x else x) (show (0 : Int) < 10 ^ 240 by decide +kernel)
    exact tail _ z z2
  · split
    · rename_i hk hn
      obtain ⟨x, hx⟩ := atI_some (i := 0) (by decide) hn
      refine ⟨x, hx, ?_⟩
      have z := Int.emod_nonneg (if x < 0 then -x else x) (show (1000381 : Int) ≠ 0 by decide)
      have z2 := Int.emod_lt_of_pos (if x < 0 then -x else x) (show (0 : Int) < 1000381 by decide)
      exact tail _ (by omega) (Int.lt_of_lt_of_le (show _ < (10 ^ 20 : Int) by omega) (by decide +kernel))
    · exact tail _ (by omega) (Int.lt_of_lt_of_le (show _ < (10 ^ 20 : Int) by omega) (by decide +kernel))
def sp__law_draw : WF := fun ls P Px => ∃ (many : Int), ls = [.hat, .val (.int many)] ∧ 1 ≤ many ∧ many < 10 ^ 60 ∧ ∀ r : Int, 0 ≤ r → r < many → P (.val (.int r))
abbrev s__law_draw : Stmt := topS 15
abbrev n__law_draw : List Str := ["hat", "many", "found", "wide"]
theorem sc__law_draw : FnScope n__law_draw ["hat", "many"] (defScope s__law_draw) := ⟨rfl, rfl, rfl, by decide +kernel, rfl, by decide +kernel, by decide +kernel⟩
theorem df__law_draw {P : Program} {w : World} {K : PySem.W.Frag} {mg : Str → Option Value} {base : Heap} (T : Tx K mg) {f : Addr} {fd : FuncData} (F : Fun K "_law_draw" "_law_draw" s__law_draw f fd) (hm : mg "_law_draw" = some (.ref f))  :
    Df P w K mg base 1 "_law_draw" 2 sp__law_draw := by
  refine df_ok (wf := sp__law_draw) F sc__law_draw rfl hm (F.binds fun _ _ _ _ _ _ us hl => match us, hl with | [_, _], _ => rfl) (fun cdv A outer s H E hr => by
    have hu := hu64 hr
    have htk := takes_of (X := cxOf (L2.CX P w) P w K mg base n__law_draw "_law_draw" (defScope s__law_draw) f cdv A outer s H E) (E := E) rfl rfl rfl rfl
    exact (fss_cons (fs_if (ft_cmp op_gtD (fe_hat0 (pv 0) pe_int (fun _ _ => rfl)) fe_int (nomark _))
        (fss_cons (fs_setF (i := 2) sc__law_draw.nd rfl (by first | exact .inl rfl | exact .inr rfl) (fe_op op_modD (fe_callTy cr_int (by rfl) T.n_int (by decide +kernel) (fa_cons (fe_hat0 (pv 0) pe_int (fun _ _ => rfl)) fa_nil)) (fe_var 1 (pv 1))))
      (fss_cons (fs_hatS0 (fe_op op_divD (fe_hat0 (pv 0) pe_int (fun _ _ => rfl)) (fe_var 1 (pv 1))) (pv 0) pe_int)
      (fss_one (fs_ret (fe_var 2 (pv 2))))))
        fss_nil)
      (fss_cons (fs_asg (fe_tup (fa_cons fe_int (fa_cons fe_int fa_nil))) (fg_tup (n := 2) rfl (fgs_cons (fg_name (i := 2) sc__law_draw.nd rfl (by first | exact .inl rfl | exact .inr rfl)) (fgs_cons (fg_name (i := 3) sc__law_draw.nd rfl (by first | exact .inl rfl | exact .inr rfl)) fgs_nil))))
      (fss_cons (fs_while (passes_of rfl) (ft_w (fw_or (ft_cmp op_ltD (fe_var 3 (pv 3)) (fe_var 1 (pv 1)) (nomark _)) (fw_or1 (ft_cmp (op_eqDD hu) (fe_var 3 (pv 3)) fe_int (nomark _))))) (fss_cons (fs_hatS1 (fe_op op_modD (fe_callTy cr_int (by rfl) T.n_int (by decide +kernel) (fa_cons (fe_op op_addD (fe_op op_mulD (fe_hat1 (pv 0) pe_int (fun _ _ => rfl)) fe_int) fe_int) fa_nil)) fe_int) (pv 0) pe_int)
      (fss_cons (fs_setF (i := 2) sc__law_draw.nd rfl (by first | exact .inl rfl | exact .inr rfl) (fe_op op_addD (fe_op op_mulD (fe_var 2 (pv 2)) fe_int) (fe_op op_modD (fe_callTy cr_int (by rfl) T.n_int (by decide +kernel) (fa_cons (fe_op op_divD (fe_hat1 (pv 0) pe_int (fun _ _ => rfl)) fe_int) fa_nil)) fe_int)))
      (fss_one (fs_setF (i := 3) sc__law_draw.nd rfl (by first | exact .inl rfl | exact .inr rfl) (fe_op op_mulD (fe_var 3 (pv 3)) fe_int))))))
      (fss_one (fs_ret (fe_op op_modD (fe_callTy cr_int (by rfl) T.n_int (by decide +kernel) (fa_cons (fe_var 2 (pv 2)) fa_nil)) (fe_var 1 (pv 1))))))))) ?_
  clear T F hm 
  intro ls P Px hl h
  obtain ⟨many, rfl, h0, h1, h⟩ := h
  have h500 : many < 10 ^ 500 := Int.lt_trans h1 (by decide +kernel)
  walk_at "d"
  intro x x0 x1
  split
  · intro y y0 y1
    refine ⟨by omega, fun z z0 z1 => ⟨by omega, h500, Int.ediv_nonneg z0 (by omega), Int.lt_of_le_of_lt (Int.ediv_le_self _ z0) z1, ?_⟩⟩
    exact h _ (Int.emod_nonneg _ (by omega)) (Int.emod_lt_of_pos _ (by omega))
  · refine ⟨fun m ρ => ∃ f wd : Int, ρ = [.hat, .val (.int many), .val (.int f), .val (.int wd)] ∧ 0 ≤ f ∧ 1 ≤ wd ∧ wd < 8192 * many + 1 ∧ m = (8192 * many + 1 - wd).toNat, ⟨_, 0, 1, rfl, by decide, by decide, by omega, rfl⟩, fun m ρ hI => ?_⟩
    obtain ⟨f, wd, rfl, f0, w0, w1, rfl⟩ := hI
    walk_at "d"
    split
    · rename_i c
      intro y y0 y1
      refine ⟨.inl (.inr (by decide)), by omega, by omega, .inl (.inr (by decide)), fun z z0 z1 => ⟨by decide +kernel, .inl (.inr (by decide)), _, ?_, by omega, by omega, by omega, rfl⟩⟩
      omega
    · split
      · rename_i c
        intro y y0 y1
        refine ⟨.inl (.inr (by decide)), by omega, by omega, .inl (.inr (by decide)), fun z z0 z1 => ⟨by decide +kernel, .inl (.inr (by decide)), _, ?_, by omega, by omega, by omega, rfl⟩⟩
        omega
      · exact ⟨by omega, h _ (Int.emod_nonneg _ (by omega)) (Int.emod_lt_of_pos _ (by omega))⟩
def sp__law_any : WF := fun ls P Px => ∃ (ds : List D), ls = [.hat, .val (.list ds)] ∧ ds ≠ [] ∧ ds.length ≤ 1000000 ∧ ∀ d ∈ ds, P (.val d)
abbrev s__law_any : Stmt := topS 16
abbrev n__law_any : List Str := ["hat", "things"]
theorem sc__law_any : FnScope n__law_any ["hat", "things"] (defScope s__law_any) := ⟨rfl, rfl, rfl, by decide +kernel, rfl, by decide +kernel, by decide +kernel⟩
theorem df__law_any {P : Program} {w : World} {K : PySem.W.Frag} {mg : Str → Option Value} {base : Heap} (T : Tx K mg) {f : Addr} {fd : FuncData} (F : Fun K "_law_any" "_law_any" s__law_any f fd) (hm : mg "_law_any" = some (.ref f)) (d__law_draw : Df P w K mg base 1 "_law_draw" 2 sp__law_draw) :
    Df P w K mg base 2 "_law_any" 2 sp__law_any := by
  refine df_ok (wf := sp__law_any) F sc__law_any rfl hm (F.binds fun _ _ _ _ _ _ us hl => match us, hl with | [_, _], _ => rfl) (fun cdv A outer s H E hr => by
    have hu := hu64 hr
    have htk := takes_of (X := cxOf (L2.CX P w) P w K mg base n__law_any "_law_any" (defScope s__law_any) f cdv A outer s H E) (E := E) rfl rfl rfl rfl
    exact (fss_one (fs_ret (fe_ix ix_D (fe_var 1 (pv 1)) (fe_call d__law_draw (hr.mono (by decide)) (by rfl) (pass_of htk) (fa_cons (fe_var 0 (pv 0)) (fa_cons (fe_callB cr_lenD (by rfl) T.n_len (by decide +kernel) (fa_cons (fe_var 1 (pv 1)) fa_nil)) fa_nil))) (fun _ _ => rfl))))) ?_
  clear T F hm d__law_draw
  intro ls P Px hl h
  obtain ⟨ds, rfl, h0, h1, h⟩ := h
  walk_at "d"
  refine ⟨(ds.length : Int), rfl, ?_, by omega, fun r r0 r1 => ?_⟩
  · cases ds with
    | nil => exact absurd rfl h0
    | cons a as => rw [List.length_cons]; omega
  · walk_at "d"
    obtain ⟨d, hd⟩ := atI_some (xs := ds) r0 r1
    exact ⟨d, hd, h d (atI_mem hd)⟩
abbrev s_tm : Stmt := inClass (topS 12) 0
abbrev n_tm : List Str := ["self", "limit"]
theorem sc_tm : FnScope n_tm n_tm (defScope s_tm) := ⟨rfl, rfl, rfl, by decide +kernel, rfl, by decide +kernel, by decide +kernel⟩
theorem fn_tm {P : Program} {w : World} {K : PySem.W.Frag} {mg : Str → Option Value} {base : Heap} {f C D : Addr} {fd : FuncData} (F : Fun K "__init__" "TooMany.__init__" s_tm f fd)
    (oC : OexC K C) (hm : mg "ParcelError" = some (.ref D)) (rd : ClX.CRead K D (.type "type")) (vV : PySem.W.findCls K (.ref D) (.type "type") "__init__" = some (.val (.builtin "ValueError.__init__"))) (hno : PySem.W.findIn K (.ref C) "limit" = some none) :
    FnOk P w K mg base CX0 1 f fd ["self", "limit"] (spTm C) := by
  refine F.ok sc_tm (fun vs H Q E h => ?_) (fun cdv A outer s H vs Q E hr h => ?_)
  · obtain ⟨a, n, rfl, _⟩ := h; rfl
  · obtain ⟨a, n, rfl, ha, k⟩ := h
    refine ⟨_, pss_cons (ps_expr (pe_clsinit (by rfl) hm rd vV (pa_cons (pv 0) (pa_cons pe_str pa_nil)))) (pss_one (ps_ost (pv 0) (pv 1))), ?_⟩
    exact ⟨_, rfl, a, C, [_], rfl, by decide, oC, ha, _, rfl, _, rfl, a, C, rfl, oC, hno, .inl ⟨ha, fun dx n ne => k dx n ne⟩⟩
theorem tm_mk {P : Program} {w : World} {K : PySem.W.Frag} {mg : Str → Option Value} {base : Heap} {fI C D : Addr} {fd : FuncData} (q : ClsAt K "TooMany" C) (F : Fun K "__init__" "TooMany.__init__" s_tm fI fd)
    (oC : OexC K C) (iC : PySem.W.findIn K (.ref C) "__init__" = some (some (.ref fI))) (tI : PySem.W.typeIn K (.ref fI) = some (.type "function")) (hm : mg "ParcelError" = some (.ref D)) (rd : ClX.CRead K D (.type "type")) (vV : PySem.W.findCls K (.ref D) (.type "type") "__init__" = some (.val (.builtin "ValueError.__init__"))) (hno : PySem.W.findIn K (.ref C) "limit" = some none) :
    TxM P w K mg base := ⟨⟨C, fI, fd, q, oC, iC, tI, fn_tm F oC hm rd vV hno, F.binds fun _ _ _ _ _ _ us hl => match us, hl with | [_, _], _ => rfl⟩⟩
def kindsB (nm : Str) : List Bool := (exL.take 11).map fun y => (nm == y || y == "ParcelError")
def kindsL (nm : Str) : List D := (kindsB nm).map .bool
theorem eqvB : ∀ l : List Bool, PyData.eqvAll (l.map .bool) (l.map .bool) = true
  | [] => by simp [PyData.eqvAll]
  | b :: l => by simp [PyData.eqvAll, PyData.eqv, eqvB l]
def sp__law_kinds : WF := fun ls P Px => ∃ (d : D) (nm : Str), ls = [.val d] ∧ IsEx d nm ∧ nm ∈ exL ∧ P (.val (.list (kindsL nm)))
abbrev s__law_kinds : Stmt := topS 17
abbrev n__law_kinds : List Str := ["e", "told"]
theorem sc__law_kinds : FnScope n__law_kinds ["e"] (defScope s__law_kinds) := ⟨rfl, rfl, rfl, by decide +kernel, rfl, by decide +kernel, by decide +kernel⟩
theorem df__law_kinds {P : Program} {w : World} {K : PySem.W.Frag} {mg : Str → Option Value} {base : Heap} (T : Tx K mg) {f : Addr} {fd : FuncData} (F : Fun K "_law_kinds" "_law_kinds" s__law_kinds f fd) (hm : mg "_law_kinds" = some (.ref f))  :
    Df P w K mg base 1 "_law_kinds" 1 sp__law_kinds := by
  refine df_ok (wf := sp__law_kinds) F sc__law_kinds rfl hm (F.binds fun _ _ _ _ _ _ us hl => match us, hl with | [_], _ => rfl) (fun cdv A outer s H E hr => by
    have hu := hu64 hr
    have htk := takes_of (X := cxOf (L2.CX P w) P w K mg base n__law_kinds "_law_kinds" (defScope s__law_kinds) f cdv A outer s H E) (E := E) rfl rfl rfl rfl
    exact (fss_cons (fs_setF (i := 1) sc__law_kinds.nd rfl (by first | exact .inl rfl | exact .inr rfl) (fe_lst (fa_cons (fe_isE T.ex (by decide) (by rfl) T.n_isinstance (by rfl) (fe_var 0 (pv 0))) (fa_cons (fe_isE T.ex (by decide) (by rfl) T.n_isinstance (by rfl) (fe_var 0 (pv 0))) (fa_cons (fe_isE T.ex (by decide) (by rfl) T.n_isinstance (by rfl) (fe_var 0 (pv 0))) fa_nil)))))
      (fss_cons (fs_setF (i := 1) sc__law_kinds.nd rfl (by first | exact .inl rfl | exact .inr rfl) (fe_op op_addD (fe_var 1 (pv 1)) (fe_lst (fa_cons (fe_isE T.ex (by decide) (by rfl) T.n_isinstance (by rfl) (fe_var 0 (pv 0))) (fa_cons (fe_isE T.ex (by decide) (by rfl) T.n_isinstance (by rfl) (fe_var 0 (pv 0))) (fa_cons (fe_isE T.ex (by decide) (by rfl) T.n_isinstance (by rfl) (fe_var 0 (pv 0))) fa_nil))))))
      (fss_cons (fs_setF (i := 1) sc__law_kinds.nd rfl (by first | exact .inl rfl | exact .inr rfl) (fe_op op_addD (fe_var 1 (pv 1)) (fe_lst (fa_cons (fe_isE T.ex (by decide) (by rfl) T.n_isinstance (by rfl) (fe_var 0 (pv 0))) (fa_cons (fe_isE T.ex (by decide) (by rfl) T.n_isinstance (by rfl) (fe_var 0 (pv 0))) (fa_cons (fe_isE T.ex (by decide) (by rfl) T.n_isinstance (by rfl) (fe_var 0 (pv 0))) fa_nil))))))
      (fss_cons (fs_setF (i := 1) sc__law_kinds.nd rfl (by first | exact .inl rfl | exact .inr rfl) (fe_op op_addD (fe_var 1 (pv 1)) (fe_lst (fa_cons (fe_isE T.ex (by decide) (by rfl) T.n_isinstance (by rfl) (fe_var 0 (pv 0))) (fa_cons (fe_isE T.ex (by decide) (by rfl) T.n_isinstance (by rfl) (fe_var 0 (pv 0))) fa_nil)))))
      (fss_one (fs_ret (fe_if (ft_w (fw_and (ft_val (fe_isE T.ex (by decide) (by rfl) T.n_isinstance (by rfl) (fe_var 0 (pv 0)))) (fw_and1 (ft_val (fe_isV T.ex (by rfl) T.n_isinstance (by rfl) T.n_ValueError (by decide +kernel) (fe_var 0 (pv 0))))))) (fe_var 1 (pv 1)) (fe_lst fa_nil))))))))) ?_
  clear T F hm 
  intro ls P Px hl h
  obtain ⟨d, nm, rfl, hi, hn, h⟩ := h
  walk_at "d"
  repeat (refine ⟨nm, hi, hn, ?_⟩; walk_at "d")
  exact h
theorem isEx_exc (nm : Str) : IsEx (excD nm) nm := .inl rfl
theorem isEx_exl (nm : Str) (n : Int) : IsEx (exlD nm n) nm := .inr ⟨n, rfl⟩
def exF (n : Int) (i : Nat) : D := if i = 10 then exlD "TooMany" n else excD (exL.getD i "")
def madeL (n : Int) : List D := (List.range 11).map (exF n)
theorem made_get {n : Int} {i : Nat} {z : D} (h : (madeL n)[i]? = some z) : i < 11 ∧ z = exF n i := by
  unfold madeL at h
  rw [List.getElem?_map] at h
  by_cases q : i < 11
  · rw [List.getElem?_range q] at h
    exact ⟨q, (Option.some.inj h).symm⟩
  · rw [List.getElem?_eq_none (by simpa using q)] at h
    cases h
theorem kinds_ok (n : Int) : ∀ i, i < 11 → ∃ nm, IsEx (exF n i) nm ∧ nm ∈ exL ∧ kindsL nm = ((List.range 11).map fun k => decide (i = k)).map .bool
  | 0, _ => ⟨"InvalidScript", .inl rfl, by decide, congrArg (List.map PyData.bool) (by decide +kernel)⟩
  | 1, _ => ⟨"InvalidSize", .inl rfl, by decide, congrArg (List.map PyData.bool) (by decide +kernel)⟩
  | 2, _ => ⟨"InvalidStop", .inl rfl, by decide, congrArg (List.map PyData.bool) (by decide +kernel)⟩
  | 3, _ => ⟨"InvalidChild", .inl rfl, by decide, congrArg (List.map PyData.bool) (by decide +kernel)⟩
  | 4, _ => ⟨"InvalidNumber", .inl rfl, by decide, congrArg (List.map PyData.bool) (by decide +kernel)⟩
  | 5, _ => ⟨"InvalidFacts", .inl rfl, by decide, congrArg (List.map PyData.bool) (by decide +kernel)⟩
  | 6, _ => ⟨"InvalidPaper", .inl rfl, by decide, congrArg (List.map PyData.bool) (by decide +kernel)⟩
  | 7, _ => ⟨"InvalidIndex", .inl rfl, by decide, congrArg (List.map PyData.bool) (by decide +kernel)⟩
  | 8, _ => ⟨"InvalidText", .inl rfl, by decide, congrArg (List.map PyData.bool) (by decide +kernel)⟩
  | 9, _ => ⟨"NothingToUndo", .inl rfl, by decide, congrArg (List.map PyData.bool) (by decide +kernel)⟩
  | 10, _ => ⟨"TooMany", .inr ⟨n, rfl⟩, by decide, congrArg (List.map PyData.bool) (by decide +kernel)⟩
def sp_law : WF := fun ls P Px => ∃ ns : List Int, ls = [.scr ns] ∧ ns.length ≤ 63 ∧ P (.val (.bool true))
abbrev s_law : Stmt := topS 18
abbrev n_law : List Str := ["script", "k", "hat", "word", "number", "made", "at", "e", "other"]
theorem sc_law : FnScope n_law ["script"] (defScope s_law) := ⟨rfl, rfl, rfl, by decide +kernel, rfl, by decide +kernel, by decide +kernel⟩
theorem df_law {P : Program} {w : World} {K : PySem.W.Frag} {mg : Str → Option Value} {base : Heap} (T : Tx K mg) {f : Addr} {fd : FuncData} (F : Fun K "law" "law" s_law f fd) (TM : TxM P w K mg base) (d__law_hat_of : Df P w K mg base 1 "_law_hat_of" 2 sp__law_hat_of) (d__law_any : Df P w K mg base 2 "_law_any" 2 sp__law_any) (d__law_draw : Df P w K mg base 1 "_law_draw" 2 sp__law_draw) (d__law_kinds : Df P w K mg base 1 "_law_kinds" 1 sp__law_kinds) :
    FnOk P w K mg base (L2.CX P w) 3 f fd ["script"] (spF K mg 1 sp_law) := by
  refine df_fn F sc_law rfl (fun cdv A outer s H E hr => by
    have hu := hu64 hr
    have htk := takes_of (X := cxOf (L2.CX P w) P w K mg base n_law "law" (defScope s_law) f cdv A outer s H E) (E := E) rfl rfl rfl rfl
    exact (fss_cons (fs_for (passes_of rfl) rfl (fi_range1 (by rfl) T.n_range (fa_cons (fe_op op_addD fe_int (fe_callB (cr_min2 rfl) (by rfl) T.n_min (by decide +kernel) (fa_cons (fe_lenS (by rfl) T.n_len (pv 0)) (fa_cons fe_int fa_nil)))) fa_nil)) (fg_name (i := 1) sc_law.nd rfl (by first | exact .inl rfl | exact .inr rfl))
        (fss_cons (fs_setHat (i := 2) sc_law.nd rfl (by first | exact .inl rfl | exact .inr rfl) (fe_call d__law_hat_of (hr.mono (by decide)) (by rfl) (pass_of htk) (fa_cons (fe_var 0 (pv 0)) (fa_cons (fe_var 1 (pv 1)) fa_nil))))
      (fss_cons (fs_par2 (i := 3) (j := 4) false false rfl sc_law.nd rfl rfl (by decide) rfl rfl (fe_call d__law_any (hr.mono (by decide)) (by rfl) (pass_of htk) (fa_cons (fe_var 2 (pv 2)) (fa_cons (fe_lst (fa_cons fe_str (fa_cons fe_str (fa_cons fe_str (fa_cons fe_str fa_nil))))) fa_nil))) (fe_call d__law_draw (hr.mono (by decide)) (by rfl) (pass_of htk) (fa_cons (fe_var 2 (pv 2)) (fa_cons fe_int fa_nil))) (by rfl) (by rfl) (by rfl))
      (fss_cons (fs_setF (i := 5) sc_law.nd rfl (by first | exact .inl rfl | exact .inr rfl) (fe_lst (fa_cons (fe_exc T.ex (by decide) (by decide) (by rfl) (fe_var 3 (pv 3))) (fa_cons (fe_exc T.ex (by decide) (by decide) (by rfl) (fe_var 3 (pv 3))) (fa_cons (fe_exc T.ex (by decide) (by decide) (by rfl) (fe_var 3 (pv 3))) (fa_cons (fe_exc T.ex (by decide) (by decide) (by rfl) (fe_var 3 (pv 3))) (fa_cons (fe_exc T.ex (by decide) (by decide) (by rfl) (fe_var 3 (pv 3))) fa_nil)))))))
      (fss_cons (fs_setF (i := 5) sc_law.nd rfl (by first | exact .inl rfl | exact .inr rfl) (fe_op op_addD (fe_var 5 (pv 5)) (fe_lst (fa_cons (fe_exc T.ex (by decide) (by decide) (by rfl) (fe_var 3 (pv 3))) (fa_cons (fe_exc T.ex (by decide) (by decide) (by rfl) (fe_var 3 (pv 3))) (fa_cons (fe_exc T.ex (by decide) (by decide) (by rfl) (fe_var 3 (pv 3))) (fa_cons (fe_exc T.ex (by decide) (by decide) (by rfl) (fe_var 3 (pv 3))) fa_nil)))))))
      (fss_cons (fs_setF (i := 5) sc_law.nd rfl (by first | exact .inl rfl | exact .inr rfl) (fe_op op_addD (fe_var 5 (pv 5)) (fe_lst (fa_cons (fe_exc T.ex (by decide) (by decide) (by rfl) (fe_var 3 (pv 3))) (fa_cons (fe_tm T.ex TM (hr.mono (by decide)) (by rfl) (fe_var 4 (pv 4))) fa_nil)))))
      (fss_cons (fs_for (passes_of rfl) rfl (fi_enum (by rfl) T.n_enumerate (fe_var 5 (pv 5))) (fg_tup (n := 2) rfl (fgs_cons (fg_name (i := 6) sc_law.nd rfl (by first | exact .inl rfl | exact .inr rfl)) (fgs_cons (fg_name (i := 7) sc_law.nd rfl (by first | exact .inl rfl | exact .inr rfl)) fgs_nil)))
        (fss_one (fs_if (ft_cmp (op_neDD hu) (fe_call d__law_kinds (hr.mono (by decide)) (by rfl) (pass_of htk) (fa_cons (fe_var 7 (pv 7)) fa_nil)) (fe_lc (own := [("other", 8)]) rfl sc_law.nd (fi_range1 (by rfl) T.n_range (fa_cons fe_int fa_nil)) (blkOk_by (N := n_law) (sc := defScope s_law) (by decide +kernel)) (by decide) (fun _ _ _ _ _ => (fg_name (i := 8) sc_law.nd rfl (by first | exact .inl rfl | exact .inr rfl))) (fun _ _ _ _ _ => fts_nil) (fun _ _ _ _ _ => (fe_cmp (op_eqDD hu) (fe_var 6 (pv 6)) (fe_var 8 (pv 8)) (nomark _)))) (nomark _))
        (fss_one (fs_ret fe_bl))
        fss_nil)))
      (fss_one (fs_if (ft_w (fw_or (ft_cmp (op_neDD hu) (fe_limit T.ex (fe_ix ix_D (fe_var 5 (pv 5)) fe_int (fun _ _ => rfl))) (fe_var 4 (pv 4)) (nomark _)) (fw_or1 (ft_cmp (op_neDD hu) (fe_call d__law_kinds (hr.mono (by decide)) (by rfl) (pass_of htk) (fa_cons (fe_exc T.ex (by decide) (by decide) (by rfl) (fe_var 3 (pv 3))) fa_nil)) (fe_op op_mulD (fe_lst (fa_cons fe_bl fa_nil)) fe_int) (nomark _)))))
        (fss_one (fs_ret fe_bl))
        fss_nil)))))))))
      (fss_one (fs_ret fe_bl)))) ?_
  clear T F d__law_hat_of d__law_any d__law_draw d__law_kinds
  intro ls P Px hl h
  obtain ⟨ns, rfl, n1, h⟩ := h
  walk_at "d"
  refine wFor_rg (lo := 0) (n := ((1 : Int) + min (ns.length : Int) 3).toNat) (fun Q q => by walk_at "d"; exact ⟨by omega, by omega, q⟩) (fun j ρ => ∃ a1 a2 a3 a4 a5 a6 a7 a8, ρ = [.scr ns, a1, a2, a3, a4, a5, a6, a7, a8]) ⟨_, _, _, _, _, _, _, _, rfl⟩ (fun j ρ' hj hI => ?_) (fun ρ' hI => ?_)
  · obtain ⟨a1, a2, a3, a4, a5, a6, a7, a8, rfl⟩ := hI
    walk_at "d"
    refine ⟨ns, _, rfl, by omega, by omega, fun x y hxy => ?_⟩
    walk_at "d"
    refine ⟨hxy, ?_⟩
    refine ⟨_, rfl, by simp, by simp, fun d hd => ?_⟩
    obtain ⟨wd, rfl⟩ : ∃ wd, d = .str wd := by
      simp only [List.mem_cons, List.not_mem_nil, or_false] at hd
      rcases hd with rfl | rfl | rfl | rfl <;> exact ⟨_, rfl⟩
    clear hd
    walk_at "d"
    refine ⟨1000, rfl, by decide, by decide +kernel, fun n n0 n1 => ?_⟩
    walk_at "d"
    refine wFor_of (xs := enD (madeL n)) (fun Q q => by walk_at "d"; exact q) (fun _ ρ => ∃ b6 b7 b8, ρ = [.scr ns, .val (.int (0 + (j : Nat))), .hat, .val (.str wd), .val (.int n), .val (.list (madeL n)), b6, b7, b8]) ⟨_, _, _, rfl⟩ (fun i e ρ' he hI => ?_) (fun ρ' hI => ?_)
    · obtain ⟨b6, b7, b8, rfl⟩ := hI
      obtain ⟨z, hz, rfl⟩ := enD_get he
      obtain ⟨hi, rfl⟩ := made_get hz
      obtain ⟨nm, hm, hn, hk⟩ := kinds_ok n i hi
      walk_at "d"
      refine ⟨_, nm, rfl, hm, hn, ?_⟩
      walk_at "d"
      refine wLc_rg (lo := 0) (n := 11) (fun Q q => by walk_at "d"; exact ⟨by decide, by decide, q⟩) (by decide) (fun k => .bool (decide (i = k))) (fun k hk Y M y => ?_) ?_
      · walk_at "d"
        rw [show decide ((i : Int) = 0 + (k : Int)) = decide (i = k) from decide_eq_decide.mpr (by omega)]
        exact y
      · rw [show (List.range 11).map (fun k => PyData.bool (decide (i = k))) = ((List.range 11).map fun k => decide (i = k)).map .bool by rw [List.map_map]; rfl, hk]
        walk_at "d"
        rw [eqvB]
        simp
    · obtain ⟨b6, b7, b8, rfl⟩ := hI
      walk_at "d"
      refine ⟨exlD "TooMany" n, rfl, n, rfl, ?_⟩
      rw [if_neg (by simp)]
      refine ⟨_, "ParcelError", rfl, .inl rfl, by decide, ?_⟩
      walk_at "d"
      have e : kindsL (Str.ofString "ParcelError") = [.bool false, .bool false, .bool false, .bool false, .bool false, .bool false, .bool false, .bool false, .bool false, .bool false, .bool false] := congrArg (List.map PyData.bool) (show kindsB "ParcelError" = [false, false, false, false, false, false, false, false, false, false, false] by decide +kernel)
      rw [e]
      have e2 := eqvB [false, false, false, false, false, false, false, false, false, false, false]
      simp only [List.map_cons, List.map_nil] at e2
      rw [e2]
      simp
  · obtain ⟨a1, a2, a3, a4, a5, a6, a7, a8, rfl⟩ := hI
    walk_at "d"
    exact h
theorem law_fits (ns : List Int) (P : L → Prop) (Px : Str → Prop) (h1 : ns.length ≤ 63) (h2 : ∀ z ∈ ns, Builtin.Int.intBits z ≤ 1048576) (h : P (.val (.bool true))) : sp_law [.scr ns] P Px := ⟨ns, rfl, h1, h⟩
theorem all_mk {P : Program} {w : World} {K : PySem.W.Frag} {h : Heap} {mg : Str → Option Value} {fa f0 f1 f2 f3 f4 C0 C1 C2 C3 C4 C5 C6 C7 C8 C9 C10 C11 cA4 pA4 : Addr} {od0 an0 od1 an1 od2 an2 od3 an3 od4 an4 : Option Addr} {sl0 sl1 sl2 sl3 sl4 : Array (Option Value)} {oc0 kV0 dc0 pm0 ct0 cd0 oc1 kV1 dc1 pm1 ct1 cd1 oc2 kV2 dc2 pm2 ct2 cd2 oc3 kV3 dc3 pm3 ct3 cd3 oc4 kV4 dc4 pm4 ct4 cd4 : Value} {fI : Addr} {odI anI : Option Addr} {slI : Array (Option Value)} {ocI kVI dcI pmI cdI ctI : Value} (X : K.In h) (G : h.Ns mainGlobals mg) (hfa : mg "law" = some (.ref fa))
    (a0 : PySem.W.nsIn K mainGlobals "_law_hat_of" = some (some (.ref f0)))
    (l0 : K.lookup f0 = some ⟨oc0, od0, .func (PySem.W.fnOf "_law_hat_of" "_law_hat_of" (defArgs s__law_hat_of) (defBody s__law_hat_of) (defScope s__law_hat_of) .none kV0 dc0 pm0 an0 cd0 ct0), sl0⟩)
    (c0 : PySem.W.codeIn K cd0 "_law_hat_of" = true) (k0 : PySem.W.keepIn K (.ref f0) = true)
    (a1 : PySem.W.nsIn K mainGlobals "_law_draw" = some (some (.ref f1)))
    (l1 : K.lookup f1 = some ⟨oc1, od1, .func (PySem.W.fnOf "_law_draw" "_law_draw" (defArgs s__law_draw) (defBody s__law_draw) (defScope s__law_draw) .none kV1 dc1 pm1 an1 cd1 ct1), sl1⟩)
    (c1 : PySem.W.codeIn K cd1 "_law_draw" = true) (k1 : PySem.W.keepIn K (.ref f1) = true)
    (a2 : PySem.W.nsIn K mainGlobals "_law_any" = some (some (.ref f2)))
    (l2 : K.lookup f2 = some ⟨oc2, od2, .func (PySem.W.fnOf "_law_any" "_law_any" (defArgs s__law_any) (defBody s__law_any) (defScope s__law_any) .none kV2 dc2 pm2 an2 cd2 ct2), sl2⟩)
    (c2 : PySem.W.codeIn K cd2 "_law_any" = true) (k2 : PySem.W.keepIn K (.ref f2) = true)
    (a3 : PySem.W.nsIn K mainGlobals "_law_kinds" = some (some (.ref f3)))
    (l3 : K.lookup f3 = some ⟨oc3, od3, .func (PySem.W.fnOf "_law_kinds" "_law_kinds" (defArgs s__law_kinds) (defBody s__law_kinds) (defScope s__law_kinds) .none kV3 dc3 pm3 an3 cd3 ct3), sl3⟩)
    (c3 : PySem.W.codeIn K cd3 "_law_kinds" = true) (k3 : PySem.W.keepIn K (.ref f3) = true)
    (a4 : PySem.W.nsIn K mainGlobals "law" = some (some (.ref f4)))
    (l4 : K.lookup f4 = some ⟨oc4, od4, .func (PySem.W.fnOf "law" "law" (defArgs s_law) (defBody s_law) (defScope s_law) .none kV4 dc4 pm4 an4 cd4 ct4), sl4⟩)
    (c4 : PySem.W.codeIn K cd4 "law" = true) (k4 : PySem.W.keepIn K (.ref f4) = true)
    (tt4 : PySem.W.tabIn K "law" = some (cA4, pA4)) (no4 : K.lookup pA4 = none)
    (ht : tabsOf K = [(pA4, ("law" : Str) ++ ".<locals>." ++ "<lambda>")]) (hcs : csOf K = [(cA4, pA4)]) (hnp : [pA4].Nodup)
    (z0 : PySem.W.nsIn K mainGlobals "ValueError" = some none)
    (z1 : PySem.W.nsIn K mainGlobals "abs" = some none)
    (z2 : PySem.W.nsIn K mainGlobals "enumerate" = some none)
    (z3 : PySem.W.nsIn K mainGlobals "int" = some none)
    (z4 : PySem.W.nsIn K mainGlobals "isinstance" = some none)
    (z5 : PySem.W.nsIn K mainGlobals "len" = some none)
    (z6 : PySem.W.nsIn K mainGlobals "min" = some none)
    (z7 : PySem.W.nsIn K mainGlobals "range" = some none)
    (ea0 : PySem.W.nsIn K mainGlobals "InvalidScript" = some (some (.ref C0)))
    (ea1 : PySem.W.nsIn K mainGlobals "InvalidSize" = some (some (.ref C1)))
    (ea2 : PySem.W.nsIn K mainGlobals "InvalidStop" = some (some (.ref C2)))
    (ea3 : PySem.W.nsIn K mainGlobals "InvalidChild" = some (some (.ref C3)))
    (ea4 : PySem.W.nsIn K mainGlobals "InvalidNumber" = some (some (.ref C4)))
    (ea5 : PySem.W.nsIn K mainGlobals "InvalidFacts" = some (some (.ref C5)))
    (ea6 : PySem.W.nsIn K mainGlobals "InvalidPaper" = some (some (.ref C6)))
    (ea7 : PySem.W.nsIn K mainGlobals "InvalidIndex" = some (some (.ref C7)))
    (ea8 : PySem.W.nsIn K mainGlobals "InvalidText" = some (some (.ref C8)))
    (ea9 : PySem.W.nsIn K mainGlobals "NothingToUndo" = some (some (.ref C9)))
    (ea10 : PySem.W.nsIn K mainGlobals "TooMany" = some (some (.ref C10)))
    (ea11 : PySem.W.nsIn K mainGlobals "ParcelError" = some (some (.ref C11)))
    (emA : (([("InvalidScript", C0), ("InvalidSize", C1), ("InvalidStop", C2), ("InvalidChild", C3), ("InvalidNumber", C4), ("InvalidFacts", C5), ("InvalidPaper", C6), ("InvalidIndex", C7), ("InvalidText", C8), ("NothingToUndo", C9), ("TooMany", C10), ("ParcelError", C11)] : List (Str × Addr)).all fun p => exOneB K p) = true) (emB : exKitB K [("InvalidScript", C0), ("InvalidSize", C1), ("InvalidStop", C2), ("InvalidChild", C3), ("InvalidNumber", C4), ("InvalidFacts", C5), ("InvalidPaper", C6), ("InvalidIndex", C7), ("InvalidText", C8), ("NothingToUndo", C9), ("TooMany", C10), ("ParcelError", C11)] = true)
    {nm_ q_ : Str} {N_ : Addr} {bs_ bm_ : List Value} {sn_ : _} {sb_ : _} {ab_ : _} {col_ : _} {dd_ : _} {k0_ k1_ k2_ k3_ k5_ : _} (ej1 : K.lookup C10 = some (excClassObj nm_ q_ C10 N_ bs_ bm_ true sn_ sb_ ab_ col_ dd_ k0_ k1_ k2_ k3_ k5_ "ValueError.__new__")) (emC : PySem.HandSPX.refsVE bm_ = true) (ej2 : PySem.W.findIn K (.ref C10) "__setattr__" = some (some (.builtin "object.__setattr__"))) (ej3 : PySem.W.subIn K (.ref C10) (.type "BaseException") = some true) (ej4 : PySem.W.typeIn K (.ref C10) = some (.type "type")) (ej5 : PySem.W.keepIn K (.ref C10) = true)
    (ej6 : PySem.W.findIn K (.ref C10) "__init__" = some (some (.ref fI))) (ej7 : PySem.W.typeIn K (.ref fI) = some (.type "function")) (ej8 : K.lookup fI = some ⟨ocI, odI, .func (PySem.W.fnOf "__init__" "TooMany.__init__" (defArgs s_tm) (defBody s_tm) (defScope s_tm) .none kVI dcI pmI anI cdI ctI), slI⟩) (ej9 : PySem.W.codeIn K cdI "TooMany.__init__" = true) (ejk : PySem.W.keepIn K (.ref fI) = true)
    (eja : PySem.W.readsIn K C11 (.type "type") = true) (ejb : PySem.W.specialIn K (.ref C11) "__getattribute__" = some (some (.builtin "type.__getattribute__"))) (ejc : PySem.W.findCls K (.ref C11) (.type "type") "__init__" = some (.val (.builtin "ValueError.__init__"))) (ejd : PySem.W.findIn K (.ref C10) "limit" = some none) :
    ∃ fd : FuncData, (∀ p ∈ csOf K, K.lookup p.2 = none) ∧ (∀ (s : Shared) (v : Value), BindsTo s fd ⟨[v], []⟩ [("script", v)]) ∧ ∀ base : Heap, K.In base → base.Ns mainGlobals mg → (∀ p ∈ csOf K, LamX.TabB base mg p.1 p.2) → FnOk P w K mg base (L2.CX P w) 3 fa fd ["script"] (spLaw K) := by
  have e := hfa.symm.trans (PySem.W.mg_of X G a4)
  cases e
  have T : Tx K mg := { ex := txE_mk X G [("InvalidScript", C0), ("InvalidSize", C1), ("InvalidStop", C2), ("InvalidChild", C3), ("InvalidNumber", C4), ("InvalidFacts", C5), ("InvalidPaper", C6), ("InvalidIndex", C7), ("InvalidText", C8), ("NothingToUndo", C9), ("TooMany", C10), ("ParcelError", C11)] rfl emA emB, n_ValueError := PySem.W.mg_none_of X G z0, n_abs := PySem.W.mg_none_of X G z1, n_enumerate := PySem.W.mg_none_of X G z2, n_int := PySem.W.mg_none_of X G z3, n_isinstance := PySem.W.mg_none_of X G z4, n_len := PySem.W.mg_none_of X G z5, n_min := PySem.W.mg_none_of X G z6, n_range := PySem.W.mg_none_of X G z7 }
  have hnd : ((tabsOf K).map (·.1)).Nodup := by rw [ht]; exact hnp
  have hno : ∀ p ∈ csOf K, K.lookup p.2 = none := by
    rw [hcs]
    simp only [List.forall_mem_cons]
    exact ⟨no4, fun _ h => nomatch h⟩
  refine ⟨PySem.W.fnOf "law" "law" (defArgs s_law) (defBody s_law) (defScope s_law) .none kV4 dc4 pm4 an4 cd4 ct4, hno, fun s v => .of_eq rfl, fun base hb1 hb2 hb3 => ?_⟩
  have d__law_hat_of := df__law_hat_of (P := P) (w := w) (base := base) T (fun_mk (st := s__law_hat_of) l0 c0 k0) (PySem.W.mg_of X G a0) 
  have d__law_draw := df__law_draw (P := P) (w := w) (base := base) T (fun_mk (st := s__law_draw) l1 c1 k1) (PySem.W.mg_of X G a1) 
  have d__law_kinds := df__law_kinds (P := P) (w := w) (base := base) T (fun_mk (st := s__law_kinds) l3 c3 k3) (PySem.W.mg_of X G a3) 
  have d__law_any := df__law_any (P := P) (w := w) (base := base) T (fun_mk (st := s__law_any) l2 c2 k2) (PySem.W.mg_of X G a2) d__law_draw
  have TM : TxM P w K mg base := tm_mk ea10 (fun_mk (st := s_tm) ej8 ej9 ejk) ⟨⟨_, _, _, _, _, _, _, _, _, _, _, _, _, _, _, ej1, emC⟩, ej2, ej3, ej4, ej5⟩ ej6 ej7 (PySem.W.mg_of X G ea11) ⟨eja, ejb⟩ ejc ejd
  have d_law := df_law (P := P) (w := w) (base := base) T (fun_mk (st := s_law) l4 c4 k4) TM d__law_hat_of d__law_any d__law_draw d__law_kinds
  exact d_law.imp (law_sp hnd law_fits)
end Law
end Pz
open PySem PySem.W PyProof.Rows
set_option maxHeartbeats 0 in
theorem PySem.Challenge.cw_anyparcels_k19_errors_and_their_classes_holds : PySem.Challenge.rw_anyparcels_k19_errors_and_their_classes.Holds := by
  w_on; o_law; k_head; (case hw => w_witness2)
  k_fill
  refine Pz.walk_law (l := PySem.Challenge.rw_anyparcels_k19_errors_and_their_classes) 3 rfl rfl ⟨rfl, by decide, by decide⟩ (fun w h Y => PySem.W.kIn_of Y) ?R ?F
  case R =>
    intro x hx P
    simp only [Pz.lamDefs, List.mem_cons, List.not_mem_nil, or_false] at hx
    rcases hx with rfl | rfl | rfl | rfl | rfl | rfl | rfl | rfl | rfl | rfl | rfl | rfl | rfl | rfl <;> first | exact .inl rfl | exact .inr ⟨_, rfl⟩
  case F =>
    intro w mg fa h KX G hmg
    refine' Pz.Law.all_mk KX G hmg ?a0 ?l0 ?c0 ?k0 ?a1 ?l1 ?c1 ?k1 ?a2 ?l2 ?c2 ?k2 ?a3 ?l3 ?c3 ?k3 ?a4 ?l4 ?c4 ?k4 ?tt4 ?no4 ?ht ?hcs ?hnp ?z0 ?z1 ?z2 ?z3 ?z4 ?z5 ?z6 ?z7 ?ea0 ?ea1 ?ea2 ?ea3 ?ea4 ?ea5 ?ea6 ?ea7 ?ea8 ?ea9 ?ea10 ?ea11 ?emA ?emB ?ej1 ?emC ?ej2 ?ej3 ?ej4 ?ej5 ?ej6 ?ej7 ?ej8 ?ej9 ?ejk ?eja ?ejb ?ejc ?ejd
    (case a0 => k_is); (case l0 => k_is); (case c0 => k_is); (case k0 => k_is); (case a1 => k_is); (case l1 => k_is); (case c1 => k_is); (case k1 => k_is); (case a2 => k_is); (case l2 => k_is); (case c2 => k_is); (case k2 => k_is); (case a3 => k_is); (case l3 => k_is); (case c3 => k_is); (case k3 => k_is); (case a4 => k_is); (case l4 => k_is); (case c4 => k_is); (case k4 => k_is); (case tt4 => rfl); (case no4 => rfl); (case ht => rfl); (case hcs => rfl); (case hnp => decide); (case z0 => k_is); (case z1 => k_is); (case z2 => k_is); (case z3 => k_is); (case z4 => k_is); (case z5 => k_is); (case z6 => k_is); (case z7 => k_is); (case ea0 => k_is); (case ea1 => k_is); (case ea2 => k_is); (case ea3 => k_is); (case ea4 => k_is); (case ea5 => k_is); (case ea6 => k_is); (case ea7 => k_is); (case ea8 => k_is); (case ea9 => k_is); (case ea10 => k_is); (case ea11 => k_is); (case emA => kernel_rfl); (case emB => kernel_rfl); (case ej1 => k_is); (case emC => kernel_rfl); (case ej2 => k_is); (case ej3 => k_is); (case ej4 => k_is); (case ej5 => k_is); (case ej6 => k_is); (case ej7 => k_is); (case ej8 => k_is); (case ej9 => k_is); (case ejk => k_is); (case eja => k_is); (case ejb => k_is); (case ejc => k_is); (case ejd => k_is)

