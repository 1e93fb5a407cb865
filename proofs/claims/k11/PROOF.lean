import PyProof.Rows.All
import Wide.All
import OpenK.AllK
import Wide.FinOn
import HandS.ForMost
import HandS.ForExc
import HandS.Wide
import HandS.IsInst
import HandS.TupAny
import HandS.TupMul
import HandS.Style
import HandS.Defaults
import HandS.MakeKw
import HandS.MakeKwOnly
import HandS.Lambda
import HandS.EndTab
import HandS.HotCalls
import HandS.ExcInit
import HandS.ExcField
import HandS.ExcIs
import HandS.TryOnly
import KE.KTryMore
import HandS.ListEq
import HandS.Star
import HandS.Conv
import HandS.GenList
import HandS.GenYield
import HandS.Strs
import KE.KExcIs
import KE.KNestM
import KE.KTupSum
import KE.GoesMore
import HandS.DictComp
import HandS.NoneIn
import HandS.ClsMeth
import HandS.TupLe
import PyProof.NeKinds
import HandS.DictSubView
import HandS.ReCall
import HandS.SetFor
import PySem.Challenge.RW_goldenrows_k11_whole_sample_rows
set_option Elab.async false
set_option linter.all false
set_option maxRecDepth 100000
set_option maxHeartbeats 0
/-! DL1: data-level readings over HandS. Values as plain data (D), slots as SV; F: the part of the heap that never changes any more. -/
namespace DL
open PySem L2

inductive D where
  | non | bl (b : Bool) | int (i : Int) | str (x : Str) | ty (n : String)
  | tup (l : List D) | lst (l : List D) | ins (C : Addr) (fs : List (Str × D)) | obj (a : Addr) | scr (ns : List Int) | bag (a : Addr) | dct (fs : List (Str × D))
  | tux (l : List D) | exc (C : Addr) (fs : List (Str × D))

/-- a bag of the law: a list of three numbers, from 0 on -/
def BagP (a : Addr) (h : Heap) : Prop := ∃ (p q r : Nat) (t u v : Tok) (n : Nat), h.get? a = some { cls := .type "list", data := .seq #[.int (p : Int) t, .int (q : Int) u, .int (r : Int) v] n }
def BagO (a : Addr) : HO := .ext (BagP a)

/-- the own dict of an exception (it may have none) -/
def XdOk (F : Hp) : Option Addr → List (Str × V) → Prop
  | none, xs => xs = []
  | some dx, xs => F dx = some (exd dx xs)
theorem XdOk.mono {F F' : Hp} (e : Same F F') : ∀ {d : Option Addr} {xs : List (Str × V)}, XdOk F d xs → XdOk F' d xs
  | none, _, h => h
  | some _, _, h => e _ _ h
/-- a dict with texts as keys -/
abbrev keyed (xs : List (Str × V)) : List (Key × V) := xs.map fun p => (Sum.inr p.1, p.2)
mutual
inductive Rep (K : PySem.W.Frag) (F : Hp) : V → D → Prop
  | non : Rep K F .non .non
  | bl (b : Bool) : Rep K F (.bl b) (.bl b)
  | int (i : Int) : Rep K F (.int i) (.int i)
  | str (x : Str) : Rep K F (.str x) (.str x)
  | ty (n : String) : Rep K F (.ty n) (.ty n)
  | tup {a : Addr} {xs : List V} {l : List D} : SqT K F a xs → RepA K F xs l → Rep K F (.ref a) (.tup l)
  | lst {a : Addr} {xs : List V} {l : List D} : F a = some (.lst xs) → RepA K F xs l → Rep K F (.ref a) (.lst l)
  | ins {a C dx : Addr} {xs : List (Str × V)} {fs : List (Str × D)} : F a = some (.ins C dx xs) → RepF K F xs fs → Rep K F (.ref a) (.ins C fs)
  | obj (a : Addr) : Rep K F (.ref a) (.obj a)
  | scr {a : Addr} {ns : List Int} : SqL K F a (ns.map V.int) → Rep K F (.ref a) (.scr ns)
  | bag {a : Addr} : F a = some (BagO a) → Rep K F (.ref a) (.bag a)
  | dct {a : Addr} {o : Obj} {xs : List (Str × V)} {fs : List (Str × D)} : F a = some (.frz o (.dK (keyed xs))) → RepF K F xs fs → Rep K F (.ref a) (.dct fs)
  | tux {a : Addr} {o : Obj} {xs : List V} {l : List D} : F a = some (.frz o (.tup xs)) → o.dict = none → RepA K F xs l → Rep K F (.ref a) (.tux l)
  | exc {a C : Addr} {d : Option Addr} {xs : List (Str × V)} {fs : List (Str × D)} : F a = some (exo a C d) → XdOk F d xs → RepF K F xs fs → Rep K F (.ref a) (.exc C fs)
inductive RepA (K : PySem.W.Frag) (F : Hp) : List V → List D → Prop
  | nil : RepA K F [] []
  | cons {v : V} {vs : List V} {d : D} {ds : List D} : Rep K F v d → RepA K F vs ds → RepA K F (v :: vs) (d :: ds)
inductive RepF (K : PySem.W.Frag) (F : Hp) : List (Str × V) → List (Str × D) → Prop
  | nil : RepF K F [] []
  | cons {n : Str} {v : V} {vs : List (Str × V)} {d : D} {ds : List (Str × D)} : Rep K F v d → RepF K F vs ds → RepF K F ((n, v) :: vs) ((n, d) :: ds)
end

theorem same_rd {H H' : Hp} {a : Addr} {u : HO} (e : Same H H') (h : Rd H a u) : Rd H' a u := by
  rcases h with h | ⟨o, h⟩
  · exact .inl (e a _ h)
  · exact .inr ⟨o, e a _ h⟩
theorem same_t {K : PySem.W.Frag} {H H' : Hp} {a : Addr} {xs : List V} (e : Same H H') (h : SqT K H a xs) : SqT K H' a xs := by
  rcases h with h | h
  · exact .inl (same_rd e h)
  · exact .inr h
section
variable {K : PySem.W.Frag} {F F' : Hp}
mutual
theorem Rep.mono (e : Same F F') : ∀ {v : V} {d : D}, Rep K F v d → Rep K F' v d
  | _, _, .non => .non
  | _, _, .bl b => .bl b
  | _, _, .int i => .int i
  | _, _, .str x => .str x
  | _, _, .ty n => .ty n
  | _, _, .tup h r => .tup (same_t e h) (RepA.mono e r)
  | _, _, .lst h r => .lst (e _ _ h) (RepA.mono e r)
  | _, _, .ins h r => .ins (e _ _ h) (RepF.mono e r)
  | _, _, .obj a => .obj a
  | _, _, .scr h => .scr (e.seq h)
  | _, _, .bag h => .bag (e _ _ h)
  | _, _, .dct h r => .dct (e _ _ h) (RepF.mono e r)
  | _, _, .tux h z r => .tux (e _ _ h) z (RepA.mono e r)
  | _, _, .exc h g r => .exc (e _ _ h) (XdOk.mono e g) (RepF.mono e r)
theorem RepA.mono (e : Same F F') : ∀ {v : List V} {d : List D}, RepA K F v d → RepA K F' v d
  | _, _, .nil => .nil
  | _, _, .cons h r => .cons (Rep.mono e h) (RepA.mono e r)
theorem RepF.mono (e : Same F F') : ∀ {v : List (Str × V)} {d : List (Str × D)}, RepF K F v d → RepF K F' v d
  | _, _, .nil => .nil
  | _, _, .cons h r => .cons (Rep.mono e h) (RepF.mono e r)
end
theorem RepA.len : ∀ {v : List V} {d : List D}, RepA K F v d → v.length = d.length
  | _, _, .nil => rfl
  | _, _, .cons _ r => congrArg Nat.succ (RepA.len r)
theorem RepF.len : ∀ {v : List (Str × V)} {d : List (Str × D)}, RepF K F v d → v.length = d.length
  | _, _, .nil => rfl
  | _, _, .cons _ r => congrArg Nat.succ (RepF.len r)
theorem RepA.app : ∀ {v w : List V} {d e : List D}, RepA K F v d → RepA K F w e → RepA K F (v ++ w) (d ++ e)
  | _, _, _, _, .nil, s => s
  | _, _, _, _, .cons h r, s => .cons h (RepA.app r s)
theorem RepA.one {v : V} {d : D} (h : Rep K F v d) : RepA K F [v] [d] := .cons h .nil
theorem RepA.get : ∀ {v : List V} {d : List D} {i : Nat} {x : V}, RepA K F v d → v[i]? = some x → ∃ y, d[i]? = some y ∧ Rep K F x y
  | _, _, _, _, .nil, e => by simp at e
  | _, _, 0, _, .cons h _, e => by
    simp at e
    subst e
    exact ⟨_, rfl, h⟩
  | _, _, i + 1, x, .cons _ r, e => by
    obtain ⟨y, h1, h2⟩ := RepA.get (i := i) (x := x) r (by simpa using e)
    exact ⟨y, by simpa using h1, h2⟩
theorem RepA.getD : ∀ {v : List V} {d : List D} {i : Nat} {y : D}, RepA K F v d → d[i]? = some y → ∃ x, v[i]? = some x ∧ Rep K F x y
  | _, _, _, _, .nil, e => by simp at e
  | _, _, 0, _, .cons h _, e => by
    simp at e
    subst e
    exact ⟨_, rfl, h⟩
  | _, _, i + 1, x, .cons _ r, e => by
    obtain ⟨y, h1, h2⟩ := RepA.getD (i := i) (y := x) r (by simpa using e)
    exact ⟨y, by simpa using h1, h2⟩
theorem RepA.take : ∀ {v : List V} {d : List D} (n : Nat), RepA K F v d → RepA K F (v.take n) (d.take n)
  | _, _, 0, _ => .nil
  | _, _, _ + 1, .nil => .nil
  | _, _, n + 1, .cons h r => .cons h (RepA.take n r)
theorem RepA.drop : ∀ {v : List V} {d : List D} (n : Nat), RepA K F v d → RepA K F (v.drop n) (d.drop n)
  | _, _, 0, r => r
  | _, _, _ + 1, .nil => .nil
  | _, _, n + 1, .cons _ r => RepA.drop n r
theorem RepA.rev {v : List V} {d : List D} (h : RepA K F v d) : RepA K F v.reverse d.reverse := by
  induction v generalizing d with
  | nil =>
    cases h
    exact .nil
  | cons x v ih =>
    cases h with
    | cons h r =>
      rw [List.reverse_cons, List.reverse_cons]
      exact (ih r).app (.one h)
theorem RepA.ints : ∀ (ns : List Int), RepA K F (ns.map V.int) (ns.map D.int)
  | [] => .nil
  | n :: r => .cons (.int n) (RepA.ints r)
theorem RepA.ints_inv : ∀ {v : List V} {ns : List Int}, RepA K F v (ns.map D.int) → v = ns.map V.int
  | _, [], .nil => rfl
  | _, n :: r, .cons h t => by
    cases h
    rw [RepA.ints_inv t]
    rfl
theorem RepF.lookup {f : Str} : ∀ {v : List (Str × V)} {d : List (Str × D)} {y : D}, RepF K F v d → d.lookup f = some y → ∃ x, v.lookup f = some x ∧ Rep K F x y
  | _, _, _, .nil, e => by simp at e
  | (n, v) :: vs, (_, d) :: ds, y, .cons h r, e => by
    rw [List.lookup_cons] at e ⊢
    cases hb : f == n with
    | true =>
      rw [hb] at e
      cases e
      exact ⟨v, rfl, h⟩
    | false =>
      rw [hb] at e
      exact RepF.lookup r e
theorem RepF.none {f : Str} : ∀ {v : List (Str × V)} {d : List (Str × D)}, RepF K F v d → d.lookup f = none → v.lookup f = none
  | _, _, .nil, _ => rfl
  | (n, v) :: vs, (_, d) :: ds, .cons h r, e => by
    rw [List.lookup_cons] at e ⊢
    cases hb : f == n with
    | true =>
      rw [hb] at e
      cases e
    | false =>
      rw [hb] at e
      exact RepF.none r e
end

/-! ### steps of the heap: F the frozen part, H the whole -/
/-- the tables of code objects that the program writes (each with the name of the lambdas of its def) -/
class Tbl where
  T : List (Addr × Str)
/-- no table -/
def NT : HO → Prop
  | .tbl _ => False
  | _ => True
/-- what may change -/
def Mn : HO → Prop
  | .lst _ => True
  | .ins _ _ _ => True
  | .dK _ => True
  | _ => False
section
variable [Tbl]
/-- nothing that is told of -/
def Fre (H : Hp) (a : Addr) : Prop := H a = none ∨ ((∃ ps, H a = some (.tbl ps)) ∧ ∀ p ∈ Tbl.T, p.1 ≠ a)
structure Grw (H H' : Hp) : Prop where
  kp : ∀ a o, H a = some o → NT o → H' a = some o
  fr : ∀ a, Fre H' a → Fre H a
structure Fz (F H : Hp) : Prop where
  sm : Same F H
  tb : LamX.Tabs Tbl.T H
  nt : ∀ a o, F a = some o → NT o
instance {F H : Hp} : CoeOut (Fz F H) (Same F H) := ⟨Fz.sm⟩
instance {F H : Hp} : CoeFun (Fz F H) (fun _ => ∀ a o, F a = some o → H a = some o) := ⟨fun e => e.sm⟩
theorem Fz.free {F H : Hp} {a : Addr} (e : Fz F H) (h : H a = none) : F a = none := e.sm.free h
theorem Fz.seq {F H : Hp} {K : PySem.W.Frag} {a : Addr} {xs : List V} (e : Fz F H) (h : SqL K F a xs) : SqL K H a xs := e.sm.seq h
theorem Grw.get {H H' : Hp} {a : Addr} {o : HO} (g : Grw H H') (h : H a = some o) (n : NT o := by exact True.intro) : H' a = some o := g.kp a o h n
theorem Fre.lst {H : Hp} {a : Addr} {o : HO} (f : Fre H a) (h : H a = some o) (n : NT o) : False := by
  rcases f with f | ⟨⟨ps, f⟩, _⟩
  · rw [f] at h
    cases h
  · rw [f] at h
    cases h
    exact n
theorem Grw.refl (H : Hp) : Grw H H := ⟨fun _ _ h _ => h, fun _ h => h⟩
theorem Grw.trans {H H1 H2 : Hp} (a : Grw H H1) (b : Grw H1 H2) : Grw H H2 := ⟨fun x o h n => b.kp x o (a.kp x o h n) n, fun x h => a.fr x (b.fr x h)⟩
theorem Grw.seq {H H' : Hp} {K : PySem.W.Frag} {a : Addr} {xs : List V} (g : Grw H H') (h : SqL K H a xs) : SqL K H' a xs := by
  rcases h with (h | ⟨o, h⟩) | h
  · exact .inl (.inl (g.get h))
  · exact .inl (.inr ⟨o, g.get h⟩)
  · exact .inr h
structure Stp (F F' H H' : Hp) : Prop where
  ff : Same F F'
  hh : Grw H H'
  fh : Fz F' H'
  nw : ∀ a, F a = none → (∃ u, H a = some u ∧ NT u) → F' a = none
theorem Stp.refl {F H : Hp} (e : Fz F H) : Stp F F H H := ⟨Same.refl F, Grw.refl H, e, fun _ h _ => h⟩
theorem Stp.trans {F F1 F2 H H1 H2 : Hp} (a : Stp F F1 H H1) (b : Stp F1 F2 H1 H2) : Stp F F2 H H2 :=
  ⟨a.ff.trans b.ff, a.hh.trans b.hh, b.fh, fun x hf ⟨u, hu, n⟩ => b.nw x (a.nw x hf ⟨u, hu, n⟩) ⟨u, a.hh.kp x u hu n, n⟩⟩
theorem same_new {H : Hp} {p : Addr} {o : HO} (h : H p = none) : Same H (upd H p o) := fun a u e => by
  rw [upd_ne (ne_of_none e h)]
  exact e
theorem grw_same {H H' : Hp} (e : Same H H') (f : ∀ a, H' a = none → H a = none) (t : ∀ a ps, H' a = some (.tbl ps) → H a = some (.tbl ps) ∨ H a = none) : Grw H H' := ⟨fun a o h _ => e a o h, fun a h => by
  rcases h with h | ⟨⟨ps, h⟩, z⟩
  · exact .inl (f a h)
  · rcases t a ps h with h | h
    · exact .inr ⟨⟨ps, h⟩, z⟩
    · exact .inl h⟩
theorem grw_new {H : Hp} {p : Addr} {o : HO} (h : H p = none) : Grw H (upd H p o) := ⟨fun a u e _ => same_new h a u e, fun a f => by
  by_cases z : a = p
  · rw [z]
    exact .inl h
  · unfold Fre at f
    rw [upd_ne z] at f
    exact f⟩
theorem tabs_new {H : Hp} {p : Addr} {o : HO} {T : List (Addr × Str)} (t : LamX.Tabs T H) (h : H p = none) : LamX.Tabs T (upd H p o) := t.ext fun a u e => same_new h a u e
theorem tabs_mut {H : Hp} {p : Addr} {o u : HO} {T : List (Addr × Str)} (t : LamX.Tabs T H) (hp : H p = some u) (m : Mn u) : LamX.Tabs T (upd H p o) := fun q hq => by
  obtain ⟨ps, e1, e2, e3⟩ := t q hq
  have n1 : q.1 ≠ p := fun z => by
    rw [z, hp] at e1
    cases e1
    exact m
  refine ⟨ps, by rw [upd_ne n1]; exact e1, e2, fun pos cv hc => ?_⟩
  obtain ⟨c, g1, g2⟩ := e3 pos cv hc
  have n2 : c ≠ p := fun z => by
    rw [z, hp] at g2
    cases g2
    exact m
  exact ⟨c, g1, by rw [upd_ne n2]; exact g2⟩
theorem fz_new {F H : Hp} {p : Addr} {o : HO} (e : Fz F H) (h : H p = none) : Fz F (upd H p o) := ⟨e.sm.trans (same_new h), tabs_new e.tb h, e.nt⟩
/-- a new object, frozen at once -/
theorem nt_upd {F : Hp} {p : Addr} {o : HO} (e : ∀ a u, F a = some u → NT u) (n : NT o) : ∀ a u, (upd F p o) a = some u → NT u := fun a u q => by
  by_cases z : a = p
  · rw [z, upd_same] at q
    cases q
    exact n
  · rw [upd_ne z] at q
    exact e a u q
theorem Stp.new {F H : Hp} {p : Addr} {o : HO} (e : Fz F H) (h : H p = none) (n : NT o := by exact True.intro) : Stp F (upd F p o) H (upd H p o) := by
  have hf : F p = none := e.free h
  refine ⟨same_new hf, grw_new h, ⟨fun a u q => ?_, tabs_new e.tb h, nt_upd e.nt n⟩, fun a h1 ⟨u, h2, _⟩ => ?_⟩
  · by_cases z : a = p
    · subst z
      rw [upd_same] at q ⊢
      exact q
    · rw [upd_ne z] at q ⊢
      exact e a u q
  · have z : a ≠ p := ne_of_none h2 h
    rw [upd_ne z]
    exact h1
/-- a new object, not frozen -/
theorem Stp.fresh {F H : Hp} {p : Addr} {o : HO} (e : Fz F H) (h : H p = none) : Stp F F H (upd H p o) :=
  ⟨Same.refl F, grw_new h, fz_new e h, fun _ h1 _ => h1⟩
/-- one's own new object is frozen -/
theorem Stp.freeze {F F' H H' : Hp} {p : Addr} {o : HO} (s : Stp F F' H H') (h : Fre H p) (hf : F' p = none) (hp : H' p = some o) (n : NT o := by exact True.intro) : Stp F (upd F' p o) H H' := by
  refine ⟨s.ff.trans (same_new hf), s.hh, ⟨fun a u q => ?_, s.fh.tb, nt_upd s.fh.nt n⟩, fun a h1 h2 => ?_⟩
  · by_cases z : a = p
    · subst z
      rw [upd_same] at q
      rw [hp]
      exact q
    · rw [upd_ne z] at q
      exact s.fh a u q
  · have z : a ≠ p := fun z => by
      obtain ⟨u, h2, n⟩ := h2
      rw [z] at h2
      exact h.lst h2 n
    rw [upd_ne z]
    exact s.nw a h1 h2
/-- one's own object changes -/
theorem Stp.mut {F F' H H' : Hp} {p : Addr} {o u : HO} (s : Stp F F' H H') (h : Fre H p) (hf : F' p = none) (hp : H' p = some u) (m : Mn u := by exact True.intro) : Stp F F' H (upd H' p o) :=
  ⟨s.ff, ⟨fun a v e n => by
    have z : a ≠ p := fun z => by
      rw [z] at e
      exact h.lst e n
    rw [upd_ne z]
    exact s.hh.kp a v e n, fun a f => by
    by_cases z : a = p
    · rw [z]
      exact h
    · unfold Fre at f
      rw [upd_ne z] at f
      exact s.hh.fr a f⟩, ⟨fun a v e => by
    rw [upd_ne (ne_of_none e hf)]
    exact s.fh a v e, tabs_mut s.fh.tb hp m, s.fh.nt⟩, s.nw⟩
end

/-! ### slots, states -/
inductive SV where
  | un | d (v : D) | own (l : List D) | dic (fs : List (Str × D)) | me (a C : Addr) (fs : List (Str × D)) | exn (a C dd : Addr) (fs : List (Str × D))
abbrev EV := List SV
section
variable [Tbl]
structure Ent where
  F : Hp
  H : Hp
def SlotOk (K : PySem.W.Frag) (B : Ent) (F H : Hp) (x : Option (Option V)) : SV → Prop
  | .un => True
  | .d v => ∃ y, x = some (some y) ∧ Rep K F y v
  | .exn a C dd fs => x = some (some (.ref a)) ∧ ∃ xs, F dd = some (.xd xs) ∧ RepF K F xs fs
  | .own l => ∃ (a : Addr) (xs : List V), x = some (some (.ref a)) ∧ H a = some (.lst xs) ∧ RepA K F xs l ∧ F a = none ∧ Fre B.H a
  | .dic l => ∃ (a : Addr) (xs : List (Str × V)), x = some (some (.ref a)) ∧ H a = some (.dK (keyed xs)) ∧ RepF K F xs l ∧ F a = none ∧ Fre B.H a
  | .me a C fs => ∃ (dx : Addr) (xs : List (Str × V)), x = some (some (.ref a)) ∧ H a = some (.ins C dx xs) ∧ RepF K F xs fs ∧ F a = none ∧ Fre B.H a
def Mine : SV → Prop
  | .own _ => True
  | .dic _ => True
  | .me _ _ _ => True
  | _ => False
structure At (K : PySem.W.Frag) (B : Ent) (env : EV) (F : Hp) (σ : St) (H : Hp) : Prop where
  len : σ.length = env.length
  st : Stp B.F F B.H H
  sl : ∀ (i : Nat) (sv : SV), env[i]? = some sv → SlotOk K B F H (σ[i]?) sv
  inj : ∀ (i j : Nat) (s t : SV) (a : Addr), env[i]? = some s → env[j]? = some t → Mine s → Mine t → σ[i]? = some (some (.ref a)) → σ[j]? = some (some (.ref a)) → i = j
section
variable {K : PySem.W.Frag} {B : Ent} {env : EV} {F F' H H' : Hp} {σ : St}
theorem At.fh (a : At K B env F σ H) : Fz F H := a.st.fh
theorem SlotOk.step {x : Option (Option V)} {sv : SV} (s : Stp F F' H H') (h : SlotOk K B F H x sv) : SlotOk K B F' H' x sv := by
  cases sv with
  | un => trivial
  | d v =>
    obtain ⟨y, e, r⟩ := h
    exact ⟨y, e, r.mono s.ff⟩
  | exn a C dd fs =>
    obtain ⟨e, xs, h1, r⟩ := h
    exact ⟨e, xs, s.ff _ _ h1, r.mono s.ff⟩
  | own l =>
    obtain ⟨a, xs, e, h1, r, h2, h3⟩ := h
    exact ⟨a, xs, e, s.hh.get h1, r.mono s.ff, s.nw a h2 ⟨_, h1, trivial⟩, h3⟩
  | dic l =>
    obtain ⟨a, xs, e, h1, r, h2, h3⟩ := h
    exact ⟨a, xs, e, s.hh.get h1, r.mono s.ff, s.nw a h2 ⟨_, h1, trivial⟩, h3⟩
  | me a C fs =>
    obtain ⟨dx, xs, e, h1, r, h2, h3⟩ := h
    exact ⟨dx, xs, e, s.hh.get h1, r.mono s.ff, s.nw a h2 ⟨_, h1, trivial⟩, h3⟩
theorem At.step (a : At K B env F σ H) (s : Stp F F' H H') : At K B env F' σ H' :=
  ⟨a.len, a.st.trans s, fun i sv e => (a.sl i sv e).step s, a.inj⟩
theorem At.var (a : At K B env F σ H) {i : Nat} {d : D} (e : env[i]? = some (.d d)) : ∃ x, σ[i]? = some (some x) ∧ Rep K F x d := a.sl i _ e
theorem get_set {α : Type} {l : List α} {i j : Nat} {x y : α} (h : (l.set i x)[j]? = some y) : (j = i ∧ y = x) ∨ (j ≠ i ∧ l[j]? = some y) := by
  by_cases e : j = i
  · subst e
    rw [List.getElem?_set_self'] at h
    cases hl : l[j]? with
    | none =>
      rw [hl] at h
      cases h
    | some z =>
      rw [hl] at h
      exact .inl ⟨rfl, (Option.some.inj h).symm⟩
  · rw [List.getElem?_set_ne (fun z => e z.symm)] at h
    exact .inr ⟨e, h⟩
theorem set_get {α : Type} {l : List α} {i : Nat} {x : α} (h : i < l.length) : (l.set i x)[i]? = some x := by
  rw [List.getElem?_set_self h]
theorem lt_of_get {α : Type} {l : List α} {i : Nat} {x : α} (h : l[i]? = some x) : i < l.length := (List.getElem?_eq_some_iff.mp h).1
/-- a slot gets a value -/
theorem At.set (a : At K B env F σ H) {i : Nat} {x : V} {d : D} (r : Rep K F x d) : At K B (env.set i (.d d)) F (σ.set i (some x)) H := by
  refine ⟨by rw [List.length_set, List.length_set]; exact a.len, a.st, fun j sv e => ?_, fun j k s t b e1 e2 m1 m2 q1 q2 => ?_⟩
  · rcases get_set e with ⟨rfl, rfl⟩ | ⟨hj, e⟩
    · refine ⟨x, ?_, r⟩
      have h := lt_of_get e
      rw [List.length_set, ← a.len] at h
      exact set_get h
    · rw [List.getElem?_set_ne (fun z => hj z.symm)]
      exact a.sl j sv e
  · rcases get_set e1 with ⟨_, rfl⟩ | ⟨hj, e1⟩
    · exact m1.elim
    rcases get_set e2 with ⟨_, rfl⟩ | ⟨hk, e2⟩
    · exact m2.elim
    rw [List.getElem?_set_ne (fun z => hj z.symm)] at q1
    rw [List.getElem?_set_ne (fun z => hk z.symm)] at q2
    exact a.inj j k s t b e1 e2 m1 m2 q1 q2
theorem At.unset (a : At K B env F σ H) {i : Nat} (x : Option V) : At K B (env.set i .un) F (σ.set i x) H := by
  refine ⟨by rw [List.length_set, List.length_set]; exact a.len, a.st, fun j sv e => ?_, fun j k s t b e1 e2 m1 m2 q1 q2 => ?_⟩
  · rcases get_set e with ⟨rfl, rfl⟩ | ⟨hj, e⟩
    · trivial
    · rw [List.getElem?_set_ne (fun z => hj z.symm)]
      exact a.sl j sv e
  · rcases get_set e1 with ⟨_, rfl⟩ | ⟨hj, e1⟩
    · exact m1.elim
    rcases get_set e2 with ⟨_, rfl⟩ | ⟨hk, e2⟩
    · exact m2.elim
    rw [List.getElem?_set_ne (fun z => hj z.symm)] at q1
    rw [List.getElem?_set_ne (fun z => hk z.symm)] at q2
    exact a.inj j k s t b e1 e2 m1 m2 q1 q2
/-- a slot gets one's own new object -/
theorem At.setMine (a : At K B env F σ H) {i : Nat} {p : Addr} {sv : SV} (m : Mine sv) (r : SlotOk K B F H (some (some (.ref p))) sv)
    (hn : ∀ (j : Nat) (t : SV), j ≠ i → env[j]? = some t → Mine t → σ[j]? ≠ some (some (.ref p))) : At K B (env.set i sv) F (σ.set i (some (.ref p))) H := by
  refine ⟨by rw [List.length_set, List.length_set]; exact a.len, a.st, fun j sv' e => ?_, fun j k s t b e1 e2 m1 m2 q1 q2 => ?_⟩
  · rcases get_set e with ⟨rfl, rfl⟩ | ⟨hj, e⟩
    · have h := lt_of_get e
      rw [List.length_set, ← a.len] at h
      rw [set_get h]
      exact r
    · rw [List.getElem?_set_ne (fun z => hj z.symm)]
      exact a.sl j sv' e
  · rcases get_set e1 with ⟨rfl, rfl⟩ | ⟨hj, e1⟩
    · rcases get_set e2 with ⟨rfl, rfl⟩ | ⟨hk, e2⟩
      · rfl
      · rcases get_set q1 with ⟨_, z⟩ | ⟨z, _⟩
        · cases z
          rw [List.getElem?_set_ne (fun z => hk z.symm)] at q2
          exact absurd q2 (hn k t hk e2 m2)
        · exact absurd rfl z
    · have e1' := e1
      rcases get_set e2 with ⟨rfl, rfl⟩ | ⟨hk, e2⟩
      · rcases get_set q2 with ⟨_, z⟩ | ⟨z, _⟩
        · cases z
          rw [List.getElem?_set_ne (fun z => hj z.symm)] at q1
          exact absurd q1 (hn j s hj e1' m1)
        · exact absurd rfl z
      · rw [List.getElem?_set_ne (fun z => hj z.symm)] at q1
        rw [List.getElem?_set_ne (fun z => hk z.symm)] at q2
        exact a.inj j k s t b e1 e2 m1 m2 q1 q2
theorem SlotOk.there {x : Option (Option V)} {sv : SV} {p : Addr} (h : SlotOk K B F H x sv) (m : Mine sv) (e : x = some (some (.ref p))) : ¬ Fre H p := by
  cases sv with
  | un => exact m.elim
  | d v => exact m.elim
  | exn a C dd fs => exact m.elim
  | own l =>
    obtain ⟨a, xs, e', h1, _⟩ := h
    rw [e] at e'
    cases e'
    exact fun z => z.lst h1 trivial
  | dic l =>
    obtain ⟨a, xs, e', h1, _⟩ := h
    rw [e] at e'
    cases e'
    exact fun z => z.lst h1 trivial
  | me a C fs =>
    obtain ⟨dx, xs, e', h1, _⟩ := h
    rw [e] at e'
    cases e'
    exact fun z => z.lst h1 trivial
/-- .. that H0 did not know, ahead of a step -/
theorem At.setNew {F0 H0 : Hp} (a0 : At K B env F0 σ H0) (s : Stp F0 F H0 H) {i : Nat} {p : Addr} {xs : List V} {l : List D} (hp : Fre H0 p) (h1 : H p = some (.lst xs)) (hf : F p = none) (r : RepA K F xs l) :
    At K B (env.set i (.own l)) F (σ.set i (some (.ref p))) H := by
  refine (a0.step s).setMine (sv := .own l) trivial ⟨p, xs, rfl, h1, r, hf, a0.st.hh.fr _ hp⟩ fun j t _ e m z => ?_
  exact (a0.sl j t e).there m z hp
/-- one's own list changes -/
theorem At.changeG (a : At K B env F σ H) {i : Nat} {p : Addr} {o : HO} {sv sw : SV} (e : env[i]? = some sv) (m : Mine sv) (es : σ[i]? = some (some (.ref p))) {u : HO} (hu : H p = some u) (mu : Mn u) (hf : F p = none) (hb : Fre B.H p) (ok : SlotOk K B F (upd H p o) (some (some (.ref p))) sw) :
    At K B (env.set i sw) F σ (upd H p o) := by
  have hi : i < σ.length := lt_of_get es
  have eσ : σ.set i (some (.ref p)) = σ := by
    apply List.ext_getElem?
    intro j
    by_cases hj : i = j
    · subst hj
      rw [set_get hi, es]
    · rw [List.getElem?_set_ne hj]
  have hne : ∀ (j : Nat) (t : SV), j ≠ i → env[j]? = some t → Mine t → σ[j]? ≠ some (some (.ref p)) := fun j t hj et mt z => hj (a.inj j i t sv p et e mt m z es)
  have st' : Stp B.F F B.H (upd H p o) := a.st.mut hb hf hu mu
  refine ⟨by rw [List.length_set]; exact a.len, st', fun j sv' e' => ?_, fun j k s t b e1 e2 m1 m2 q1 q2 => ?_⟩
  · rcases get_set e' with ⟨rfl, rfl⟩ | ⟨hj, e'⟩
    · rw [es]
      exact ok
    · have h := a.sl j sv' e'
      cases sv' with
      | un => trivial
      | d v => exact h
      | exn a C dd fs => exact h
      | own l' =>
        obtain ⟨b, ys, z, h1, h2, h3, h4⟩ := h
        refine ⟨b, ys, z, ?_, h2, h3, h4⟩
        rw [upd_ne (fun w => hne j _ hj e' trivial (by rw [z, w]))]
        exact h1
      | dic l' =>
        obtain ⟨b, ys, z, h1, h2, h3, h4⟩ := h
        refine ⟨b, ys, z, ?_, h2, h3, h4⟩
        rw [upd_ne (fun w => hne j _ hj e' trivial (by rw [z, w]))]
        exact h1
      | me b C fs =>
        obtain ⟨dx, ys, z, h1, h2, h3, h4⟩ := h
        refine ⟨dx, ys, z, ?_, h2, h3, h4⟩
        rw [upd_ne (fun w => hne j _ hj e' trivial (by rw [z, w]))]
        exact h1
  · have m1' : ∃ s', env[j]? = some s' ∧ Mine s' := by
      rcases get_set e1 with ⟨rfl, _⟩ | ⟨_, e1⟩
      · exact ⟨sv, e, m⟩
      · exact ⟨s, e1, m1⟩
    have m2' : ∃ s', env[k]? = some s' ∧ Mine s' := by
      rcases get_set e2 with ⟨rfl, _⟩ | ⟨_, e2⟩
      · exact ⟨sv, e, m⟩
      · exact ⟨t, e2, m2⟩
    obtain ⟨s', f1, n1⟩ := m1'
    obtain ⟨t', f2, n2⟩ := m2'
    exact a.inj j k s' t' b f1 f2 n1 n2 q1 q2
theorem At.change (a : At K B env F σ H) {i : Nat} {p : Addr} {xs : List V} {l : List D} {sv : SV} (e : env[i]? = some sv) (m : Mine sv) (es : σ[i]? = some (some (.ref p))) {u : HO} (hu : H p = some u) (mu : Mn u) (hf : F p = none) (hb : Fre B.H p) (r : RepA K F xs l) :
    At K B (env.set i (.own l)) F σ (upd H p (.lst xs)) := a.changeG e m es hu mu hf hb ⟨p, xs, rfl, upd_same, r, hf, hb⟩
/-- one's own object is frozen -/
theorem At.freezeG (a : At K B env F σ H) {i : Nat} {p : Addr} {o : HO} {sv : SV} {dd : D} (e : env[i]? = some sv) (m : Mine sv) (es : σ[i]? = some (some (.ref p))) (h1 : H p = some o) (hf : F p = none) (hb : Fre B.H p) (hn : NT o) (r : Rep K (upd F p o) (.ref p) dd) :
    At K B (env.set i (.d dd)) (upd F p o) σ H := by
  have hi : i < σ.length := lt_of_get es
  have sF : Same F (upd F p o) := same_new hf
  have hne : ∀ (j : Nat) (t : SV), j ≠ i → env[j]? = some t → Mine t → σ[j]? ≠ some (some (.ref p)) := fun j t hj et mt z => hj (a.inj j i t _ p et e mt m z es)
  refine ⟨by rw [List.length_set]; exact a.len, a.st.freeze hb hf h1 hn, fun j sv' e' => ?_, fun j k s t b e1 e2 m1 m2 q1 q2 => ?_⟩
  · rcases get_set e' with ⟨rfl, rfl⟩ | ⟨hj, e'⟩
    · exact ⟨.ref p, es, r⟩
    · have h := a.sl j sv' e'
      cases sv' with
      | un => trivial
      | d v =>
        obtain ⟨y, z, q⟩ := h
        exact ⟨y, z, q.mono sF⟩
      | exn a C dd fs =>
        obtain ⟨e2, xs2, g1, g2⟩ := h
        exact ⟨e2, xs2, sF _ _ g1, g2.mono sF⟩
      | own l' =>
        obtain ⟨b, ys, z, g1, g2, g3, g4⟩ := h
        refine ⟨b, ys, z, g1, g2.mono sF, ?_, g4⟩
        rw [upd_ne (fun w => hne j _ hj e' trivial (by rw [z, w]))]
        exact g3
      | dic l' =>
        obtain ⟨b, ys, z, g1, g2, g3, g4⟩ := h
        refine ⟨b, ys, z, g1, g2.mono sF, ?_, g4⟩
        rw [upd_ne (fun w => hne j _ hj e' trivial (by rw [z, w]))]
        exact g3
      | me b C fs =>
        obtain ⟨dx, ys, z, g1, g2, g3, g4⟩ := h
        refine ⟨dx, ys, z, g1, g2.mono sF, ?_, g4⟩
        rw [upd_ne (fun w => hne j _ hj e' trivial (by rw [z, w]))]
        exact g3
  · rcases get_set e1 with ⟨_, rfl⟩ | ⟨hj, e1⟩
    · exact m1.elim
    rcases get_set e2 with ⟨_, rfl⟩ | ⟨hk, e2⟩
    · exact m2.elim
    exact a.inj j k s t b e1 e2 m1 m2 q1 q2
/-- one's own list is frozen -/
theorem At.freeze (a : At K B env F σ H) {i : Nat} {p : Addr} {xs : List V} {l : List D} (e : env[i]? = some (.own l)) (es : σ[i]? = some (some (.ref p))) (h1 : H p = some (.lst xs)) (hf : F p = none) (hb : Fre B.H p) (r : RepA K F xs l) :
    At K B (env.set i (.d (.lst l))) (upd F p (.lst xs)) σ H := a.freezeG e trivial es h1 hf hb trivial (.lst upd_same (r.mono (same_new hf)))
/-- what no slot holds as its own is frozen -/
theorem At.frzAt (a : At K B env F σ H) {p : Addr} {o : HO} (h1 : H p = some o) (hf : F p = none) (hb : Fre B.H p) (hn : NT o) (hne : ∀ (j : Nat) (t : SV), env[j]? = some t → Mine t → σ[j]? ≠ some (some (.ref p))) :
    At K B env (upd F p o) σ H := by
  have sF : Same F (upd F p o) := same_new hf
  refine ⟨a.len, a.st.freeze hb hf h1 hn, fun j sv' e' => ?_, a.inj⟩
  have h := a.sl j sv' e'
  cases sv' with
  | un => trivial
  | d v =>
    obtain ⟨y, z, q⟩ := h
    exact ⟨y, z, q.mono sF⟩
  | exn a C dd fs =>
    obtain ⟨e2, xs2, g1, g2⟩ := h
    exact ⟨e2, xs2, sF _ _ g1, g2.mono sF⟩
  | own l' =>
    obtain ⟨b, ys, z, g1, g2, g3, g4⟩ := h
    refine ⟨b, ys, z, g1, g2.mono sF, ?_, g4⟩
    rw [upd_ne (fun w => hne j _ e' trivial (by rw [z, w]))]
    exact g3
  | dic l' =>
    obtain ⟨b, ys, z, g1, g2, g3, g4⟩ := h
    refine ⟨b, ys, z, g1, g2.mono sF, ?_, g4⟩
    rw [upd_ne (fun w => hne j _ e' trivial (by rw [z, w]))]
    exact g3
  | me b C fs =>
    obtain ⟨dx, ys, z, g1, g2, g3, g4⟩ := h
    refine ⟨dx, ys, z, g1, g2.mono sF, ?_, g4⟩
    rw [upd_ne (fun w => hne j _ e' trivial (by rw [z, w]))]
    exact g3
/-- one's own dict is locked for ever -/
theorem At.freezeD (a : At K B env F σ H) {i : Nat} {p : Addr} {xs : List (Str × V)} {l : List (Str × D)} {od : Obj} (e : env[i]? = some (.dic l)) (es : σ[i]? = some (some (.ref p))) (h1 : H p = some (.dK (keyed xs))) (hf : F p = none) (hb : Fre B.H p) (r : RepF K F xs l) :
    At K B (env.set i (.d (.dct l))) (upd F p (.frz od (.dK (keyed xs)))) σ (upd H p (.frz od (.dK (keyed xs)))) := by
  have a1 : At K B (env.set i .un) F σ (upd H p (.frz od (.dK (keyed xs)))) := a.changeG (sw := .un) e trivial es h1 trivial hf hb trivial
  have hi : i < σ.length := lt_of_get es
  have eσ : σ.set i (some (.ref p)) = σ := by
    apply List.ext_getElem?
    intro j
    by_cases hj : i = j
    · subst hj
      rw [set_get hi, es]
    · rw [List.getElem?_set_ne hj]
  have a2 := a1.frzAt (o := .frz od (.dK (keyed xs))) upd_same hf hb trivial fun j t et mt z => by
    rcases get_set et with ⟨_, rfl⟩ | ⟨hj, et⟩
    · exact mt
    · exact hj (a.inj j i t _ p et e mt trivial z es)
  have a3 := a2.set (i := i) (x := .ref p) (d := .dct l) (.dct upd_same (r.mono (same_new hf)))
  rw [eσ, List.set_set] at a3
  exact a3
end
end
end DL
/-! DL2: what a reading asks, over data: expressions, arguments, tests, statements, loops, calls. -/
namespace DL
open PySem L2

variable [Tbl]
/-- an error: its class, its fields -/
structure Er where
  C : Addr
  fs : List (Str × D)
abbrev ER := Er → Prop
abbrev WE := EV → ER → (D → Prop) → Prop
abbrev WT := EV → ER → (Bool → Prop) → Prop
abbrev WA := EV → ER → (List D → Prop) → Prop
abbrev WO := EV → ER → (List D → Prop) → Prop
structure DN where
  nx : EV → Prop
  rt : D → Prop
  bk : EV → Prop := fun _ => False
  ct : EV → Prop := fun _ => False
  er : ER := fun _ => False
abbrev WS := DN → EV → Prop
/-- a def's meaning -/
abbrev FS := List D → ER → (D → Prop) → Prop

def ErrRep (K : PySem.W.Frag) (F : Hp) (d : Option Addr) (fs : List (Str × D)) : Prop := match d with
  | none => fs = []
  | some d => ∃ xs, F d = some (.xd xs) ∧ RepF K F xs fs
def EL (K : PySem.W.Frag) (B : Ent) (E : XK) (er : ER) : Prop := ∀ (C : Addr) (d : Option Addr) (fs : List (Str × D)) (F' H' : Hp), Stp B.F F' B.H H' → ErrRep K F' d fs → er ⟨C, fs⟩ → E (.ref C) d H'
def VL (K : PySem.W.Frag) (F H : Hp) (Q : VK) (q : D → Prop) : Prop := ∀ (x : V) (d : D) (F' H' : Hp), Stp F F' H H' → Rep K F' x d → q d → Q x H'
section
variable (K : PySem.W.Frag) (E : XK)
def SimE (te : TE) (w : WE) : Prop := ∀ (B : Ent) (env : EV) (F : Hp) (σ : St) (H : Hp) (Q : VK) (er : ER) (q : D → Prop), At K B env F σ H → EL K B E er → w env er q → VL K F H Q q → te σ H Q
def SimT (tt : TT) (w : WT) : Prop := ∀ (B : Ent) (env : EV) (F : Hp) (σ : St) (H : Hp) (Q : Bool → Hp → Prop) (er : ER) (q : Bool → Prop), At K B env F σ H → EL K B E er → w env er q →
  (∀ (b : Bool) (F' H' : Hp), Stp F F' H H' → q b → Q b H') → tt σ H Q
def SimA (ta : TA) (w : WA) : Prop := ∀ (B : Ent) (env : EV) (F : Hp) (σ : St) (H : Hp) (Q : List V → Hp → Prop) (er : ER) (q : List D → Prop), At K B env F σ H → EL K B E er → w env er q →
  (∀ (xs : List V) (ds : List D) (F' H' : Hp), Stp F F' H H' → RepA K F' xs ds → q ds → Q xs H') → ta σ H Q
/-- a new list that nobody else holds -/
def SimO (te : TE) (w : WO) : Prop := ∀ (B : Ent) (env : EV) (F : Hp) (σ : St) (H : Hp) (Q : VK) (er : ER) (q : List D → Prop), At K B env F σ H → EL K B E er → w env er q →
  (∀ (a : Addr) (xs : List V) (l : List D) (F' H' : Hp), Stp F F' H H' → Fre H a → H' a = some (.lst xs) → F' a = none → RepA K F' xs l → q l → Q (.ref a) H') → te σ H Q
/-- a list that is looked at: its items -/
def SimL (te : TE) (w : WO) : Prop := ∀ (B : Ent) (env : EV) (F : Hp) (σ : St) (H : Hp) (Q : VK) (er : ER) (q : List D → Prop), At K B env F σ H → EL K B E er → w env er q →
  (∀ (a : Addr) (xs : List V) (l : List D) (F' H' : Hp), Stp F F' H H' → SqL K H' a xs → RepA K F' xs l → q l → Q (.ref a) H') → te σ H Q
structure Link (B : Ent) (Dd : Ends) (n : DN) : Prop where
  nx : ∀ (env : EV) (F : Hp) (σ : St) (H : Hp), At K B env F σ H → n.nx env → Dd.nx σ H
  rt : ∀ (x : V) (d : D) (F H : Hp), Stp B.F F B.H H → Rep K F x d → n.rt d → Dd.rt x H
  bk : ∀ (env : EV) (F : Hp) (σ : St) (H : Hp), At K B env F σ H → n.bk env → Dd.bk σ H
  ct : ∀ (env : EV) (F : Hp) (σ : St) (H : Hp), At K B env F σ H → n.ct env → Dd.ct σ H
  er : EL K B E n.er
def SimS (ts : TS) (w : WS) : Prop := ∀ (B : Ent) (Dd : Ends) (n : DN), Link K E B Dd n → ∀ (env : EV) (F : Hp) (σ : St) (H : Hp), At K B env F σ H → w n env → ts Dd σ H
end
/-- a two-place, a one-place operation, a call, on values -/
def Sim2 (K : PySem.W.Frag) (r : R2) (f : D → D → (D → Prop) → Prop) : Prop := ∀ (F H : Hp) (x y : V) (d e : D) (Q : VK) (q : D → Prop), Fz F H → Rep K F x d → Rep K F y e → f d e q → VL K F H Q q → r x y H Q
def Sim1 (K : PySem.W.Frag) (r : V → Hp → VK → Prop) (f : D → (D → Prop) → Prop) : Prop := ∀ (F H : Hp) (x : V) (d : D) (Q : VK) (q : D → Prop), Fz F H → Rep K F x d → f d q → VL K F H Q q → r x H Q
def SimC (K : PySem.W.Frag) (r : List V → Hp → VK → Prop) (f : List D → (D → Prop) → Prop) : Prop := ∀ (F H : Hp) (xs : List V) (ds : List D) (Q : VK) (q : D → Prop), Fz F H → RepA K F xs ds → f ds q → VL K F H Q q → r xs H Q
section
variable {K : PySem.W.Frag} {E : XK} {ta tb tc te : TE} {wa wb wc we : WE} {tt tu : TT} {wt wu : WT} {ts ts' : TS} {ws ws' : WS} {i j : Nat} {d : D} {v : V} {r : R2} {f2 : D → D → (D → Prop) → Prop}
theorem VL.here {F H : Hp} {Q : VK} {q : D → Prop} {x : V} {d : D} (h : VL K F H Q q) (e : Fz F H) (r : Rep K F x d) (z : q d) : Q x H := h x d F H (Stp.refl e) r z
theorem VL.step {F F' H H' : Hp} {Q : VK} {q : D → Prop} (h : VL K F H Q q) (s : Stp F F' H H') : VL K F' H' Q q := fun x d F2 H2 s2 => h x d F2 H2 (s.trans s2)

/-! ### expressions -/
def wVar (i : Nat) : WE := fun env _ q => match env[i]? with
  | some (.d d) => q d
  | _ => False
theorem sim_var : SimE K E (tVar i) (wVar i) := fun B env F σ H Q er q a _ w k => by
  unfold wVar at w
  split at w
  · rename_i d e
    obtain ⟨x, ex, r⟩ := a.var e
    exact ⟨x, ex, k.here a.fh r w⟩
  · exact w.elim
def wC (d : D) : WE := fun _ _ q => q d
theorem sim_int {i : Int} : SimE K E (tC (.int i)) (wC (.int i)) := fun B env F σ H Q er q a _ w k => k.here a.fh (.int i) w
theorem sim_bl {b : Bool} : SimE K E (tC (.bl b)) (wC (.bl b)) := fun B env F σ H Q er q a _ w k => k.here a.fh (.bl b) w
theorem sim_non : SimE K E (tC .non) (wC .non) := fun B env F σ H Q er q a _ w k => k.here a.fh .non w
theorem sim_str {x : Str} : SimE K E (tC (.str x)) (wC (.str x)) := fun B env F σ H Q er q a _ w k => k.here a.fh (.str x) w
theorem sim_ty {n : String} : SimE K E (tC (.ty n)) (wC (.ty n)) := fun B env F σ H Q er q a _ w k => k.here a.fh (.ty n) w
theorem sim_obj {p : Addr} : SimE K E (tC (.ref p)) (wC (.obj p)) := fun B env F σ H Q er q a _ w k => k.here a.fh (.obj p) w
/-- the term is another one's -/
theorem sim_is {w : WE} (h : SimE K E te w) {w' : WE} (e : ∀ env er q, w' env er q → w env er q) : SimE K E te w' := fun B env F σ H Q er q a l z k => h B env F σ H Q er q a l (e env er q z) k

def w2 (f : D → D → (D → Prop) → Prop) (wa wb : WE) : WE := fun env er q => wa env er fun x => wb env er fun y => f x y q
theorem sim_op (hr : Sim2 K r f2) (ha : SimE K E ta wa) (hb : SimE K E tb wb) : SimE K E (tOp r ta tb) (w2 f2 wa wb) := fun B env F σ H Q er q a l w k =>
  ha B env F σ H _ er _ a l w fun x d F1 H1 s1 r1 w1 =>
    hb B env F1 σ H1 _ er _ (a.step s1) l w1 fun y e F2 H2 s2 r2 w2 =>
      hr F2 H2 x y d e Q q s2.fh (r1.mono s2.ff) r2 w2 (k.step (s1.trans s2))
def w1 (f : D → (D → Prop) → Prop) (wa : WE) : WE := fun env er q => wa env er fun x => f x q
theorem sim_un {r : V → Hp → VK → Prop} {f : D → (D → Prop) → Prop} (hr : Sim1 K r f) (ha : SimE K E ta wa) : SimE K E (tUn r ta) (w1 f wa) := fun B env F σ H Q er q a l w k =>
  ha B env F σ H _ er _ a l w fun x d F1 H1 s1 r1 w1 => hr F1 H1 x d Q q s1.fh r1 w1 (k.step s1)
def wNil : WA := fun _ _ q => q []
def wCons (wa : WE) (wr : WA) : WA := fun env er q => wa env er fun x => wr env er fun r => q (x :: r)
theorem sim_nil : SimA K E tNil wNil := fun B env F σ H Q er q a _ w k => k [] [] F H (Stp.refl a.fh) .nil w
theorem sim_cons {tr : TA} {wr : WA} (ha : SimE K E ta wa) (hr : SimA K E tr wr) : SimA K E (tCons ta tr) (wCons wa wr) := fun B env F σ H Q er q a l w k =>
  ha B env F σ H _ er _ a l w fun x d F1 H1 s1 r1 w1 =>
    hr B env F1 σ H1 _ er _ (a.step s1) l w1 fun xs ds F2 H2 s2 r2 w2 => k _ _ F2 H2 (s1.trans s2) (.cons (r1.mono s2.ff) r2) w2
def wTup (wa : WA) : WE := fun env er q => wa env er fun l => l.length ≤ sizeLine ∧ q (.tup l)
theorem sim_tup {t : TA} {w : WA} (h : SimA K E t w) : SimE K E (tTup t) (wTup w) := fun B env F σ H Q er q a l w k =>
  h B env F σ H _ er _ a l w fun xs ds F1 H1 s1 r1 w1 => ⟨by rw [r1.len]; exact w1.1, fun p hp =>
    k _ _ _ _ (s1.trans (Stp.new s1.fh hp)) (.tup (.inl (.inl upd_same)) (r1.mono (same_new (s1.fh.free hp)))) w1.2⟩
def wLstO (wa : WA) : WO := fun env er q => wa env er fun l => l.length ≤ sizeLine ∧ q l
theorem sim_lstO {t : TA} {w : WA} (h : SimA K E t w) : SimO K E (tLst t) (wLstO w) := fun B env F σ H Q er q a l w k =>
  h B env F σ H _ er _ a l w fun xs ds F1 H1 s1 r1 w1 => ⟨by rw [r1.len]; exact w1.1, fun p hp =>
    k p xs ds F1 _ (s1.trans (Stp.fresh s1.fh hp)) (s1.hh.fr _ (.inl hp)) upd_same (s1.fh.free hp) r1 w1.2⟩
/-- a new list, frozen -/
def wFz (wo : WO) : WE := fun env er q => wo env er fun l => q (.lst l)
theorem sim_fz {w : WO} (h : SimO K E te w) : SimE K E te (wFz w) := fun B env F σ H Q er q a l w k =>
  h B env F σ H _ er _ a l w fun p xs ds F1 H1 s1 hp h1 hf r1 w1 => k _ _ _ _ (s1.freeze hp hf h1) (.lst upd_same (r1.mono (same_new hf))) w1
/-- a new list, looked at -/
theorem siml_O {w : WO} (h : SimO K E te w) : SimL K E te w := fun B env F σ H Q er q a l w k =>
  h B env F σ H _ er _ a l w fun p xs ds F1 H1 s1 hp h1 hf r1 w1 => k p xs ds F1 H1 s1 (SqL.of h1) r1 w1
def wLk (we : WE) : WO := fun env er q => we env er fun d => match d with
  | .lst l => q l
  | .scr ns => q (ns.map .int)
  | _ => False
theorem siml_E (h : SimE K E te we) : SimL K E te (wLk we) := fun B env F σ H Q er q a l w k =>
  h B env F σ H _ er _ a l w fun x d F1 H1 s1 r1 w1 => by
    cases r1 with
    | lst h1 h2 => exact k _ _ _ F1 H1 s1 (SqL.of (s1.fh _ _ h1)) h2 w1
    | scr h1 => exact k _ _ _ F1 H1 s1 (s1.fh.seq h1) (RepA.ints _) w1
    | _ => exact w1.elim
def wOwn (i : Nat) : WO := fun env _ q => match env[i]? with
  | some (.own l) => q l
  | _ => False
theorem siml_own : SimL K E (tVar i) (wOwn i) := fun B env F σ H Q er q a _ w k => by
  unfold wOwn at w
  split at w
  · rename_i l e
    obtain ⟨p, xs, ex, h1, r, h2, h3⟩ := a.sl i _ e
    exact ⟨.ref p, ex, k p xs l F H (Stp.refl a.fh) (SqL.of h1) r w⟩
  · exact w.elim
def wAnd (wa wb : WE) : WE := fun env er q => wa env er fun x => match x with
  | .bl true => wb env er q
  | .bl false => q (.bl false)
  | _ => False
theorem sim_andV (ha : SimE K E ta wa) (hb : SimE K E tb wb) : SimE K E (tAndV ta tb) (wAnd wa wb) := fun B env F σ H Q er q a l w k =>
  ha B env F σ H _ er _ a l w fun x d F1 H1 s1 r1 w1 => by
    cases r1 with
    | bl b =>
      refine ⟨b, rfl, ?_⟩
      cases b with
      | true => exact hb B env F1 σ H1 Q er q (a.step s1) l w1 (k.step s1)
      | false => exact k _ _ F1 H1 s1 (.bl false) w1
    | _ => exact w1.elim
def wOr (wa wb : WE) : WE := fun env er q => wa env er fun x => match x with
  | .bl true => q (.bl true)
  | .bl false => wb env er q
  | _ => False
theorem sim_orV (ha : SimE K E ta wa) (hb : SimE K E tb wb) : SimE K E (tOrV ta tb) (wOr wa wb) := fun B env F σ H Q er q a l w k =>
  ha B env F σ H _ er _ a l w fun x d F1 H1 s1 r1 w1 => by
    cases r1 with
    | bl b =>
      refine ⟨b, rfl, ?_⟩
      cases b with
      | true => exact k _ _ F1 H1 s1 (.bl true) w1
      | false => exact hb B env F1 σ H1 Q er q (a.step s1) l w1 (k.step s1)
    | _ => exact w1.elim
def wNot (wa : WE) : WE := fun env er q => wa env er fun x => match x with
  | .bl b => q (.bl (!b))
  | _ => False
theorem sim_notV (ha : SimE K E ta wa) : SimE K E (tNotV ta) (wNot wa) := fun B env F σ H Q er q a l w k =>
  ha B env F σ H _ er _ a l w fun x d F1 H1 s1 r1 w1 => by
    cases r1 with
    | bl b => exact ⟨b, rfl, k _ _ F1 H1 s1 (.bl (!b)) w1⟩
    | _ => exact w1.elim
/-- a truth as a test -/
def wB (wa : WE) : WT := fun env er q => wa env er fun x => match x with
  | .bl b => q b
  | _ => False
theorem simt_B (ha : SimE K E ta wa) : SimT K E (tB ta) (wB wa) := fun B env F σ H Q er q a l w k =>
  ha B env F σ H _ er _ a l w fun x d F1 H1 s1 r1 w1 => by
    cases r1 with
    | bl b => exact ⟨b, rfl, k b F1 H1 s1 w1⟩
    | _ => exact w1.elim
theorem simt_test (ha : SimE K E ta wa) : SimT K E (tTest ta) (wB wa) := fun B env F σ H Q er q a l w k =>
  ha B env F σ H _ er _ a l w fun x d F1 H1 s1 r1 w1 => by
    cases r1 with
    | bl b => exact ⟨b, rfl, k b F1 H1 s1 w1⟩
    | _ => exact w1.elim
def wYes : WT := fun _ _ q => q true
theorem simt_yes : SimT K E tYes wYes := fun B env F σ H Q er q a l w k => k true F H (Stp.refl a.fh) w
def wIf (wt : WT) (wa wb : WE) : WE := fun env er q => wt env er fun b => (b = true → wa env er q) ∧ (b = false → wb env er q)
theorem sim_if (ht : SimT K E tt wt) (ha : SimE K E ta wa) (hb : SimE K E tb wb) : SimE K E (tIf tt ta tb) (wIf wt wa wb) := fun B env F σ H Q er q a l w k =>
  ht B env F σ H _ er _ a l w fun b F1 H1 s1 w1 => by
    cases b with
    | true => exact ha B env F1 σ H1 Q er q (a.step s1) l (w1.1 rfl) (k.step s1)
    | false => exact hb B env F1 σ H1 Q er q (a.step s1) l (w1.2 rfl) (k.step s1)
/-- o.f -/
def wFld (f : Str) (wa : WE) : WE := fun env er q => wa env er fun x => match x with
  | .ins C fs => match fs.lookup f with
    | some d => q d
    | none => False
  | _ => False
theorem sim_fld {f : Str} (cl : ∀ C, Cls K C) (na : ∀ C, NoAttr K C f) (ha : SimE K E ta wa) : SimE K E (tFld K ta f) (wFld f wa) := fun B env F σ H Q er q a l w k =>
  ha B env F σ H _ er _ a l w fun x d F1 H1 s1 r1 w1 => by
    cases r1 with
    | @ins p C dx xs fs h1 h2 =>
      have w2 : (match fs.lookup f with | some d => q d | none => False) := w1
      cases e : fs.lookup f with
      | none =>
        rw [e] at w2
        exact w2.elim
      | some y =>
        rw [e] at w2
        obtain ⟨z, ez, rz⟩ := h2.lookup e
        exact ⟨p, C, dx, xs, z, rfl, s1.fh _ _ h1, cl C, na C, ez, k _ _ F1 H1 s1 rz w2⟩
    | _ => exact w1.elim
/-- the same where the class is known -/
def wFldC (C : Addr) (f : Str) (wa : WE) : WE := fun env er q => wa env er fun x => match x with
  | .ins C' fs => C' = C ∧ match fs.lookup f with
    | some d => q d
    | none => False
  | _ => False
theorem sim_fldC {f : Str} {C : Addr} (cl : Cls K C) (na : NoAttr K C f) (ha : SimE K E ta wa) : SimE K E (tFld K ta f) (wFldC C f wa) := fun B env F σ H Q er q a l w k =>
  ha B env F σ H _ er _ a l w fun x d F1 H1 s1 r1 w1 => by
    cases r1 with
    | @ins p C' dx xs fs h1 h2 =>
      obtain ⟨e1, w2⟩ := w1
      subst e1
      cases e : fs.lookup f with
      | none =>
        rw [e] at w2
        exact w2.elim
      | some y =>
        rw [e] at w2
        obtain ⟨z, ez, rz⟩ := h2.lookup e
        exact ⟨p, C', dx, xs, z, rfl, s1.fh _ _ h1, cl, na, ez, k _ _ F1 H1 s1 rz w2⟩
    | _ => exact w1.elim
/-- a built-in called -/
def wCB (f : List D → (D → Prop) → Prop) (wa : WA) : WE := fun env er q => wa env er fun ds => f ds q
theorem sim_cb {r : List V → Hp → VK → Prop} {f : List D → (D → Prop) → Prop} {t : TA} {w : WA} (hr : SimC K r f) (ha : SimA K E t w) : SimE K E (tCB r t) (wCB f w) := fun B env F σ H Q er q a l w k =>
  ha B env F σ H _ er _ a l w fun xs ds F1 H1 s1 r1 w1 => hr F1 H1 xs ds Q q s1.fh r1 w1 (k.step s1)
/-- a built-in called with a list that is looked at -/
def SimCL (K : PySem.W.Frag) (r : List V → Hp → VK → Prop) (f : List D → (D → Prop) → Prop) : Prop := ∀ (F H : Hp) (a : Addr) (xs : List V) (l : List D) (Q : VK) (q : D → Prop), Fz F H → SqL K H a xs → RepA K F xs l → f l q → VL K F H Q q → r [.ref a] H Q
def wCBL (f : List D → (D → Prop) → Prop) (wo : WO) : WE := fun env er q => wo env er fun l => f l q
theorem sim_cbl {r : List V → Hp → VK → Prop} {f : List D → (D → Prop) → Prop} {w : WO} (hr : SimCL K r f) (ha : SimL K E ta w) : SimE K E (tCB r (tCons ta tNil)) (wCBL f w) := fun B env F σ H Q er q a l w k =>
  ha B env F σ H _ er _ a l w fun p xs ds F1 H1 s1 h1 r1 w1 => hr F1 H1 p xs ds Q q s1.fh h1 r1 w1 (k.step s1)

/-! ### own defs called -/
def spOf (K : PySem.W.Frag) (n : Nat) (S : FS) : Sp := fun vs H Q E => ∃ (F : Hp) (ds : List D) (er : ER) (q : D → Prop), ds.length = n ∧ Fz F H ∧ RepA K F vs ds ∧ S ds er q ∧ VL K F H Q q ∧ EL K ⟨F, H⟩ E er
theorem spOf_len {n : Nat} {S : FS} {vs : List V} {H : Hp} {Q : VK} {E : XK} (h : spOf K n S vs H Q E) : vs.length = n := by
  obtain ⟨F, ds, er, q, hl, _, r, _⟩ := h
  rw [r.len, hl]
theorem EL.at {B : Ent} {env : EV} {F H : Hp} {σ : St} {er : ER} (l : EL K B E er) (a : At K B env F σ H) : EL K ⟨F, H⟩ E er := fun C d fs F' H' s r z => l C d fs F' H' (a.st.trans s) r z
theorem EL.no {B : Ent} : EL K B E (fun _ => False) := fun C d fs F' H' _ _ z => z.elim
def wCall (n : Nat) (S : FS) (dd : List D) (wa : WA) : WE := fun env er q => wa env er fun ds => (ds ++ dd).length = n ∧ S (ds ++ dd) er q
theorem sim_call {n : Nat} {S : FS} {dvs : List V} {dd : List D} {t : TA} {w : WA} (hd : ∀ F, RepA K F dvs dd) (ha : SimA K E t w) : SimE K E (tCall (spOf K n S) dvs E t) (wCall n S dd w) := fun B env F σ H Q er q a l w k =>
  ha B env F σ H _ er _ a l w fun xs ds F1 H1 s1 r1 w1 => ⟨F1, ds ++ dd, er, q, w1.1, s1.fh, r1.app (hd F1), w1.2, k.step s1, l.at (a.step s1)⟩
/-- .. that raises nothing -/
def wCall0 (n : Nat) (S : FS) (dd : List D) (wa : WA) : WE := fun env er q => wa env er fun ds => (ds ++ dd).length = n ∧ S (ds ++ dd) (fun _ => False) q
theorem sim_call0 {n : Nat} {S : FS} {dvs : List V} {dd : List D} {t : TA} {w : WA} {E1 : XK} (hd : ∀ F, RepA K F dvs dd) (ha : SimA K E t w) : SimE K E (tCall (spOf K n S) dvs E1 t) (wCall0 n S dd w) := fun B env F σ H Q er q a l w k =>
  ha B env F σ H _ er _ a l w fun xs ds F1 H1 s1 r1 w1 => ⟨F1, ds ++ dd, _, q, w1.1, s1.fh, r1.app (hd F1), w1.2, k.step s1, EL.no⟩
theorem rd0 : ∀ F, RepA K F [] [] := fun _ => .nil
/-- keywords: g puts the values in the parameters' order -/
def wCallN (n m p : Nat) (S : FS) (g : List D → List D → List D) (wa wk : WA) : WE := fun env er q => wa env er fun ds => wk env er fun zs => ds.length = n ∧ zs.length = m ∧ (g ds zs).length = p ∧ S (g ds zs) er q
theorem sim_callN {n m p : Nat} {S : FS} {gV : List V → List V → List V} {g : List D → List D → List D} {t tk : TA} {w wk : WA} (hg : ∀ F vs ds us zs, RepA K F vs ds → RepA K F us zs → RepA K F (gV vs us) (g ds zs)) (ha : SimA K E t w) (hk : SimA K E tk wk) :
    SimE K E (tCallN n m (spOf K p S) gV E t tk) (wCallN n m p S g w wk) := fun B env F σ H Q er q a l w k =>
  ha B env F σ H _ er _ a l w fun xs ds F1 H1 s1 r1 w1 => hk B env F1 σ H1 _ er _ (a.step s1) l w1 fun ys zs F2 H2 s2 r2 w2 =>
    ⟨by rw [r1.len]; exact w2.1, by rw [r2.len]; exact w2.2.1, F2, g ds zs, er, q, w2.2.2.1, s2.fh, hg F2 _ _ _ _ (RepA.mono s2.ff r1) r2, w2.2.2.2, k.step (s1.trans s2), l.at (a.step (s1.trans s2))⟩
/-- o.m(..) -/
def wMeth (C : Addr) (m : Str) (n : Nat) (S : FS) (dd : List D) (wa : WE) (wr : WA) : WE := fun env er q => wa env er fun o => match o with
  | .ins C' fs => C' = C ∧ fs.lookup m = none ∧ wr env er fun ds => (o :: (ds ++ dd)).length = n ∧ S (o :: (ds ++ dd)) er q
  | _ => False
theorem sim_meth {C : Addr} {m : Str} {n : Nat} {S : FS} {dvs : List V} {dd : List D} {t : TA} {w : WA} (hd : ∀ F, RepA K F dvs dd) (ho : SimE K E ta wa) (ha : SimA K E t w) : SimE K E (tMeth C m (spOf K n S) dvs E ta t) (wMeth C m n S dd wa w) := fun B env F σ H Q er q a l w k =>
  ho B env F σ H _ er _ a l w fun x d F1 H1 s1 r1 w1 => by
    cases r1 with
    | @ins p C' dx xs fs h1 h2 =>
      obtain ⟨e1, e2, w2⟩ := w1
      subst e1
      refine ⟨p, dx, xs, rfl, s1.fh _ _ h1, h2.none e2, ha B env F1 σ H1 _ er _ (a.step s1) l w2 fun ys ds F2 H2 s2 r2 w3 => ?_⟩
      exact ⟨F2, _, er, q, w3.1, s2.fh, .cons ((Rep.ins h1 h2).mono s2.ff) (r2.app (hd F2)), w3.2, k.step (s1.trans s2), l.at (a.step (s1.trans s2))⟩
    | _ => exact w1.elim

/-! ### statements -/
def sNext : WS := fun n env => n.nx env
theorem sims_next : SimS K E tNext sNext := fun B Dd n L env F σ H a w => L.nx env F σ H a w
def sSeq (w u : WS) : WS := fun n env => w { n with nx := u n } env
theorem sims_seq (h : SimS K E ts ws) (g : SimS K E ts' ws') : SimS K E (tSeq ts ts') (sSeq ws ws') := fun B Dd n L env F σ H a w =>
  h B { Dd with nx := ts' Dd } { n with nx := ws' n } ⟨fun env' F' σ' H' a' w' => g B Dd n L env' F' σ' H' a' w', L.rt, L.bk, L.ct, L.er⟩ env F σ H a w
def sBreak : WS := fun n env => n.bk env
theorem sims_break : SimS K E tBreak sBreak := fun B Dd n L env F σ H a w => L.bk env F σ H a w
def sCont : WS := fun n env => n.ct env
theorem sims_cont : SimS K E tCont sCont := fun B Dd n L env F σ H a w => L.ct env F σ H a w
def sNever : WS := fun _ _ => False
theorem sims_never : SimS K E tNever sNever := fun B Dd n L env F σ H a w => w.elim
def sDrop (we : WE) : WS := fun n env => we env n.er fun _ => n.nx env
theorem sims_drop (h : SimE K E te we) : SimS K E (tDrop te) (sDrop we) := fun B Dd n L env F σ H a w =>
  h B env F σ H _ n.er _ a L.er w fun x d F1 H1 s1 r1 w1 => L.nx env F1 σ H1 (a.step s1) w1
def sRet (we : WE) : WS := fun n env => we env n.er n.rt
theorem sims_ret (h : SimE K E te we) : SimS K E (tRet te) (sRet we) := fun B Dd n L env F σ H a w =>
  h B env F σ H _ n.er _ a L.er w fun x d F1 H1 s1 r1 w1 => L.rt x d F1 H1 (a.st.trans s1) r1 w1
def sRetN : WS := fun n _ => n.rt .non
theorem sims_retN : SimS K E tRetN sRetN := fun B Dd n L env F σ H a w => L.rt .non .non F H a.st .non w
/-- return found, one's own list -/
def sRetO (i : Nat) : WS := fun n env => match env[i]? with
  | some (.own l) => n.rt (.lst l)
  | _ => False
theorem sims_retO : SimS K E (tRet (tVar i)) (sRetO i) := fun B Dd n L env F σ H a w => by
  unfold sRetO at w
  split at w
  · rename_i l e
    obtain ⟨p, xs, ex, h1, r, h2, h3⟩ := a.sl i _ e
    refine ⟨.ref p, ex, ?_⟩
    exact L.rt _ _ _ H (a.freeze e ex h1 h2 h3 r).st (.lst upd_same (r.mono (same_new h2))) w
  · exact w.elim
def sIf (wt : WT) (w u : WS) : WS := fun n env => wt env n.er fun b => (b = true → w n env) ∧ (b = false → u n env)
theorem sims_if (ht : SimT K E tt wt) (h : SimS K E ts ws) (g : SimS K E ts' ws') : SimS K E (tIfS tt ts ts') (sIf wt ws ws') := fun B Dd n L env F σ H a w =>
  ht B env F σ H _ n.er _ a L.er w fun b F1 H1 s1 w1 => by
    cases b with
    | true => exact h B Dd n L env F1 σ H1 (a.step s1) (w1.1 rfl)
    | false => exact g B Dd n L env F1 σ H1 (a.step s1) (w1.2 rfl)
def sAsg (i : Nat) (we : WE) : WS := fun n env => we env n.er fun d => n.nx (env.set i (.d d))
theorem sims_asg (h : SimE K E te we) : SimS K E (tAsg te (gName i)) (sAsg i we) := fun B Dd n L env F σ H a w =>
  h B env F σ H _ n.er _ a L.er w fun x d F1 H1 s1 r1 w1 => L.nx _ F1 _ H1 ((a.step s1).set r1) w1
/-- found = [..] -/
def sAsgO (i : Nat) (wo : WO) : WS := fun n env => wo env n.er fun l => n.nx (env.set i (.own l))
theorem sims_asgO {w : WO} (h : SimO K E te w) : SimS K E (tAsg te (gName i)) (sAsgO i w) := fun B Dd n L env F σ H a w =>
  h B env F σ H _ n.er _ a L.er w fun p xs l F1 H1 s1 hp h1 hf r1 w1 => L.nx _ F1 _ H1 (a.setNew s1 hp h1 hf r1) w1
/-- a, b = .., .. -/
def sPar (i j : Nat) (wa wb : WE) : WS := fun n env => wa env n.er fun x => wb env n.er fun y => n.nx ((env.set i (.d x)).set j (.d y))
theorem sims_par (ha : SimE K E ta wa) (hb : SimE K E tb wb) : SimS K E (tPar i j (tCons ta (tCons tb tNil))) (sPar i j wa wb) := fun B Dd n L env F σ H a w =>
  ha B env F σ H _ n.er _ a L.er w fun x d F1 H1 s1 r1 w1 => hb B env F1 σ H1 _ n.er _ (a.step s1) L.er w1 fun y e F2 H2 s2 r2 w2 =>
    ⟨x, y, rfl, L.nx _ F2 _ H2 (((a.step (s1.trans s2)).set (r1.mono s2.ff)).set r2) w2⟩
/-- found, rest = [], .. -/
def sParO (i j : Nat) (wo : WO) (wb : WE) : WS := fun n env => wo env n.er fun l => wb env n.er fun y => n.nx ((env.set i (.own l)).set j (.d y))
theorem sims_parO {w : WO} (ha : SimO K E ta w) (hb : SimE K E tb wb) : SimS K E (tPar i j (tCons ta (tCons tb tNil))) (sParO i j w wb) := fun B Dd n L env F σ H a w =>
  ha B env F σ H _ n.er _ a L.er w fun p xs l F1 H1 s1 hp h1 hf r1 w1 => hb B env F1 σ H1 _ n.er _ (a.step s1) L.er w1 fun y e F2 H2 s2 r2 w2 =>
    ⟨.ref p, y, rfl, L.nx _ F2 _ H2 ((a.setNew (s1.trans s2) hp (s2.hh.get h1) (s2.nw p hf ⟨_, h1, trivial⟩) (RepA.mono s2.ff r1)).set r2) w2⟩
/-- found, lines = [], [] -/
def sParOO (i j : Nat) (wo wp : WO) : WS := fun n env => wo env n.er fun l => wp env n.er fun m => n.nx ((env.set i (.own l)).set j (.own m))
theorem sims_parOO {w wp : WO} (ha : SimO K E ta w) (hb : SimO K E tb wp) (hij : i ≠ j) : SimS K E (tPar i j (tCons ta (tCons tb tNil))) (sParOO i j w wp) := fun B Dd n L env F σ H a w =>
  ha B env F σ H _ n.er _ a L.er w fun p xs l F1 H1 s1 hp h1 hf r1 w1 => hb B env F1 σ H1 _ n.er _ (a.step s1) L.er w1 fun p2 ys m F2 H2 s2 hp2 h2 hf2 r2 w2 => by
    have g1 := s2.hh.get h1
    have f1 := s2.nw p hf ⟨_, h1, trivial⟩
    have a1 := a.setNew (i := i) (s1.trans s2) hp g1 f1 (RepA.mono s2.ff r1)
    have hne : p ≠ p2 := fun z => by
      rw [z] at h1
      exact hp2.lst h1 trivial
    refine ⟨.ref p, .ref p2, rfl, L.nx _ F2 _ H2 (a1.setMine (sv := .own m) trivial ⟨p2, ys, rfl, h2, r2, hf2, a.st.hh.fr _ (s1.hh.fr _ hp2)⟩ fun k t hk e mt z => ?_) w2⟩
    rcases get_set e with ⟨rfl, rfl⟩ | ⟨hki, e'⟩
    · rcases get_set z with ⟨_, z⟩ | ⟨z, _⟩
      · cases z
        exact hne rfl
      · exact z rfl
    · rw [List.getElem?_set_ne (fun y => hki y.symm)] at z
      exact (a.sl k t e').there mt z (s1.hh.fr _ hp2)
/-- x += e -/
def sAug (i : Nat) (f : Int → Int → Int) (we : WE) : WS := fun n env => match env[i]? with
  | some (.d (.int x)) => we env n.er fun y => match y with
    | .int z => n.nx (env.set i (.d (.int (f x z))))
    | _ => False
  | _ => False
theorem sims_aug {f : Int → Int → Int} (h : SimE K E te we) : SimS K E (tAug i te (ipI f)) (sAug i f we) := fun B Dd n L env F σ H a w => by
  unfold sAug at w
  split at w
  · rename_i x e
    obtain ⟨vx, ex, rx⟩ := a.var e
    cases rx
    refine ⟨_, ex, h B env F σ H _ n.er _ a L.er w fun y d F1 H1 s1 r1 w1 => ?_⟩
    cases r1 with
    | int z => exact ⟨x, z, rfl, rfl, L.nx _ F1 _ H1 ((a.step s1).set (.int (f x z))) w1⟩
    | _ => exact w1.elim
  · exact w.elim
/-- xs.append(e), one's own list -/
def sApp (i : Nat) (we : WE) : WS := fun n env => match env[i]? with
  | some (.own l) => we env n.er fun d => l.length < sizeLine ∧ n.nx (env.set i (.own (l ++ [d])))
  | _ => False
theorem sims_app (h : SimE K E te we) : SimS K E (tDrop (tBM K "list" rAppend (tVar i) (tCons te tNil))) (sApp i we) := fun B Dd n L env F σ H a w => by
  unfold sApp at w
  split at w
  · rename_i l e
    obtain ⟨p, xs, ex, h1, r, h2, h3⟩ := a.sl i _ e
    refine ⟨.ref p, ex, .inl ⟨rfl, xs, SqL.of h1⟩, h B env F σ H _ n.er _ a L.er w fun x d F1 H1 s1 r1 w1 => ?_⟩
    have g1 := s1.hh.get h1
    refine ⟨p, xs, x, rfl, rfl, g1, by rw [r.len]; exact w1.1, ?_⟩
    exact L.nx _ F1 _ _ ((a.step s1).change e trivial ex g1 trivial (s1.nw p h2 ⟨_, h1, trivial⟩) h3 ((RepA.mono s1.ff r).app (.one r1))) w1.2
  · exact w.elim
/-- from here on found is a list as any other -/
def sFrz (i : Nat) (w : WS) : WS := fun n env => match env[i]? with
  | some (.own l) => w n (env.set i (.d (.lst l)))
  | _ => False
theorem sims_frz (h : SimS K E ts ws) : SimS K E ts (sFrz i ws) := fun B Dd n L env F σ H a w => by
  unfold sFrz at w
  split at w
  · rename_i l e
    obtain ⟨p, xs, ex, h1, r, h2, h3⟩ := a.sl i _ e
    exact h B Dd n L _ _ σ H (a.freeze e ex h1 h2 h3 r) w
  · exact w.elim
/-- this way is never gone -/
theorem sims_no (h : SimS K E ts ws) (e : ∀ n env, ws' n env → ws n env) : SimS K E ts ws' := fun B Dd n L env F σ H a w => h B Dd n L env F σ H a (e n env w)

/-! ### the floor is raised -/
theorem Stp.up {F0 F1 F3 H0 H1 H3 : Hp} (s : Stp F1 F3 H0 H3) (s1 : Stp F0 F1 H0 H1) : Stp F0 F3 H0 H3 := ⟨s1.ff.trans s.ff, s.hh, s.fh, fun a h1 h2 => s.nw a (s1.nw a h1 h2) h2⟩
theorem Stp.dn {F0 F1 F3 H0 H1 H3 : Hp} (s : Stp F0 F3 H0 H3) (s1 : Stp F0 F1 H0 H1) (e : Same F1 F3) : Stp F1 F3 H0 H3 := ⟨e, s.hh, s.fh, fun a h1 h2 => s.nw a (s1.ff.free h1) h2⟩
theorem At.up {B : Ent} {env : EV} {F1 F3 H1 H3 : Hp} {σ : St} (a : At K ⟨F1, B.H⟩ env F3 σ H3) (s1 : Stp B.F F1 B.H H1) : At K B env F3 σ H3 := ⟨a.len, a.st.up s1, a.sl, a.inj⟩
theorem At.dn {B : Ent} {env : EV} {F1 F3 H1 H3 : Hp} {σ : St} (a : At K B env F3 σ H3) (s1 : Stp B.F F1 B.H H1) (e : Same F1 F3) : At K ⟨F1, B.H⟩ env F3 σ H3 := ⟨a.len, a.st.dn s1 e, a.sl, a.inj⟩

/-! ### loops -/
/-- over some items -/
def sLoop (body : WS) (g : D → EV → (EV → Prop) → Prop) (n : DN) : List D → EV → Prop
  | [], env => n.nx env
  | x :: r, env => g x env fun env1 => body { n with nx := sLoop body g n r, ct := sLoop body g n r, bk := n.nx } env1
/-- a target -/
def SimG (K : PySem.W.Frag) (js : List Nat) (tg : TG) (g : D → EV → (EV → Prop) → Prop) : Prop := ∀ (B : Ent) (env : EV) (F : Hp) (σ : St) (H : Hp) (x : V) (d : D) (Q : St → Hp → Prop) (q : EV → Prop), At K B env F σ H → Rep K F x d → g d env q →
  (∀ env' σ', At K B env' F σ' H → σ'.length = σ.length → (∀ i, i ∉ js → σ'[i]? = σ[i]?) → q env' → Q σ' H) → tg x σ H Q
def gVar (i : Nat) : D → EV → (EV → Prop) → Prop := fun d env q => q (env.set i (.d d))
theorem off1 {α : Type} {l : List α} {i k : Nat} {x : α} (h : k ∉ [i]) : (l.set i x)[k]? = l[k]? := List.getElem?_set_ne fun z => h (by simp [z])
theorem simg_name {i : Nat} : SimG K [i] (gName i) (gVar i) := fun B env F σ H x d Q q a r w k => k _ _ (a.set r) (by rw [List.length_set]) (fun _ h => off1 h) w
def gTwo (i j : Nat) : D → EV → (EV → Prop) → Prop := fun d env q => match d with
  | .tup [x, y] => q ((env.set i (.d x)).set j (.d y))
  | _ => False
theorem simg_two {i j : Nat} : SimG K [i, j] (gTup K 2 (gCons (gName i) (gCons (gName j) gNil))) (gTwo i j) := fun B env F σ H x d Q q a r w k => by
  unfold gTwo at w
  split at w
  · rename_i y z
    cases r with
    | tup h1 h2 =>
      cases h2 with
      | cons r1 h2 =>
        cases h2 with
        | cons r2 h2 =>
          cases h2
          refine ⟨_, _, rfl, same_t a.fh h1, rfl, _, _, rfl, _, _, rfl, rfl, k _ _ ((a.set r1).set r2) (by rw [List.length_set, List.length_set]) (fun n h => ?_) w⟩
          rw [off1 (fun z => h (by simp at z; simp [z])), off1 (fun z => h (by simp at z; simp [z]))]
  · exact w.elim
theorem drop_get {α : Type} {l : List α} {i : Nat} {x : α} (h : l[i]? = some x) : l.drop i = x :: l.drop (i + 1) := by
  have hi := lt_of_get h
  rw [List.drop_eq_getElem_cons hi]
  rw [List.getElem?_eq_getElem hi] at h
  rw [Option.some.inj h]
/-- an iterator over items that are known -/
def Wk (K : PySem.W.Frag) (J : It) (F0 : Hp) (ds : List D) : Prop := ∀ (i : Nat) (F H : Hp), Same F0 F → Fz F H → (∀ d, ds[i]? = some d → J.go i H ∧ ∀ x H', J.yld i H x H' → ∃ F', Stp F F' H H' ∧ Rep K F' x d) ∧ (i = ds.length → J.stop i H)
abbrev WI := EV → ER → (List D → Prop) → Prop
def SimI (K : PySem.W.Frag) (E : XK) (wi : TI) (w : WI) : Prop := ∀ (B : Ent) (env : EV) (F : Hp) (σ : St) (H : Hp) (R : It → Hp → Prop) (er : ER) (q : List D → Prop), At K B env F σ H → EL K B E er → w env er q →
  (∀ (J : It) (ds : List D) (F' H' : Hp), Stp F F' H H' → Wk K J F' ds → q ds → R J H') → wi σ H R
def sFor (wi : WI) (g : D → EV → (EV → Prop) → Prop) (body : WS) : WS := fun n env => wi env n.er fun l => sLoop body g n l env
theorem sims_for {wi : TI} {wl : WI} {js : List Nat} {tg : TG} {g : D → EV → (EV → Prop) → Prop} (hl : SimI K E wi wl) (hg : SimG K js tg g) (hb : SimS K E ts ws) : SimS K E (tFor wi tg ts) (sFor wl g ws) := fun B Dd n L env F σ H a w =>
  hl B env F σ H _ n.er _ a L.er w fun J l F1 H1 s1 wk w2 => by
    obtain ⟨P, hP⟩ : ∃ P : Nat → St → Hp → Prop, P = fun i σ' H' => ∃ env' F', At K B env' F' σ' H' ∧ Same F1 F' ∧ sLoop ws g n (l.drop i) env' := ⟨_, rfl⟩
    refine ⟨fun i m σ' H' => m = l.length - i ∧ i ≤ l.length ∧ P i σ' H', ⟨l.length, by simp, Nat.zero_le _, by rw [hP]; exact ⟨env, F1, a.step s1, Same.refl _, by rw [List.drop_zero]; exact w2⟩⟩, ?_⟩
    rintro i m σ' H' ⟨rfl, hi, h⟩
    rw [hP] at h
    obtain ⟨env', F', a', sf, wz⟩ := h
    obtain ⟨k1, k2⟩ := wk i F' H' sf a'.fh
    by_cases hlt : i < l.length
    · obtain ⟨dy, hd⟩ : ∃ dy, l[i]? = some dy := ⟨_, List.getElem?_eq_getElem hlt⟩
      obtain ⟨kg, ky⟩ := k1 dy hd
      refine .inr ⟨kg, P (i + 1), fun σ2 H2 p2 => ⟨l.length - (i + 1), by omega, rfl, hlt, p2⟩, fun y H2 hy => ?_⟩
      obtain ⟨F2, s2, ry⟩ := ky y H2 hy
      rw [drop_get hd] at wz
      have up : ∀ {env3 : EV} {F3 : Hp} {σ3 : St} {H3 : Hp}, At K ⟨F1, B.H⟩ env3 F3 σ3 H3 → At K B env3 F3 σ3 H3 := fun a3 => a3.up (a.step s1).st
      refine hg ⟨F1, B.H⟩ env' F2 σ' H2 y dy _ _ ((a'.step s2).dn (a.step s1).st (sf.trans s2.ff)) ry wz fun env2 σ2 a2 _ _ w3 => ?_
      exact hb ⟨F1, B.H⟩ { Dd with nx := P (i + 1), ct := P (i + 1), bk := Dd.nx } { n with nx := sLoop ws g n (l.drop (i + 1)), ct := sLoop ws g n (l.drop (i + 1)), bk := n.nx } ⟨fun env3 F3 σ3 H3 a3 w4 => by rw [hP]; exact ⟨env3, F3, up a3, a3.st.ff, w4⟩, fun x d F3 H3 s3 r3 w4 => L.rt x d F3 H3 (s3.up (a.step s1).st) r3 w4, fun env3 F3 σ3 H3 a3 w4 => L.nx _ _ _ _ (up a3) w4, fun env3 F3 σ3 H3 a3 w4 => by rw [hP]; exact ⟨env3, F3, up a3, a3.st.ff, w4⟩,
        fun C d fs F3 H3 s3 r3 w4 => L.er C d fs F3 H3 (s3.up (a.step s1).st) r3 w4⟩ env2 F2 σ2 H2 a2 w3
    · have e : i = l.length := by omega
      subst e
      rw [List.drop_length] at wz
      exact .inl ⟨k2 rfl, L.nx env' F' σ' H' a' wz⟩

/-! ### what is walked -/
def iSeq (we : WE) : WI := fun env er q => we env er fun d => match d with
  | .lst l => q l
  | .tup l => q l
  | .scr ns => q (ns.map .int)
  | .str x => q (x.cps.toList.map fun c => .str ⟨#[c]⟩)
  | _ => False
def iLst (we : WE) : WI := fun env er q => we env er fun d => match d with
  | .lst l => q l
  | .scr ns => q (ns.map .int)
  | _ => False
theorem wk_list {F0 : Hp} {a : Addr} {xs : List V} {ds : List D} (h : SqL K F0 a xs) (r : RepA K F0 xs ds) : Wk K (Itl K a) F0 ds := fun i F H sf fh => by
  have hH : SqL K H a xs := fh.seq (sf.seq h)
  refine ⟨fun d hd => ?_, fun e => ⟨xs, hH, by rw [r.len, e]; exact Nat.le_refl _⟩⟩
  obtain ⟨x, hx, rx⟩ := r.getD hd
  refine ⟨⟨xs, x, hH, hx⟩, fun y H' hy => ?_⟩
  obtain ⟨rfl, hy⟩ := hy
  have e := hy xs hH
  rw [hx] at e
  cases e
  exact ⟨F, Stp.refl fh, rx.mono sf⟩
theorem wk_tup {F0 : Hp} {a : Addr} {xs : List V} {ds : List D} (h : SqT K F0 a xs) (r : RepA K F0 xs ds) : Wk K (Itt K a) F0 ds := fun i F H sf fh => by
  have hH : SqT K H a xs := same_t fh (same_t sf h)
  refine ⟨fun d hd => ?_, fun e => ⟨xs, hH, by rw [r.len, e]; exact Nat.le_refl _⟩⟩
  obtain ⟨x, hx, rx⟩ := r.getD hd
  refine ⟨⟨xs, x, hH, hx⟩, fun y H' hy => ?_⟩
  obtain ⟨rfl, hy⟩ := hy
  have e := hy xs hH
  rw [hx] at e
  cases e
  exact ⟨F, Stp.refl fh, rx.mono sf⟩
theorem simi_list {tl : TE} {wl : WE} (h : SimE K E tl wl) : SimI K E (iList K tl) (iLst wl) := fun B env F σ H R er q a l w k =>
  h B env F σ H _ er _ a l w fun x d F1 H1 s1 r1 w1 => by
    cases r1 with
    | lst h1 h2 => exact ⟨_, rfl, ⟨_, SqL.of (s1.fh _ _ h1)⟩, k _ _ F1 H1 s1 (wk_list (SqL.of h1) h2) w1⟩
    | scr h1 => exact ⟨_, rfl, ⟨_, s1.fh.seq h1⟩, k _ _ F1 H1 s1 (wk_list h1 (RepA.ints _)) w1⟩
    | _ => exact w1.elim
def iTupW (we : WE) : WI := fun env er q => we env er fun d => match d with
  | .tup l => q l
  | _ => False
theorem simi_tup {tl : TE} {wl : WE} (h : SimE K E tl wl) : SimI K E (iTup K tl) (iTupW wl) := fun B env F σ H R er q a l w k =>
  h B env F σ H _ er _ a l w fun x d F1 H1 s1 r1 w1 => by
    cases r1 with
    | tup h1 h2 => exact ⟨_, rfl, ⟨_, same_t s1.fh h1⟩, k _ _ F1 H1 s1 (wk_tup h1 h2) w1⟩
    | _ => exact w1.elim
def rngD (lo : Int) (n : Nat) : List D := (List.range n).map fun i => .int (lo + (i : Nat))
theorem wk_rng {F0 : Hp} {lo : Int} {n : Nat} : Wk K (Itr lo n) F0 (rngD lo n) := fun i F H _ fh => by
  unfold rngD
  refine ⟨fun d hd => ?_, fun e => ?_⟩
  · have hi := lt_of_get hd
    rw [List.length_map, List.length_range] at hi
    rw [List.getElem?_map, List.getElem?_range hi] at hd
    cases hd
    refine ⟨hi, fun y H' hy => ?_⟩
    obtain ⟨rfl, rfl⟩ := hy
    exact ⟨F, Stp.refl fh, .int _⟩
  · rw [List.length_map, List.length_range] at e
    exact Nat.le_of_eq e.symm
def iRg1 (wa : WA) : WI := fun env er q => wa env er fun ds => match ds with
  | [.int n] => -(2 ^ 62) ≤ n ∧ n < 2 ^ 62 ∧ q (rngD 0 n.toNat)
  | _ => False
theorem simi_rng1 {ta : TA} {wa : WA} (h : SimA K E ta wa) : SimI K E (iRng1 ta) (iRg1 wa) := fun B env F σ H R er q a l w k =>
  h B env F σ H _ er _ a l w fun xs ds F1 H1 s1 r1 w1 => by
    split at w1
    · cases r1 with
      | cons r1 r2 =>
        cases r1
        cases r2
        exact ⟨_, rfl, w1.1, w1.2.1, k _ _ F1 H1 s1 wk_rng w1.2.2⟩
    · exact w1.elim
def iRg2 (wa : WA) : WI := fun env er q => wa env er fun ds => match ds with
  | [.int i, .int j] => (-(2 ^ 62) ≤ i ∧ i < 2 ^ 62 ∧ -(2 ^ 62) ≤ j ∧ j < 2 ^ 62) ∧ q (rngD i (j - i).toNat)
  | _ => False
theorem simi_rng2 {ta : TA} {wa : WA} (h : SimA K E ta wa) : SimI K E (iRng2 ta) (iRg2 wa) := fun B env F σ H R er q a l w k =>
  h B env F σ H _ er _ a l w fun xs ds F1 H1 s1 r1 w1 => by
    split at w1
    · cases r1 with
      | cons r1 r2 =>
        cases r1
        cases r2 with
        | cons r2 r3 =>
          cases r2
          cases r3
          exact ⟨_, _, rfl, w1.1, k _ _ F1 H1 s1 wk_rng w1.2⟩
    · exact w1.elim
def iSt (we : WE) : WI := fun env er q => we env er fun d => match d with
  | .str x => q (x.cps.toList.map fun c => .str ⟨#[c]⟩)
  | _ => False
theorem wk_str {F0 : Hp} {x : Str} : Wk K (Its x) F0 (x.cps.toList.map fun c => .str ⟨#[c]⟩) := fun i F H _ fh => by
  refine ⟨fun d hd => ?_, fun e => ?_⟩
  · have hi := lt_of_get hd
    rw [List.length_map, Array.length_toList] at hi
    rw [List.getElem?_map, Array.getElem?_toList] at hd
    refine ⟨hi, fun y H' hy => ?_⟩
    obtain ⟨rfl, c, hc, rfl⟩ := hy
    rw [hc] at hd
    cases hd
    exact ⟨F, Stp.refl fh, .str _⟩
  · rw [List.length_map, Array.length_toList] at e
    exact Nat.le_of_eq e.symm
theorem simi_str {tl : TE} {wl : WE} (h : SimE K E tl wl) : SimI K E (iStr tl) (iSt wl) := fun B env F σ H R er q a l w k =>
  h B env F σ H _ er _ a l w fun x d F1 H1 s1 r1 w1 => by
    cases r1 with
    | str x => exact ⟨x, rfl, k _ _ F1 H1 s1 wk_str w1⟩
    | _ => exact w1.elim

/-! ### while -/
def sIter (wt : WT) (body : WS) (n : DN) : Nat → EV → Prop
  | 0, _ => False
  | m + 1, env => wt env n.er fun b => (b = true → body { n with nx := sIter wt body n m, ct := sIter wt body n m, bk := n.nx } env) ∧ (b = false → n.nx env)
def sWhile (wt : WT) (body : WS) : WS := fun n env => ∃ m, sIter wt body n m env
theorem sims_while (ht : SimT K E tt wt) (hb : SimS K E ts ws) : SimS K E (tWhile tt ts) (sWhile wt ws) := fun B Dd n L env F σ H a w => by
  obtain ⟨P, hP⟩ : ∃ P : Nat → St → Hp → Prop, P = fun m σ' H' => ∃ env' F', At K B env' F' σ' H' ∧ sIter wt ws n m env' := ⟨_, rfl⟩
  obtain ⟨m0, w⟩ := w
  refine ⟨P, ⟨m0, by rw [hP]; exact ⟨env, F, a, w⟩⟩, fun m σ' H' h => ?_⟩
  rw [hP] at h
  obtain ⟨env', F', a', w'⟩ := h
  cases m with
  | zero => exact w'.elim
  | succ m =>
    refine ht B env' F' σ' H' _ n.er _ a' L.er w' fun b F2 H2 s2 w2 => ?_
    cases b with
    | true =>
      show (if true = true then _ else _)
      rw [if_pos rfl]
      refine ⟨P m, fun σ3 H3 h3 => ⟨m, Nat.lt_succ_self _, h3⟩, ?_⟩
      exact hb B { Dd with nx := P m, ct := P m, bk := Dd.nx } { n with nx := sIter wt ws n m, ct := sIter wt ws n m, bk := n.nx } ⟨fun env3 F3 σ3 H3 a3 w4 => by rw [hP]; exact ⟨env3, F3, a3, w4⟩, L.rt, L.nx, fun env3 F3 σ3 H3 a3 w4 => by rw [hP]; exact ⟨env3, F3, a3, w4⟩, L.er⟩ env' F2 σ' H2 (a'.step s2) (w2.1 rfl)
    | false =>
      show (if false = true then _ else _)
      rw [if_neg Bool.false_ne_true]
      exact L.nx env' F2 σ' H2 (a'.step s2) (w2.2 rfl)

/-! ### comprehensions -/
def wipeE (env : EV) : List Nat → EV
  | [] => env
  | v :: vs => (wipeE env vs).set v .un
theorem At.wipe {B : Ent} {env : EV} {F H : Hp} {σ : St} (a : At K B env F σ H) : ∀ vs : List Nat, At K B (wipeE env vs) F (wipe σ vs) H
  | [] => a
  | v :: vs => (At.wipe a vs).unset none
theorem wipe_get {σ : St} {i : Nat} : ∀ {vs : List Nat}, i ∉ vs → (wipe σ vs)[i]? = σ[i]?
  | [], _ => rfl
  | v :: vs, h => by
    unfold wipe
    rw [List.getElem?_set_ne (fun z => h (by simp [z])), wipe_get (fun z => h (by simp [z]))]
theorem wipe_in {σ : St} {i : Nat} : ∀ {vs : List Nat}, i ∈ vs → i < σ.length → (wipe σ vs)[i]? = some none
  | v :: vs, h, hl => by
    unfold wipe
    by_cases e : v = i
    · subst e
      rw [List.getElem?_set_self (by rw [wipe_length]; exact hl)]
    · rw [List.getElem?_set_ne e]
      refine wipe_in ?_ hl
      rcases List.mem_cons.mp h with z | z
      · exact absurd z.symm e
      · exact z
theorem wipe_eq {σ σ2 : St} {vs js : List Nat} (hj : ∀ j ∈ js, j ∈ vs) (hl : σ2.length = (wipe σ vs).length) (h : ∀ i, i ∉ js → σ2[i]? = (wipe σ vs)[i]?) : wipe σ2 vs = wipe σ vs := by
  have hl2 : σ2.length = σ.length := by rw [hl, wipe_length]
  apply List.ext_getElem?
  intro i
  by_cases hi : i ∈ vs
  · by_cases hlt : i < σ.length
    · rw [wipe_in hi (by rw [hl2]; exact hlt), wipe_in hi hlt]
    · rw [List.getElem?_eq_none (by rw [wipe_length, hl2]; omega), List.getElem?_eq_none (by rw [wipe_length]; omega)]
  · rw [wipe_get hi, h i (fun z => hi (hj i z))]
def wComp (g : D → EV → (EV → Prop) → Prop) (wt : WT) (we : WE) (ew : EV) (er : ER) (q : List D → Prop) : List D → List D → Prop
  | [], acc => q acc
  | x :: r, acc => g x ew fun env2 => wt env2 er fun b => (b = true → we env2 er fun y => acc.length < sizeLine ∧ wComp g wt we ew er q r (acc ++ [y])) ∧ (b = false → wComp g wt we ew er q r acc)
def wLc (wi : WI) (g : D → EV → (EV → Prop) → Prop) (wt : WT) (we : WE) (vs : List Nat) : WO := fun env er q => wi env er fun ds => wComp g wt we (wipeE env vs) er q ds []
theorem simo_lc {wi : TI} {wl : WI} {js vs : List Nat} {tg : TG} {g : D → EV → (EV → Prop) → Prop} (hl : SimI K E wi wl) (hg : SimG K js tg g) (ht : SimT K E tt wt) (he : SimE K E te we) (hj : ∀ j ∈ js, j ∈ vs) :
    SimO K E (tLc wi tg tt te vs) (wLc wl g wt we vs) := fun B env F σ H Q er q a l w k =>
  hl B env F σ H _ er _ a l w fun J ds F1 H1 s1 wk w2 => fun Dl hD => by
    have a1 := a.step s1
    have hDF : F1 Dl = none := s1.fh.free hD
    have hDH : Fre H Dl := s1.hh.fr _ (.inl hD)
    obtain ⟨P, hP⟩ : ∃ P : Nat → Hp → Prop, P = fun i H' => ∃ (F' : Hp) (acc : List D) (xs : List V), Stp F1 F' H1 H' ∧ H' Dl = some (.lst xs) ∧ F' Dl = none ∧ RepA K F' xs acc ∧ wComp g wt we (wipeE env vs) er q (ds.drop i) acc := ⟨_, rfl⟩
    refine ⟨fun i m H' => m = ds.length - i ∧ i ≤ ds.length ∧ P i H', ⟨ds.length, by simp, Nat.zero_le _, by rw [hP]; exact ⟨F1, [], [], Stp.fresh s1.fh hD, upd_same, hDF, .nil, by rw [List.drop_zero]; exact w2⟩⟩, ?_⟩
    rintro i m H' ⟨rfl, hi, h⟩
    rw [hP] at h
    obtain ⟨F', acc, xs, s', h1, h2, r, wz⟩ := h
    obtain ⟨k1, k2⟩ := wk i F' H' s'.ff s'.fh
    by_cases hlt : i < ds.length
    · obtain ⟨dy, hd⟩ : ∃ dy, ds[i]? = some dy := ⟨_, List.getElem?_eq_getElem hlt⟩
      obtain ⟨kg, ky⟩ := k1 dy hd
      refine .inr ⟨kg, P (i + 1), fun H2 p2 => ⟨ds.length - (i + 1), by omega, rfl, hlt, p2⟩, fun y H2 hy => ?_⟩
      obtain ⟨F2, s2, ry⟩ := ky y H2 hy
      rw [drop_get hd] at wz
      have aw : At K B (wipeE env vs) F2 (wipe σ vs) H2 := ((a1.step s').step s2).wipe vs
      refine hg B _ F2 _ H2 y dy _ _ aw ry wz fun env2 σ2 a2 len2 off w3 => ⟨wipe_eq hj len2 off, ?_⟩
      · refine ht B env2 F2 σ2 H2 _ er _ a2 l w3 fun b F3 H3 s3 w4 => ?_
        have d3 : H3 Dl = some (.lst xs) := s3.hh.get (s2.hh.get h1)
        have f3 : F3 Dl = none := s3.nw _ (s2.nw _ h2 ⟨_, h1, trivial⟩) ⟨_, s2.hh.get h1, trivial⟩
        cases b with
        | true =>
          show (if true = true then _ else _)
          rw [if_pos rfl]
          refine he B env2 F3 σ2 H3 _ er _ (a2.step s3) l (w4.1 rfl) fun z dz F4 H4 s4 r4 w5 => ?_
          have d4 : H4 Dl = some (.lst xs) := s4.hh.get d3
          have f4 : F4 Dl = none := s4.nw _ f3 ⟨_, d3, trivial⟩
          refine ⟨xs, d4, by rw [r.len]; exact w5.1, ?_⟩
          rw [hP]
          have st := ((s'.trans s2).trans s3).trans s4
          exact ⟨F4, acc ++ [dz], xs ++ [z], st.mut (.inl hD) f4 d4, upd_same, f4, (RepA.mono ((s2.trans s3).trans s4).ff r).app (.one r4), w5.2⟩
        | false =>
          show (if false = true then _ else _)
          rw [if_neg Bool.false_ne_true, hP]
          exact ⟨F3, acc, xs, (s'.trans s2).trans s3, d3, f3, RepA.mono (s2.trans s3).ff r, w4.2 rfl⟩
    · have e : i = ds.length := by omega
      subst e
      rw [List.drop_length] at wz
      exact .inl ⟨k2 rfl, k Dl xs acc F' H' (s1.trans s') hDH h1 h2 r wz⟩
end
end DL
/-! DL3: operators, subscripts, built-ins over data; a def's promise. -/
namespace DL
open PySem L2
variable [Tbl]
section
variable {K : PySem.W.Frag} {E : XK} {ta tb tc te : TE} {wa wb wc we : WE} {X : Cx}

/-! ### + - * // % ** -/
def rAddD (K : PySem.W.Frag) : R2 := fun x y H Q => (rI0 (fun i j => .int (i + j))) x y H Q ∨ (∃ i j, x = .str i ∧ y = .str j ∧ i.length + j.length ≤ sizeLine ∧ Q (.str (i ++ j)) H) ∨ rCat x y H Q ∨ rCatA K x y H Q
theorem op_addD : OpR X (binaryOp .Add) (rAddD X.K) := OpR.or op_add (OpR.or op_add_str (OpR.or op_cat op_catA))
def dAdd : D → D → (D → Prop) → Prop
  | .int i, .int j, q => q (.int (i + j))
  | .str s, .str t, q => s.length + t.length ≤ sizeLine ∧ q (.str (s ++ t))
  | .lst a, .lst b, q => a.length + b.length ≤ sizeLine ∧ q (.lst (a ++ b))
  | .tup a, .tup b, q => a.length + b.length ≤ sizeLine ∧ q (.tup (a ++ b))
  | _, _, _ => False
theorem sim_add : Sim2 K (rAddD K) dAdd := fun F H x y d e Q q s r1 r2 w k => by
  cases r1 with
  | int i =>
    cases r2 with
    | int j => exact .inl ⟨i, j, rfl, rfl, k.here s (.int _) w⟩
    | _ => exact w.elim
  | str i =>
    cases r2 with
    | str j => exact .inr (.inl ⟨i, j, rfl, rfl, w.1, k.here s (.str _) w.2⟩)
    | _ => exact w.elim
  | lst h1 a1 =>
    cases r2 with
    | lst h2 a2 =>
      exact .inr (.inr (.inl ⟨_, _, _, _, rfl, rfl, s _ _ h1, s _ _ h2, by rw [a1.len, a2.len]; exact w.1, fun p hp =>
        k _ _ _ _ (Stp.new s hp) (.lst upd_same ((a1.app a2).mono (same_new (s.free hp)))) w.2⟩))
    | _ => exact w.elim
  | @tup a1 xs1 l1 h1 a1' =>
    cases r2 with
    | @tup a2 xs2 l2 h2 a2' =>
      refine .inr (.inr (.inr ⟨_, _, _, _, rfl, rfl, same_t s h1, same_t s h2, by rw [a1'.len, a2'.len]; exact w.1, fun e => ?_, fun _ e => ?_, fun _ _ p hp => ?_⟩))
      · subst e
        cases a1'
        exact k.here s (.tup h2 a2') w.2
      · subst e
        cases a2'
        have w2 := w.2
        rw [List.append_nil] at w2
        exact k.here s (.tup h1 a1') w2
      · exact k _ _ _ _ (Stp.new s hp) (.tup (.inl (.inl upd_same)) ((a1'.app a2').mono (same_new (s.free hp)))) w.2
    | _ => exact w.elim
  | _ => exact w.elim
abbrev rSubD : R2 := rI0 fun i j => .int (i - j)
def dSub : D → D → (D → Prop) → Prop
  | .int i, .int j, q => q (.int (i - j))
  | _, _, _ => False
theorem op_subD : OpR X (binaryOp .Sub) rSubD := op_sub
theorem sim_sub : Sim2 K rSubD dSub := fun F H x y d e Q q s r1 r2 w k => by
  cases r1 with
  | int i =>
    cases r2 with
    | int j => exact ⟨i, j, rfl, rfl, k.here s (.int _) w⟩
    | _ => exact w.elim
  | _ => exact w.elim
def rMulD : R2 := fun x y H Q => (rI CMul fun i j => .int (i * j)) x y H Q ∨ (rI CMulW fun i j => .int (i * j)) x y H Q ∨ rRep x y H Q
theorem op_mulD : OpR X (binaryOp .Mult) rMulD := OpR.or op_mul (OpR.or op_mulW op_rep)
def dMul : D → D → (D → Prop) → Prop
  | .int i, .int j, q => (CMul i j ∨ CMulW i j) ∧ q (.int (i * j))
  | .lst l, .int k, q => (-(2 ^ 63) ≤ k ∧ k < 2 ^ 63 ∧ l.length * k.toNat ≤ sizeLine) ∧ q (.lst (List.replicate k.toNat l).flatten)
  | _, _, _ => False
theorem RepA.rep {F : Hp} {v : List V} {d : List D} (h : RepA K F v d) : ∀ n : Nat, RepA K F (List.replicate n v).flatten (List.replicate n d).flatten
  | 0 => .nil
  | n + 1 => by
    rw [List.replicate_succ, List.flatten_cons, List.replicate_succ, List.flatten_cons]
    exact h.app (RepA.rep h n)
theorem sim_mul : Sim2 K rMulD dMul := fun F H x y d e Q q s r1 r2 w k => by
  cases r1 with
  | int i =>
    cases r2 with
    | int j =>
      rcases w.1 with c | c
      · exact .inl ⟨i, j, rfl, rfl, c, k.here s (.int _) w.2⟩
      · exact .inr (.inl ⟨i, j, rfl, rfl, c, k.here s (.int _) w.2⟩)
    | _ => exact w.elim
  | lst h1 a1 =>
    cases r2 with
    | int j =>
      exact .inr (.inr ⟨_, j, _, rfl, rfl, s _ _ h1, w.1.1, w.1.2.1, by rw [a1.len]; exact w.1.2.2, fun p hp => k _ _ _ _ (Stp.new s hp) (.lst upd_same ((a1.rep _).mono (same_new (s.free hp)))) w.2⟩)
    | _ => exact w.elim
  | _ => exact w.elim
abbrev rDivD : R2 := rI CDivW fun i j => .int (i / j)
def dDiv : D → D → (D → Prop) → Prop
  | .int i, .int j, q => CDivW i j ∧ q (.int (i / j))
  | _, _, _ => False
theorem op_divD : OpR X (binaryOp .FloorDiv) rDivD := op_fdivW
theorem sim_div : Sim2 K rDivD dDiv := fun F H x y d e Q q s r1 r2 w k => by
  cases r1 with
  | int i =>
    cases r2 with
    | int j => exact ⟨i, j, rfl, rfl, w.1, k.here s (.int _) w.2⟩
    | _ => exact w.elim
  | _ => exact w.elim
abbrev rModD : R2 := rI (fun _ j => 0 < j) fun i j => .int (i % j)
def dMod : D → D → (D → Prop) → Prop
  | .int i, .int j, q => 0 < j ∧ q (.int (i % j))
  | _, _, _ => False
theorem op_modD : OpR X (binaryOp .Mod) rModD := op_mod
theorem sim_mod : Sim2 K rModD dMod := fun F H x y d e Q q s r1 r2 w k => by
  cases r1 with
  | int i =>
    cases r2 with
    | int j => exact ⟨i, j, rfl, rfl, w.1, k.here s (.int _) w.2⟩
    | _ => exact w.elim
  | _ => exact w.elim
abbrev rPowD : R2 := rI CPow fun i j => .int (i ^ j.toNat)
def dPow : D → D → (D → Prop) → Prop
  | .int i, .int j, q => CPow i j ∧ q (.int (i ^ j.toNat))
  | _, _, _ => False
theorem op_powD : OpR X (binaryOp .Pow) rPowD := op_pow
theorem sim_pow : Sim2 K rPowD dPow := fun F H x y d e Q q s r1 r2 w k => by
  cases r1 with
  | int i =>
    cases r2 with
    | int j => exact ⟨i, j, rfl, rfl, w.1, k.here s (.int _) w.2⟩
    | _ => exact w.elim
  | _ => exact w.elim
abbrev rNegD : V → Hp → VK → Prop := rU fun i => .int (-i)
def dNeg : D → (D → Prop) → Prop
  | .int i, q => q (.int (-i))
  | _, _ => False
theorem un_negD : UnR X (unaryOp .USub) rNegD := un_neg
theorem sim_neg : Sim1 K rNegD dNeg := fun F H x d Q q s r w k => by
  cases r with
  | int i => exact ⟨i, rfl, k.here s (.int _) w⟩
  | _ => exact w.elim

/-! ### comparisons -/
def rLtD : R2 := fun x y H Q => (rI0 fun i j => .bl (decide (i < j))) x y H Q ∨ (∃ i j, x = .str i ∧ y = .str j ∧ Q (.bl (decide (i.cps.toList < j.cps.toList))) H)
theorem op_ltD : OpR X (compareOp .Lt) rLtD := OpR.or op_lt op_lt_str
def dLt : D → D → (D → Prop) → Prop
  | .int i, .int j, q => q (.bl (decide (i < j)))
  | .str i, .str j, q => q (.bl (decide (i.cps.toList < j.cps.toList)))
  | _, _, _ => False
theorem sim_lt : Sim2 K rLtD dLt := fun F H x y d e Q q s r1 r2 w k => by
  cases r1 with
  | int i =>
    cases r2 with
    | int j => exact .inl ⟨i, j, rfl, rfl, k.here s (.bl _) w⟩
    | _ => exact w.elim
  | str i =>
    cases r2 with
    | str j => exact .inr ⟨i, j, rfl, rfl, k.here s (.bl _) w⟩
    | _ => exact w.elim
  | _ => exact w.elim
def rLeD : R2 := fun x y H Q => (rI0 fun i j => .bl (decide (i ≤ j))) x y H Q ∨ (∃ i j, x = .str i ∧ y = .str j ∧ Q (.bl (!decide (j.cps.toList < i.cps.toList))) H)
theorem op_leD : OpR X (compareOp .LtE) rLeD := OpR.or op_le op_le_str
def dLe : D → D → (D → Prop) → Prop
  | .int i, .int j, q => q (.bl (decide (i ≤ j)))
  | .str i, .str j, q => q (.bl (!decide (j.cps.toList < i.cps.toList)))
  | _, _, _ => False
theorem sim_le : Sim2 K rLeD dLe := fun F H x y d e Q q s r1 r2 w k => by
  cases r1 with
  | int i =>
    cases r2 with
    | int j => exact .inl ⟨i, j, rfl, rfl, k.here s (.bl _) w⟩
    | _ => exact w.elim
  | str i =>
    cases r2 with
    | str j => exact .inr ⟨i, j, rfl, rfl, k.here s (.bl _) w⟩
    | _ => exact w.elim
  | _ => exact w.elim
abbrev rGtD : R2 := rI0 fun i j => .bl (decide (j < i))
theorem op_gtD : OpR X (compareOp .Gt) rGtD := op_gt
def dGt : D → D → (D → Prop) → Prop
  | .int i, .int j, q => q (.bl (decide (j < i)))
  | _, _, _ => False
theorem sim_gt : Sim2 K rGtD dGt := fun F H x y d e Q q s r1 r2 w k => by
  cases r1 with
  | int i =>
    cases r2 with
    | int j => exact ⟨i, j, rfl, rfl, k.here s (.bl _) w⟩
    | _ => exact w.elim
  | _ => exact w.elim
abbrev rGeD : R2 := rI0 fun i j => .bl (decide (j ≤ i))
theorem op_geD : OpR X (compareOp .GtE) rGeD := op_ge
def dGe : D → D → (D → Prop) → Prop
  | .int i, .int j, q => q (.bl (decide (j ≤ i)))
  | _, _, _ => False
theorem sim_ge : Sim2 K rGeD dGe := fun F H x y d e Q q s r1 r2 w k => by
  cases r1 with
  | int i =>
    cases r2 with
    | int j => exact ⟨i, j, rfl, rfl, k.here s (.bl _) w⟩
    | _ => exact w.elim
  | _ => exact w.elim
def isNon : D → Bool
  | .non => true
  | _ => false
abbrev rIsND : R2 := fun x y H Q => y = .non ∧ Q (.bl (decide (x = .non))) H
def dIsN : D → D → (D → Prop) → Prop := fun d e q => match e with
  | .non => q (.bl (isNon d))
  | _ => False
theorem op_isND : OpR X (compareOp .Is) rIsND := op_isN
theorem isNon_rep {F : Hp} {x : V} {d : D} (r : Rep K F x d) : decide (x = V.non) = isNon d := by
  cases r <;> first | rfl | exact decide_eq_false (fun z => nomatch z)
theorem sim_isN : Sim2 K rIsND dIsN := fun F H x y d e Q q s r1 r2 w k => by
  cases r2 with
  | non =>
    refine ⟨rfl, ?_⟩
    rw [isNon_rep r1]
    exact k.here s (.bl _) w
  | _ => exact w.elim
abbrev rNotND : R2 := fun x y H Q => y = .non ∧ Q (.bl (!decide (x = .non))) H
def dNotN : D → D → (D → Prop) → Prop := fun d e q => match e with
  | .non => q (.bl (!isNon d))
  | _ => False
theorem op_notND : OpR X (compareOp .IsNot) rNotND := op_notN
theorem sim_notN : Sim2 K rNotND dNotN := fun F H x y d e Q q s r1 r2 w k => by
  cases r2 with
  | non =>
    refine ⟨rfl, ?_⟩
    rw [isNon_rep r1]
    exact k.here s (.bl _) w
  | _ => exact w.elim

/-! ### == of data -/
mutual
def pd : D → Option PyData
  | .non => some .none
  | .bl b => some (.bool b)
  | .int i => some (.int i)
  | .str x => some (.str x)
  | .tup l => (pdA l).map .tuple
  | .lst l => (pdA l).map .list
  | _ => none
def pdA : List D → Option (List PyData)
  | [] => some []
  | d :: r => match pd d, pdA r with
    | some p, some ps => some (p :: ps)
    | _, _ => none
end
mutual
theorem dp_of {F H : Hp} (s : Same F H) : ∀ {x : V} {d : D} {p : PyData}, Rep K F x d → pd d = some p → Dp K H x p
  | _, _, _, .non, e => by
    cases e
    exact .non
  | _, _, _, .bl b, e => by
    cases e
    exact .bl b
  | _, _, _, .int i, e => by
    cases e
    exact .int i
  | _, _, _, .str z, e => by
    cases e
    exact .str z
  | _, _, _, .ty n, e => by cases e
  | _, _, _, .tup (l := l) h r, e => by
    unfold pd at e
    cases h2 : pdA l with
    | none =>
      rw [h2] at e
      cases e
    | some ps =>
      rw [h2] at e
      cases e
      exact .tup (same_t s h) (dpA_of s r h2)
  | _, _, _, .lst (l := l) h r, e => by
    unfold pd at e
    cases h2 : pdA l with
    | none =>
      rw [h2] at e
      cases e
    | some ps =>
      rw [h2] at e
      cases e
      exact .lst (SqL.of (s _ _ h)) (dpA_of s r h2)
  | _, _, _, .ins _ _, e => by cases e
  | _, _, _, .dct _ _, e => by cases e
  | _, _, _, .tux _ _ _, e => by cases e
  | _, _, _, .exc _ _ _, e => by cases e
  | _, _, _, .obj _, e => by cases e
  | _, _, _, .scr _, e => by cases e
  | _, _, _, .bag _, e => by cases e
theorem dpA_of {F H : Hp} (s : Same F H) : ∀ {xs : List V} {l : List D} {ps : List PyData}, RepA K F xs l → pdA l = some ps → DpAll K H xs ps
  | _, _, _, .nil, e => by
    cases e
    exact .nil
  | _, _, _, .cons (d := d) (ds := ds) h r, e => by
    unfold pdA at e
    cases h1 : pd d with
    | none =>
      rw [h1] at e
      cases e
    | some p =>
      cases h2 : pdA ds with
      | none =>
        rw [h1, h2] at e
        cases e
      | some ps =>
        rw [h1, h2] at e
        cases e
        exact .cons (dp_of s h h1) (dpA_of s r h2)
end
def okD (d : D) : Prop := match pd d with
  | some p => SeqAt.shaped p = true
  | none => False
def eqD (d e : D) : Bool := match pd d, pd e with
  | some p, some q => PyData.eqv p q
  | _, _ => false
def dEq : D → D → (D → Prop) → Prop := fun d e q => okD d ∧ okD e ∧ q (.bl (eqD d e))
def dNe : D → D → (D → Prop) → Prop := fun d e q => okD d ∧ okD e ∧ q (.bl (!eqD d e))
theorem sim_eq : Sim2 K (rEqD K) dEq := fun F H x y d e Q q s r1 r2 w k => by
  obtain ⟨w1, w2, w3⟩ := w
  unfold okD at w1 w2
  unfold eqD at w3
  cases h1 : pd d with
  | none =>
    rw [h1] at w1
    exact w1.elim
  | some p =>
    cases h2 : pd e with
    | none =>
      rw [h2] at w2
      exact w2.elim
    | some p' =>
      rw [h1] at w1 w3
      rw [h2] at w2 w3
      exact ⟨p, p', dp_of s r1 h1, dp_of s r2 h2, w1, w2, k.here s (.bl _) w3⟩
theorem sim_ne : Sim2 K (rNeD K) dNe := fun F H x y d e Q q s r1 r2 w k => by
  obtain ⟨w1, w2, w3⟩ := w
  unfold okD at w1 w2
  unfold eqD at w3
  cases h1 : pd d with
  | none =>
    rw [h1] at w1
    exact w1.elim
  | some p =>
    cases h2 : pd e with
    | none =>
      rw [h2] at w2
      exact w2.elim
    | some p' =>
      rw [h1] at w1 w3
      rw [h2] at w2 w3
      exact ⟨p, p', dp_of s r1 h1, dp_of s r2 h2, w1, w2, k.here s (.bl _) w3⟩

/-! ### subscripts, slices -/
def atD {α : Type} (xs : List α) (i : Int) : Option α := (ixN xs.length i).bind fun j => xs[j]?
theorem at_rep {F : Hp} {xs : List V} {l : List D} {i : Int} {d : D} (r : RepA K F xs l) (h : atD l i = some d) : ∃ x, atI xs i = some x ∧ Rep K F x d := by
  unfold atD at h
  unfold atI
  rw [r.len]
  cases e : ixN l.length i with
  | none =>
    rw [e] at h
    cases h
  | some j =>
    rw [e] at h
    exact r.getD h
def dIx : D → D → (D → Prop) → Prop
  | .lst l, .int i, q => match atD l i with
    | some d => q d
    | none => False
  | .tup l, .int i, q => match atD l i with
    | some d => q d
    | none => False
  | .scr l, .int i, q => match atD l i with
    | some d => q (.int d)
    | none => False
  | .str x, .int i, q => x.length ≤ sizeLine ∧ match atD x.cps.toList i with
    | some c => q (.str ⟨#[c]⟩)
    | none => False
  | _, _, _ => False
theorem sim_ix : Sim2 K (rIx K) dIx := fun F H x y d e Q q s r1 r2 w k => by
  cases r2 with
  | int i =>
    cases r1 with
    | @lst a xs l h1 a1 =>
      have w : (match atD l i with | some d => q d | none => False) := w
      cases e : atD l i with
      | none =>
        rw [e] at w
        exact w.elim
      | some d =>
        rw [e] at w
        obtain ⟨z, ez, rz⟩ := at_rep a1 e
        exact .inl ⟨a, xs, i, z, rfl, rfl, SqL.of (s _ _ h1), ez, k.here s rz w⟩
    | @tup a xs l h1 a1 =>
      have w : (match atD l i with | some d => q d | none => False) := w
      cases e : atD l i with
      | none =>
        rw [e] at w
        exact w.elim
      | some d =>
        rw [e] at w
        obtain ⟨z, ez, rz⟩ := at_rep a1 e
        exact .inr (.inl ⟨a, xs, i, z, rfl, rfl, same_t s h1, ez, k.here s rz w⟩)
    | @scr a l h1 =>
      have w : (match atD l i with | some d => q (.int d) | none => False) := w
      cases e : atD l i with
      | none =>
        rw [e] at w
        exact w.elim
      | some d =>
        rw [e] at w
        refine .inl ⟨a, _, i, .int d, rfl, rfl, s.seq h1, ?_, k.here s (.int d) w⟩
        unfold atI
        unfold atD at e
        rw [List.length_map]
        cases e2 : ixN l.length i with
        | none =>
          rw [e2] at e
          cases e
        | some j =>
          rw [e2] at e
          show (l.map V.int)[j]? = _
          rw [List.getElem?_map, show l[j]? = some d from e]
          rfl
    | str x =>
      have w2 : (match atD x.cps.toList i with | some c => q (.str ⟨#[c]⟩) | none => False) := w.2
      cases e : atD x.cps.toList i with
      | none =>
        rw [e] at w2
        exact w2.elim
      | some c =>
        rw [e] at w2
        exact .inr (.inr ⟨x, i, c, rfl, rfl, w.1, e, k.here s (.str _) w2⟩)
    | _ => exact w.elim
  | _ => cases r1 <;> exact w.elim
/-- an item of one's own list -/
def wIxL (wo : WO) (wb : WE) : WE := fun env er q => wo env er fun l => wb env er fun y => match y with
  | .int i => match atD l i with
    | some d => q d
    | none => False
  | _ => False
theorem sim_ixL {i : Nat} (hb : SimE K E tb wb) : SimE K E (tOp (rIx K) (tVar i) tb) (wIxL (wOwn i) wb) := fun B env F σ H Q er q a l w k => by
  unfold wIxL wOwn at w
  split at w
  · rename_i ls e
    obtain ⟨p, xs, ex, h1, r, h2, h3⟩ := a.sl i _ e
    refine ⟨.ref p, ex, hb B env F σ H _ er _ a l w fun y d F1 H1 s1 r1 w1 => ?_⟩
    cases r1 with
    | int j =>
      have w1 : (match atD ls j with | some d => q d | none => False) := w1
      cases e2 : atD ls j with
      | none =>
        rw [e2] at w1
        exact w1.elim
      | some z =>
        rw [e2] at w1
        obtain ⟨v, ev, rv⟩ := at_rep (r.mono s1.ff) e2
        exact .inl ⟨p, xs, j, v, rfl, rfl, SqL.of (s1.hh.get h1), ev, k _ _ F1 H1 s1 rv w1⟩
    | _ => exact w1.elim
  · exact w.elim
abbrev WP := EV → ER → (Option Int → Prop) → Prop
def SimP (K : PySem.W.Frag) (E : XK) (tp : TO) (w : WP) : Prop := ∀ (B : Ent) (env : EV) (F : Hp) (σ : St) (H : Hp) (Q : Option Int → Hp → Prop) (er : ER) (q : Option Int → Prop), At K B env F σ H → EL K B E er → w env er q →
  (∀ (o : Option Int) (F' H' : Hp), Stp F F' H H' → q o → Q o H') → tp σ H Q
def wNoP : WP := fun _ _ q => q none
theorem simp_no : SimP K E tNoPart wNoP := fun B env F σ H Q er q a l w k => k none F H (Stp.refl a.fh) w
def wPart (wa : WE) : WP := fun env er q => wa env er fun x => match x with
  | .int i => q (some i)
  | _ => False
theorem simp_part (h : SimE K E ta wa) : SimP K E (tPart ta) (wPart wa) := fun B env F σ H Q er q a l w k => h B env F σ H _ er _ a l w fun x d F1 H1 s1 r1 w1 => by
  cases r1 with
  | int i => exact ⟨i, rfl, k _ F1 H1 s1 w1⟩
  | _ => exact w1.elim
def cutD {α : Type} (xs : List α) (lo hi : Option Int) : List α := (xs.drop (HT.sIx xs.length 0 lo)).take (HT.sIx xs.length xs.length hi - HT.sIx xs.length 0 lo)
theorem RepA.cut {F : Hp} {v : List V} {d : List D} (h : RepA K F v d) (lo hi : Option Int) : RepA K F (cutV v lo hi) (cutD d lo hi) := by
  unfold cutV cutD
  rw [h.len]
  exact (h.drop _).take _
theorem cut_whole {α : Type} {xs : List α} {lo hi : Option Int} (h : HT.sIx xs.length 0 lo = 0 ∧ HT.sIx xs.length xs.length hi = xs.length) : cutD xs lo hi = xs := by
  unfold cutD
  rw [h.1, h.2, List.drop_zero, Nat.sub_zero, List.take_length]
def rSlD (K : PySem.W.Frag) : V → Option Int → Option Int → Hp → VK → Prop := fun x lo hi H Q => rSlL K x lo hi H Q ∨ rSlA K x lo hi H Q ∨ rSlS x lo hi H Q
theorem sl_D : SlR X (rSlD X.K) := SlR.or sl_list (SlR.or sl_tupA sl_str)
def dSl : D → Option Int → Option Int → (D → Prop) → Prop
  | .lst l, lo, hi, q => q (.lst (cutD l lo hi))
  | .scr l, lo, hi, q => q (.lst ((cutD l lo hi).map .int))
  | .tup l, lo, hi, q => q (.tup (cutD l lo hi))
  | .str x, lo, hi, q => x.length ≤ sizeLine ∧ q (.str (cutS x lo hi))
  | _, _, _, _ => False
def wSl (we : WE) (wl wh : WP) : WE := fun env er q => we env er fun x => wl env er fun lo => wh env er fun hi => dSl x lo hi q
theorem cut_map (ns : List Int) (lo hi : Option Int) : cutV (ns.map V.int) lo hi = (cutD ns lo hi).map V.int := by
  unfold cutV cutD
  rw [List.length_map, List.map_take, List.map_drop]
theorem sim_sl {tl th : TO} {wl wh : WP} (h : SimE K E te we) (hl : SimP K E tl wl) (hh : SimP K E th wh) : SimE K E (tSl (rSlD K) te tl th) (wSl we wl wh) := fun B env F σ H Q er q a l w k =>
  h B env F σ H _ er _ a l w fun x d F1 H1 s1 r1 w1 => hl B env F1 σ H1 _ er _ (a.step s1) l w1 fun lo F2 H2 s2 w2 => hh B env F2 σ H2 _ er _ (a.step (s1.trans s2)) l w2 fun hi F3 H3 s3 w3 => by
    have k3 := k.step ((s1.trans s2).trans s3)
    have r3 := (r1.mono s2.ff).mono s3.ff
    cases r3 with
    | lst h1 a1 => exact .inl ⟨_, _, rfl, SqL.of (s3.fh _ _ h1), fun p hp => k3 _ _ _ _ (Stp.new s3.fh hp) (.lst upd_same ((a1.cut lo hi).mono (same_new (s3.fh.free hp)))) w3⟩
    | scr h1 => exact .inl ⟨_, _, rfl, s3.fh.seq h1, fun p hp => k3 _ _ _ _ (Stp.new s3.fh hp) (.lst upd_same (by rw [cut_map]; exact RepA.ints _)) w3⟩
    | @tup a xs l h1 a1 =>
      refine .inr (.inl ⟨_, _, rfl, same_t s3.fh h1, fun e => ?_, fun _ p hp => ?_⟩)
      · rw [a1.len] at e
        have e2 : cutD l lo hi = l := cut_whole e
        have w4 : q (.tup (cutD l lo hi)) := w3
        rw [e2] at w4
        exact k3.here s3.fh (.tup h1 a1) w4
      · exact k3 _ _ _ _ (Stp.new s3.fh hp) (.tup (.inl (.inl upd_same)) ((a1.cut lo hi).mono (same_new (s3.fh.free hp)))) w3
    | str x => exact .inr (.inr ⟨x, rfl, w3.1, k3.here s3.fh (.str _) w3.2⟩)
    | _ => exact w3.elim
/-- xs[a:b] of one's own list, a new list -/
def wSlO (wo : WO) (wl wh : WP) : WO := fun env er q => wo env er fun x => wl env er fun lo => wh env er fun hi => q (cutD x lo hi)
theorem simo_slOwn {i : Nat} {tl th : TO} {wl wh : WP} (hl : SimP K E tl wl) (hh : SimP K E th wh) : SimO K E (tSl (rSlD K) (tVar i) tl th) (wSlO (wOwn i) wl wh) := fun B env F σ H Q er q a l w k => by
  unfold wSlO wOwn at w
  split at w
  · rename_i ls e
    obtain ⟨p, xs, ex, h1, r, h2, h3⟩ := a.sl i _ e
    refine ⟨.ref p, ex, hl B env F σ H _ er _ a l w fun lo F2 H2 s2 w2 => hh B env F2 σ H2 _ er _ (a.step s2) l w2 fun hi F3 H3 s3 w3 => ?_⟩
    have s := s2.trans s3
    exact .inl ⟨p, xs, rfl, SqL.of (s.hh.get h1), fun p2 hp => k p2 _ _ F3 _ (s.trans (Stp.fresh s.fh hp)) (s.hh.fr _ (.inl hp)) upd_same (s.fh.free hp) ((RepA.mono s.ff r).cut lo hi) w3⟩
  · exact w.elim
/-- xs[::-1] -/
def wRev (we : WE) : WE := fun env er q => we env er fun x => match x with
  | .lst l => q (.lst l.reverse)
  | _ => False
theorem sim_revL (h : SimE K E te we) : SimE K E (tRevL K te) (wRev we) := fun B env F σ H Q er q a l w k =>
  h B env F σ H _ er _ a l w fun x d F1 H1 s1 r1 w1 => by
    cases r1 with
    | lst h1 a1 => exact ⟨_, _, rfl, SqL.of (s1.fh _ _ h1), fun p hp => k _ _ _ _ (s1.trans (Stp.new s1.fh hp)) (.lst upd_same (a1.rev.mono (same_new (s1.fh.free hp)))) w1⟩
    | _ => exact w1.elim

/-! ### built-ins -/
abbrev rLenD (K : PySem.W.Frag) : List V → Hp → VK → Prop := fun xs H Q => ∃ x n, xs = [x] ∧ LenV K x H n ∧ Q (.int n) H
def dLen : List D → (D → Prop) → Prop
  | [.lst l], q => q (.int (l.length : Nat))
  | [.tup l], q => q (.int (l.length : Nat))
  | [.scr l], q => q (.int (l.length : Nat))
  | [.str x], q => x.length ≤ sizeLine ∧ q (.int (x.length : Nat))
  | _, _ => False
theorem sim_len : SimC K (rLenD K) dLen := fun F H xs ds Q q s r w k => by
  cases r with
  | nil => exact w.elim
  | cons r1 r2 =>
    cases r2 with
    | cons _ _ => cases r1 <;> exact w.elim
    | nil =>
      cases r1 with
      | lst h1 a1 => exact ⟨_, _, rfl, .inl ⟨_, SqL.of (s _ _ h1), a1.len.symm⟩, k.here s (.int _) w⟩
      | tup h1 a1 => exact ⟨_, _, rfl, .inr ⟨_, same_t s h1, a1.len.symm⟩, k.here s (.int _) w⟩
      | scr h1 => exact ⟨_, _, rfl, .inl ⟨_, s.seq h1, by rw [List.length_map]⟩, k.here s (.int _) w⟩
      | str x => exact ⟨_, _, rfl, ⟨w.1, rfl⟩, k.here s (.int _) w.2⟩
      | _ => exact w.elim
def lLen : List D → (D → Prop) → Prop := fun l q => q (.int (l.length : Nat))
theorem sim_lenL : SimCL K (rLenD K) lLen := fun F H a xs l Q q s h r w k => ⟨_, _, rfl, .inl ⟨xs, h, r.len.symm⟩, k.here s (.int _) w⟩
def bools : List D → Option (List Bool)
  | [] => some []
  | .bl b :: r => (bools r).map (b :: ·)
  | _ => none
theorem bools_rep {F : Hp} : ∀ {xs : List V} {l : List D} {bs : List Bool}, RepA K F xs l → bools l = some bs → xs = bs.map V.bl
  | _, [], _, .nil, e => by
    cases e
    rfl
  | _, d :: l, bs, .cons h r, e => by
    cases h with
    | bl b =>
      unfold bools at e
      cases h2 : bools l with
      | none =>
        rw [h2] at e
        cases e
      | some cs =>
        rw [h2] at e
        cases e
        rw [bools_rep r h2]
        rfl
    | _ => cases e
def lAll : List D → (D → Prop) → Prop := fun l q => match bools l with
  | some bs => q (.bl (bs.all id))
  | none => False
theorem sim_allL : SimCL K (rAll K) lAll := fun F H a xs l Q q s h r w k => by
  unfold lAll at w
  split at w
  · rename_i bs e
    rw [bools_rep r e] at h
    exact ⟨a, bs, rfl, h, k.here s (.bl _) w⟩
  · exact w.elim
def lAny : List D → (D → Prop) → Prop := fun l q => match bools l with
  | some bs => q (.bl (bs.any id))
  | none => False
theorem sim_anyL : SimCL K (rAny K) lAny := fun F H a xs l Q q s h r w k => by
  unfold lAny at w
  split at w
  · rename_i bs e
    rw [bools_rep r e] at h
    exact ⟨a, bs, rfl, h, k.here s (.bl _) w⟩
  · exact w.elim
/-- tuple(xs) -/
abbrev rTupD (K : PySem.W.Frag) : List V → Hp → VK → Prop := fun xs H Q => ∃ p ys, xs = [.ref p] ∧ ((SqL K H p ys ∧ ∀ l, H l = none → Q (.ref l) (upd H l (.tup ys))) ∨ (SqT K H p ys ∧ Q (.ref p) H))
def lTup : List D → (D → Prop) → Prop := fun l q => q (.tup l)
theorem sim_tupL : SimCL K (rTupD K) lTup := fun F H a xs l Q q s h r w k => ⟨a, xs, rfl, .inl ⟨h, fun p hp => k _ _ _ _ (Stp.new s hp) (.tup (.inl (.inl upd_same)) (r.mono (same_new (s.free hp)))) w⟩⟩
abbrev rIntD : List V → Hp → VK → Prop := fun xs H Q => (∃ i, xs = [.int i] ∧ Q (.int i) H) ∨ ∃ k, xs = [.bl k] ∧ Q (.int (if k then 1 else 0)) H
def dInt : List D → (D → Prop) → Prop
  | [.int i], q => q (.int i)
  | _, _ => False
theorem sim_toInt : SimC K rIntD dInt := fun F H xs ds Q q s r w k => by
  unfold dInt at w
  split at w
  · cases r with
    | cons r1 r2 =>
      cases r1
      cases r2
      exact .inl ⟨_, rfl, k.here s (.int _) w⟩
  · exact w.elim
abbrev rAbsD : List V → Hp → VK → Prop := fun xs H Q => ∃ i, xs = [.int i] ∧ Q (.int (if i < 0 then -i else i)) H
def dAbs : List D → (D → Prop) → Prop
  | [.int i], q => q (.int (if i < 0 then -i else i))
  | _, _ => False
theorem sim_abs : SimC K rAbsD dAbs := fun F H xs ds Q q s r w k => by
  unfold dAbs at w
  split at w
  · cases r with
    | cons r1 r2 =>
      cases r1
      cases r2
      exact ⟨_, rfl, k.here s (.int _) w⟩
  · exact w.elim
abbrev rMax2D : List V → Hp → VK → Prop := fun xs H Q => ∃ i j, xs = [.int i, .int j] ∧ Q (.int (if j > i then j else i)) H
def dMax2 : List D → (D → Prop) → Prop
  | [.int i, .int j], q => q (.int (if j > i then j else i))
  | _, _ => False
theorem sim_max2 : SimC K rMax2D dMax2 := fun F H xs ds Q q s r w k => by
  unfold dMax2 at w
  split at w
  · cases r with
    | cons r1 r2 =>
      cases r1
      cases r2 with
      | cons r2 r3 =>
        cases r2
        cases r3
        exact ⟨_, _, rfl, k.here s (.int _) w⟩
  · exact w.elim
abbrev rMin2D : List V → Hp → VK → Prop := fun xs H Q => ∃ i j, xs = [.int i, .int j] ∧ Q (.int (if j < i then j else i)) H
def dMin2 : List D → (D → Prop) → Prop
  | [.int i, .int j], q => q (.int (if j < i then j else i))
  | _, _ => False
theorem sim_min2 : SimC K rMin2D dMin2 := fun F H xs ds Q q s r w k => by
  unfold dMin2 at w
  split at w
  · cases r with
    | cons r1 r2 =>
      cases r1
      cases r2 with
      | cons r2 r3 =>
        cases r2
        cases r3
        exact ⟨_, _, rfl, k.here s (.int _) w⟩
  · exact w.elim

/-! ### isinstance -/
structure OwnC (K : PySem.W.Frag) (C : Addr) : Prop where
  cl : Cls K C
  ha : PySem.W.findIn K (.ref C) "__class__" = some (some (.builtin "object.__class__"))
  hn : PySem.W.specialIn K (.builtin "object.__class__") "__get__" = some (some (.builtin "getset_descriptor.__get__"))
  htk : PySem.W.takesIn K (.builtin "object.__class__") = some true
  hm : PySem.W.mroIn K C (.type "object") = some true
def tyD : D → Value
  | .non => .type "NoneType"
  | .bl _ => .type "bool"
  | .int _ => .type "int"
  | .str _ => .type "str"
  | .tup _ => .type "tuple"
  | .lst _ => .type "list"
  | .dct _ => .type "dict"
  | .scr _ => .none
  | .ins C _ => .ref C
  | _ => .none
def OkTy (K : PySem.W.Frag) : D → Prop
  | .ins C _ => OwnC K C
  | .ty _ => False
  | .obj _ => False
  | .bag _ => False
  | .scr _ => False
  | .tux _ => False
  | .exc _ _ => False
  | _ => True
theorem tyx_of {F H : Hp} {x : V} {d : D} (s : Same F H) (r : Rep K F x d) (ok : OkTy K d) : TyX K H x (tyD d) := by
  cases r with
  | non => exact .base .non
  | bl b => exact .base (.bl b)
  | int i => exact .base (.int i)
  | str z => exact .base (.str z)
  | tup h _ =>
    rcases same_t s h with (h | ⟨o, h⟩) | ⟨o, its, n, h, hc, _⟩
    · exact .base (.tup h)
    · exact .fTuple h
    · exact .kTuple h hc
  | lst h _ => exact .base (.lst (s _ _ h))
  | dct h _ => exact .fDict (s _ _ h)
  | ins h _ =>
    have ok : OwnC K _ := ok
    exact .base (.ins (s _ _ h) ok.cl ok.ha ok.hn ok.htk ok.hm)
  | _ => exact ok.elim
def dIsi (K : PySem.W.Frag) : List D → (D → Prop) → Prop
  | [x, .ty T], q => OkTy K x ∧ ∃ b, PySem.W.kitOne K (tyD x) (.type T) = some b ∧ q (.bl b)
  | [x, .obj C], q => OkTy K x ∧ ∃ b, PySem.W.kitOne K (tyD x) (.ref C) = some b ∧ q (.bl b)
  | _, _ => False
theorem sim_isi : SimC K (rIsi K) (dIsi K) := fun F H xs ds Q q s r w k => by
  unfold dIsi at w
  split at w
  · cases r with
    | cons r1 r2 =>
      cases r2 with
      | cons r2 r3 =>
        cases r2
        cases r3
        obtain ⟨ok, b, e, w⟩ := w
        exact ⟨_, _, _, _, b, rfl, .ty _, tyx_of s r1 ok, e, k.here s (.bl b) w⟩
  · cases r with
    | cons r1 r2 =>
      cases r2 with
      | cons r2 r3 =>
        cases r2
        cases r3
        obtain ⟨ok, b, e, w⟩ := w
        exact ⟨_, _, _, _, b, rfl, .own _, tyx_of s r1 ok, e, k.here s (.bl b) w⟩
  · exact w.elim
end

/-! ### a def keeps its promise -/
open PySem.Spec PyProof.Rows
def envOf (n : Nat) (ds : List D) : EV := ds.map .d ++ List.replicate (n - ds.length) .un
theorem start_at {K : PySem.W.Frag} {N : List Str} {F H : Hp} {vs : List V} {ds : List D} (s : Fz F H) (r : RepA K F vs ds) (hl : ds.length ≤ N.length) : At K ⟨F, H⟩ (envOf N.length ds) F (L2.start N vs) H := by
  have hlen := r.len
  refine ⟨?_, Stp.refl s, fun i sv e => ?_, fun i j t u b e1 e2 m1 _ _ _ => ?_⟩
  · unfold L2.start envOf
    rw [List.length_append, List.length_append, List.length_map, List.length_map, List.length_replicate, List.length_replicate, hlen]
  · unfold envOf at e
    by_cases hi : i < ds.length
    · rw [List.getElem?_append_left (by rw [List.length_map]; exact hi), List.getElem?_map] at e
      cases e2 : ds[i]? with
      | none =>
        rw [e2] at e
        cases e
      | some d =>
        rw [e2] at e
        cases e
        obtain ⟨x, hx, rx⟩ := r.getD e2
        refine ⟨x, ?_, rx⟩
        unfold L2.start
        rw [List.getElem?_append_left (by rw [List.length_map, hlen]; exact hi), List.getElem?_map, hx]
        rfl
    · rw [List.getElem?_append_right (by rw [List.length_map]; omega)] at e
      have z := List.mem_replicate.mp (List.mem_of_getElem? e)
      rw [z.2]
      trivial
  · exfalso
    unfold envOf at e1
    have z := List.mem_of_getElem? e1
    rcases List.mem_append.mp z with z | z
    · obtain ⟨d, _, rfl⟩ := List.mem_map.mp z
      exact m1
    · rw [(List.mem_replicate.mp z).2] at m1
      exact m1
theorem body_of {K : PySem.W.Frag} {N : List Str} {n : Nat} {S : FS} {t : TS} {w : WS} {vs : List V} {H : Hp} {Q : VK} {E : XK} (ht : SimS K E t w) (hn : n ≤ N.length)
    (hw : ∀ ds er q, ds.length = n → S ds er q → w { nx := fun _ => q .non, rt := q, er := er } (envOf N.length ds)) (h : spOf K n S vs H Q E) : t { nx := fun _ H' => Q .non H', rt := Q } (L2.start N vs) H := by
  obtain ⟨F, ds, er, q, hl, s, r, hS, kv, ke⟩ := h
  exact ht ⟨F, H⟩ _ _ ⟨fun env F' σ H' a z => kv _ _ F' H' a.st .non z, fun x d F' H' st r z => kv x d F' H' st r z, fun _ _ _ _ _ z => False.elim z, fun _ _ _ _ _ z => False.elim z, ke⟩ _ F _ H (start_at s r (by omega)) (hw ds er q hl hS)
section
variable {P : Program} {w : World} {K : PySem.W.Frag} {mg : Str → Option Value} {base : Heap}
theorem ok_def {x qual : Str} {st : Stmt} {f : Addr} {fd : FuncData} {N ps : List Str} {k : Nat} {S : FS} (F : Fun K x qual st f fd) (sc : FnScope N ps (defScope st)) (hn : ps.length ≤ N.length)
    (hb : ∀ (cdv : Value) (A : Around) (outer : List Env) (s : Shared) (H : Hp) (E : XK), Room k (A.deeper (envOfC qual (defScope st) s.heap.objs.size f cdv)) →
      ∃ t ws, PSs (cxOf (L2.CX P w) P w K mg base N qual (defScope st) f cdv A outer s H E) (defBody st) t ∧ SimS K E t ws ∧
        ∀ ds er q, ds.length = ps.length → S ds er q → ws { nx := fun _ => q .non, rt := q, er := er } (envOf N.length ds)) :
    FnOk P w K mg base (L2.CX P w) (k + 1) f fd ps (spOf K ps.length S) := by
  refine F.okX sc (fun vs H Q E h => spOf_len h) (fun cdv A outer s H vs Q E hr h => ?_)
  obtain ⟨t, ws, h1, h2, h3⟩ := hb cdv A outer s H E hr
  exact ⟨t, h1, body_of h2 hn h3 h⟩
theorem ok_defD {x qual : Str} {st : Stmt} {dvs : List V} {kws : List (Str × V)} {f : Addr} {fd : FuncData} {N ps : List Str} {k : Nat} {S : FS} (F : FunD K x qual (defArgs st) (defBody st) (defScope st) dvs kws f fd) (sc : FnScope N ps (defScope st)) (hn : ps.length ≤ N.length)
    (hb : ∀ (cdv : Value) (A : Around) (outer : List Env) (s : Shared) (H : Hp) (E : XK), Room k (A.deeper (envOfC qual (defScope st) s.heap.objs.size f cdv)) →
      ∃ t ws, PSs (cxOf (L2.CX P w) P w K mg base N qual (defScope st) f cdv A outer s H E) (defBody st) t ∧ SimS K E t ws ∧
        ∀ ds er q, ds.length = ps.length → S ds er q → ws { nx := fun _ => q .non, rt := q, er := er } (envOf N.length ds)) :
    FnOk P w K mg base (L2.CX P w) (k + 1) f fd ps (spOf K ps.length S) := by
  refine F.ok sc (fun vs H Q E h => spOf_len h) (fun cdv A outer s H vs Q E hr h => ?_)
  obtain ⟨t, ws, h1, h2, h3⟩ := hb cdv A outer s H E hr
  exact ⟨t, h1, body_of h2 hn h3 h⟩
end
end DL
/-! DLX: rules of my own over HandS: t[::-1] of a tuple, tuple * int, methods called with keywords, == and != by an own __eq__. -/
namespace HT
open PySem PySem.Spec PyProof.Rows
section
variable {prog : Program} {w : World} {A : Around} {E : Value → Shared → Prop} {s : Shared}
theorem rev_places (n : Nat) : Builtin.Slice.slicePlaces ((n : Int) - 1) (-1) (-1) = n := by
  unfold Builtin.Slice.slicePlaces
  rw [if_neg (by decide)]
  by_cases h : n = 0
  · subst h
    rfl
  · rw [if_pos (by omega)]
    have e : (((n : Int) - 1 - (-1) - 1) / (- (-1)) + 1) = (n : Int) := by
      rw [show (- (-1) : Int) = 1 by rfl, Int.ediv_one]
      omega
    rw [e]
    omega
theorem filterMap_same {α β : Type} {f g : α → Option β} : ∀ {l : List α}, (∀ m ∈ l, f m = g m) → l.filterMap f = l.filterMap g
  | [], _ => rfl
  | a :: l, h => by
    rw [List.filterMap_cons, List.filterMap_cons, h a List.mem_cons_self, filterMap_same fun m hm => h m (List.mem_cons_of_mem _ hm)]
theorem rev_pick (xs : Array Value) : ((List.range xs.size).filterMap fun (m : Nat) => xs[(((xs.size : Int) - 1) + (m : Int) * (-1)).toNat]?).toArray = xs.toList.reverse.toArray := by
  congr 1
  apply List.ext_getElem?
  intro i
  have e : ∀ (l : List Nat) , (∀ m ∈ l, m < xs.size) → l.filterMap (fun (m : Nat) => xs[(((xs.size : Int) - 1) + (m : Int) * (-1)).toNat]?) = l.filterMap (fun m => xs.toList.reverse[m]?) := by
    intro l hl
    apply filterMap_same
    intro m hm
    have := hl m hm
    have e1 : (((xs.size : Int) - 1) + (m : Int) * (-1)).toNat = xs.size - 1 - m := by omega
    rw [e1, List.getElem?_reverse (by rw [Array.length_toList]; exact this), Array.length_toList, Array.getElem?_toList]
  rw [e _ (fun m hm => List.mem_range.mp hm)]
  have e2 : ∀ (l : List Value), (List.range l.length).filterMap (fun m => l[m]?) = l := by
    intro l
    have := PySem.W.krv_all l.toArray
    simpa using this
  have e3 := e2 xs.toList.reverse
  rw [List.length_reverse, Array.length_toList] at e3
  rw [e3]
theorem getItem_tuple_rev {t sl : Addr} {items : Array Value} {vs : Value} {Q : Value → Shared → Prop} (ht : IsTup s.heap t items) (hs : s.heap.IsSliceOf sl .none .none vs) (pv : IsPart vs (some (-1)))
    (h : Q (.ref s.heap.objs.size) { s with heap := s.heap.push { cls := .type "tuple", data := .seq items.toList.reverse.toArray } })
    (hsz : items.size ≤ sizeLine) : wpAny (model prog w) A (getItem (.ref t) (.ref sl)) Q E s := by
  have htake : sizeOk (.seq items.toList.reverse.toArray) := by
    show items.toList.reverse.toArray.size ≤ sizeLine
    rw [List.size_toArray, List.length_reverse, Array.length_toList]
    exact hsz
  obtain ⟨os, hos, hcs, hds⟩ := id hs
  have hTs : s.TypeIs (.ref sl) "slice" := ⟨os, hos, hcs⟩
  unfold getItem
  try with_reducible refine wpAny_holding ?_
  first | refine wpAny_bind (wpAny_pure ?_) | skip
  refine wpAny_bind (wpAny_sequenceKey ht.typeIs (by decide) ?_)
  refine wpAny_bind (wpAny_callSpecial?_slot (name := Str.ofString "__getitem__") ht.typeIs PyProof.Rows.slot_tuple_getitem
    (wpAny_call_entry PyProof.Rows.slot_tuple_getitem ht.typeIs PyProof.Rows.entry_tuple_getitem ?_ (PyProof.Rows.args_tuple_getitem _ _)))
  show wpAny _ _ (Builtin.Tuple.tupleItemsOf (.ref t) >>= _) _ _ s
  refine wpAny_bind (PyProof.Rows.tupleItemsOf_ ht ?_)
  refine wpAny_bind (wpAny_typeOf hTs ?_)
  rw [if_pos (by decide)]
  have happ : ∀ {Q2 : Int × Int × Nat → Shared → Prop} {A2 : Around} {E2 : Value → Shared → Prop}, Q2 ((items.size : Int) - 1, -1, items.size) s → wpAny (model prog w) A2 (Builtin.Slice.sliceApplied (.ref sl) (pure ((items.size : Nat) : Int))) Q2 E2 s := by
    intro Q2 A2 E2 hq
    unfold Builtin.Slice.sliceApplied Builtin.Slice.sliceFields
    refine wpAny_bind (wpAny_bind (wpAny_field hos hds (x := .none) rfl (wpAny_bind (wpAny_field hos hds (x := .none) rfl (wpAny_bind (wpAny_field hos hds (x := vs) rfl (wpAny_pure ?_)))))))
    refine wpAny_bind (slicePart_ pv ?_)
    show wpAny _ _ (if ((-1 : Int) == 0) = true then _ else _) _ _ s
    rw [if_neg (by decide)]
    refine wpAny_bind (slicePart_ .none (wpAny_bind (slicePart_ .none (wpAny_bind (wpAny_pure ?_)))))
    show wpAny _ _ (match Builtin.Slice.sliceAdjust none none (-1) ((items.size : Nat) : Int) with | (lo, hi) => pure (lo, (-1 : Int), Builtin.Slice.slicePlaces lo hi (-1))) _ _ s
    have ha : Builtin.Slice.sliceAdjust none none (-1) ((items.size : Nat) : Int) = ((items.size : Int) - 1, -1) := rfl
    rw [ha]
    show wpAny _ _ (pure ((items.size : Int) - 1, (-1 : Int), Builtin.Slice.slicePlaces ((items.size : Int) - 1) (-1) (-1))) _ _ s
    rw [rev_places]
    exact wpAny_pure hq
  refine wpAny_bind (happ ?_)
  show wpAny _ _ (if (((items.size : Int) - 1) == 0 && (-1 : Int) == 1 && items.size == items.size) = true then _ else _) _ _ s
  rw [if_neg (by intro q; rw [Bool.and_eq_true, Bool.and_eq_true] at q; exact absurd q.1.2 (by decide)), rev_pick]
  first
    | exact wpAny_bind (m := Builtin.Tuple.tupleExact _) (wpAny_newObj_type (wpAny_pure ⟨_, rfl, wpAny_pure h⟩) htake)
    | exact wpAny_bind (m := Builtin.Tuple.tupleExact _) (wpAny_newObj_type (wpAny_bind (wpAny_pure (wpAny_pure ⟨_, rfl, wpAny_pure h⟩))) htake)
    | exact wpAny_bind (wpAny_bind (m := Builtin.Tuple.tupleExact _) (wpAny_newObj_type (wpAny_pure (wpAny_pure ⟨_, rfl, wpAny_pure h⟩)) htake))
    | exact wpAny_bind (wpAny_bind (m := Builtin.Tuple.tupleExact _) (wpAny_newObj_type (wpAny_pure ⟨_, rfl, wpAny_pure h⟩) htake))
end
end HT
namespace DL
open PySem L2
variable [Tbl]
open PySem.Spec PyProof.Rows
/-! ### t[::-1] -/
def tRevT (K : PySem.W.Frag) (te : TE) : TE := fun σ H Q => te σ H fun x H1 => ∃ a xs, x = .ref a ∧ SqT K H1 a xs ∧ ∀ p, H1 p = none → Q (.ref p) (upd H1 p (.tup xs.reverse))
theorem pe_revT {X : Cx} {e : Expr} {te : TE} {k : Nat} {p1 p2 p3 pos : Pos} (he : PE X e te) : PE X (.Subscript e (.Slice none none (some (.UnaryOp .USub (.Constant (.int 1) k p1) p2)) p3) pos) (tRevT X.K te) := by
  refine ⟨fun pins s σ H Q I h => ?_⟩
  refine Subscript_ (thn (he.run pins s σ H _ I h) fun v s1 ⟨x, H1, I1, r1, q1⟩ => ?_)
  obtain ⟨a, xs, ex, hx, q⟩ := q1
  subst ex
  cases r1
  have hst : PO X (some (.UnaryOp .USub (.Constant (.int 1) k p1) p2)) (tPart (tUn (rU fun i => .int (-i)) (tC (.int 1)))) := po_some (pe_un un_neg pe_int)
  refine wpAny_Slice (thn (po_none.run pins s1 σ H1 (fun o H2 => o = none ∧ H2 = H1) I1 ⟨rfl, rfl⟩) fun vl s2 ⟨l, H2, I2, pl, el, e2⟩ => ?_)
  subst el e2
  refine thn (po_none.run pins s2 σ H2 (fun o H3 => o = none ∧ H3 = H2) I2 ⟨rfl, rfl⟩) fun vu s3 ⟨u, H3, I3, pu, eu, e3⟩ => ?_
  subst eu e3
  refine thn (hst.run pins s3 σ H3 (fun o H4 => o = some (-1) ∧ H4 = H3) I3 ⟨1, rfl, -1, rfl, rfl, rfl⟩) fun vs s4 ⟨o, H4, I4, ps, eo, e4⟩ => ?_
  subst eo e4
  cases pl
  cases pu
  have I5 : Inv X pins σ H4 { s4 with heap := s4.heap.push { cls := .type "slice", data := .fields #[.none, .none, vs] } } := I4.kept (t' := s4.toks) fun b ob q => Heap.get?_push_of_some _ q
  obtain ⟨its, r, ht, hz⟩ := I5.tuple hx
  have hlen := r.length
  show wpAny (model X.prog X.w) X.A (subscriptTail e (.Slice none none (some (.UnaryOp .USub (.Constant (.int 1) k p1) p2)) p3) (.ref a) (.ref s4.heap.objs.size)) (EP X pins σ Q) X.xe { s4 with heap := s4.heap.push { cls := .type "slice", data := .fields #[.none, .none, vs] } }
  refine tail_any (ops := [.ref a, .ref s4.heap.objs.size]) ht.typeIs (PyProof.Rows.slot_tuple_getitem.lookup) ?_ (by with_unfolding_all rfl)
  refine HT.getItem_tuple_rev ht (Heap.IsSliceOf.new _ .none .none vs) ps ?_ (by rw [List.size_toArray]; omega)
  refine ⟨.ref _, _, I5.laid (t' := s4.toks) (o := .tup xs.reverse) (fun b ob q => Heap.get?_push_of_some _ q) (Nat.le_refl _) ?_, rfl, q _ (I5.hok.fresh (Nat.le_refl _))⟩
  exact ⟨by rw [List.length_reverse]; exact hz, _, r.reverse, IsTup.new _ _⟩
def wRevT (we : WE) : WE := fun env er q => we env er fun x => match x with
  | .tup l => q (.tup l.reverse)
  | _ => False
theorem sim_revT {K : PySem.W.Frag} {E : XK} {te : TE} {we : WE} (h : SimE K E te we) : SimE K E (tRevT K te) (wRevT we) := fun B env F σ H Q er q a l w k =>
  h B env F σ H _ er _ a l w fun x d F1 H1 s1 r1 w1 => by
    cases r1 with
    | tup h1 a1 => exact ⟨_, _, rfl, same_t s1.fh h1, fun p hp => k _ _ _ _ (s1.trans (Stp.new s1.fh hp)) (.tup (.inl (.inl upd_same)) (a1.rev.mono (same_new (s1.fh.free hp)))) w1⟩
    | _ => exact w1.elim

/-! ### tuple * int, from 0 to 1000 -/
def rRepD (K : PySem.W.Frag) : R2 := fun x y H Q => ∃ l k xs, x = .ref l ∧ y = .int k ∧ SqT K H l xs ∧ xs ≠ [] ∧ 0 ≤ k ∧ k ≤ 1000 ∧ xs.length ≤ 1000 ∧
  (k = 1 → Q (.ref l) H) ∧ (k ≠ 1 → ∀ p, H p = none → Q (.ref p) (upd H p (.tup (List.replicate k.toNat xs).flatten)))
theorem tuple_mul1 (l : Addr) (items : Array Value) (n : Nat) (sl : Array (Option Value)) (u : Tok) :
    Meets (Builtin.«tuple.__mul__» ⟨[.ref l, .int 1 u], []⟩) (fun _ R s => ∃ dd, s.heap.get? l = some { cls := .type "tuple", dict := dd, data := .seq items n, slots := sl } ∧ R (.ok (.ret (Value.ref l))) s) :=
  .of_wp fun prog w A R s h => by
    obtain ⟨hp, g, d, tk, os⟩ := s
    obtain ⟨dd, hl, h⟩ := h
    have f1 := AutoSeq1.idx_int
    wp_walk using AutoSeq1.wpAny_loadPart' hl
    exact ⟨_, rfl, h⟩
theorem tuple_mul0 (l : Addr) (items : Array Value) (n : Nat) (dd : Option Addr) (sl : Array (Option Value)) (u : Tok) (c0 : items.isEmpty = false) :
    Meets (Builtin.«tuple.__mul__» ⟨[.ref l, .int 0 u], []⟩) (fun _ R s => s.heap.get? l = some { cls := .type "tuple", dict := dd, data := .seq items n, slots := sl } ∧ R (.ok (.ret (Value.ref s.heap.objs.size))) { s with heap := s.heap.push { cls := Value.type "tuple", data := Data.seq #[] }, toks := s.toks }) :=
  .of_wp fun prog w A R s h => by
    obtain ⟨hp, g, d, tk, os⟩ := s
    obtain ⟨hl, h⟩ := h
    have f1 := AutoSeq1.idx_int
    have c1 : (items.isEmpty || (0 : Int) == 1) = false := by
      rw [c0]
      rfl
    wp_walk using AutoSeq1.wpAny_loadPart' hl
    repeat (first
      | (refine wpAny_ite_false (decide_eq_false (by rw [c1]; exact Bool.false_ne_true)) ?_; wp_walk using AutoSeq1.wpAny_loadPart' hl))
    exact ⟨_, rfl, h⟩
section
variable {X : Cx}
theorem op_repD : OpR X (binaryOp .Mult) (rRepD X.K) := by
  intro pins s σ H x y v u Q I rx ry h
  obtain ⟨l, k, xs, rfl, rfl, hT, hne, h1, h2, hz, qa, qb⟩ := h
  by_cases k2 : 2 ≤ k
  · exact op_repT pins s σ H _ _ v u Q I rx ry ⟨l, k, xs, rfl, rfl, hT, hne, k2, h2, hz, qb (by omega)⟩
  · cases rx
    obtain ⟨t, rfl⟩ := ry
    obtain ⟨its, r, ⟨⟨cls, dd, data, sl⟩, ho, hc, n, hd⟩, hs⟩ := I.tuple hT
    simp only at hc hd
    subst hc hd
    have hle : its.length = xs.length := r.length.symm
    have hn : its ≠ [] := fun e => hne (by
      rw [e] at hle
      exact List.eq_nil_of_length_eq_zero hle.symm)
    have hi : its.toArray.isEmpty = false := by
      cases its with
      | nil => exact absurd rfl hn
      | cons a b => rfl
    refine wpAny_binaryOp_repeat_ref (T := "tuple") (U := "int") (by decide) ⟨_, ho, rfl⟩ (fun s' => typeIs_int s' k t) noFill_tuple_mul F.fills_int_mul F.slot_int_rmul repeat_tuple F.slot_int_index.lookup
      (call_meets F.slot_int_rmul (typeIs_int s k t) F.entry_int_rmul (F.args_int_rmul_2 _ _) (int_rmul_tuple k t l its.toArray n dd sl) ⟨ho, rfl, ⟨_, ho, rfl⟩, ?_⟩)
    by_cases k1 : k = 1
    · subst k1
      exact call_meets F.slot_tuple_mul ⟨_, ho, rfl⟩ F.entry_tuple_mul (F.args_tuple_mul_2 _ _) (tuple_mul1 l its.toArray n sl t) ⟨dd, ho, ⟨.ref l, H, I, rfl, qa rfl⟩⟩
    · have k0 : k = 0 := by omega
      subst k0
      refine call_meets F.slot_tuple_mul ⟨_, ho, rfl⟩ F.entry_tuple_mul (F.args_tuple_mul_2 _ _) (tuple_mul0 l its.toArray n dd sl t hi) ⟨ho, ?_⟩
      refine ⟨.ref s.heap.objs.size, _, I.laid (t' := s.toks) (o := .tup []) (fun b ob q => Heap.get?_push_of_some _ q) (Nat.le_refl _) ?_, rfl, qb (by decide) _ (I.hok.fresh (Nat.le_refl _))⟩
      exact ⟨Nat.zero_le _, [], .nil, IsTup.new _ _⟩
end
def rMulT (K : PySem.W.Frag) : R2 := fun x y H Q => rMulD x y H Q ∨ rRepD K x y H Q
theorem op_mulT {X : Cx} : OpR X (binaryOp .Mult) (rMulT X.K) := OpR.or op_mulD op_repD
def dMulT : D → D → (D → Prop) → Prop
  | .tup l, .int k, q => (l ≠ [] ∧ 0 ≤ k ∧ k ≤ 1000 ∧ l.length ≤ 1000) ∧ q (.tup (List.replicate k.toNat l).flatten)
  | x, y, q => dMul x y q
theorem sim_mulT {K : PySem.W.Frag} : Sim2 K (rMulT K) dMulT := fun F H x y d e Q q s r1 r2 w k => by
  cases r1 with
  | @tup a xs l h1 a1 =>
    cases r2 with
    | int j =>
      obtain ⟨⟨w1, w2, w3, w4⟩, w5⟩ := w
      refine .inr ⟨a, j, xs, rfl, rfl, same_t s h1, fun e => ?_, w2, w3, by rw [a1.len]; exact w4, fun e => ?_, fun _ p hp => k _ _ _ _ (Stp.new s hp) (.tup (.inl (.inl upd_same)) ((a1.rep _).mono (same_new (s.free hp)))) w5⟩
      · subst e
        cases a1
        exact w1 rfl
      · subst e
        have w6 : q (.tup (List.replicate 1 l).flatten) := w5
        rw [show List.replicate 1 l = [l] from rfl, List.flatten_cons, List.flatten_nil, List.append_nil] at w6
        exact k.here s (.tup h1 a1) w6
    | _ => exact w.elim
  | int i => exact .inl (sim_mul F H _ y _ e Q q s (.int i) r2 (by cases e <;> exact w) k)
  | lst h1 a1 => exact .inl (sim_mul F H _ y _ e Q q s (.lst h1 a1) r2 (by cases e <;> exact w) k)
  | _ => cases e <;> exact w.elim

/-! ### o.m(e, .., k = v) -/
def tMethN (C : Addr) (m : Str) (n mm : Nat) (sp : Sp) (gV : List V → List V → List V) (E : XK) (ta : TE) (t tk : TA) : TE := fun σ H Q => ta σ H fun x H1 => ∃ a dx fs, x = .ref a ∧ H1 a = some (.ins C dx fs) ∧ fs.lookup m = none ∧
  t σ H1 fun vs H2 => tk σ H2 fun zs H3 => vs.length = n ∧ zs.length = mm ∧ sp (gV (x :: vs) zs) H3 Q E
section
variable {X : Cx} {CX : CXT} {k n : Nat} {f C : Addr} {fd : FuncData} {ps ks : List Str} {sp : Sp} {E : XK} {m : Str} {p pos apos : Pos} {e o : Expr} {es : List Expr} {kws : List Keyword} {ta : TE} {t tk : TA} {g : List Value → List Value → List Value} {gV : List V → List V → List V}
/-- only keywords -/
theorem pe_methK0 {pl : Sem Bool} (he : PE X o ta) (c : Cls X.K C) (hm : Meth X.K C m f) (F : FnOk X.prog X.w X.K X.mg X.base CX k f fd ps sp) (hr : Room k X.A) (hb : KBn X.K fd ps (n + 1) ks g gV) (hx : Passes CX X E)
    (hkw : PK X kws tk) (hn : n = 0) (hall : (backToKw pos (keywordEach kws X.env)).all (·.1.isSome) = true := by rfl) (hks : (backToKw pos (keywordEach kws X.env)).filterMap (·.1) = ks := by rfl)
    (hpl : ((backTo pos (starEach [] X.env)).any (·.1) || (backToKw pos (keywordEach kws X.env)).any (·.1.isNone)) = false := by rfl)
    (ht : eval (.Call (.Attribute o m apos) [] kws pos) X.env = (do
      let ov ← eval o X.env
      standAt apos.atName
      let (f, first) ← holding [ov] (getMethod ov m pl)
      callWith pos f first (backTo pos (starEach [] X.env)) (backToKw pos (keywordEach kws X.env))) := by rfl) :
    PE X (.Call (.Attribute o m apos) [] kws pos) (tMethN C m n ks.length sp gV E ta tNil tk) := by
  refine ⟨fun pins s σ H Q I h => ?_⟩
  subst hn
  refine PySem.W.methodCall_KW (pl := pl) (thn (he.run pins s σ H _ I h) fun u s1 ⟨x, H1, I1, rx, a, dx, fs, ex, ea, l, q⟩ => ?_) ht
  subst ex
  obtain rfl : u = Value.ref a := rx
  refine getmeth_ok I1 ea c hm l ?_
  refine PySem.W.callWith_KW0 (first := [.ref a]) (h₀ := X.base) I.ok.mod.kin hm.kp hall (thn (hkw.run pos pins s1 σ H1 _ I1 q) fun ws s2 ⟨zs, H2, I2, rz, l1, l2, q2⟩ => ⟨I2.kIn, ?_⟩) hpl
  rw [hks]
  exact run_fnN (us := [.ref a]) (vs := [.ref a]) F hr hb hx I2 (.cons rfl .nil) rz rfl l2 q2
end
def wMethN (C : Addr) (m : Str) (mm p : Nat) (S : FS) (g : List D → List D → List D) (wa : WE) (wk : WA) : WE := fun env er q => wa env er fun o => match o with
  | .ins C' fs => C' = C ∧ fs.lookup m = none ∧ wk env er fun zs => zs.length = mm ∧ (g [o] zs).length = p ∧ S (g [o] zs) er q
  | _ => False
theorem sim_methN {K : PySem.W.Frag} {E : XK} {C : Addr} {m : Str} {mm p : Nat} {S : FS} {gV : List V → List V → List V} {g : List D → List D → List D} {ta : TE} {wa : WE} {tk : TA} {wk : WA} (hg : ∀ F vs ds us zs, RepA K F vs ds → RepA K F us zs → RepA K F (gV vs us) (g ds zs)) (ho : SimE K E ta wa) (hk : SimA K E tk wk) :
    SimE K E (tMethN C m 0 mm (spOf K p S) gV E ta tNil tk) (wMethN C m mm p S g wa wk) := fun B env F σ H Q er q a l w k =>
  ho B env F σ H _ er _ a l w fun x d F1 H1 s1 r1 w1 => by
    cases r1 with
    | @ins b C' dx xs fs h1 h2 =>
      obtain ⟨e1, e2, w2⟩ := w1
      subst e1
      refine ⟨b, dx, xs, rfl, s1.fh _ _ h1, h2.none e2, hk B env F1 σ H1 _ er _ (a.step s1) l w2 fun ys zs F2 H2 s2 r2 w3 => ?_⟩
      exact ⟨rfl, by rw [r2.len]; exact w3.1, F2, _, er, q, w3.2.1, s2.fh, hg F2 _ _ _ _ (.one ((Rep.ins h1 h2).mono s2.ff)) r2, w3.2.2, k.step (s1.trans s2), l.at (a.step (s1.trans s2))⟩
    | _ => exact w1.elim

/-! ### == and != by an own __eq__ -/
section
variable {X : Cx} {pins : List (Addr × Obj)} {σ : L2.St} {H : Hp} {s : Shared}
theorem looks_ty {x : V} {u t : Value} (I : Inv X pins σ H s) (rx : RelV x u) (ty : TyX X.K H x t) : PySem.W.Looks (model X.prog X.w) s.heap (typeOf u) t := by
  obtain ⟨P, Z, p, _⟩ := kit_of I rx ty
  exact Z.ty _ _ I.kIn p
theorem ins_inst {a C dx : Addr} {fs : List (Str × V)} (I : Inv X pins σ H s) (e : H a = some (.ins C dx fs)) : ∃ od, PySem.W.InstAt s.heap a (PySem.W.instObj C dx) C (some od) := by
  obtain ⟨mA, O, _⟩ := ins_get I.hok e
  obtain ⟨od, J, _⟩ := O.look
  exact ⟨od, J⟩
end
section
variable {X : Cx} {CX : CXT} {k : Nat} {g C : Addr} {fd : FuncData} {sp : Sp} {E : XK}
theorem cmpback {P : Value → Shared → Prop} {z : V} {v : Value} {s' : Shared} (r : RelV z v) (h : P v s') : PySem.W.CmpBack P v s' := by
  cases z with
  | int i =>
    obtain ⟨t, e⟩ := (show ∃ t, v = Value.int i t from r)
    cases e
    exact h
  | str x =>
    obtain ⟨t, e⟩ := (show ∃ t, v = Value.str x t from r)
    cases e
    exact h
  | byt x =>
    obtain ⟨t, e⟩ := (show ∃ t, v = Value.bytes x t from r)
    cases e
    exact h
  | flt x =>
    obtain ⟨t, e⟩ := (show ∃ t, v = Value.float x t from r)
    cases e
    exact h
  | _ =>
    cases r
    exact h
/-- x == y, x an instance of the class at C, whose __eq__ stands at g; y not of a class below -/
def rOwnEq (K : PySem.W.Frag) (C : Addr) (sp : Sp) (E : XK) : R2 := fun x y H Q => ∃ a dx fs t, x = .ref a ∧ H a = some (.ins C dx fs) ∧ TyX K H y t ∧ PySem.W.notFirst K C t = true ∧ sp [x, y] H Q E
theorem op_ownEq (hs : PySem.W.findIn X.K (.ref C) "__eq__" = some (some (.ref g))) (hf : PySem.W.isFn X.K (.ref g) = true) (F : FnOk X.prog X.w X.K X.mg X.base CX k g fd ["self", "other"] sp) (hb : Binds X.K fd ["self", "other"] []) (hr : Room k X.A) (hx : Passes CX X E) :
    OpR X (compareOp .Eq) (rOwnEq X.K C sp E) := by
  intro pins s σ H x y v u Q I rx ry h
  obtain ⟨a, dx, fs, t, rfl, ha, ty, hn, q⟩ := h
  cases (show v = Value.ref a from rx)
  obtain ⟨od, J⟩ := ins_inst I ha
  obtain ⟨m, hF⟩ := I.fr
  show wpAny _ _ (richCompare .Eq (.ref a) u) _ _ _
  refine PySem.W.cmp_K (op := .Eq) (tb := t) hr.units0 hF I.ok.mod.kin J (looks_ty I ry ty) hn hs hf ?_
  refine wpAny_mono (run_fn (us := [.ref a, u]) (vs := [.ref a, y]) (dvs := []) (ds := []) F hr hb .nil hx I (.cons rfl (.cons ry .nil)) q) (fun w s' z => ?_) fun _ _ x => x
  obtain ⟨z', H', I', rz, qz⟩ := z
  exact cmpback rz ⟨z', H', I', rz, qz⟩
theorem slot_ne : Slot "object" "__ne__" "object.__ne__" := Slot.of (T := "object") (name := "__ne__") (owner := "object") (n := "__ne__") (by rw [typeLookup_type, builtinLookup_eq_fast]; kernel_rfl) (by decide +kernel) (by decide +kernel) (by decide +kernel)
    (.inl (by decide +kernel)) (by rw [isSubtype_type]; kernel_rfl)
theorem run_fnA {pins : List (Addr × Obj)} {σ : L2.St} {H : Hp} {s : Shared} {Q : VK} {ps : List Str} {us : List Value} {vs : List V} {A : Around} (F : FnOk X.prog X.w X.K X.mg X.base CX k g fd ps sp) (hr : Room k A) (hA : A.frames = X.A.frames) (hb : Binds X.K fd ps []) (hx : Passes CX X E)
    (I : Inv X pins σ H s) (r : Vals vs us) (h : sp vs H Q E) : wpAny (model X.prog X.w) A (call (.ref g) us) (EP X pins σ Q) X.xe s := by
  have hl : (us ++ []).length = ps.length := by
    rw [List.append_nil, ← r.length]
    exact F.len _ _ _ _ h
  have e0 : Env0 X.prog X.w X.K X.mg X.base A X.stack s H := by
    have e := I.env0
    exact ⟨by rw [hA]; exact e.frames, e.mod, e.bs, e.bsz, e.funs, e.frf, e.hok, e.bare⟩
  have hb' := hb s us I.kIn hl
  rw [List.append_nil] at hb'
  refine wpAny_call (codeAny_mono (F.run A X.stack s H ⟨us, []⟩ us vs Q E hr e0 hb' r h) fun r s' hq => ?_)
  cases r with
  | error e => exact hx pins σ H s e s' I hq
  | ok fl =>
    cases fl with
    | ret u => exact I.after hq
    | next => exact False.elim hq
    | brk => exact False.elim hq
    | cont => exact False.elim hq
/-- x != y by x's __eq__, turned -/
def rOwnNe (K : PySem.W.Frag) (C : Addr) (sp : Sp) (E : XK) : R2 := fun x y H Q => ∃ a dx fs t, x = .ref a ∧ H a = some (.ins C dx fs) ∧ TyX K H y t ∧ PySem.W.notFirst K C t = true ∧ sp [x, y] H (fun z H' => ∃ b, z = .bl b ∧ Q (.bl (!b)) H') E
theorem op_ownNe (c : Cls X.K C) (hs : PySem.W.findIn X.K (.ref C) "__eq__" = some (some (.ref g))) (hne : PySem.W.findIn X.K (.ref C) "__ne__" = some (some (.builtin "object.__ne__"))) (hf : PySem.W.isFn X.K (.ref g) = true)
    (F : FnOk X.prog X.w X.K X.mg X.base CX k g fd ["self", "other"] sp) (hb : Binds X.K fd ["self", "other"] []) (hr : Room (k + 1) X.A) (hx : Passes CX X E) :
    OpR X (compareOp .NotEq) (rOwnNe X.K C sp E) := by
  intro pins s σ H x y v u Q I rx ry h
  obtain ⟨a, dx, fs, t, rfl, ha, ty, hn, q⟩ := h
  cases (show v = Value.ref a from rx)
  obtain ⟨od, J⟩ := ins_inst I ha
  obtain ⟨cd, hc, ho⟩ := PySem.W.any_some c.po
  have ne : cd.mro.isEmpty = false := by cases q : cd.mro with | nil => rw [q] at ho; cases ho | cons _ _ => rfl
  have sub : PySem.W.Looks (model X.prog X.w) s.heap (isInstance (.ref a) (.type "object")) true := J.type.andThen (PySem.W.looks_mroIn I.kIn (by unfold PySem.W.mroIn; rw [hc, Option.bind_some, if_neg (by rw [ne]; decide), PySem.W.only_has ho]))
  show wpAny _ _ (richCompare .NotEq (.ref a) u) _ _ _
  have body : wpAny (model X.prog X.w) X.A (call (.builtin "object.__ne__") [.ref a, u]) (fun v s' => ∃ b, v = .bool b ∧ EP X pins σ Q (.bool b) s') X.xe s := by
    refine wpAny_call (codeAny_call_builtin slot_ne.plain _root_.PySem.F.cmpEntry_ne (@PySem.W.check_slot (model X.prog X.w) _ _ s "object.__ne__" "object" "__ne__" (.ref a) [u] [] _ _root_.PySem.F.cmpKind_ne _root_.PySem.F.cmpSplit_ne sub (_root_.PySem.F.cmpArgs_ne _ _) ?_))
    unfold Builtin.«object.__ne__»
    have hsl : slotArgs "__ne__" 1 { pos := [Value.ref a, u] } = pure (.ref a, [u]) := by first | rfl | (unfold slotArgs; rfl) | (unfold slotArgs; simp)
    rw [hsl]
    refine wpAny_bind (wpAny_pure ?_)
    refine wpAny_bind (wpAny_cRoomFor (by have := hr.un; show X.A.units + 1 < cLine; omega) ?_)
    refine wpAny_bind (PySem.W.ifBound_K I.kIn J hs hf ?_)
    refine wpAny_mono (run_fnA (us := [.ref a, u]) (vs := [.ref a, y]) (A := X.A.in1) F hr.in1 rfl hb hx I (.cons rfl (.cons ry .nil)) q) (fun v s' z => ?_) fun _ _ x => x
    obtain ⟨z', H', I', rz, b, eb, qz⟩ := z
    subst eb
    cases (show v = Value.bool b from rz)
    exact wpAny_bind (wpAny_truthy_bool (wpAny_pure ⟨!b, rfl, .bl (!b), H', I', rfl, qz⟩))
  have one : wpAny (model X.prog X.w) X.A (tryCompare (.ref a) (cmpInfo .NotEq).2.1 u) (fun r s' => ∃ v, r = some v ∧ EP X pins σ Q v s') X.xe s := by
    unfold tryCompare
    refine wpAny_bind ?_
    simp only [callSpecialIfBound?, bindSpecialIfBound?]
    refine wpAny_holding (wpAny_bind (wpAny_bind (wpAny_bind (J.type.here ((PySem.W.looks_findIn I.kIn hne).here ?_)))))
    refine wpAny_bind (wpAny_askSetting (wpAny_ite ?_))
    rw [slot_ne.bind]
    have fin : wpAny (model X.prog X.w) X.A (call (.builtin "object.__ne__") ([.ref a] ++ [u]) >>= fun v => pure (some v)) (fun r s' => ∃ b, r = some (.bool b) ∧ EP X pins σ Q (.bool b) s') X.xe s := wpAny_bind (wpAny_mono body (fun v s' h' => by
      obtain ⟨b, rfl, h'⟩ := h'
      exact wpAny_pure ⟨b, rfl, h'⟩) fun _ _ h' => h')
    have fin2 : wpAny (model X.prog X.w) X.A (call (.builtin "object.__ne__") ([.ref a] ++ [u]) >>= fun v => pure (some v)) (fun r s' => wpAny (model X.prog X.w) X.A (match r with | some .notImplemented | none => pure none | some v => pure (some v)) (fun r s' => ∃ v, r = some v ∧ EP X pins σ Q v s') X.xe s') X.xe s := wpAny_mono fin (fun r s' h' => by
      obtain ⟨b, rfl, h'⟩ := h'
      exact wpAny_pure ⟨_, rfl, h'⟩) fun _ _ h' => h'
    split
    · exact wpAny_bind (wpAny_pure (wpAny_pure (by exact fin2)))
    · exact wpAny_tryCatch (wpAny_bind (wpAny_pure (wpAny_pure (by exact fin2))))
  unfold richCompare
  simp only [oneThing_ref]
  refine wpAny_holding (wpAny_bind (wpAny_cRoomFor hr.units0 ?_))
  refine wpAny_bind (J.type.here (wpAny_bind ((looks_ty I ry ty).here ?_)))
  split
  · rename_i q
    have e : PySem.W.subIn X.K t (.ref C) = some false := by
      rcases Bool.or_eq_true_iff.mp hn with e | e
      · rw [beq_iff_eq.mp e] at q; simp at q
      · exact beq_iff_eq.mp e
    refine wpAny_bind ((PySem.W.looks_subIn I.kIn e).here ?_)
    simp only [Bool.false_eq_true, if_false]
    refine wpAny_bind (wpAny_mono one (fun r s' z => ?_) fun _ _ e => e)
    obtain ⟨v, rfl, hq⟩ := z
    exact wpAny_pure hq
  · refine wpAny_bind (wpAny_pure ?_)
    simp only [Bool.false_eq_true, if_false]
    refine wpAny_bind (wpAny_mono one (fun r s' z => ?_) fun _ _ e => e)
    obtain ⟨v, rfl, hq⟩ := z
    exact wpAny_pure hq
end
end DL
/-! DL4: targets, instances made, fields stored, own ==, keywords, bags. -/
namespace DL
open PySem L2
variable [Tbl]
section
variable {K : PySem.W.Frag} {E : XK} {ta tb tc te : TE} {wa wb wc we : WE} {X : Cx}

/-! ### several targets -/
def gNs : List Nat → TGs
  | [] => gNil
  | i :: r => gCons (gName i) (gNs r)
def setAll : List Nat → List D → EV → (EV → Prop) → Prop
  | [], [], env, q => q env
  | i :: js, x :: l, env, q => setAll js l (env.set i (.d x)) q
  | _, _, _, _ => False
def gTupD (js : List Nat) : D → EV → (EV → Prop) → Prop := fun d env q => match d with
  | .tup l => setAll js l env q
  | _ => False
theorem setAll_ok : ∀ {js : List Nat} {l : List D} {B : Ent} {env : EV} {F : Hp} {σ : L2.St} {H : Hp} {xs : List V} {Q : L2.St → Hp → Prop} {q : EV → Prop}, At K B env F σ H → RepA K F xs l → setAll js l env q →
    (∀ env' σ', At K B env' F σ' H → σ'.length = σ.length → (∀ i, i ∉ js → σ'[i]? = σ[i]?) → q env' → Q σ' H) → gNs js xs σ H Q
  | [], [], _, _, _, _, _, _, _, _, a, .nil, w, k => ⟨rfl, k _ _ a rfl (fun _ _ => rfl) w⟩
  | i :: js, d :: l, _, _, _, _, _, _, _, _, a, .cons h r, w, k => ⟨_, _, rfl, setAll_ok (a.set h) r w fun env' σ' a' hl ho hq => k env' σ' a' (by rw [hl, List.length_set]) (fun n hn => by
      rw [ho n (fun z => hn (List.mem_cons_of_mem _ z)), off1 (fun z => hn (by simp at z; simp [z]))]) hq⟩
  | [], _ :: _, _, _, _, _, _, _, _, _, _, _, w, _ => w.elim
  | _ :: _, [], _, _, _, _, _, _, _, _, _, _, w, _ => w.elim
theorem setAll_len : ∀ {js : List Nat} {l : List D} {env : EV} {q : EV → Prop}, setAll js l env q → l.length = js.length
  | [], [], _, _, _ => rfl
  | _ :: _, _ :: _, _, _, w => congrArg Nat.succ (setAll_len w)
  | [], _ :: _, _, _, w => w.elim
  | _ :: _, [], _, _, w => w.elim
theorem simg_names {js : List Nat} {n : Nat} (hn : js.length = n := by rfl) : SimG K js (gTup K n (gNs js)) (gTupD js) := fun B env F σ H x d Q q a r w k => by
  unfold gTupD at w
  split at w
  · cases r with
    | tup h1 h2 => exact ⟨_, _, rfl, same_t a.fh h1, by rw [h2.len, setAll_len w, hn], setAll_ok a h2 w k⟩
  · exact w.elim
/-- any target -/
def sAsgG (g : D → EV → (EV → Prop) → Prop) (we : WE) : WS := fun n env => we env n.er fun d => g d env n.nx
theorem sims_asgG {js : List Nat} {tg : TG} {g : D → EV → (EV → Prop) → Prop} (h : SimE K E te we) (hg : SimG K js tg g) : SimS K E (tAsg te tg) (sAsgG g we) := fun B Dd n L env F σ H a w =>
  h B env F σ H _ n.er _ a L.er w fun x d F1 H1 s1 r1 w1 => hg B env F1 σ H1 x d _ _ (a.step s1) r1 w1 fun env' σ' a' _ _ q => L.nx _ _ _ _ a' q
/-- found, rest = [], ..: by a tuple -/
theorem sims_tupO {i j : Nat} {wo : WO} (ha : SimO K E ta wo) (hb : SimE K E tb wb) : SimS K E (tAsg (tTup (tCons ta (tCons tb tNil))) (gTup K 2 (gCons (gName i) (gCons (gName j) gNil)))) (sParO i j wo wb) := fun B Dd n L env F σ H a w =>
  ha B env F σ H _ n.er _ a L.er w fun p xs l F1 H1 s1 hp h1 hf r1 w1 => hb B env F1 σ H1 _ n.er _ (a.step s1) L.er w1 fun y e F2 H2 s2 r2 w2 =>
    ⟨by show 2 ≤ sizeLine; decide, fun T hT => ⟨T, _, rfl, .inl (.inl upd_same), rfl, _, _, rfl, _, _, rfl, rfl, by
      have s := (s1.trans s2).trans (Stp.fresh (o := .tup [.ref p, y]) s2.fh hT)
      have h2 := s2.hh.get h1
      exact L.nx _ F2 _ _ ((a.setNew s hp (by rw [upd_ne (ne_of_none h2 hT)]; exact h2) (s2.nw p hf ⟨_, h1, trivial⟩) (RepA.mono s2.ff r1)).set r2) w2⟩⟩
def sPar3 (i j l : Nat) (wa wb wc : WE) : WS := fun n env => wa env n.er fun x => wb env n.er fun y => wc env n.er fun z => n.nx (((env.set i (.d x)).set j (.d y)).set l (.d z))
theorem sims_par3 {i j l : Nat} (ha : SimE K E ta wa) (hb : SimE K E tb wb) (hc : SimE K E tc wc) : SimS K E (tPar3 i j l (tCons ta (tCons tb (tCons tc tNil)))) (sPar3 i j l wa wb wc) := fun B Dd n L env F σ H a w =>
  ha B env F σ H _ n.er _ a L.er w fun x d F1 H1 s1 r1 w1 => hb B env F1 σ H1 _ n.er _ (a.step s1) L.er w1 fun y e F2 H2 s2 r2 w2 => hc B env F2 σ H2 _ n.er _ (a.step (s1.trans s2)) L.er w2 fun z f F3 H3 s3 r3 w3 =>
    ⟨x, y, z, rfl, L.nx _ F3 _ H3 ((((a.step ((s1.trans s2).trans s3)).set (r1.mono (s2.trans s3).ff)).set (r2.mono s3.ff)).set r3) w3⟩
def sParO3 (i j l : Nat) (wo : WO) (wb wc : WE) : WS := fun n env => wo env n.er fun x => wb env n.er fun y => wc env n.er fun z => n.nx (((env.set i (.own x)).set j (.d y)).set l (.d z))
theorem sims_parO3 {i j l : Nat} {wo : WO} (ha : SimO K E ta wo) (hb : SimE K E tb wb) (hc : SimE K E tc wc) : SimS K E (tPar3 i j l (tCons ta (tCons tb (tCons tc tNil)))) (sParO3 i j l wo wb wc) := fun B Dd n L env F σ H a w =>
  ha B env F σ H _ n.er _ a L.er w fun p xs m F1 H1 s1 hp h1 hf r1 w1 => hb B env F1 σ H1 _ n.er _ (a.step s1) L.er w1 fun y e F2 H2 s2 r2 w2 => hc B env F2 σ H2 _ n.er _ (a.step (s1.trans s2)) L.er w2 fun z f F3 H3 s3 r3 w3 => by
    have f2 := s2.nw p hf ⟨_, h1, trivial⟩
    have h2 := s2.hh.get h1
    exact ⟨.ref p, y, z, rfl, L.nx _ F3 _ H3 (((a.setNew ((s1.trans s2).trans s3) hp (s3.hh.get h2) (s3.nw p f2 ⟨_, h2, trivial⟩) (RepA.mono (s2.trans s3).ff r1)).set (r2.mono s3.ff)).set r3) w3⟩

/-! ### instances -/
abbrev IS := List D → ER → (List (Str × D) → Prop) → Prop
def wo (H : Hp) (x : Addr) : Hp := fun a => if a = x then none else H a
theorem wo_same {H : Hp} {x : Addr} : wo H x x = none := by
  unfold wo
  rw [if_pos rfl]
theorem wo_ne {H : Hp} {x a : Addr} (h : a ≠ x) : wo H x a = H a := by
  unfold wo
  rw [if_neg h]
theorem same_wo {H : Hp} {x : Addr} : Same (wo H x) H := fun a o e => by
  by_cases h : a = x
  · rw [h, wo_same] at e
    cases e
  · rw [wo_ne h] at e
    exact e
theorem same_in_wo {F H : Hp} {x : Addr} (e : Same F H) (h : F x = none) : Same F (wo H x) := fun a o q => by
  rw [wo_ne (ne_of_none q h)]
  exact e a o q
def spInit (K : PySem.W.Frag) (C : Addr) (n : Nat) (S : IS) : Sp := fun vs H Q E => ∃ (x dx : Addr) (vs' : List V) (F : Hp) (ds : List D) (er : ER) (q : List (Str × D) → Prop), vs = .ref x :: vs' ∧ ds.length = n ∧ H x = some (.ins C dx []) ∧ F x = none ∧ Fz F H ∧ RepA K F vs' ds ∧ S ds er q ∧
  (∀ (dy : Addr) (xs : List (Str × V)) (fs : List (Str × D)) (F' H' : Hp), Stp F F' (wo H x) H' → H' x = some (.ins C dy xs) → F' x = none → RepF K F' xs fs → q fs → Q .non H') ∧ EL K ⟨F, wo H x⟩ E er
theorem spInit_len {C : Addr} {n : Nat} {S : IS} {vs : List V} {H : Hp} {Q : VK} (h : spInit K C n S vs H Q E) : vs.length = n + 1 := by
  obtain ⟨x, dx, vs', F, ds, er, q, rfl, hl, _, _, _, r, _⟩ := h
  rw [List.length_cons, r.len, hl]
theorem Stp.weak {F F' H Hm H' : Hp} (s : Stp F F' Hm H') (e : Grw H Hm) : Stp F F' H H' := ⟨s.ff, e.trans s.hh, s.fh, fun a h1 ⟨u, hu, n⟩ => s.nw a h1 ⟨u, e.kp a u hu n, n⟩⟩
theorem grw_wo {H : Hp} {x : Addr} : Grw (wo H x) H := ⟨fun a o e _ => same_wo a o e, fun a f => by
  by_cases z : a = x
  · rw [z]
    exact .inl wo_same
  · unfold Fre
    rw [wo_ne z]
    exact f⟩
theorem init_run {C : Addr} {n : Nat} {S : IS} {F1 H1 : Hp} {Q : VK} {er : ER} {q : D → Prop} {vs : List V} {ds : List D} (fh : Fz F1 H1) (r : RepA K F1 vs ds) (hl : ds.length = n) (w : S ds er fun fs => q (.ins C fs)) (k : VL K F1 H1 Q q) (l : EL K ⟨F1, H1⟩ E er) :
    ∀ x dx, H1 x = none → H1 dx = none → dx ≠ x → spInit K C n S (.ref x :: vs) (upd (upd H1 dx (.own x)) x (.ins C dx [])) (fun v H2 => v = .non ∧ Q (.ref x) H2) E := fun x dx hx hdx hne => by
  have hx1 : (upd H1 dx (HO.own x)) x = none := by rw [upd_ne (Ne.symm hne)]; exact hx
  have e0 : Grw H1 (wo (upd (upd H1 dx (.own x)) x (.ins C dx [])) x) := ⟨fun a o e _ => by
    rw [wo_ne (ne_of_none e hx), upd_ne (ne_of_none e hx), upd_ne (ne_of_none e hdx)]
    exact e, fun a f => by
    by_cases z : a = x
    · rw [z]
      exact .inl hx
    · by_cases y : a = dx
      · rw [y]
        exact .inl hdx
      · unfold Fre at f
        rw [wo_ne z, upd_ne z, upd_ne y] at f
        exact f⟩
  refine ⟨x, dx, vs, F1, ds, er, _, rfl, hl, upd_same, fh.free hx, fz_new (fz_new fh hdx) hx1, r, w, fun dy xs fs F' H' s hx' hf rf z => ⟨rfl, ?_⟩, fun C' d fs F' H' s z1 z2 => l C' d fs F' H' (s.weak e0) z1 z2⟩
  have s1 : Stp F1 F' H1 H' := s.weak e0
  exact k _ _ _ _ (s1.freeze (.inl hx) hf hx') (.ins upd_same (rf.mono (same_new hf))) z
def wMake (C : Addr) (n : Nat) (S : IS) (dd : List D) (wa : WA) : WE := fun env er q => wa env er fun ds => (ds ++ dd).length = n ∧ S (ds ++ dd) er fun fs => q (.ins C fs)
theorem sim_make {C : Addr} {n : Nat} {S : IS} {dvs : List V} {dd : List D} {t : TA} {w : WA} (hd : ∀ F, RepA K F dvs dd) (ha : SimA K E t w) : SimE K E (tMake C (spInit K C n S) dvs E t) (wMake C n S dd w) := fun B env F σ H Q er q a l w k =>
  ha B env F σ H _ er _ a l w fun xs ds F1 H1 s1 r1 w1 => init_run s1.fh (r1.app (hd F1)) w1.1 w1.2 (k.step s1) (l.at (a.step s1))
def wMake0 (C : Addr) (n : Nat) (S : IS) (dd : List D) (wa : WA) : WE := fun env er q => wa env er fun ds => (ds ++ dd).length = n ∧ S (ds ++ dd) (fun _ => False) fun fs => q (.ins C fs)
theorem sim_make0 {C : Addr} {n : Nat} {S : IS} {dvs : List V} {dd : List D} {t : TA} {w : WA} {E1 : XK} (hd : ∀ F, RepA K F dvs dd) (ha : SimA K E t w) : SimE K E (tMake C (spInit K C n S) dvs E1 t) (wMake0 C n S dd w) := fun B env F σ H Q er q a l w k =>
  ha B env F σ H _ er _ a l w fun xs ds F1 H1 s1 r1 w1 => init_run (E := E1) s1.fh (r1.app (hd F1)) w1.1 w1.2 (k.step s1) EL.no
/-- C(k = v, ..): g puts the values in the parameters' order -/
def wMakeK (C : Addr) (m n : Nat) (S : IS) (g : List D → List D) (wk : WA) : WE := fun env er q => wk env er fun zs => zs.length = m ∧ (g zs).length = n ∧ S (g zs) er fun fs => q (.ins C fs)
theorem sim_makeK {C : Addr} {m n : Nat} {S : IS} {gV : List V → List V → List V} {gW : List V → List V} {g : List D → List D} {tk : TA} {w : WA} (hv : ∀ x zs, gV [x] zs = x :: gW zs) (hg : ∀ F us zs, RepA K F us zs → RepA K F (gW us) (g zs)) (hk : SimA K E tk w) :
    SimE K E (tMakeK C 0 m (spInit K C n S) gV E tNil tk) (wMakeK C m n S g w) := fun B env F σ H Q er q a l w k =>
  hk B env F σ H _ er _ a l w fun xs ds F1 H1 s1 r1 w1 => ⟨rfl, by rw [r1.len]; exact w1.1, fun x dx hx hdx hne => by
    rw [hv]
    exact init_run s1.fh (hg F1 _ _ r1) w1.2.1 w1.2.2 (k.step s1) (l.at (a.step s1)) x dx hx hdx hne⟩
def putD (f : Str) (v : D) : List (Str × D) → List (Str × D)
  | [] => [(f, v)]
  | (g, x) :: r => if g = f then (g, v) :: r else (g, x) :: putD f v r
theorem RepF.put {F : Hp} {f : Str} {y : V} {d : D} (hy : Rep K F y d) : ∀ {xs : List (Str × V)} {fs : List (Str × D)}, RepF K F xs fs → RepF K F (putF f y xs) (putD f d fs)
  | _, _, .nil => .cons hy .nil
  | (n, v) :: xs, (_, e) :: fs, .cons h r => by
    unfold putF putD
    by_cases z : n = f
    · rw [if_pos z, if_pos z]
      exact .cons hy r
    · rw [if_neg z, if_neg z]
      exact .cons h (RepF.put hy r)
/-- self.f = e, in __init__ -/
def sFldI (C : Addr) (i : Nat) (f : Str) (we : WE) : WS := fun n env => match env[i]? with
  | some (.me a C' fs) => C' = C ∧ we env n.er fun d => fs.length < 1000 ∧ n.nx (env.set i (.me a C (putD f d fs)))
  | _ => False
theorem sims_fld {C : Addr} {i : Nat} {f : Str} (cl : Cls K C) (na : NoAttr K C f) (h : SimE K E te we) : SimS K E (sFld K (tVar i) te f) (sFldI C i f we) := fun B Dd n L env F σ H a w => by
  unfold sFldI at w
  split at w
  · rename_i p C' fs e
    obtain ⟨rfl, w⟩ := w
    obtain ⟨dx, xs, ex, h1, r, h2, h3⟩ := a.sl i _ e
    refine h B env F σ H _ n.er _ a L.er w fun y d F1 H1 s1 r1 w1 => ?_
    have g1 := s1.hh.get h1
    refine ⟨.ref p, ex, p, C', dx, xs, rfl, g1, cl, na, by rw [r.len]; exact w1.1, ?_⟩
    have f1 := s1.nw p h2 ⟨_, h1, trivial⟩
    exact L.nx _ F1 _ _ ((a.step s1).changeG (sw := .me p C' (putD f d fs)) e trivial ex g1 trivial f1 h3 ⟨dx, _, rfl, upd_same, RepF.put r1 (RepF.mono s1.ff r), f1, h3⟩) w1.2
  · exact w.elim
def envI (N : Nat) (x C : Addr) (ds : List D) : EV := .me x C [] :: (ds.map .d ++ List.replicate (N - (ds.length + 1)) .un)
open PySem.Spec PyProof.Rows
theorem startI_at {N : List Str} {F H : Hp} {x C dx : Addr} {vs : List V} {ds : List D} (s : Fz F H) (hx : H x = some (.ins C dx [])) (hf : F x = none) (r : RepA K F vs ds) (hl : ds.length + 1 ≤ N.length) : At K ⟨F, wo H x⟩ (envI N.length x C ds) F (L2.start N (.ref x :: vs)) H := by
  have hlen := r.len
  have a0 : At K ⟨F, wo H x⟩ (.un :: (ds.map .d ++ List.replicate (N.length - (ds.length + 1)) .un)) F (L2.start N (.ref x :: vs)) H := by
    refine ⟨?_, ⟨Same.refl F, grw_wo, s, fun a h _ => h⟩, fun i sv e => ?_, fun i j t u b e1 e2 m1 _ _ _ => ?_⟩
    · unfold L2.start
      simp only [List.length_append, List.length_map, List.length_replicate, List.length_cons, hlen]
      omega
    · cases i with
      | zero =>
        cases e
        trivial
      | succ i =>
        have e : (ds.map SV.d ++ List.replicate (N.length - (ds.length + 1)) .un)[i]? = some sv := by simpa using e
        by_cases hi : i < ds.length
        · rw [List.getElem?_append_left (by rw [List.length_map]; exact hi), List.getElem?_map] at e
          cases e2 : ds[i]? with
          | none =>
            rw [e2] at e
            cases e
          | some d =>
            rw [e2] at e
            cases e
            obtain ⟨y, hy, ry⟩ := r.getD e2
            refine ⟨y, ?_, ry⟩
            unfold L2.start
            rw [List.getElem?_append_left (by simp [hlen]; exact hi), List.getElem?_map, List.getElem?_cons_succ, hy]
            rfl
        · rw [List.getElem?_append_right (by rw [List.length_map]; omega)] at e
          have z := List.mem_replicate.mp (List.mem_of_getElem? e)
          rw [z.2]
          trivial
    · exfalso
      have z := List.mem_of_getElem? e1
      rcases List.mem_cons.mp z with z | z
      · rw [z] at m1
        exact m1
      rcases List.mem_append.mp z with z | z
      · obtain ⟨d, _, rfl⟩ := List.mem_map.mp z
        exact m1
      · rw [(List.mem_replicate.mp z).2] at m1
        exact m1
  have z : (L2.start N (.ref x :: vs))[0]? = some (some (.ref x)) := rfl
  have a1 := a0.setMine (i := 0) (p := x) (sv := .me x C []) trivial ⟨dx, [], rfl, hx, .nil, hf, .inl wo_same⟩ fun j t hj e m q => by
    have := a0.sl j t e
    exfalso
    have z := List.mem_of_getElem? e
    rcases List.mem_cons.mp z with z | z
    · rw [z] at m
      exact m
    rcases List.mem_append.mp z with z | z
    · obtain ⟨d, _, rfl⟩ := List.mem_map.mp z
      exact m
    · rw [(List.mem_replicate.mp z).2] at m
      exact m
  exact a1
theorem body_init {N : List Str} {C : Addr} {n : Nat} {S : IS} {t : TS} {w : WS} {vs : List V} {H : Hp} {Q : VK} (ht : SimS K E t w) (hn : n + 1 ≤ N.length)
    (hw : ∀ x ds er q, ds.length = n → S ds er q → w { nx := fun env => ∃ fs, env[0]? = some (.me x C fs) ∧ q fs, rt := fun _ => False, er := er } (envI N.length x C ds)) (h : spInit K C n S vs H Q E) : t { nx := fun _ H' => Q .non H', rt := Q } (L2.start N vs) H := by
  obtain ⟨x, dx, vs', F, ds, er, q, rfl, hl, hx, hf, s, r, hS, kv, ke⟩ := h
  refine ht ⟨F, wo H x⟩ _ _ ⟨fun env F' σ H' a z => ?_, fun _ _ _ _ _ _ z => False.elim z, fun _ _ _ _ _ z => False.elim z, fun _ _ _ _ _ z => False.elim z, ke⟩ _ F _ H (startI_at s hx hf r (by omega)) (hw x ds er q hl hS)
  obtain ⟨fs, e, z⟩ := z
  obtain ⟨dy, xs, ex, h1, rf, h2, h3⟩ := a.sl 0 _ e
  exact kv dy xs fs F' H' a.st h1 h2 rf z
theorem ok_init {P : Program} {w : World} {mg : Str → Option Value} {base : Heap} {x qual : Str} {st : Stmt} {f C : Addr} {fd : FuncData} {N : List Str} {p : Str} {ps : List Str} {k : Nat} {S : IS} (F : Fun K x qual st f fd) (sc : FnScope N (p :: ps) (defScope st)) (hn : ps.length + 1 ≤ N.length)
    (hb : ∀ (cdv : Value) (A : Around) (outer : List Env) (s : Shared) (H : Hp) (E : XK), Room k (A.deeper (envOfC qual (defScope st) s.heap.objs.size f cdv)) →
      ∃ t ws, PSs (cxOf (L2.CX P w) P w K mg base N qual (defScope st) f cdv A outer s H E) (defBody st) t ∧ SimS K E t ws ∧
        ∀ x ds er q, ds.length = ps.length → S ds er q → ws { nx := fun env => ∃ fs, env[0]? = some (.me x C fs) ∧ q fs, rt := fun _ => False, er := er } (envI N.length x C ds)) :
    FnOk P w K mg base (L2.CX P w) (k + 1) f fd (p :: ps) (spInit K C ps.length S) := by
  refine F.okX sc (fun vs H Q E h => spInit_len h) (fun cdv A outer s H vs Q E hr h => ?_)
  obtain ⟨t, ws, h1, h2, h3⟩ := hb cdv A outer s H E hr
  exact ⟨t, h1, body_init h2 hn h3 h⟩

/-! ### own ==, != -/
def dOwnEq (K : PySem.W.Frag) (C : Addr) (S : FS) : D → D → (D → Prop) → Prop := fun x y q => match x with
  | .ins C' _ => C' = C ∧ OkTy K y ∧ PySem.W.notFirst K C (tyD y) = true ∧ S [x, y] (fun _ => False) q
  | _ => False
theorem sim_ownEq {C : Addr} {S : FS} {E1 : XK} : Sim2 K (rOwnEq K C (spOf K 2 S) E1) (dOwnEq K C S) := fun F H x y d e Q q s r1 r2 w k => by
  cases r1 with
  | @ins a C' dx xs fs h1 h2 =>
    obtain ⟨rfl, w1, w2, w3⟩ := w
    exact ⟨a, dx, xs, _, rfl, s _ _ h1, tyx_of s r2 w1, w2, F, _, _, q, rfl, s, .cons (.ins h1 h2) (.cons r2 .nil), w3, k, EL.no⟩
  | _ => exact w.elim
def dOwnNe (K : PySem.W.Frag) (C : Addr) (S : FS) : D → D → (D → Prop) → Prop := fun x y q => match x with
  | .ins C' _ => C' = C ∧ OkTy K y ∧ PySem.W.notFirst K C (tyD y) = true ∧ S [x, y] (fun _ => False) fun z => match z with
    | .bl b => q (.bl (!b))
    | _ => False
  | _ => False
theorem sim_ownNe {C : Addr} {S : FS} {E1 : XK} : Sim2 K (rOwnNe K C (spOf K 2 S) E1) (dOwnNe K C S) := fun F H x y d e Q q s r1 r2 w k => by
  cases r1 with
  | @ins a C' dx xs fs h1 h2 =>
    obtain ⟨rfl, w1, w2, w3⟩ := w
    refine ⟨a, dx, xs, _, rfl, s _ _ h1, tyx_of s r2 w1, w2, F, _, _, _, rfl, s, .cons (.ins h1 h2) (.cons r2 .nil), w3, fun v z F' H' s' r' z' => ?_, EL.no⟩
    cases r' with
    | bl b => exact ⟨b, rfl, k _ _ F' H' s' (.bl (!b)) z'⟩
    | _ => exact False.elim z'
  | _ => exact w.elim

/-! ### keywords of a def without defaults -/
theorem kb_of {x qual : Str} {st : Stmt} {f : Addr} {fd : FuncData} {ps : List Str} (F : Fun K x qual st f fd) (n : Nat) (ks : List Str) (g : {α : Type} → List α → List α → List α)
    (hr : ∀ {vs : List V} {us : List Value} {zs : List V} {ws : List Value}, Vals vs us → Vals zs ws → Vals (g vs zs) (g us ws))
    (h : ∀ (kV doc pm : Value) (an : Option Addr) (cdv ct : Value) (us ws : List Value), us.length = n → ws.length = ks.length → bindArgs (PySem.W.fnOf x qual (defArgs st) (defBody st) (defScope st) .none kV doc pm an cdv ct) ⟨us, ks.zip ws⟩ = pure (ps.zip (g us ws))) :
    KBn K fd ps n ks (fun us ws => g us ws) (fun vs zs => g vs zs) := by
  obtain ⟨oc, od, kV, doc, pm, an, cdv, ct, osl, rfl, lk, hcd⟩ := F.ex
  exact ⟨fun s us ws _ l1 l2 => .of_eq (h kV doc pm an cdv ct us ws l1 l2), fun r1 r2 => hr r1 r2⟩

/-! ### bags -/
theorem inv_view {pins : List (Addr × Obj)} {σ : L2.St} {H : Hp} {s : Shared} {a : Addr} {o : HO} (I : Inv X pins σ H s) (mu : Mut (H a)) (ht : ∃ u, s.heap.get? a = some u) (ok : ObjOk X.prog X.w (upd H a o) s.heap a o) : Inv X pins σ (upd H a o) s :=
  I.write (t' := s.toks) (x := a) (e := a) (h' := s.heap) mu (.inl rfl) (fun b u _ z => z) ht ok
end
end DL
/-! DL5: tests, isinstance by classes, own == by classes, bags. -/
namespace DL
open PySem L2
variable [Tbl]
section
variable {K : PySem.W.Frag} {E : XK} {ta tb tc te : TE} {wa wb wc we : WE} {tt tu : TT} {wt wu : WT} {X : Cx}

/-! ### tests -/
def tyAnd (wt wu : WT) : WT := fun env er q => wt env er fun b => (b = true → wu env er q) ∧ (b = false → q false)
theorem simt_and (h : SimT K E tt wt) (g : SimT K E tu wu) : SimT K E (tAnd tt tu) (tyAnd wt wu) := fun B env F σ H Q er q a l w k =>
  h B env F σ H _ er _ a l w fun b F1 H1 s1 w1 => by
    cases b with
    | true => exact g B env F1 σ H1 Q er q (a.step s1) l (w1.1 rfl) fun b F2 H2 s2 => k b F2 H2 (s1.trans s2)
    | false => exact k false F1 H1 s1 (w1.2 rfl)
def tyOr (wt wu : WT) : WT := fun env er q => wt env er fun b => (b = true → q true) ∧ (b = false → wu env er q)
theorem simt_or (h : SimT K E tt wt) (g : SimT K E tu wu) : SimT K E (tOr tt tu) (tyOr wt wu) := fun B env F σ H Q er q a l w k =>
  h B env F σ H _ er _ a l w fun b F1 H1 s1 w1 => by
    cases b with
    | true => exact k true F1 H1 s1 (w1.1 rfl)
    | false => exact g B env F1 σ H1 Q er q (a.step s1) l (w1.2 rfl) fun b F2 H2 s2 => k b F2 H2 (s1.trans s2)
def tyNot (wt : WT) : WT := fun env er q => wt env er fun b => q (!b)
theorem simt_not (h : SimT K E tt wt) : SimT K E (tNot tt) (tyNot wt) := fun B env F σ H Q er q a l w k =>
  h B env F σ H _ er _ a l w fun b F1 H1 s1 w1 => k (!b) F1 H1 s1 w1

/-! ### classes by data -/
structure CtxD where
  own : Addr → Bool
  sub : Addr → Addr → Option Bool
def bts : List String := ["int", "bool", "str", "tuple", "list", "dict", "float", "set", "bytes", "type", "NoneType"]
structure TyOk (K : PySem.W.Frag) (A : CtxD) : Prop where
  cls : ∀ C, A.own C = true → OwnC K C
  up : ∀ C, A.own C = true → ∀ T ∈ bts, PySem.W.kitOne K (.ref C) (.type T) = some false
  dn : ∀ C, A.own C = true → ∀ T ∈ bts, PySem.W.kitOne K (.type T) (.ref C) = some false
  sub : ∀ C C' b, A.sub C C' = some b → A.own C = true ∧ PySem.W.kitOne K (.ref C) (.ref C') = some b
def isT (A : CtxD) : D → String → Option Bool
  | .int _, T => if T ∈ bts then some (T == "int") else none
  | .bl _, T => if T ∈ bts then some (T == "int" || T == "bool") else none
  | .str _, T => if T ∈ bts then some (T == "str") else none
  | .tup _, T => if T ∈ bts then some (T == "tuple") else none
  | .lst _, T => if T ∈ bts then some (T == "list") else none
  | .non, T => if T ∈ bts then some (T == "NoneType") else none
  | .dct _, T => if T ∈ bts then some (T == "dict") else none
  | .ins C _, T => if T ∈ bts ∧ A.own C = true then some false else none
  | _, _ => none
def isO (A : CtxD) : D → Addr → Option Bool
  | .ins C _, C' => A.sub C C'
  | .ty _, _ => none
  | .obj _, _ => none
  | .scr _, _ => none
  | .bag _, _ => none
  | .tux _, _ => none
  | .exc _ _, _ => none
  | _, C' => if A.own C' = true then some false else none
theorem kits (K : PySem.W.Frag) : (∀ T ∈ bts, PySem.W.kitOne K (.type "int") (.type T) = some (T == "int")) ∧ (∀ T ∈ bts, PySem.W.kitOne K (.type "bool") (.type T) = some (T == "int" || T == "bool")) ∧ (∀ T ∈ bts, PySem.W.kitOne K (.type "str") (.type T) = some (T == "str")) ∧
    (∀ T ∈ bts, PySem.W.kitOne K (.type "tuple") (.type T) = some (T == "tuple")) ∧ (∀ T ∈ bts, PySem.W.kitOne K (.type "list") (.type T) = some (T == "list")) ∧ (∀ T ∈ bts, PySem.W.kitOne K (.type "NoneType") (.type T) = some (T == "NoneType")) ∧ (∀ T ∈ bts, PySem.W.kitOne K (.type "dict") (.type T) = some (T == "dict")) := by
  refine ⟨?_, ?_, ?_, ?_, ?_, ?_, ?_⟩
  all_goals
    intro T hT
    unfold bts at hT
    simp only [List.mem_cons, List.not_mem_nil, or_false] at hT
    rcases hT with rfl | rfl | rfl | rfl | rfl | rfl | rfl | rfl | rfl | rfl | rfl <;> kernel_rfl
def isA (A : CtxD) : List D → (D → Prop) → Prop
  | [x, .ty T], q => match isT A x T with
    | some b => q (.bl b)
    | none => False
  | [x, .obj C], q => match isO A x C with
    | some b => q (.bl b)
    | none => False
  | _, _ => False
theorem isT_ok {A : CtxD} (h : TyOk K A) {x : D} {T : String} {b : Bool} (e : isT A x T = some b) : OkTy K x ∧ PySem.W.kitOne K (tyD x) (.type T) = some b := by
  obtain ⟨k1, k2, k3, k4, k5, k6, k7⟩ := kits K
  have it : ∀ {c : Bool}, (if T ∈ bts then some c else none) = some b → T ∈ bts ∧ c = b := fun {c} z => by
    split at z
    · rename_i z1
      exact ⟨z1, Option.some.inj z⟩
    · cases z
  cases x with
  | ins C fs =>
    have e : (if T ∈ bts ∧ A.own C = true then some false else none) = some b := e
    split at e
    · rename_i z
      cases e
      exact ⟨h.cls C z.2, h.up C z.2 T z.1⟩
    · cases e
  | non =>
    obtain ⟨z, rfl⟩ := it e
    exact ⟨trivial, k6 T z⟩
  | bl c =>
    obtain ⟨z, rfl⟩ := it e
    exact ⟨trivial, k2 T z⟩
  | int c =>
    obtain ⟨z, rfl⟩ := it e
    exact ⟨trivial, k1 T z⟩
  | str c =>
    obtain ⟨z, rfl⟩ := it e
    exact ⟨trivial, k3 T z⟩
  | tup c =>
    obtain ⟨z, rfl⟩ := it e
    exact ⟨trivial, k4 T z⟩
  | lst c =>
    obtain ⟨z, rfl⟩ := it e
    exact ⟨trivial, k5 T z⟩
  | dct c =>
    obtain ⟨z, rfl⟩ := it e
    exact ⟨trivial, k7 T z⟩
  | _ => cases e
theorem isO_ok {A : CtxD} (h : TyOk K A) {x : D} {C : Addr} {b : Bool} (e : isO A x C = some b) : OkTy K x ∧ PySem.W.kitOne K (tyD x) (.ref C) = some b := by
  have sm : ∀ {T : String} {y : Bool}, T ∈ bts → (if A.own C = true then some false else none) = some y → PySem.W.kitOne K (.type T) (.ref C) = some y := fun {T y} hT z => by
    split at z
    · rename_i z1
      cases z
      exact h.dn C z1 T hT
    · cases z
  cases x with
  | ins C' fs =>
    obtain ⟨h1, h2⟩ := h.sub C' C b e
    exact ⟨h.cls C' h1, h2⟩
  | non => exact ⟨trivial, sm (by decide) e⟩
  | bl c => exact ⟨trivial, sm (by decide) e⟩
  | int c => exact ⟨trivial, sm (by decide) e⟩
  | str c => exact ⟨trivial, sm (by decide) e⟩
  | tup c => exact ⟨trivial, sm (by decide) e⟩
  | lst c => exact ⟨trivial, sm (by decide) e⟩
  | dct c => exact ⟨trivial, sm (by decide) e⟩
  | _ => cases e
theorem sim_isA {A : CtxD} (h : TyOk K A) : SimC K (rIsi K) (isA A) := fun F H xs ds Q q s r w k => by
  refine sim_isi F H xs ds Q q s r ?_ k
  unfold isA at w
  split at w
  · split at w
    · rename_i b e
      obtain ⟨h1, h2⟩ := isT_ok h e
      exact ⟨h1, b, h2, w⟩
    · exact w.elim
  · split at w
    · rename_i b e
      obtain ⟨h1, h2⟩ := isO_ok h e
      exact ⟨h1, b, h2, w⟩
    · exact w.elim
  · exact w.elim

/-! ### own ==, != -/
def okEq (A : CtxD) (C : Addr) (y : D) : Prop := isO A y C = some false ∨ ∃ fs, y = .ins C fs ∧ A.own C = true
theorem nf_of {C : Addr} {t : Value} (h : PySem.W.kitOne K t (.ref C) = some false) : PySem.W.notFirst K C t = true := by
  unfold PySem.W.kitOne at h
  split at h
  · cases h
  · unfold PySem.W.kitCls at h
    have h : (if ((PySem.W.clsIn K C).isSome && PySem.W.typeIn K (.ref C) == some (.type "type")) = true then PySem.W.subIn K t (.ref C) else none) = some false := h
    split at h
    · unfold PySem.W.notFirst
      rw [h]
      simp
    · cases h
theorem okEq_ok {A : CtxD} (h : TyOk K A) {C : Addr} {y : D} (e : okEq A C y) : OkTy K y ∧ PySem.W.notFirst K C (tyD y) = true := by
  rcases e with e | ⟨fs, rfl, e⟩
  · obtain ⟨h1, h2⟩ := isO_ok h e
    exact ⟨h1, nf_of h2⟩
  · refine ⟨h.cls C e, ?_⟩
    unfold PySem.W.notFirst tyD
    simp
def eqO (A : CtxD) (C : Addr) (S : FS) : D → D → (D → Prop) → Prop := fun x y q => match x with
  | .ins C' _ => C' = C ∧ okEq A C y ∧ S [x, y] (fun _ => False) q
  | _ => False
theorem sim_eqO {A : CtxD} (h : TyOk K A) {C : Addr} {S : FS} {E1 : XK} : Sim2 K (rOwnEq K C (spOf K 2 S) E1) (eqO A C S) := fun F H x y d e Q q s r1 r2 w k => by
  refine sim_ownEq F H x y d e Q q s r1 r2 ?_ k
  cases d with
  | ins C' fs =>
    obtain ⟨w1, w2, w3⟩ := w
    obtain ⟨z1, z2⟩ := okEq_ok h w2
    exact ⟨w1, z1, z2, w3⟩
  | _ => exact w.elim
def neO (A : CtxD) (C : Addr) (S : FS) : D → D → (D → Prop) → Prop := fun x y q => match x with
  | .ins C' _ => C' = C ∧ okEq A C y ∧ S [x, y] (fun _ => False) fun z => match z with
    | .bl b => q (.bl (!b))
    | _ => False
  | _ => False
theorem sim_neO {A : CtxD} (h : TyOk K A) {C : Addr} {S : FS} {E1 : XK} : Sim2 K (rOwnNe K C (spOf K 2 S) E1) (neO A C S) := fun F H x y d e Q q s r1 r2 w k => by
  refine sim_ownNe F H x y d e Q q s r1 r2 ?_ k
  cases d with
  | ins C' fs =>
    obtain ⟨w1, w2, w3⟩ := w
    obtain ⟨z1, z2⟩ := okEq_ok h w2
    exact ⟨w1, z1, z2, w3⟩
  | _ => exact w.elim

/-! ### bags -/
theorem vals_nats {p q r : Nat} {its : List Value} (h : Vals [V.int p, V.int q, V.int r] its) : ∃ t u v, its = [.int p t, .int q u, .int r v] := by
  cases h with
  | cons h1 h =>
    cases h with
    | cons h2 h =>
      cases h with
      | cons h3 h =>
        cases h
        obtain ⟨t, rfl⟩ := h1
        obtain ⟨u, rfl⟩ := h2
        obtain ⟨v, rfl⟩ := h3
        exact ⟨t, u, v, rfl⟩
theorem bag_close {pins : List (Addr × Obj)} {σ : L2.St} {H : Hp} {s : Shared} {a : Addr} {p q r : Nat} (I : Inv X pins σ H s) (h : H a = some (.lst [.int p, .int q, .int r])) : Inv X pins σ (upd H a (BagO a)) s := by
  obtain ⟨its, n, rv, ho, hz⟩ := I.lst h
  obtain ⟨t, u, v, rfl⟩ := vals_nats rv
  refine inv_view I (by rw [h]; trivial) ⟨_, ho⟩ ?_
  exact ⟨⟨p, q, r, t, u, v, n, ho⟩, ⟨_, ho⟩, fun h1 h2 z k => by
    obtain ⟨p, q, r, t, u, v, n, z⟩ := z
    exact ⟨p, q, r, t, u, v, n, k _ z⟩⟩
theorem bag_open {pins : List (Addr × Obj)} {σ : L2.St} {H : Hp} {s : Shared} {a : Addr} (I : Inv X pins σ H s) (h : H a = some (BagO a)) : ∃ p q r : Nat, Inv X pins σ (upd H a (.lst [.int p, .int q, .int r])) s := by
  have x : ObjOk X.prog X.w H s.heap a (.ext (BagP a)) := I.hok a _ h
  obtain ⟨p, q, r, t, u, v, n, ho⟩ := x.1
  refine ⟨p, q, r, inv_view I (by rw [h]; trivial) ⟨_, ho⟩ ?_⟩
  exact ⟨by show 3 ≤ sizeLine; decide, _, n, .cons ⟨t, rfl⟩ (.cons ⟨u, rfl⟩ (.cons ⟨v, rfl⟩ .nil)), ho⟩
def tAsBag (te : TE) : TE := fun σ H Q => te σ H fun x H1 => ∃ (a : Addr) (p q r : Nat), x = .ref a ∧ H1 a = some (.lst [.int p, .int q, .int r]) ∧ Q (.ref a) (upd H1 a (BagO a))
theorem pe_asBag {e : Expr} {te : TE} (h : PE X e te) : PE X e (tAsBag te) := ⟨fun pins s σ H Q I w => by
  refine thn (h.run pins s σ H _ I w) fun v s1 z => ?_
  obtain ⟨x, H1, I1, r1, a, p, q, r, rfl, h1, z⟩ := z
  exact ⟨.ref a, _, bag_close I1 h1, r1, z⟩⟩
def wBag (wo : WO) : WE := fun env er q => wo env er fun l => match l with
  | [.int i, .int j, .int k] => (0 ≤ i ∧ 0 ≤ j ∧ 0 ≤ k) ∧ ∀ a, q (.bag a)
  | _ => False
theorem sim_asBag {wo : WO} (h : SimO K E te wo) : SimE K E (tAsBag te) (wBag wo) := fun B env F σ H Q er q a l w k =>
  h B env F σ H _ er _ a l w fun p xs ls F1 H1 s1 hp h1 hf r1 w1 => by
    split at w1
    case h_2 => exact w1.elim
    rename_i i j m
    obtain ⟨⟨h0, h2, h3⟩, z⟩ := w1
    obtain ⟨i, rfl⟩ := Int.eq_ofNat_of_zero_le h0
    obtain ⟨j, rfl⟩ := Int.eq_ofNat_of_zero_le h2
    obtain ⟨m, rfl⟩ := Int.eq_ofNat_of_zero_le h3
    have e : xs = [V.int (i : Nat), V.int (j : Nat), V.int (m : Nat)] := RepA.ints_inv (K := K) (F := F1) (ns := [((i : Nat) : Int), ((j : Nat) : Int), ((m : Nat) : Int)]) r1
    subst e
    exact ⟨p, i, j, m, rfl, h1, k _ _ _ _ ((s1.mut hp hf h1).freeze hp hf upd_same) (.bag upd_same) (z p)⟩
/-- a def's body with the bag in the slot i opened -/
def tOpen (i : Nat) (t : TS) : TS := fun Dd σ H => ∃ a : Addr, σ[i]? = some (some (.ref a)) ∧ H a = some (BagO a) ∧ ∀ p q r : Nat, t Dd σ (upd H a (.lst [.int p, .int q, .int r]))
theorem pss_open {i : Nat} {b : List Stmt} {t : TS} (h : PSs X b t) : PSs X b (tOpen i t) := ⟨fun pins s σ H Dd I w => by
  obtain ⟨a, _, h1, w⟩ := w
  obtain ⟨p, q, r, I1⟩ := bag_open I h1
  exact h.run pins s σ _ Dd I1 (w p q r)⟩
def tShut (i : Nat) (te : TE) : TE := fun σ H Q => te σ H fun x H1 => ∃ (a : Addr) (p q r : Nat), σ[i]? = some (some (.ref a)) ∧ H1 a = some (.lst [.int p, .int q, .int r]) ∧ Q x (upd H1 a (BagO a))
theorem pe_shut {i : Nat} {e : Expr} {te : TE} (h : PE X e te) : PE X e (tShut i te) := ⟨fun pins s σ H Q I w => by
  refine thn (h.run pins s σ H _ I w) fun v s1 z => ?_
  obtain ⟨x, H1, I1, r1, a, p, q, r, _, h1, z⟩ := z
  exact ⟨x, _, bag_close I1 h1, r1, z⟩⟩
theorem upd_id {H : Hp} {a : Addr} {o : HO} (h : H a = some o) : upd H a o = H := by
  funext b
  by_cases e : b = a
  · rw [e, upd_same, h]
  · rw [upd_ne e]
end
end DL
/-! DL6: the law's draw from a bag. -/
namespace DL
open PySem L2
variable [Tbl]
section
variable {K : PySem.W.Frag} {E : XK} {X : Cx}
def sDraw : FS := fun ds er q => match ds with
  | [.bag _, .int w] => 0 < w ∧ w < 2 ^ 200 ∧ ∀ r : Int, 0 ≤ r → r < w → q (.int r)
  | _ => False
abbrev bIx (K : PySem.W.Frag) (i : Int) : TE := tOp (rIx K) (tVar 0) (tC (.int i))
def tDraw1 (K : PySem.W.Frag) : TS := tAsg (tOp (rAddD K) (bIx K 2) (tC (.int 1))) (gSub (tVar 0) (tC (.int 2)) rSetL)
def tDraw2 (K : PySem.W.Frag) : TS := tIfS (tTest (tOp rGtD (bIx K 0) (tC (.int 0)))) (tSeq (tAsg (tOp rModD (tCB rIntD (tCons (bIx K 0) tNil)) (tVar 1)) (gName 2)) (tSeq (tAsg (tOp rDivD (bIx K 0) (tVar 1)) (gSub (tVar 0) (tC (.int 0)) rSetL)) (tRet (tShut 0 (tVar 2))))) tNext
def tDraw3 (K : PySem.W.Frag) : TS := tAsg (tOp (rAddD K) (tCB rIntD (tCons (bIx K 1) tNil)) (tOp rMulD (tC (.int 104651)) (bIx K 2))) (gName 3)
def tDraw4 (K : PySem.W.Frag) : TS := tAsg (tOp rModD (tCB rIntD (tCons (tOp (rAddD K) (tOp (rAddD K) (tOp rMulD (tVar 3) (tOp (rAddD K) (tOp rModD (tCB rIntD (tCons (tVar 3) tNil)) (tC (.int 59999))) (tC (.int 40013)))) (tOp rMulD (tC (.int 7)) (bIx K 2))) (tC (.int 13))) tNil)) (tC (.int 2147483587))) (gSub (tVar 0) (tC (.int 1)) rSetL)
def tDraw5 (K : PySem.W.Frag) : TS := tRet (tShut 0 (tOp rModD (tOp rDivD (tCB rIntD (tCons (bIx K 1) tNil)) (tC (.int 521))) (tVar 1)))
def tDraw (K : PySem.W.Frag) : TS := tOpen 0 (tSeq (tDraw1 K) (tSeq (tDraw2 K) (tSeq (tDraw3 K) (tSeq (tDraw4 K) (tDraw5 K)))))
theorem bix {σ : L2.St} {H : Hp} {Q : VK} {a : Addr} {xs : List V} {i : Int} {v : V} (h0 : σ[0]? = some (some (.ref a))) (h : H a = some (.lst xs)) (e : atI xs i = some v) (q : Q v H) : bIx K i σ H Q :=
  ⟨.ref a, h0, .inl ⟨a, xs, i, v, rfl, rfl, SqL.of h, e, q⟩⟩
theorem bset {σ : L2.St} {H : Hp} {Q : L2.St → Hp → Prop} {a : Addr} {xs : List V} {i : Int} {j : Nat} {v : V} (h0 : σ[0]? = some (some (.ref a))) (h : H a = some (.lst xs)) (e : ixN xs.length i = some j) (q : Q σ (upd H a (.lst (xs.set j v)))) : gSub (tVar 0) (tC (.int i)) rSetL v σ H Q :=
  ⟨.ref a, h0, a, xs, i, j, rfl, rfl, h, e, q⟩
theorem draw_ok {N : List Str} {vs : List V} {H : Hp} {Q : VK} (h : spOf K 2 sDraw vs H Q E) (hN : N.length = 4) : tDraw K { nx := fun _ H' => Q .non H', rt := Q } (L2.start N vs) H := by
  obtain ⟨F, ds, er, q, hl, s, r, hS, kv, ke⟩ := h
  unfold sDraw at hS
  split at hS
  · rename_i b w
    obtain ⟨w0, w1, hq⟩ := hS
    cases r with
    | cons r1 r =>
      cases r with
      | cons r2 r =>
        cases r
        cases r2
        cases r1 with
        | bag hb =>
          have hH := s _ _ hb
          have st : L2.start N [V.ref b, .int w] = [some (.ref b), some (.int w), none, none] := by
            unfold L2.start
            rw [hN]
            rfl
          rw [st]
          have hw : CDivW 0 w := ⟨w0, by
            have : w.natAbs < 2 ^ 200 := by omega
            have := Nat.log2_lt (n := w.natAbs) (k := 200) (by omega)
            omega⟩
          have fin : ∀ (z : Int), 0 ≤ z → z < w → Q (.int z) H := fun z h1 h2 => kv.here s (.int z) (hq z h1 h2)
          have em : ∀ z : Int, 0 ≤ z % w ∧ z % w < w := fun z => ⟨Int.emod_nonneg _ (by omega), Int.emod_lt_of_pos _ w0⟩
          refine ⟨b, rfl, hH, fun p p1 p2 => ?_⟩
          have g1 : ∀ xs, (upd H b (HO.lst xs)) b = some (.lst xs) := fun xs => upd_same
          -- the count
          refine bix (v := .int p2) rfl (g1 _) rfl ?_
          refine .inl ⟨p2, 1, rfl, rfl, ?_⟩
          refine bset (j := 2) rfl (g1 _) rfl ?_
          rw [upd_upd]
          show tSeq (tDraw2 K) _ _ _ (upd H b (.lst [.int p, .int p1, .int ((p2 : Int) + 1)]))
          -- the figures
          refine bix (v := .int p) rfl (g1 _) rfl ?_
          refine ⟨_, _, rfl, rfl, _, rfl, ?_⟩
          refine ite2 (fun _ => ?_) (fun _ => ?_)
          · refine bix (v := .int p) rfl (g1 _) rfl ?_
            refine .inl ⟨_, rfl, ?_⟩
            refine ⟨_, rfl, _, _, rfl, rfl, w0, ?_⟩
            refine bix (v := .int p) rfl (g1 _) rfl ?_
            refine ⟨_, rfl, _, _, rfl, rfl, hw, ?_⟩
            refine bset (j := 0) rfl (g1 _) rfl ?_
            rw [upd_upd]
            obtain ⟨m, hm⟩ := Int.eq_ofNat_of_zero_le (Int.ediv_nonneg (Int.natCast_nonneg p) (Int.le_of_lt w0))
            refine ⟨_, rfl, b, m, p1, p2 + 1, rfl, ?_, ?_⟩
            · rw [g1]
              show some (HO.lst [V.int ((p : Int) / w), V.int p1, V.int ((p2 : Int) + 1)]) = _
              rw [hm]
              rfl
            · rw [upd_upd, upd_id hH]
              exact fin _ (em _).1 (em _).2
          · refine bix (v := .int p1) rfl (g1 _) rfl ?_
            refine .inl ⟨_, rfl, ?_⟩
            refine bix (v := .int ((p2 : Int) + 1)) rfl (g1 _) rfl ?_
            refine .inl ⟨_, _, rfl, rfl, .inl (by decide), ?_⟩
            refine .inl ⟨_, _, rfl, rfl, ?_⟩
            show tSeq (tDraw4 K) _ _ [some (.ref b), some (.int w), none, some (.int ((p1 : Int) + 104651 * ((p2 : Int) + 1)))] _
            generalize ((p1 : Int) + 104651 * ((p2 : Int) + 1)) = z
            refine ⟨_, rfl, _, rfl, .inl ⟨_, rfl, ?_⟩⟩
            have k1 : 0 ≤ z % 59999 ∧ z % 59999 < 59999 := ⟨Int.emod_nonneg _ (by decide), Int.emod_lt_of_pos _ (by decide)⟩
            refine ⟨_, _, rfl, rfl, (show (0 : Int) < _ by decide), ?_⟩
            refine .inl ⟨_, _, rfl, rfl, ?_⟩
            refine .inl ⟨_, _, rfl, rfl, .inr (by omega), ?_⟩
            refine bix (v := .int ((p2 : Int) + 1)) rfl (g1 _) rfl ?_
            refine .inl ⟨_, _, rfl, rfl, .inl (by decide), ?_⟩
            refine .inl ⟨_, _, rfl, rfl, ?_⟩
            refine .inl ⟨_, _, rfl, rfl, ?_⟩
            refine .inl ⟨_, rfl, ?_⟩
            refine ⟨_, _, rfl, rfl, (show (0 : Int) < _ by decide), ?_⟩
            refine bset (j := 1) rfl (g1 _) rfl ?_
            rw [upd_upd]
            obtain ⟨m, hm⟩ := Int.eq_ofNat_of_zero_le (Int.emod_nonneg (z * (z % 59999 + 40013) + 7 * ((p2 : Int) + 1) + 13) (b := 2147483587) (by decide))
            show tDraw5 K _ _ (upd H b (.lst [.int p, .int ((z * (z % 59999 + 40013) + 7 * ((p2 : Int) + 1) + 13) % 2147483587), .int ((p2 : Int) + 1)]))
            rw [hm]
            show tDraw5 K _ _ (upd H b (.lst [.int p, .int m, .int ((p2 : Int) + 1)]))
            refine bix (v := .int m) rfl (g1 _) rfl ?_
            refine .inl ⟨_, rfl, ?_⟩
            refine ⟨_, _, rfl, rfl, ⟨by decide, by decide +kernel⟩, ?_⟩
            refine ⟨_, rfl, _, _, rfl, rfl, w0, ?_⟩
            refine ⟨b, p, m, p2 + 1, rfl, ?_, ?_⟩
            · rw [g1]
              rfl
            · rw [upd_upd, upd_id hH]
              exact fin _ (em _).1 (em _).2
  · exact hS.elim
end
end DL
namespace DL
open PySem L2
variable [Tbl]
section
variable {K : PySem.W.Frag} {E E1 : XK} {ta : TE} {wa : WE} {X : Cx}
/-! ### calls that raise nothing -/
def wMeth0 (C : Addr) (m : Str) (n : Nat) (S : FS) (dd : List D) (wa : WE) (wr : WA) : WE := fun env er q => wa env er fun o => match o with
  | .ins C' fs => C' = C ∧ fs.lookup m = none ∧ wr env er fun ds => (o :: (ds ++ dd)).length = n ∧ S (o :: (ds ++ dd)) (fun _ => False) q
  | _ => False
theorem sim_meth0 {C : Addr} {m : Str} {n : Nat} {S : FS} {dvs : List V} {dd : List D} {t : TA} {w : WA} (hd : ∀ F, RepA K F dvs dd) (ho : SimE K E ta wa) (ha : SimA K E t w) : SimE K E (tMeth C m (spOf K n S) dvs E1 ta t) (wMeth0 C m n S dd wa w) := fun B env F σ H Q er q a l w k =>
  ho B env F σ H _ er _ a l w fun x d F1 H1 s1 r1 w1 => by
    cases r1 with
    | @ins p C' dx xs fs h1 h2 =>
      obtain ⟨e1, e2, w2⟩ := w1
      subst e1
      refine ⟨p, dx, xs, rfl, s1.fh _ _ h1, h2.none e2, ha B env F1 σ H1 _ er _ (a.step s1) l w2 fun ys ds F2 H2 s2 r2 w3 => ?_⟩
      exact ⟨F2, _, _, q, w3.1, s2.fh, .cons ((Rep.ins h1 h2).mono s2.ff) (r2.app (hd F2)), w3.2, k.step (s1.trans s2), EL.no⟩
    | _ => exact w1.elim
def wMethN0 (C : Addr) (m : Str) (mm p : Nat) (S : FS) (g : List D → List D → List D) (wa : WE) (wk : WA) : WE := fun env er q => wa env er fun o => match o with
  | .ins C' fs => C' = C ∧ fs.lookup m = none ∧ wk env er fun zs => zs.length = mm ∧ (g [o] zs).length = p ∧ S (g [o] zs) (fun _ => False) q
  | _ => False
theorem sim_methN0 {C : Addr} {m : Str} {mm p : Nat} {S : FS} {gV : List V → List V → List V} {g : List D → List D → List D} {tk : TA} {wk : WA} (hg : ∀ F vs ds us zs, RepA K F vs ds → RepA K F us zs → RepA K F (gV vs us) (g ds zs)) (ho : SimE K E ta wa) (hk : SimA K E tk wk) :
    SimE K E (tMethN C m 0 mm (spOf K p S) gV E1 ta tNil tk) (wMethN0 C m mm p S g wa wk) := fun B env F σ H Q er q a l w k =>
  ho B env F σ H _ er _ a l w fun x d F1 H1 s1 r1 w1 => by
    cases r1 with
    | @ins b C' dx xs fs h1 h2 =>
      obtain ⟨e1, e2, w2⟩ := w1
      subst e1
      refine ⟨b, dx, xs, rfl, s1.fh _ _ h1, h2.none e2, hk B env F1 σ H1 _ er _ (a.step s1) l w2 fun ys zs F2 H2 s2 r2 w3 => ?_⟩
      exact ⟨rfl, by rw [r2.len]; exact w3.1, F2, _, _, q, w3.2.1, s2.fh, hg F2 _ _ _ _ (.one ((Rep.ins h1 h2).mono s2.ff)) r2, w3.2.2, k.step (s1.trans s2), EL.no⟩
    | _ => exact w1.elim
def wCallN0 (n m p : Nat) (S : FS) (g : List D → List D → List D) (wa wk : WA) : WE := fun env er q => wa env er fun ds => wk env er fun zs => ds.length = n ∧ zs.length = m ∧ (g ds zs).length = p ∧ S (g ds zs) (fun _ => False) q
theorem sim_callN0 {n m p : Nat} {S : FS} {gV : List V → List V → List V} {g : List D → List D → List D} {t tk : TA} {w wk : WA} (hg : ∀ F vs ds us zs, RepA K F vs ds → RepA K F us zs → RepA K F (gV vs us) (g ds zs)) (ha : SimA K E t w) (hk : SimA K E tk wk) :
    SimE K E (tCallN n m (spOf K p S) gV E1 t tk) (wCallN0 n m p S g w wk) := fun B env F σ H Q er q a l w k =>
  ha B env F σ H _ er _ a l w fun xs ds F1 H1 s1 r1 w1 => hk B env F1 σ H1 _ er _ (a.step s1) l w1 fun ys zs F2 H2 s2 r2 w2 =>
    ⟨by rw [r1.len]; exact w2.1, by rw [r2.len]; exact w2.2.1, F2, g ds zs, _, q, w2.2.2.1, s2.fh, hg F2 _ _ _ _ (RepA.mono s2.ff r1) r2, w2.2.2.2, k.step (s1.trans s2), EL.no⟩
def wMakeK0 (C : Addr) (m n : Nat) (S : IS) (g : List D → List D) (wk : WA) : WE := fun env er q => wk env er fun zs => zs.length = m ∧ (g zs).length = n ∧ S (g zs) (fun _ => False) fun fs => q (.ins C fs)
theorem sim_makeK0 {C : Addr} {m n : Nat} {S : IS} {gV : List V → List V → List V} {gW : List V → List V} {g : List D → List D} {tk : TA} {w : WA} (hv : ∀ x zs, gV [x] zs = x :: gW zs) (hg : ∀ F us zs, RepA K F us zs → RepA K F (gW us) (g zs)) (hk : SimA K E tk w) :
    SimE K E (tMakeK C 0 m (spInit K C n S) gV E1 tNil tk) (wMakeK0 C m n S g w) := fun B env F σ H Q er q a l w k =>
  hk B env F σ H _ er _ a l w fun xs ds F1 H1 s1 r1 w1 => ⟨rfl, by rw [r1.len]; exact w1.1, fun x dx hx hdx hne => by
    rw [hv]
    exact init_run s1.fh (hg F1 _ _ r1) w1.2.1 w1.2.2 (k.step s1) EL.no x dx hx hdx hne⟩

/-! ### keywords, in the parameters' order -/
def perm {α : Type} (p : List Nat) (l : List α) : List α := p.filterMap fun i => l[i]?
def pmA {α : Type} (p : List Nat) (vs zs : List α) : List α := vs ++ perm p zs
theorem perm_rep {F : Hp} {us : List V} {zs : List D} (h : RepA K F us zs) : ∀ p : List Nat, RepA K F (perm p us) (perm p zs)
  | [] => .nil
  | i :: p => by
    unfold perm
    rw [List.filterMap_cons, List.filterMap_cons]
    cases e : us[i]? with
    | none =>
      have e2 : zs[i]? = none := by
        rw [List.getElem?_eq_none_iff] at e ⊢
        rw [← h.len]
        exact e
      rw [e2]
      exact perm_rep h p
    | some x =>
      obtain ⟨y, e2, r⟩ := h.get e
      rw [e2]
      exact .cons r (perm_rep h p)
theorem pm_ok (p : List Nat) : ∀ (F : Hp) (vs : List V) (ds : List D) (us : List V) (zs : List D), RepA K F vs ds → RepA K F us zs → RepA K F (pmA p vs us) (pmA p ds zs) := fun _ _ _ _ _ h g => h.app (perm_rep g p)
theorem pw_ok (p : List Nat) : ∀ (F : Hp) (us : List V) (zs : List D), RepA K F us zs → RepA K F (perm p us) (perm p zs) := fun _ _ _ g => perm_rep g p
theorem pw_hv (p : List Nat) (x : V) (zs : List V) : pmA p [x] zs = x :: perm p zs := rfl
theorem vals_get : ∀ {us : List V} {zs : List Value} {i : Nat}, Vals us zs → (us[i]? = none ∧ zs[i]? = none) ∨ ∃ x y, us[i]? = some x ∧ zs[i]? = some y ∧ RelV x y
  | [], _, i, .nil => .inl ⟨rfl, rfl⟩
  | _ :: _, _, 0, .cons h _ => .inr ⟨_, _, rfl, rfl, h⟩
  | _ :: _, _, i + 1, .cons _ r => by
    rw [List.getElem?_cons_succ, List.getElem?_cons_succ]
    exact vals_get r
theorem perm_vals {us : List V} {zs : List Value} (h : Vals us zs) : ∀ p : List Nat, Vals (perm p us) (perm p zs)
  | [] => .nil
  | i :: p => by
    unfold perm
    rw [List.filterMap_cons, List.filterMap_cons]
    rcases vals_get (i := i) h with ⟨e1, e2⟩ | ⟨x, y, e1, e2, r⟩
    · rw [e1, e2]
      exact perm_vals h p
    · rw [e1, e2]
      exact .cons r (perm_vals h p)
theorem kb_perm {x qual : Str} {st : Stmt} {f : Addr} {fd : FuncData} {ps : List Str} (F : Fun K x qual st f fd) (n : Nat) (ks : List Str) (p : List Nat)
    (h : ∀ (kV doc pm : Value) (an : Option Addr) (cdv ct : Value) (us ws : List Value), us.length = n → ws.length = ks.length → bindArgs (PySem.W.fnOf x qual (defArgs st) (defBody st) (defScope st) .none kV doc pm an cdv ct) ⟨us, ks.zip ws⟩ = pure (ps.zip (pmA p us ws))) :
    KBn K fd ps n ks (pmA p) (pmA p) := kb_of F n ks (fun {α} => pmA (α := α) p) (fun h1 h2 => h1.append (perm_vals h2 p)) h
theorem passN {P : Program} {w : World} : Passes (L2.CX P w) X E0 := fun _ _ _ _ _ _ _ ⟨_, _, _, _, _, _, _, _, _, _, _, _, h⟩ => h.elim
theorem hu64 {k : Nat} {A : Around} (hr : Room k A) : A.units + 64 < cLine := by
  have := hr.un
  omega
end
theorem bt_int : bootBuiltins "int" = some (.type "int") := by kernel_rfl
theorem bt_bool : bootBuiltins "bool" = some (.type "bool") := by kernel_rfl
theorem bt_str : bootBuiltins "str" = some (.type "str") := by kernel_rfl
theorem bt_tuple : bootBuiltins "tuple" = some (.type "tuple") := by kernel_rfl
theorem bt_list : bootBuiltins "list" = some (.type "list") := by kernel_rfl
theorem bt_dict : bootBuiltins "dict" = some (.type "dict") := by kernel_rfl
theorem bt_float : bootBuiltins "float" = some (.type "float") := by kernel_rfl
theorem bt_set : bootBuiltins "set" = some (.type "set") := by kernel_rfl
theorem bt_bytes : bootBuiltins "bytes" = some (.type "bytes") := by kernel_rfl
theorem bt_type : bootBuiltins "type" = some (.type "type") := by kernel_rfl
theorem bt_len : bootBuiltins "len" = some (.builtin "len") := by kernel_rfl
theorem bt_all : bootBuiltins "all" = some (.builtin "all") := by kernel_rfl
theorem bt_any : bootBuiltins "any" = some (.builtin "any") := by kernel_rfl
theorem bt_abs : bootBuiltins "abs" = some (.builtin "abs") := by kernel_rfl
theorem bt_max : bootBuiltins "max" = some (.builtin "max") := by kernel_rfl
theorem bt_min : bootBuiltins "min" = some (.builtin "min") := by kernel_rfl
theorem bt_sum : bootBuiltins "sum" = some (.builtin "sum") := by kernel_rfl
theorem bt_isinstance : bootBuiltins "isinstance" = some (.builtin "isinstance") := by kernel_rfl
theorem bt_sorted : bootBuiltins "sorted" = some (.builtin "sorted") := by kernel_rfl
theorem bt_repr : bootBuiltins "repr" = some (.builtin "repr") := by kernel_rfl
theorem bt_zip : bootBuiltins "zip" = some (.type "zip") := by kernel_rfl
theorem bt_enumerate : bootBuiltins "enumerate" = some (.type "enumerate") := by kernel_rfl
end DL
/-! DL7: data that is equal to itself; the law's own promise; the end. -/
namespace DL
open PySem L2
variable [Tbl]
/-! ### what may be compared -/
def okL (n : Nat) (d : D) : Prop := ∃ p, pd d = some p ∧ p.canLay0 = true ∧ p.depth ≤ n
theorem okL.up {n m : Nat} {d : D} (h : okL n d) (e : n ≤ m) : okL m d := by
  obtain ⟨p, h1, h2, h3⟩ := h
  exact ⟨p, h1, h2, Nat.le_trans h3 e⟩
theorem okL_int (i : Int) : okL 0 (.int i) := ⟨_, rfl, rfl, Nat.le_refl _⟩
theorem okL_bl (b : Bool) : okL 0 (.bl b) := ⟨_, rfl, rfl, Nat.le_refl _⟩
theorem okL_non : okL 0 .non := ⟨_, rfl, rfl, Nat.le_refl _⟩
theorem okL_all {n : Nat} : ∀ {l : List D}, (∀ x ∈ l, okL n x) → ∃ ps, pdA l = some ps ∧ PyData.canLayAll0 ps = true ∧ PyData.depthAll ps ≤ n
  | [], _ => ⟨[], rfl, rfl, Nat.zero_le _⟩
  | d :: l, h => by
    obtain ⟨p, h1, h2, h3⟩ := h d (by simp)
    obtain ⟨ps, k1, k2, k3⟩ := okL_all (l := l) fun x hx => h x (by simp [hx])
    refine ⟨p :: ps, ?_, ?_, ?_⟩
    · unfold pdA
      rw [h1, k1]
    · show (PyData.canLay0 p && PyData.canLayAll0 ps) = true
      rw [h2, k2]
      rfl
    · show max (PyData.depth p) (PyData.depthAll ps) ≤ n
      omega
theorem okL_tup {n : Nat} {l : List D} (h : ∀ x ∈ l, okL n x) : okL (n + 1) (.tup l) := by
  obtain ⟨ps, k1, k2, k3⟩ := okL_all h
  refine ⟨.tuple ps, ?_, k2, Nat.succ_le_succ k3⟩
  unfold pd
  rw [k1]
  rfl
theorem okL_lst {n : Nat} {l : List D} (h : ∀ x ∈ l, okL n x) : okL (n + 1) (.lst l) := by
  obtain ⟨ps, k1, k2, k3⟩ := okL_all h
  refine ⟨.list ps, ?_, k2, Nat.succ_le_succ k3⟩
  unfold pd
  rw [k1]
  rfl
theorem okL_ints (l : List Int) : okL 1 (.tup (l.map .int)) := okL_tup fun x hx => by
  obtain ⟨i, _, rfl⟩ := List.mem_map.mp hx
  exact okL_int i
theorem okL_intl (l : List Int) : okL 1 (.lst (l.map .int)) := okL_lst fun x hx => by
  obtain ⟨i, _, rfl⟩ := List.mem_map.mp hx
  exact okL_int i
theorem okD_of {n : Nat} {d : D} (h : okL n d) (e : n ≤ 64) : okD d := by
  obtain ⟨p, h1, h2, h3⟩ := h
  unfold okD
  rw [h1]
  show (p.canLay0 && decide (p.depth ≤ 64)) = true
  rw [h2, decide_eq_true (Nat.le_trans h3 e)]
  rfl
theorem eqD_refl {n : Nat} {d : D} (h : okL n d) : eqD d d = true := by
  obtain ⟨p, h1, h2, _⟩ := h
  unfold eqD
  rw [h1]
  exact SeqAt.eqv_refl p h2
theorem okD_int (i : Int) : okD (.int i) := okD_of (okL_int i) (by decide)
theorem okD_bl (b : Bool) : okD (.bl b) := okD_of (okL_bl b) (by decide)
theorem okD_non : okD .non := okD_of okL_non (by decide)
theorem eqD_int (i j : Int) : eqD (.int i) (.int j) = (i == j) := by
  show PyData.eqv (.int i) (.int j) = _
  simp [PyData.eqv]
theorem eqD_bl (i j : Bool) : eqD (.bl i) (.bl j) = (i == j) := by
  show PyData.eqv (.bool i) (.bool j) = _
  simp [PyData.eqv]
/-- != of equal data -/
theorem ne_same {n : Nat} {d : D} {q : D → Prop} (h : okL n d) (e : n ≤ 64) (z : q (.bl false)) : dNe d d q := by
  refine ⟨okD_of h e, okD_of h e, ?_⟩
  rw [eqD_refl h]
  exact z
theorem eq_same {n : Nat} {d : D} {q : D → Prop} (h : okL n d) (e : n ≤ 64) (z : q (.bl true)) : dEq d d q := by
  refine ⟨okD_of h e, okD_of h e, ?_⟩
  rw [eqD_refl h]
  exact z

/-! ### the law's promise, the end -/
def sLawD : FS := fun ds _ q => ∃ ns : List Int, ds = [.scr ns] ∧ ns.length ≤ 63 ∧ q (.bl true)
/-- all but the tables -/
def noT (H : Hp) : Hp := fun a => match H a with
  | some (.tbl _) => none
  | o => o
theorem noT_get {H : Hp} {a : Addr} {o : HO} (h : H a = some o) (n : NT o) : noT H a = some o := by
  unfold noT
  rw [h]
  cases o <;> first | rfl | exact n.elim
theorem noT_of {H : Hp} {a : Addr} {o : HO} (h : noT H a = some o) : H a = some o ∧ NT o := by
  unfold noT at h
  cases e : H a with
  | none =>
    rw [e] at h
    cases h
  | some u =>
    rw [e] at h
    cases u <;> first | (cases h; done) | (cases h; exact ⟨rfl, trivial⟩)
theorem noT_seq {K : PySem.W.Frag} {H : Hp} {a : Addr} {xs : List V} (h : SqL K H a xs) : SqL K (noT H) a xs := by
  rcases h with (h | ⟨o, h⟩) | h
  · exact .inl (.inl (noT_get h trivial))
  · exact .inl (.inr ⟨o, noT_get h trivial⟩)
  · exact .inr h
theorem noT_fz {H : Hp} (t : LamX.Tabs Tbl.T H) : Fz (noT H) H := ⟨fun a o h => (noT_of h).1, t, fun a o h => (noT_of h).2⟩
theorem sp_law {K : PySem.W.Frag} {H : Hp} {a : Addr} {ns : List Int} (hT : LamX.Tabs Tbl.T H) (hl : ns.length ≤ 63) (h : SqL K H a (ns.map V.int)) : spOf K 1 sLawD [.ref a] H (fun v _ => v = .bl true) fun _ _ _ => False := by
  refine ⟨noT H, [.scr ns], fun _ => False, fun d => d = .bl true, rfl, noT_fz hT, .one (.scr (noT_seq h)), ⟨ns, rfl, hl, rfl⟩, fun x d F' H' _ r e => ?_, EL.no⟩
  subst e
  cases r
  rfl
open PySem.Spec PyProof.Rows
abbrev noTbl : Tbl := ⟨[]⟩
omit [Tbl] in
theorem walkD {l : PySem.W.OpenLaw} {k : Nat} {x : Str} {q : Program} {loose : List Str} {XP : (Str → Option Value) → Heap → Prop} {YP : World → Heap → Prop} {d : DefRec} {K : Params → PySem.W.Frag} (hn : l.most = some 63) (hdf : d.params.defaults = []) (hr : Room k callerA)
    (hY : ∀ (w : World) (h : Heap), YP w h → (K w.params).In h)
    (F : ∀ (w : World) (mg : Str → Option Value) (fa : Addr) (h : Heap), (K w.params).In h → h.Ns mainGlobals mg → mg d.name = some (.ref fa) →
      ∃ fd : FuncData, (∀ (s : Shared) (u : Value), BindsTo s fd ⟨[u], []⟩ [(x, u)]) ∧ ∀ base : Heap, (K w.params).In base → base.Ns mainGlobals mg → FnOk l.prog w (K w.params) mg base (L2.CX l.prog w) k fa fd [x] (@spOf noTbl (K w.params) 1 sLawD)) :
    PySem.W.WalkO q loose XP YP l.row.toRowW d [] (fun f vs => PySem.call f vs) :=
  L2.walk_of (n := 63) (k := k) (x := x) (CX := fun w => L2.CX l.prog w) (sp := fun w => @spOf noTbl (K w.params) 1 sLawD) hn (by decide) hdf hr hY F (fun w H a ns hl _ hS => @sp_law noTbl _ H a ns (fun p hp => nomatch hp) hl hS) fun _ _ _ _ _ ⟨_, _, _, _, _, _, _, _, _, _, _, _, h⟩ => h
end DL
namespace DL
/-! ### comprehensions and loops that are plain -/
theorem comp_ok {α : Type} {c : α → D} {g : D → EV → (EV → Prop) → Prop} {wt : WT} {we : WE} {ew : EV} {er : ER} {q : List D → Prop} {ev : α → EV} {p : α → Bool} {f : α → D} : ∀ {l : List α} {acc : List D}, (∀ x ∈ l, ∀ Q : EV → Prop, Q (ev x) → g (c x) ew Q) → (∀ x ∈ l, ∀ Q : Bool → Prop, Q (p x) → wt (ev x) er Q) →
    (∀ x ∈ l, p x = true → ∀ Q : D → Prop, Q (f x) → we (ev x) er Q) → acc.length + l.length ≤ PySem.sizeLine → q (acc ++ (l.filter p).map f) → wComp g wt we ew er q (l.map c) acc
  | [], acc, _, _, _, _, z => by
    simp at z
    exact z
  | x :: l, acc, h1, h2, h3, h4, z => by
    refine h1 x (by simp) _ (h2 x (by simp) _ ⟨fun e => h3 x (by simp) e _ ⟨?_, ?_⟩, fun e => ?_⟩)
    · rw [List.length_cons] at h4
      omega
    · refine comp_ok (ev := ev) (p := p) (f := f) (fun y hy => h1 y (by simp [hy])) (fun y hy => h2 y (by simp [hy])) (fun y hy => h3 y (by simp [hy])) ?_ ?_
      · rw [List.length_append]
        rw [List.length_cons] at h4
        show acc.length + 1 + l.length ≤ _
        omega
      · rw [List.filter_cons, if_pos e] at z
        simpa using z
    · refine comp_ok (ev := ev) (p := p) (f := f) (fun y hy => h1 y (by simp [hy])) (fun y hy => h2 y (by simp [hy])) (fun y hy => h3 y (by simp [hy])) ?_ ?_
      · rw [List.length_cons] at h4
        omega
      · rw [List.filter_cons, if_neg (by rw [e]; exact Bool.false_ne_true)] at z
        exact z
theorem comp_map {α : Type} {c : α → D} {g : D → EV → (EV → Prop) → Prop} {we : WE} {ew : EV} {er : ER} {q : List D → Prop} {ev : α → EV} {f : α → D} {l : List α} (h1 : ∀ x ∈ l, ∀ Q : EV → Prop, Q (ev x) → g (c x) ew Q)
    (h3 : ∀ x ∈ l, ∀ Q : D → Prop, Q (f x) → we (ev x) er Q) (h4 : l.length ≤ PySem.sizeLine) (z : q (l.map f)) : wComp g wYes we ew er q (l.map c) [] :=
  comp_ok (p := fun _ => true) (ev := ev) (f := f) h1 (fun _ _ _ h => h) (fun x hx _ => h3 x hx) (by simpa using h4) (by
    have e : l.filter (fun _ => true) = l := List.filter_eq_self.mpr fun _ _ => rfl
    rw [List.nil_append, e]
    exact z)
theorem rngD_eq (lo : Int) (n : Nat) : rngD lo n = (List.range' 0 n).map fun (i : Nat) => D.int (lo + i) := by
  unfold rngD
  rw [List.range_eq_range']
theorem bools_map {α : Type} (f : α → Bool) : ∀ l : List α, bools (l.map fun x => D.bl (f x)) = some (l.map f)
  | [] => rfl
  | x :: l => by
    rw [List.map_cons]
    unfold bools
    rw [bools_map f l]
    rfl
theorem all_map {α : Type} (f : α → Bool) (l : List α) (q : D → Prop) (h : q (.bl (l.all f))) : lAll (l.map fun x => D.bl (f x)) q := by
  unfold lAll
  rw [bools_map]
  simpa [List.all_map] using h
theorem any_map {α : Type} (f : α → Bool) (l : List α) (q : D → Prop) (h : q (.bl (l.any f))) : lAny (l.map fun x => D.bl (f x)) q := by
  unfold lAny
  rw [bools_map]
  simpa [List.any_map] using h
theorem atD_nat {α : Type} {xs : List α} {n : Nat} : atD xs (n : Int) = xs[n]? := by
  unfold atD L2.ixN
  by_cases h : n < xs.length
  · simp [h]
  · simp [h]
theorem atD_last {α : Type} {xs : List α} {x : α} : atD (xs ++ [x]) (-1) = some x := by
  have e : L2.ixN (xs ++ [x]).length (-1) = some xs.length := by
    unfold L2.ixN
    rw [if_neg (by decide), if_pos (by simp; omega)]
    simp
    omega
  unfold atD
  rw [e]
  simp
theorem atD_last2 {α : Type} {xs : List α} {x y : α} : atD (xs ++ [y, x]) (-2) = some y := by
  have e : L2.ixN (xs ++ [y, x]).length (-2) = some xs.length := by
    unfold L2.ixN
    rw [if_neg (by decide), if_pos (by simp; omega)]
    simp
    omega
  unfold atD
  rw [e]
  simp
theorem cutD_to {α : Type} {xs : List α} {n : Nat} : cutD xs none (some (n : Int)) = xs.take n := by
  unfold cutD
  rw [HT.sIx_nat, HT.sIx_none]
  simp
theorem atD_0 {α : Type} {a : α} {l : List α} : atD (a :: l) 0 = some a := atD_nat (n := 0)
theorem atD_1 {α : Type} {a b : α} {l : List α} : atD (a :: b :: l) 1 = some b := atD_nat (n := 1)
theorem atD_2 {α : Type} {a b c : α} {l : List α} : atD (a :: b :: c :: l) 2 = some c := atD_nat (n := 2)
theorem atD_3 {α : Type} {a b c d : α} {l : List α} : atD (a :: b :: c :: d :: l) 3 = some d := atD_nat (n := 3)
theorem all_yes {α : Type} (l : List α) : l.all (fun _ => true) = true := List.all_eq_true.mpr fun _ _ => rfl
/-! ### isinstance over own classes, from their lines of descent -/
def mroL (ups : List PySem.Addr) (tys : List String) : List PySem.Value := ups.map .ref ++ tys.map .type
structure OwnM (K : PySem.W.Frag) (C : PySem.Addr) (ups : List PySem.Addr) (tys : List String) : Prop where
  ci : ∃ cd, PySem.W.clsIn K C = some cd ∧ cd.mro = mroL ups tys
  me : ups.head? = some C
  ob : "object" ∈ tys
  no : ∀ T ∈ bts, T ∉ tys
  tp : PySem.W.typeIn K (.ref C) = some (.type "type")
def cdOf (cs : List (PySem.Addr × List PySem.Addr)) : CtxD where
  own := fun C => (cs.lookup C).isSome
  sub := fun C D => match cs.lookup C with
    | some up => if (cs.lookup D).isSome = true then some (up.contains D) else none
    | none => none
section
open PySem
variable {K : PySem.W.Frag} {C D : Addr} {ups upd : List Addr} {tys tyd : List String}
theorem mroL_ref : (mroL ups tys).contains (.ref D) = ups.contains D := by
  unfold mroL
  rw [Bool.eq_iff_iff, List.contains_iff_mem, List.contains_iff_mem, List.mem_append, List.mem_map, List.mem_map]
  constructor
  · rintro (⟨a, h, e⟩ | ⟨a, _, e⟩)
    · cases e
      exact h
    · cases e
  · exact fun h => .inl ⟨D, h, rfl⟩
theorem mroL_ty {T : String} : (mroL ups tys).contains (.type T) = tys.contains T := by
  unfold mroL
  rw [Bool.eq_iff_iff, List.contains_iff_mem, List.contains_iff_mem, List.mem_append, List.mem_map, List.mem_map]
  constructor
  · rintro (⟨a, _, e⟩ | ⟨a, h, e⟩)
    · cases e
    · cases e
      exact h
  · exact fun h => .inr ⟨T, h, rfl⟩
theorem OwnM.mro (h : OwnM K C ups tys) (b : Value) : PySem.W.mroIn K C b = some ((mroL ups tys).contains b) := by
  obtain ⟨cd, e, e2⟩ := h.ci
  have ne : (mroL ups tys).isEmpty = false := by
    have := h.me
    cases ups with
    | nil => cases this
    | cons a l => rfl
  unfold PySem.W.mroIn
  rw [e, Option.bind_some, e2, ne]
  rfl
theorem OwnM.object (h : OwnM K C ups tys) : PySem.W.mroIn K C (.type "object") = some true := by
  rw [h.mro, mroL_ty]
  exact congrArg some (List.contains_iff_mem.mpr h.ob)
theorem OwnM.up (h : OwnM K C ups tys) {T : String} (hT : T ∈ bts) : PySem.W.kitOne K (.ref C) (.type T) = some false := by
  have e : PySem.W.kitMeta T = true := by
    have hT := hT
    unfold bts at hT
    simp only [List.mem_cons, List.not_mem_nil, or_false] at hT
    rcases hT with rfl | rfl | rfl | rfl | rfl | rfl | rfl | rfl | rfl | rfl | rfl <;> kernel_rfl
  unfold PySem.W.kitOne
  rw [if_neg (by intro z; cases (beq_iff_eq.mp z))]
  show (if PySem.W.kitMeta T = true then PySem.W.subIn K (.ref C) (.type T) else none) = _
  rw [if_pos e]
  show PySem.W.mroIn K C (.type T) = _
  rw [h.mro, mroL_ty]
  have := h.no T hT
  simpa using this
theorem OwnM.dn (h : OwnM K C ups tys) {T : String} (hT : T ∈ bts) : PySem.W.kitOne K (.type T) (.ref C) = some false := by
  obtain ⟨cd, e, _⟩ := h.ci
  unfold PySem.W.kitOne
  rw [if_neg (by intro z; cases (beq_iff_eq.mp z))]
  show (if ((PySem.W.clsIn K C).isSome && PySem.W.typeIn K (.ref C) == some (.type "type")) = true then PySem.W.subIn K (.type T) (.ref C) else none) = _
  rw [e, h.tp, if_pos (by simp)]
  unfold bts at hT
  simp only [List.mem_cons, List.not_mem_nil, or_false] at hT
  rcases hT with rfl | rfl | rfl | rfl | rfl | rfl | rfl | rfl | rfl | rfl | rfl <;> kernel_rfl
theorem OwnM.sub (h : OwnM K C ups tys) (g : OwnM K D upd tyd) : PySem.W.kitOne K (.ref C) (.ref D) = some (ups.contains D) := by
  obtain ⟨cd, e, _⟩ := g.ci
  unfold PySem.W.kitOne
  by_cases z : C = D
  · subst z
    rw [if_pos (by simp)]
    have : C ∈ ups := List.mem_of_mem_head? h.me
    rw [List.contains_iff_mem.mpr this]
  · rw [if_neg (by intro y; cases (beq_iff_eq.mp y); exact z rfl)]
    show (if ((PySem.W.clsIn K D).isSome && PySem.W.typeIn K (.ref D) == some (.type "type")) = true then PySem.W.subIn K (.ref C) (.ref D) else none) = _
    rw [e, g.tp, if_pos (by simp)]
    show PySem.W.mroIn K C (.ref D) = _
    rw [h.mro, mroL_ref]
theorem lookup_in {cs : List (Addr × List Addr)} {u : List Addr} (h : cs.lookup C = some u) : (C, u) ∈ cs := by
  induction cs with
  | nil => cases h
  | cons p cs ih =>
    obtain ⟨a, v⟩ := p
    rw [List.lookup_cons] at h
    cases e : C == a with
    | true =>
      rw [e] at h
      cases h
      rw [beq_iff_eq.mp e]
      exact List.mem_cons_self
    | false =>
      rw [e] at h
      exact List.mem_cons_of_mem _ (ih h)
theorem tyOk_of {cs : List (Addr × List Addr)} (h : ∀ p ∈ cs, OwnC K p.1 ∧ ∃ tys, OwnM K p.1 p.2 tys) : TyOk K (cdOf cs) := by
  have get : ∀ C, (cdOf cs).own C = true → ∃ u, cs.lookup C = some u := fun C e => Option.isSome_iff_exists.mp e
  refine ⟨fun C e => ?_, fun C e T hT => ?_, fun C e T hT => ?_, fun C D b e => ?_⟩
  · obtain ⟨u, e⟩ := get C e
    exact (h _ (lookup_in e)).1
  · obtain ⟨u, e⟩ := get C e
    obtain ⟨_, tys, m⟩ := h _ (lookup_in e)
    exact m.up hT
  · obtain ⟨u, e⟩ := get C e
    obtain ⟨_, tys, m⟩ := h _ (lookup_in e)
    exact m.dn hT
  · unfold cdOf at e
    have e : (match cs.lookup C with | some up => if (cs.lookup D).isSome = true then some (up.contains D) else none | none => none) = some b := e
    cases e1 : cs.lookup C with
    | none =>
      rw [e1] at e
      cases e
    | some u =>
      rw [e1] at e
      have e : (if (cs.lookup D).isSome = true then some (u.contains D) else none) = some b := e
      split at e
      · rename_i z
        obtain ⟨v, e2⟩ := Option.isSome_iff_exists.mp z
        obtain ⟨_, t1, m1⟩ := h _ (lookup_in e1)
        obtain ⟨_, t2, m2⟩ := h _ (lookup_in e2)
        refine ⟨?_, (m1.sub m2).trans e⟩
        show (cs.lookup C).isSome = true
        rw [e1]
        rfl
      · cases e
end
end DL
/-! DLE: == and != of lists and tuples whose items may be instances with an own __eq__ (which may change the state). -/
namespace PySem.SeqAt
open AutoSeq1 (wpAny_loadPart')
open MeetsSeq MeetsSeq2 MeetsSeq3 SeqRoads2
section
variable {prog : Program} {w : World}
/-- the two lists as they stand in a state -/
def TwoL (T : String) (l b : Addr) (V2 : Nat → Value → Value → Prop) (N M : Nat) (s : Shared) : Prop :=
  ∃ (items items2 : Array Value) (n n2 : Nat) (dd dd2 : Option Addr) (sl sl2 : Array (Option Value)), s.heap.get? l = some { cls := .type T, dict := dd, data := .seq items n, slots := sl } ∧
    s.heap.get? b = some { cls := .type T, dict := dd2, data := .seq items2 n2, slots := sl2 } ∧ items.size = N ∧ items2.size = M ∧ ∀ j (h1 : j < items.size) (h2 : j < items2.size), V2 j items[j] items2[j]
/-- comparing two values, in a state of St, gives b and a state of St -/
def EqJ (prog : Program) (w : World) (A : Around) (St : Shared → Prop) (v u : Value) (b : Bool) : Prop := ∀ (s : Shared) (E : Value → Shared → Prop) (Q : Bool → Shared → Prop), St s → (∀ s', St s' → Q b s') → wpAny (model prog w) A (eqBool v u) Q E s
theorem eq_loopJ (l b : Addr) (N : Nat) (e : Nat → Bool) (V2 : Nat → Value → Value → Prop) (St : Shared → Prop) (hSt : ∀ s, St s → TwoL "list" l b V2 N N s) (ne : Bool) (k : Nat) :
    ∀ i : Nat, N - i = k → MeetsIn prog w (Builtin.«list.__eq__.loop» ⟨[.ref l, .ref b, rawInt i, rawInt (if ne then 3 else 2)], []⟩)
      (fun A R s => St s ∧ (∀ j v u, j < N → V2 j v u → EqJ prog w A.in1 St v u (e j)) ∧
        ∀ s', St s' → R (.ok (.ret (.bool (xor ne (((List.range N).drop i).all e))))) s') := by
  induction k with
  | zero =>
    intro i hk A R s h
    obtain ⟨hs, he, h⟩ := h
    obtain ⟨items, items2, n, n2, dd, dd2, sl, sl2, hl, hb, z1, z2, hv⟩ := hSt s hs
    obtain ⟨hp, g, d, tk, os⟩ := s
    have hi1 : items[((i : Nat) : Int).toNat]? = none := by simp; omega
    have hi2 : items2[((i : Nat) : Int).toNat]? = none := by simp; omega
    have hd : (List.range N).drop i = [] := by simp; omega
    rw [hd] at h
    have h := h _ hs
    cases ne with
    | false =>
      wp_walk using wpAny_loadPart' hl, wpAny_loadPart' hb
      rw [hi1, hi2]
      wp_walk using wpAny_loadPart' hl, wpAny_loadPart' hb
      show R (.ok (.ret (.bool (items.size == items2.size)))) _
      rw [z1, z2]
      simpa using h
    | true =>
      wp_walk using wpAny_loadPart' hl, wpAny_loadPart' hb
      rw [hi1, hi2]
      wp_walk using wpAny_loadPart' hl, wpAny_loadPart' hb
      show R (.ok (.ret (.bool (items.size != items2.size)))) _
      rw [z1, z2]
      simpa using h
  | succ k ih =>
    intro i hk A R s h
    obtain ⟨hs, he, h⟩ := h
    obtain ⟨items, items2, n, n2, dd, dd2, sl, sl2, hl, hb, z1, z2, hv⟩ := hSt s hs
    obtain ⟨hp, g, d, tk, os⟩ := s
    have hlt : i < items.size := by omega
    have hlt2 : i < items2.size := by omega
    have hi1 : items[((i : Nat) : Int).toNat]? = some items[i] := by simp [hlt]
    have hi2 : items2[((i : Nat) : Int).toNat]? = some items2[i] := by simp [hlt2]
    have hd : (List.range N).drop i = i :: (List.range N).drop (i + 1) := by
      have : i < (List.range N).length := by simp; omega
      rw [List.drop_eq_getElem_cons this]
      simp
    have hc : ((i : Int) + 1) = ((i + 1 : Nat) : Int) := by push_cast; rfl
    rw [hd, List.all_cons] at h
    cases ne with
    | false =>
      wp_walk using wpAny_loadPart' hl, wpAny_loadPart' hb
      rw [hi1, hi2]
      refine wpAny_bind (he i _ _ (by omega) (hv i hlt hlt2) _ _ _ hs fun s' hs' => ?_)
      cases hb' : e i with
      | true =>
        rw [hb'] at h
        wp_walk
        rw [hc]
        exact ⟨plainId_quiet plain_eq_loop _, codeAny_builtin entry_eq_loop (by
          rw [Around.under_plainId plain_eq_loop _]
          exact ih (i + 1) (by omega) A R _ ⟨hs', he, fun s2 h2 => by simpa using h s2 h2⟩)⟩
      | false =>
        rw [hb'] at h
        have h := h _ hs'
        obtain ⟨it, it2, n', n2', dd', dd2', sl', sl2', hl', hb2, y1, y2, hv'⟩ := hSt s' hs'
        obtain ⟨hp', g', d', tk', os'⟩ := s'
        have hj1 : it[((i : Nat) : Int).toNat]? = some it[i] := by simp
        have hj2 : it2[((i : Nat) : Int).toNat]? = some it2[i] := by simp
        wp_walk using wpAny_loadPart' hl', wpAny_loadPart' hb2
        rw [hj1, hj2]
        wp_walk
        simpa using h
    | true =>
      wp_walk using wpAny_loadPart' hl, wpAny_loadPart' hb
      rw [hi1, hi2]
      refine wpAny_bind (he i _ _ (by omega) (hv i hlt hlt2) _ _ _ hs fun s' hs' => ?_)
      cases hb' : e i with
      | true =>
        rw [hb'] at h
        wp_walk
        rw [hc]
        exact ⟨plainId_quiet plain_eq_loop _, codeAny_builtin entry_eq_loop (by
          rw [Around.under_plainId plain_eq_loop _]
          exact ih (i + 1) (by omega) A R _ ⟨hs', he, fun s2 h2 => by simpa using h s2 h2⟩)⟩
      | false =>
        rw [hb'] at h
        have h := h _ hs'
        obtain ⟨it, it2, n', n2', dd', dd2', sl', sl2', hl', hb2, y1, y2, hv'⟩ := hSt s' hs'
        obtain ⟨hp', g', d', tk', os'⟩ := s'
        have hj1 : it[((i : Nat) : Int).toNat]? = some it[i] := by simp
        have hj2 : it2[((i : Nat) : Int).toNat]? = some it2[i] := by simp
        wp_walk using wpAny_loadPart' hl', wpAny_loadPart' hb2
        rw [hj1, hj2]
        wp_walk
        simpa using h
theorem list_eqJ (l b : Addr) (N M : Nat) (e : Nat → Bool) (V2 : Nat → Value → Value → Prop) (St : Shared → Prop) (hSt : ∀ s, St s → TwoL "list" l b V2 N M s) :
    MeetsIn prog w (Builtin.«list.__eq__» ⟨[.ref l, .ref b], []⟩)
      (fun A R s => St s ∧ (∀ j v u, j < N → j < M → V2 j v u → EqJ prog w A.in1 St v u (e j)) ∧
        ∀ s', St s' → R (.ok (.ret (.bool (N == M && (List.range N).all e)))) s') := by
  intro A R s h
  obtain ⟨hs, he, h⟩ := h
  obtain ⟨items, items2, n, n2, dd, dd2, sl, sl2, hl, hb, z1, z2, hv⟩ := hSt s hs
  obtain ⟨hp, g, d, tk, os⟩ := s
  have f3 := AutoSeq1.sub_list_list
  by_cases hsz : N = M
  · subst hsz
    have hne : ¬ (items.size != items2.size) = true := by simp [z1, z2]
    wp_walk using wpAny_loadPart' hl, wpAny_loadPart' hb
    exact ⟨plainId_quiet plain_eq_loop _, codeAny_builtin entry_eq_loop (by
      rw [Around.under_plainId plain_eq_loop _]
      exact eq_loopJ l b N e V2 St hSt false _ 0 rfl A R _ ⟨hs, fun j v u h1 => he j v u h1 h1, fun s2 h2 => by simpa using h s2 h2⟩)⟩
  · have hne : (items.size != items2.size) = true := by simp [z1, z2, hsz]
    have h := h _ hs
    have e0 : (N == M) = false := by simpa using hsz
    rw [e0] at h
    wp_walk using wpAny_loadPart' hl, wpAny_loadPart' hb
    rw [show (CmpOp.Eq == CmpOp.NotEq) = false from rfl]
    simpa using h
theorem list_neJ (l b : Addr) (N M : Nat) (e : Nat → Bool) (V2 : Nat → Value → Value → Prop) (St : Shared → Prop) (hSt : ∀ s, St s → TwoL "list" l b V2 N M s) :
    MeetsIn prog w (Builtin.«list.__ne__» ⟨[.ref l, .ref b], []⟩)
      (fun A R s => St s ∧ (∀ j v u, j < N → j < M → V2 j v u → EqJ prog w A.in1 St v u (e j)) ∧
        ∀ s', St s' → R (.ok (.ret (.bool (!(N == M && (List.range N).all e))))) s') := by
  intro A R s h
  obtain ⟨hs, he, h⟩ := h
  obtain ⟨items, items2, n, n2, dd, dd2, sl, sl2, hl, hb, z1, z2, hv⟩ := hSt s hs
  obtain ⟨hp, g, d, tk, os⟩ := s
  have f3 := AutoSeq1.sub_list_list
  by_cases hsz : N = M
  · subst hsz
    have hne : ¬ (items.size != items2.size) = true := by simp [z1, z2]
    wp_walk using wpAny_loadPart' hl, wpAny_loadPart' hb
    exact ⟨plainId_quiet plain_eq_loop _, codeAny_builtin entry_eq_loop (by
      rw [Around.under_plainId plain_eq_loop _]
      exact eq_loopJ l b N e V2 St hSt true _ 0 rfl A R _ ⟨hs, fun j v u h1 => he j v u h1 h1, fun s2 h2 => by simpa using h s2 h2⟩)⟩
  · have hne : (items.size != items2.size) = true := by simp [z1, z2, hsz]
    have h := h _ hs
    have e0 : (N == M) = false := by simpa using hsz
    rw [e0] at h
    wp_walk using wpAny_loadPart' hl, wpAny_loadPart' hb
    first | (rw [show (CmpOp.NotEq == CmpOp.NotEq) = true from rfl]; simpa using h) | simpa using h
theorem tuple_eqJ (l b : Addr) (N M : Nat) (e : Nat → Bool) (V2 : Nat → Value → Value → Prop) (St : Shared → Prop) (hSt : ∀ s, St s → TwoL "tuple" l b V2 N M s) :
    MeetsIn prog w (Builtin.«tuple.__eq__» ⟨[.ref l, .ref b], []⟩)
      (fun A R s => St s ∧ (∀ j v u, j < N → j < M → V2 j v u → EqJ prog w A.in1 St v u (e j)) ∧
        ∀ s', St s' → R (.ok (.ret (.bool ((List.range (min N M)).all e && N == M)))) s') :=
  .of_wp fun A R s h => by
    obtain ⟨hs, he, h⟩ := h
    obtain ⟨items, items2, n, n2, dd, dd2, sl, sl2, hl, hb, z1, z2, hv⟩ := hSt s hs
    obtain ⟨hp, g, d, tk, os⟩ := s
    have f2 := AutoSeq1.sub_tuple_tuple
    have hZ : (items.toList.zip items2.toList).length = min N M := by simp [z1, z2]
    wp_walk using wpAny_loadPart' hl, wpAny_loadPart' hb, wpAny_forIn_list _ (fun rest b s' => b.1 = none ∧ St s' ∧ ∃ i, rest = (items.toList.zip items2.toList).drop i ∧
      ∀ s2, St s2 → R (.ok (.ret (.bool (((List.range (min N M)).drop i).all e && N == M)))) s2) _
    case turn =>
      rintro ⟨y, x⟩ rest b s' ⟨hb', hs', i, hz, hR⟩
      have hlt : i < (items.toList.zip items2.toList).length := by
        rcases Nat.lt_or_ge i (items.toList.zip items2.toList).length with h' | h'
        · exact h'
        · rw [List.drop_of_length_le h'] at hz; cases hz
      have hm : i < min N M := hZ ▸ hlt
      have h1 : i < items.size := by omega
      have h2 : i < items2.size := by omega
      rw [List.drop_eq_getElem_cons hlt] at hz
      injection hz with hyx hrest
      have hy : y = items[i] := by have := congrArg Prod.fst hyx; simpa using this
      have hx : x = items2[i] := by have := congrArg Prod.snd hyx; simpa using this
      subst hy hx
      have hd : (List.range (min N M)).drop i = i :: (List.range (min N M)).drop (i + 1) := by simp [List.drop_eq_getElem_cons, hm]
      rw [hd, List.all_cons] at hR
      refine wpAny_bind (he i _ _ (by omega) (by omega) (hv i h1 h2) _ _ _ hs' fun s3 hs3 => ?_)
      cases hy : e i with
      | true =>
        rw [hy] at hR
        wp_walk
        exact ⟨rfl, hs3, i + 1, hrest, fun s2 h2 => by simpa using hR s2 h2⟩
      | false =>
        rw [hy] at hR
        have hR := hR _ hs3
        wp_walk
        exact ⟨_, rfl, by simpa using hR⟩
    case fin =>
      rintro ⟨b1, b2⟩ s' ⟨hb', hs', i, hz, hR⟩
      simp only at hb'
      subst hb'
      have hge : min N M ≤ i := by
        rcases Nat.lt_or_ge i (items.toList.zip items2.toList).length with h' | h'
        · rw [List.drop_eq_getElem_cons h'] at hz; cases hz
        · exact hZ ▸ h'
      rw [List.drop_of_length_le (by simpa using hge)] at hR
      have hR := hR _ hs'
      wp_walk
      exact ⟨_, rfl, by simpa [Builtin.Tuple.tupleCompareSizes, z1, z2] using hR⟩
    case h =>
      exact ⟨rfl, hs, 0, rfl, fun s2 h2 => by simpa using h s2 h2⟩
theorem tuple_neJ (l b : Addr) (N M : Nat) (e : Nat → Bool) (V2 : Nat → Value → Value → Prop) (St : Shared → Prop) (hSt : ∀ s, St s → TwoL "tuple" l b V2 N M s) :
    MeetsIn prog w (Builtin.«tuple.__ne__» ⟨[.ref l, .ref b], []⟩)
      (fun A R s => St s ∧ (∀ j v u, j < N → j < M → V2 j v u → EqJ prog w A.in1 St v u (e j)) ∧
        ∀ s', St s' → R (.ok (.ret (.bool (!((List.range (min N M)).all e && N == M))))) s') :=
  .of_wp fun A R s h => by
    obtain ⟨hs, he, h⟩ := h
    obtain ⟨items, items2, n, n2, dd, dd2, sl, sl2, hl, hb, z1, z2, hv⟩ := hSt s hs
    obtain ⟨hp, g, d, tk, os⟩ := s
    have f2 := AutoSeq1.sub_tuple_tuple
    have hZ : (items.toList.zip items2.toList).length = min N M := by simp [z1, z2]
    wp_walk using wpAny_loadPart' hl, wpAny_loadPart' hb, wpAny_forIn_list _ (fun rest b s' => b.1 = none ∧ St s' ∧ ∃ i, rest = (items.toList.zip items2.toList).drop i ∧
      ∀ s2, St s2 → R (.ok (.ret (.bool (!(((List.range (min N M)).drop i).all e && N == M))))) s2) _
    case turn =>
      rintro ⟨y, x⟩ rest b s' ⟨hb', hs', i, hz, hR⟩
      have hlt : i < (items.toList.zip items2.toList).length := by
        rcases Nat.lt_or_ge i (items.toList.zip items2.toList).length with h' | h'
        · exact h'
        · rw [List.drop_of_length_le h'] at hz; cases hz
      have hm : i < min N M := hZ ▸ hlt
      have h1 : i < items.size := by omega
      have h2 : i < items2.size := by omega
      rw [List.drop_eq_getElem_cons hlt] at hz
      injection hz with hyx hrest
      have hy : y = items[i] := by have := congrArg Prod.fst hyx; simpa using this
      have hx : x = items2[i] := by have := congrArg Prod.snd hyx; simpa using this
      subst hy hx
      have hd : (List.range (min N M)).drop i = i :: (List.range (min N M)).drop (i + 1) := by simp [List.drop_eq_getElem_cons, hm]
      rw [hd, List.all_cons] at hR
      refine wpAny_bind (he i _ _ (by omega) (by omega) (hv i h1 h2) _ _ _ hs' fun s3 hs3 => ?_)
      cases hy : e i with
      | true =>
        rw [hy] at hR
        wp_walk
        exact ⟨rfl, hs3, i + 1, hrest, fun s2 h2 => by simpa using hR s2 h2⟩
      | false =>
        rw [hy] at hR
        have hR := hR _ hs3
        wp_walk
        exact ⟨_, rfl, by simpa using hR⟩
    case fin =>
      rintro ⟨b1, b2⟩ s' ⟨hb', hs', i, hz, hR⟩
      simp only at hb'
      subst hb'
      have hge : min N M ≤ i := by
        rcases Nat.lt_or_ge i (items.toList.zip items2.toList).length with h' | h'
        · rw [List.drop_eq_getElem_cons h'] at hz; cases hz
        · exact hZ ▸ h'
      rw [List.drop_of_length_le (by simpa using hge)] at hR
      have hR := hR _ hs'
      wp_walk
      exact ⟨_, rfl, by simpa [Builtin.Tuple.tupleCompareSizes, z1, z2, bne] using hR⟩
    case h =>
      exact ⟨rfl, hs, 0, rfl, fun s2 h2 => by simpa using h s2 h2⟩
end
end PySem.SeqAt
/-! DLG: == and != of data with instances inside, over data. -/
namespace DL
open PySem L2
variable [Tbl]
mutual
def pl : D → Bool
  | .non => true
  | .bl _ => true
  | .int _ => true
  | .str _ => true
  | .ty _ => true
  | .tup l => plA l
  | .lst l => plA l
  | .ins _ fs => plF fs
  | .obj _ => false
  | .scr _ => false
  | .bag _ => false
  | .dct _ => false
  | .tux _ => false
  | .exc _ _ => false
def plA : List D → Bool
  | [] => true
  | d :: r => pl d && plA r
def plF : List (Str × D) → Bool
  | [] => true
  | (_, d) :: r => pl d && plF r
end
section
variable {X : Cx} {pins : List (Addr × Obj)} {σ : L2.St} {F H : Hp} {s : Shared}
theorem vals_fn : ∀ {xs ys : List V} {us : List Value}, Vals xs us → Vals ys us → xs = ys
  | _, _, _, .nil, .nil => rfl
  | _, _, _, .cons r t, .cons r2 t2 => by rw [RelV.inj r r2, vals_fn t t2]
theorem sqT_fn (I : Inv X pins σ H s) {a : Addr} {xs ys : List V} (h : SqT X.K H a xs) (g : SqT X.K H a ys) : xs = ys := by
  obtain ⟨i1, v1, ⟨o, ho, hc, n, hd⟩, _⟩ := I.tuple h
  obtain ⟨i2, v2, ⟨o2, ho2, hc2, n2, hd2⟩, _⟩ := I.tuple g
  rw [ho] at ho2
  cases ho2
  rw [hd] at hd2
  injection hd2 with e _
  have e : i1 = i2 := by simpa using congrArg Array.toList e
  subst e
  exact vals_fn v1 v2
theorem sqT_cls (I : Inv X pins σ H s) {a : Addr} {xs : List V} (h : SqT X.K H a xs) : ∃ o, s.heap.get? a = some o ∧ o.cls = .type "tuple" := by
  obtain ⟨i1, v1, ⟨o, ho, hc, n, hd⟩, _⟩ := I.tuple h
  exact ⟨o, ho, hc⟩
theorem sqT_lst (I : Inv X pins σ H s) {a : Addr} {xs ys : List V} (h : SqT X.K H a xs) (g : H a = some (.lst ys)) : False := by
  obtain ⟨o, ho, hc⟩ := sqT_cls I h
  obtain ⟨its, n, r, e, _⟩ := I.lst g
  rw [ho] at e
  cases e
  injection hc with h
  exact absurd h (by decide)
theorem sqT_ins (I : Inv X pins σ H s) {a C dx : Addr} {xs : List V} {fs : List (Str × V)} (h : SqT X.K H a xs) (g : H a = some (.ins C dx fs)) : False := by
  obtain ⟨o, ho, hc⟩ := sqT_cls I h
  have x : ObjOk X.prog X.w H s.heap a (.ins C dx fs) := I.hok a _ g
  obtain ⟨_, _, _, e, _⟩ := x
  rw [ho] at e
  cases e
  cases hc
mutual
theorem Rep.fn (I : Inv X pins σ H s) (sm : Same F H) : ∀ {x : V} {d e : D}, Rep X.K F x d → Rep X.K F x e → pl d = true → pl e = true → d = e
  | _, _, e, .non, r, p, q => by
    cases r
    rfl
  | _, _, e, .bl b, r, p, q => by
    cases r
    rfl
  | _, _, e, .int i, r, p, q => by
    cases r
    rfl
  | _, _, e, .str i, r, p, q => by
    cases r
    rfl
  | _, _, e, .ty i, r, p, q => by
    cases r
    rfl
  | _, _, e, .tup h1 h2, r, p, q => by
    cases r with
    | tup g1 g2 =>
      cases sqT_fn I (same_t sm h1) (same_t sm g1)
      rw [RepA.fn I sm h2 g2 p q]
    | lst g1 g2 => exact (sqT_lst I (same_t sm h1) (sm _ _ g1)).elim
    | ins g1 g2 => exact (sqT_ins I (same_t sm h1) (sm _ _ g1)).elim
    | obj _ => cases q
    | scr _ => cases q
    | bag _ => cases q
    | dct _ _ => cases q
    | tux _ _ _ => cases q
    | exc _ _ _ => cases q
  | _, _, e, .lst h1 h2, r, p, q => by
    cases r with
    | tup g1 g2 => exact (sqT_lst I (same_t sm g1) (sm _ _ h1)).elim
    | lst g1 g2 =>
      rw [h1] at g1
      cases g1
      rw [RepA.fn I sm h2 g2 p q]
    | ins g1 g2 =>
      rw [h1] at g1
      cases g1
    | obj _ => cases q
    | scr _ => cases q
    | bag _ => cases q
    | dct _ _ => cases q
    | tux _ _ _ => cases q
    | exc _ _ _ => cases q
  | _, _, e, .ins h1 h2, r, p, q => by
    cases r with
    | tup g1 g2 => exact (sqT_ins I (same_t sm g1) (sm _ _ h1)).elim
    | lst g1 g2 =>
      rw [h1] at g1
      cases g1
    | ins g1 g2 =>
      rw [h1] at g1
      cases g1
      rw [RepF.fn I sm h2 g2 p q]
    | obj _ => cases q
    | scr _ => cases q
    | bag _ => cases q
    | dct _ _ => cases q
    | tux _ _ _ => cases q
    | exc _ _ _ => cases q
  | _, _, e, .obj _, r, p, q => by cases p
  | _, _, e, .scr _, r, p, q => by cases p
  | _, _, e, .bag _, r, p, q => by cases p
  | _, _, e, .dct _ _, r, p, q => by cases p
  | _, _, e, .tux _ _ _, r, p, q => by cases p
  | _, _, e, .exc _ _ _, r, p, q => by cases p
theorem RepA.fn (I : Inv X pins σ H s) (sm : Same F H) : ∀ {x : List V} {d e : List D}, RepA X.K F x d → RepA X.K F x e → plA d = true → plA e = true → d = e
  | _, _, _, .nil, .nil, _, _ => rfl
  | _, _, _, .cons h1 h2, .cons g1 g2, p, q => by
    have p' := Bool.and_eq_true_iff.mp p
    have q' := Bool.and_eq_true_iff.mp q
    rw [Rep.fn I sm h1 g1 p'.1 q'.1, RepA.fn I sm h2 g2 p'.2 q'.2]
theorem RepF.fn (I : Inv X pins σ H s) (sm : Same F H) : ∀ {x : List (Str × V)} {d e : List (Str × D)}, RepF X.K F x d → RepF X.K F x e → plF d = true → plF e = true → d = e
  | _, _, _, .nil, .nil, _, _ => rfl
  | _, _, _, .cons h1 h2, .cons g1 g2, p, q => by
    have p' := Bool.and_eq_true_iff.mp p
    have q' := Bool.and_eq_true_iff.mp q
    rw [Rep.fn I sm h1 g1 p'.1 q'.1, RepF.fn I sm h2 g2 p'.2 q'.2]
end
/-- what == of two data tells; T: the own classes with the meaning of their __eq__ -/
inductive EqG (A : CtxD) (T : List (Addr × FS)) : Nat → D → D → Bool → Prop
  | data {n : Nat} {d e : D} : okL 32 d → okL 32 e → EqG A T n d e (eqD d e)
  | own {n : Nat} {C : Addr} {fs : List (Str × D)} {e : D} {S : FS} {b : Bool} : (C, S) ∈ T → okEq A C e → S [.ins C fs, e] (fun _ => False) (fun z => z = .bl b) → (b = true ∨ (D.ins C fs ≠ e ∧ plF fs = true ∧ pl e = true)) → EqG A T n (.ins C fs) e b
  | tup {n : Nat} {l m : List D} {e : Nat → Bool} : (∀ j x y, l[j]? = some x → m[j]? = some y → EqG A T n x y (e j)) → EqG A T (n + 1) (.tup l) (.tup m) ((List.range (min l.length m.length)).all e && l.length == m.length)
  | lst {n : Nat} {l m : List D} {e : Nat → Bool} : (∀ j x y, l[j]? = some x → m[j]? = some y → EqG A T n x y (e j)) → EqG A T (n + 1) (.lst l) (.lst m) (l.length == m.length && (List.range l.length).all e)
theorem pd_eq (I : Inv X pins σ H s) (sm : Same F H) {x : V} {d e : D} {p q : PyData} (hd : Rep X.K F x d) (he : Rep X.K F x e) (h1 : pd d = some p) (h2 : pd e = some q) (c1 : p.canLay0 = true) (v : Value) (rv : RelV x v) : p = q := by
  obtain ⟨as, r1⟩ := Dp.reads I p x v (dp_of sm hd h1) rv
  obtain ⟨bs, r2⟩ := Dp.reads I q x v (dp_of sm he h2) rv
  exact SeqAt.Reads.unique p _ _ _ _ c1 r1 r2
theorem relV_ex (x : V) : ∃ v, RelV x v := by
  cases x with
  | non => exact ⟨_, rfl⟩
  | bl b => exact ⟨_, rfl⟩
  | int i => exact ⟨.int i 0, 0, rfl⟩
  | str i => exact ⟨.str i 0, 0, rfl⟩
  | byt i => exact ⟨.bytes i 0, 0, rfl⟩
  | flt i => exact ⟨.float i 0, 0, rfl⟩
  | ref a => exact ⟨_, rfl⟩
  | ty n => exact ⟨_, rfl⟩
theorem EqG.idem {A : CtxD} {T : List (Addr × FS)} {n : Nat} {d e : D} {b : Bool} (h : EqG A T n d e b) (I : Inv X pins σ H s) (sm : Same F H) : ∀ x, Rep X.K F x d → Rep X.K F x e → b = true := by
  induction h with
  | data h1 h2 =>
    intro x r1 r2
    obtain ⟨p, a1, a2, _⟩ := h1
    obtain ⟨q, b1, b2, _⟩ := h2
    obtain ⟨v, rv⟩ := relV_ex x
    have e := pd_eq I sm r1 r2 a1 b1 a2 v rv
    subst e
    unfold eqD
    rw [a1, b1]
    exact SeqAt.eqv_refl p a2
  | own h1 h2 h3 h4 =>
    intro x r1 r2
    rcases h4 with h4 | ⟨h4, h5, h6⟩
    · exact h4
    · exact absurd (Rep.fn I sm r1 r2 h5 h6) h4
  | @tup n l m e h ih =>
    intro x r1 r2
    cases r1 with
    | tup h1 h2 =>
      cases r2 with
      | tup g1 g2 =>
        cases sqT_fn I (same_t sm h1) (same_t sm g1)
        have hl : l.length = m.length := h2.len.symm.trans g2.len
        rw [hl, Nat.min_self, Bool.and_eq_true, List.all_eq_true]
        refine ⟨fun j hj => ?_, by simp⟩
        have hj := List.mem_range.mp hj
        obtain ⟨z, hz, rz⟩ := h2.getD (List.getElem?_eq_getElem (show j < l.length by omega))
        obtain ⟨y, hy, ry⟩ := g2.get hz
        exact ih j _ _ (List.getElem?_eq_getElem (show j < l.length by omega)) hy z rz ry
  | @lst n l m e h ih =>
    intro x r1 r2
    cases r1 with
    | lst h1 h2 =>
      cases r2 with
      | lst g1 g2 =>
        rw [h1] at g1
        cases g1
        have hl : l.length = m.length := h2.len.symm.trans g2.len
        rw [hl, Bool.and_eq_true, List.all_eq_true]
        refine ⟨by simp, fun j hj => ?_⟩
        have hj := List.mem_range.mp hj
        obtain ⟨z, hz, rz⟩ := h2.getD (List.getElem?_eq_getElem (show j < l.length by omega))
        obtain ⟨y, hy, ry⟩ := g2.get hz
        exact ih j _ _ (List.getElem?_eq_getElem (show j < l.length by omega)) hy z rz ry
/-- an own class's __eq__ as it was proved -/
def OwnE (X : Cx) (k : Nat) (C : Addr) (S : FS) : Prop := ∃ (g : Addr) (fd : FuncData) (k0 : Nat), k0 ≤ k ∧ PySem.W.findIn X.K (.ref C) "__eq__" = some (some (.ref g)) ∧ PySem.W.isFn X.K (.ref g) = true ∧ FnOk X.prog X.w X.K X.mg X.base (L2.CX X.prog X.w) k0 g fd ["self", "other"] (spOf X.K 2 S) ∧ Binds X.K fd ["self", "other"] []
theorem run_fnE {k : Nat} {g : Addr} {fd : FuncData} {sp : Sp} {Q : VK} {ps : List Str} {us : List Value} {vs : List V} {A : Around} (Fn : FnOk X.prog X.w X.K X.mg X.base (L2.CX X.prog X.w) k g fd ps sp) (hr : Room k A) (hA : A.frames = X.A.frames) (hb : Binds X.K fd ps [])
    (I : Inv X pins σ H s) (r : Vals vs us) (h : sp vs H Q E0) (E : Value → Shared → Prop) : wpAny (model X.prog X.w) A (call (.ref g) us) (EP X pins σ Q) E s := by
  have hl : (us ++ []).length = ps.length := by
    rw [List.append_nil, ← r.length]
    exact Fn.len _ _ _ _ h
  have e0 : Env0 X.prog X.w X.K X.mg X.base A X.stack s H := by
    have e := I.env0
    exact ⟨by rw [hA]; exact e.frames, e.mod, e.bs, e.bsz, e.funs, e.frf, e.hok, e.bare⟩
  have hb' := hb s us I.kIn hl
  rw [List.append_nil] at hb'
  refine wpAny_call (codeAny_mono (Fn.run A X.stack s H ⟨us, []⟩ us vs Q E0 hr e0 hb' r h) fun r s' hq => ?_)
  cases r with
  | error e =>
    obtain ⟨_, _, _, _, _, _, _, _, _, _, _, _, z⟩ := hq
    exact z.elim
  | ok fl =>
    cases fl with
    | ret u => exact I.after hq
    | next => exact False.elim hq
    | brk => exact False.elim hq
    | cont => exact False.elim hq
/-- one's own == at any depth -/
theorem own_run {k : Nat} {C : Addr} {S : FS} {A : CtxD} (ty : TyOk X.K A) (o : OwnE X k C S) {fs : List (Str × D)} {e : D} {b : Bool} (he : okEq A C e) (hS : S [.ins C fs, e] (fun _ => False) (fun z => z = .bl b)) (A' : Around) (hA : A'.frames = X.A.frames) (hr : Room k A')
    (I : Inv X pins σ H s) (sm : Fz F H) {x y : V} {v u : Value} (rx : Rep X.K F x (.ins C fs)) (ry : Rep X.K F y e) (vx : RelV x v) (vy : RelV y u) (E Q : Value → Shared → Prop)
    (hQ : ∀ F' H' s', Inv X pins σ H' s' → Stp F F' H H' → Q (.bool b) s') : wpAny (model X.prog X.w) A' (richCompare .Eq v u) Q E s := by
  obtain ⟨g, fd, k0, hk0, hs, hf, Fn, hb⟩ := o
  cases rx with
  | @ins a _ dx xs _ h1 h2 =>
    cases (show v = Value.ref a from vx)
    obtain ⟨ok, nf⟩ := okEq_ok ty he
    obtain ⟨od, J⟩ := ins_inst I (sm _ _ h1)
    obtain ⟨m, hF⟩ := I.fr
    refine PySem.W.cmp_K (op := .Eq) (tb := tyD e) hr.units0 hF I.ok.mod.kin J (looks_ty I vy (tyx_of sm ry ok)) nf hs hf ?_
    refine wpAny_mono (run_fnE (us := [.ref a, u]) (vs := [.ref a, y]) (Q := fun z H' => ∃ F', Stp F F' H H' ∧ z = .bl b) Fn (hr.mono hk0) hA hb I (.cons rfl (.cons vy .nil)) ?_ E) (fun w s' z => ?_) fun _ _ x => x
    · refine ⟨F, [.ins C fs, e], fun _ => False, fun z => z = .bl b, rfl, sm, .cons (.ins h1 h2) (.cons ry .nil), hS, fun z d F' H' st r q => ?_, EL.no⟩
      subst q
      cases r
      exact ⟨F', st, rfl⟩
    · obtain ⟨z', H', I', rz, F', st, rfl⟩ := z
      cases rz
      exact hQ F' H' s' I' st
/-- the states behind F, H -/
def StX (X : Cx) (pins : List (Addr × Obj)) (σ : L2.St) (F H : Hp) (s : Shared) : Prop := ∃ F' H', Inv X pins σ H' s ∧ Stp F F' H H'
def V2X (xs ys : List V) (j : Nat) (v u : Value) : Prop := ∃ x y, xs[j]? = some x ∧ ys[j]? = some y ∧ RelV x v ∧ RelV y u
theorem vals_nth {xs : List V} {us : List Value} (r : Vals xs us) {j : Nat} (h : j < us.toArray.size) : ∃ x, xs[j]? = some x ∧ RelV x us.toArray[j] := by
  have hl := r.length
  have h' : j < us.length := by simpa using h
  obtain ⟨u, e, rv⟩ := r.get (List.getElem?_eq_getElem (show j < xs.length by omega))
  refine ⟨_, List.getElem?_eq_getElem (show j < xs.length by omega), ?_⟩
  rw [List.getElem?_eq_getElem h'] at e
  cases e
  simpa using rv
theorem twoL_list {a c : Addr} {xs ys : List V} (h1 : F a = some (.lst xs)) (h2 : F c = some (.lst ys)) (s' : Shared) (z : StX X pins σ F H s') : SeqAt.TwoL "list" a c (V2X xs ys) xs.length ys.length s' := by
  obtain ⟨F', H', I, st⟩ := z
  obtain ⟨i1, n1, r1, e1, _⟩ := I.lst (st.fh _ _ (st.ff _ _ h1))
  obtain ⟨i2, n2, r2, e2, _⟩ := I.lst (st.fh _ _ (st.ff _ _ h2))
  refine ⟨_, _, _, _, none, none, #[], #[], e1, e2, by simp [r1.length], by simp [r2.length], fun j q1 q2 => ?_⟩
  obtain ⟨x, a1, a2⟩ := vals_nth r1 q1
  obtain ⟨y, b1, b2⟩ := vals_nth r2 q2
  exact ⟨x, y, a1, b1, a2, b2⟩
theorem twoL_tup {a c : Addr} {xs ys : List V} (h1 : SqT X.K F a xs) (h2 : SqT X.K F c ys) (s' : Shared) (z : StX X pins σ F H s') : SeqAt.TwoL "tuple" a c (V2X xs ys) xs.length ys.length s' := by
  obtain ⟨F', H', I, st⟩ := z
  obtain ⟨i1, r1, ⟨⟨c1, d1, da1, sl1⟩, e1, k1, n1, w1⟩, _⟩ := I.tuple (same_t st.fh (same_t st.ff h1))
  obtain ⟨i2, r2, ⟨⟨c2, d2, da2, sl2⟩, e2, k2, n2, w2⟩, _⟩ := I.tuple (same_t st.fh (same_t st.ff h2))
  simp only at k1 w1 k2 w2
  subst k1 w1 k2 w2
  refine ⟨_, _, _, _, d1, d2, sl1, sl2, e1, e2, by simp [r1.length], by simp [r2.length], fun j q1 q2 => ?_⟩
  obtain ⟨x, a1, a2⟩ := vals_nth r1 q1
  obtain ⟨y, b1, b2⟩ := vals_nth r2 q2
  exact ⟨x, y, a1, b1, a2, b2⟩
theorem TwoL_is {T : String} {a c : Addr} {V2 : Nat → Value → Value → Prop} {N M : Nat} (h : SeqAt.TwoL T a c V2 N M s) : s.TypeIs (.ref a) T ∧ s.TypeIs (.ref c) T := by
  obtain ⟨_, _, _, _, _, _, _, _, e1, e2, _⟩ := h
  exact ⟨⟨_, e1, rfl⟩, ⟨_, e2, rfl⟩⟩
/-- two sequences compared: neq turns it -/
theorem lists_run (neq : Bool) {a c : Addr} {xs ys : List V} (h1 : F a = some (.lst xs)) (h2 : F c = some (.lst ys)) (A' : Around) (hu : A'.units < cLine) (e : Nat → Bool) (z : StX X pins σ F H s)
    (he : ∀ j v u, j < xs.length → j < ys.length → V2X xs ys j v u → SeqAt.EqJ X.prog X.w A'.in1 (StX X pins σ F H) v u (e j)) (E Q : Value → Shared → Prop)
    (hQ : ∀ s', StX X pins σ F H s' → Q (.bool (xor neq (xs.length == ys.length && (List.range xs.length).all e))) s') : wpAny (model X.prog X.w) A' (richCompare (if neq then .NotEq else .Eq) (.ref a) (.ref c)) Q E s := by
  obtain ⟨ta, tb⟩ := TwoL_is (twoL_list h1 h2 s z)
  cases neq with
  | false =>
    exact wpAny_richCompare_same_room (op := .Eq) ta tb PySem.F.slot_list_eq (call_meetsIn PySem.F.slot_list_eq ta PySem.F.entry_list_eq (PySem.F.args_list_eq_2 _ _) (SeqAt.list_eqJ a c xs.length ys.length e (V2X xs ys) (StX X pins σ F H) (twoL_list h1 h2))
      ⟨z, he, fun s' z' => show Value.bool _ ≠ Value.notImplemented ∧ Q (.bool _) s' from ⟨(fun x => nomatch x), by simpa using hQ s' z'⟩⟩) hu
  | true =>
    exact wpAny_richCompare_same_room (op := .NotEq) ta tb PySem.F.slot_list_ne (call_meetsIn PySem.F.slot_list_ne ta PySem.F.entry_list_ne (PySem.F.args_list_ne_2 _ _) (SeqAt.list_neJ a c xs.length ys.length e (V2X xs ys) (StX X pins σ F H) (twoL_list h1 h2))
      ⟨z, he, fun s' z' => show Value.bool _ ≠ Value.notImplemented ∧ Q (.bool _) s' from ⟨(fun x => nomatch x), by simpa using hQ s' z'⟩⟩) hu
theorem tups_run (neq : Bool) {a c : Addr} {xs ys : List V} (h1 : SqT X.K F a xs) (h2 : SqT X.K F c ys) (A' : Around) (hu : A'.units < cLine) (e : Nat → Bool) (z : StX X pins σ F H s)
    (he : ∀ j v u, j < xs.length → j < ys.length → V2X xs ys j v u → SeqAt.EqJ X.prog X.w A'.in1 (StX X pins σ F H) v u (e j)) (E Q : Value → Shared → Prop)
    (hQ : ∀ s', StX X pins σ F H s' → Q (.bool (xor neq ((List.range (min xs.length ys.length)).all e && xs.length == ys.length))) s') : wpAny (model X.prog X.w) A' (richCompare (if neq then .NotEq else .Eq) (.ref a) (.ref c)) Q E s := by
  obtain ⟨ta, tb⟩ := TwoL_is (twoL_tup h1 h2 s z)
  cases neq with
  | false =>
    exact wpAny_richCompare_same_room (op := .Eq) ta tb PySem.F.slot_tuple_eq (call_meetsIn PySem.F.slot_tuple_eq ta PySem.F.entry_tuple_eq (PySem.F.args_tuple_eq_2 _ _) (SeqAt.tuple_eqJ a c xs.length ys.length e (V2X xs ys) (StX X pins σ F H) (twoL_tup h1 h2))
      ⟨z, he, fun s' z' => show Value.bool _ ≠ Value.notImplemented ∧ Q (.bool _) s' from ⟨(fun x => nomatch x), by simpa using hQ s' z'⟩⟩) hu
  | true =>
    exact wpAny_richCompare_same_room (op := .NotEq) ta tb PySem.F.slot_tuple_ne (call_meetsIn PySem.F.slot_tuple_ne ta PySem.F.entry_tuple_ne (PySem.F.args_tuple_ne_2 _ _) (SeqAt.tuple_neJ a c xs.length ys.length e (V2X xs ys) (StX X pins σ F H) (twoL_tup h1 h2))
      ⟨z, he, fun s' z' => show Value.bool _ ≠ Value.notImplemented ∧ Q (.bool _) s' from ⟨(fun x => nomatch x), by simpa using hQ s' z'⟩⟩) hu
theorem eqBool_ref {A' : Around} {a : Addr} {u : Value} {E : Value → Shared → Prop} {Q : Bool → Shared → Prop} {b : Bool} (hs : Value.ref a = u → b = true) (hq : Value.ref a = u → Q b s) (h : wpAny (model X.prog X.w) A' (richCompare .Eq (.ref a) u) (fun v s' => ∃ c, v = .bool c ∧ Q c s') E s) :
    wpAny (model X.prog X.w) A' (eqBool (.ref a) u) Q E s := by
  unfold eqBool
  refine wpAny_holding ?_
  refine wpAny_ite_split (fun hab => ?_) (fun _ => ?_)
  · have e := eq_of_beq hab
    have q := hq e
    rw [hs e] at q
    exact wpAny_bind (wpAny_rule (wpAny_pure q))
  · refine wpAny_bind (wpAny_mono h (fun v s' z => ?_) fun _ _ x => x)
    obtain ⟨c, rfl, z⟩ := z
    exact wpAny_truthy_bool z
/-- comparing by == at any depth -/
theorem eqG_run {k : Nat} {A : CtxD} {T : List (Addr × FS)} (ty : TyOk X.K A) (hT : ∀ p ∈ T, OwnE X k p.1 p.2) {n : Nat} {d e : D} {b : Bool} (g : EqG A T n d e b) : ∀ (A' : Around), A'.frames = X.A.frames → Room (n + k) A' →
    ∀ (F H : Hp) (s : Shared), Inv X pins σ H s → Fz F H → ∀ (x y : V) (v u : Value), Rep X.K F x d → Rep X.K F y e → RelV x v → RelV y u → ∀ (E : Value → Shared → Prop) (Q : Bool → Shared → Prop), (∀ s', StX X pins σ F H s' → Q b s') →
      wpAny (model X.prog X.w) A' (eqBool v u) Q E s := by
  induction g with
  | @data n d e h1 h2 =>
    intro A' hA hr F H s I sm x y v u rx ry vx vy E Q hQ
    obtain ⟨p, a1, a2, a3⟩ := h1
    obtain ⟨q, b1, b2, b3⟩ := h2
    obtain ⟨as, r1⟩ := Dp.reads I p x v (dp_of sm rx a1) vx
    obtain ⟨bs, r2⟩ := Dp.reads I q y u (dp_of sm ry b1) vy
    have hu := hr.un
    have e0 : eqD d e = PyData.eqv p q := by
      unfold eqD
      rw [a1, b1]
    rw [e0] at hQ
    exact SeqAt.eqAt_reads p q A' s v u as bs r1 r2 a2 b2 (by have := Nat.min_le_left p.depth q.depth; omega) _ _ E Q (hQ s ⟨F, H, I, Stp.refl sm⟩)
  | @own n C fs e S b h1 h2 h3 h4 =>
    intro A' hA hr F H s I sm x y v u rx ry vx vy E Q hQ
    have g : EqG A T n (.ins C fs) e b := .own h1 h2 h3 h4
    have rx0 := rx
    cases rx with
    | @ins a _ dx xs _ i1 i2 =>
      cases (show v = Value.ref a from vx)
      refine eqBool_ref (b := b) (fun e => ?_) (fun e => hQ s ⟨F, H, I, Stp.refl sm⟩) ?_
      · subst e
        cases RelV.inj vy (show RelV (.ref a) (Value.ref a) from rfl)
        exact g.idem I sm _ rx0 ry
      · exact own_run ty (hT _ h1) h2 h3 A' hA (hr.mono (Nat.le_add_left _ _)) I sm rx0 ry rfl vy E _ fun F' H' s' I' st => ⟨b, rfl, hQ s' ⟨F', H', I', st⟩⟩
  | @tup n l m e h ih =>
    intro A' hA hr F H s I sm x y v u rx ry vx vy E Q hQ
    have g : EqG A T (n + 1) (.tup l) (.tup m) _ := .tup h
    have rx0 := rx
    have ry0 := ry
    cases rx with
    | @tup a xs _ i1 i2 =>
      cases ry with
      | @tup c ys _ j1 j2 =>
        cases (show v = Value.ref a from vx)
        cases (show u = Value.ref c from vy)
        have z0 : StX X pins σ F H s := ⟨F, H, I, Stp.refl sm⟩
        have hr' : Room (n + k) A'.in1 := Room.in1 (by rw [show n + 1 + k = n + k + 1 by omega] at hr; exact hr)
        refine eqBool_ref (b := _) (fun e => ?_) (fun e => hQ s z0) ?_
        · cases e
          exact g.idem I sm _ rx0 ry0
        · refine tups_run false (F := F) (H := H) i1 j1 A' (by have := hr.un; omega) e z0 (fun j v u q1 q2 z => ?_) E _ fun s' z => ⟨_, rfl, ?_⟩
          · obtain ⟨x, y, e1, e2, r1, r2⟩ := z
            obtain ⟨dx, k1, rd⟩ := i2.get e1
            obtain ⟨dy, k2, re⟩ := j2.get e2
            intro s1 E1 Q1 z1 hq1
            obtain ⟨F1, H1, I1, st1⟩ := z1
            exact ih j dx dy k1 k2 A'.in1 hA hr' F1 H1 s1 I1 st1.fh x y v u (rd.mono st1.ff) (re.mono st1.ff) r1 r2 E1 Q1 fun s2 ⟨F2, H2, I2, st2⟩ => hq1 s2 ⟨F2, H2, I2, st1.trans st2⟩
          · have := hQ s' z
            rw [i2.len, j2.len]
            simpa using this
  | @lst n l m e h ih =>
    intro A' hA hr F H s I sm x y v u rx ry vx vy E Q hQ
    have g : EqG A T (n + 1) (.lst l) (.lst m) _ := .lst h
    have rx0 := rx
    have ry0 := ry
    cases rx with
    | @lst a xs _ i1 i2 =>
      cases ry with
      | @lst c ys _ j1 j2 =>
        cases (show v = Value.ref a from vx)
        cases (show u = Value.ref c from vy)
        have z0 : StX X pins σ F H s := ⟨F, H, I, Stp.refl sm⟩
        have hr' : Room (n + k) A'.in1 := Room.in1 (by rw [show n + 1 + k = n + k + 1 by omega] at hr; exact hr)
        refine eqBool_ref (b := _) (fun e => ?_) (fun e => hQ s z0) ?_
        · cases e
          exact g.idem I sm _ rx0 ry0
        · refine lists_run false (F := F) (H := H) i1 j1 A' (by have := hr.un; omega) e z0 (fun j v u q1 q2 z => ?_) E _ fun s' z => ⟨_, rfl, ?_⟩
          · obtain ⟨x, y, e1, e2, r1, r2⟩ := z
            obtain ⟨dx, k1, rd⟩ := i2.get e1
            obtain ⟨dy, k2, re⟩ := j2.get e2
            intro s1 E1 Q1 z1 hq1
            obtain ⟨F1, H1, I1, st1⟩ := z1
            exact ih j dx dy k1 k2 A'.in1 hA hr' F1 H1 s1 I1 st1.fh x y v u (rd.mono st1.ff) (re.mono st1.ff) r1 r2 E1 Q1 fun s2 ⟨F2, H2, I2, st2⟩ => hq1 s2 ⟨F2, H2, I2, st1.trans st2⟩
          · have := hQ s' z
            rw [i2.len, j2.len]
            simpa using this
/-- two sequences compared by == -/
inductive SqG (A : CtxD) (T : List (Addr × FS)) (n : Nat) : D → D → Bool → Prop
  | tup {l m : List D} {e : Nat → Bool} : (∀ j x y, l[j]? = some x → m[j]? = some y → EqG A T n x y (e j)) → SqG A T n (.tup l) (.tup m) ((List.range (min l.length m.length)).all e && l.length == m.length)
  | lst {l m : List D} {e : Nat → Bool} : (∀ j x y, l[j]? = some x → m[j]? = some y → EqG A T n x y (e j)) → SqG A T n (.lst l) (.lst m) (l.length == m.length && (List.range l.length).all e)
def rCmpG (K : PySem.W.Frag) (A : CtxD) (T : List (Addr × FS)) (n : Nat) (neq : Bool) : R2 := fun x y H Q => ∃ F d e b, Fz F H ∧ Rep K F x d ∧ Rep K F y e ∧ SqG A T n d e b ∧ ∀ F' H', Stp F F' H H' → Q (.bl (xor neq b)) H'
theorem cmpG_run {k : Nat} {A : CtxD} {T : List (Addr × FS)} (ty : TyOk X.K A) (hT : ∀ p ∈ T, OwnE X k p.1 p.2) (n : Nat) (hr : Room (n + 1 + k) X.A) (neq : Bool) : OpR X (compareOp (if neq then .NotEq else .Eq)) (rCmpG X.K A T n neq) := by
  intro pins s σ H x y v u Q I vx vy h
  obtain ⟨F, d, e, b, sm, rx, ry, g, q⟩ := h
  have hr' : Room (n + k) X.A.in1 := Room.in1 (by rw [show n + 1 + k = n + k + 1 by omega] at hr; exact hr)
  have z0 : StX X pins σ F H s := ⟨F, H, I, Stp.refl sm⟩
  have cg : compareOp (if neq then CmpOp.NotEq else CmpOp.Eq) v u = richCompare (if neq then CmpOp.NotEq else CmpOp.Eq) v u := by cases neq <;> rfl
  rw [cg]
  cases g with
  | @tup l m e h =>
    cases rx with
    | @tup a xs _ i1 i2 =>
      cases ry with
      | @tup c ys _ j1 j2 =>
        cases (show v = Value.ref a from vx)
        cases (show u = Value.ref c from vy)
        refine tups_run neq (F := F) (H := H) i1 j1 X.A (by have := hr.un; omega) e z0 (fun j v u q1 q2 z => ?_) _ _ fun s' z => ?_
        · obtain ⟨x, y, e1, e2, r1, r2⟩ := z
          obtain ⟨dx, k1, rd⟩ := i2.get e1
          obtain ⟨dy, k2, re⟩ := j2.get e2
          intro s1 E1 Q1 z1 hq1
          obtain ⟨F1, H1, I1, st1⟩ := z1
          exact eqG_run ty hT (h j dx dy k1 k2) X.A.in1 rfl hr' F1 H1 s1 I1 st1.fh x y v u (rd.mono st1.ff) (re.mono st1.ff) r1 r2 E1 Q1 fun s2 ⟨F2, H2, I2, st2⟩ => hq1 s2 ⟨F2, H2, I2, st1.trans st2⟩
        · obtain ⟨F', H', I', st⟩ := z
          have := q F' H' st
          rw [i2.len, j2.len]
          exact ⟨.bl _, H', I', rfl, this⟩
  | @lst l m e h =>
    cases rx with
    | @lst a xs _ i1 i2 =>
      cases ry with
      | @lst c ys _ j1 j2 =>
        cases (show v = Value.ref a from vx)
        cases (show u = Value.ref c from vy)
        refine lists_run neq (F := F) (H := H) i1 j1 X.A (by have := hr.un; omega) e z0 (fun j v u q1 q2 z => ?_) _ _ fun s' z => ?_
        · obtain ⟨x, y, e1, e2, r1, r2⟩ := z
          obtain ⟨dx, k1, rd⟩ := i2.get e1
          obtain ⟨dy, k2, re⟩ := j2.get e2
          intro s1 E1 Q1 z1 hq1
          obtain ⟨F1, H1, I1, st1⟩ := z1
          exact eqG_run ty hT (h j dx dy k1 k2) X.A.in1 rfl hr' F1 H1 s1 I1 st1.fh x y v u (rd.mono st1.ff) (re.mono st1.ff) r1 r2 E1 Q1 fun s2 ⟨F2, H2, I2, st2⟩ => hq1 s2 ⟨F2, H2, I2, st1.trans st2⟩
        · obtain ⟨F', H', I', st⟩ := z
          have := q F' H' st
          rw [i2.len, j2.len]
          exact ⟨.bl _, H', I', rfl, this⟩
theorem op_eqG {k : Nat} {A : CtxD} {T : List (Addr × FS)} (ty : TyOk X.K A) (hT : ∀ p ∈ T, OwnE X k p.1 p.2) (n : Nat) (hr : Room (n + 1 + k) X.A) : OpR X (compareOp .Eq) (rCmpG X.K A T n false) := cmpG_run ty hT n hr false
theorem op_neG {k : Nat} {A : CtxD} {T : List (Addr × FS)} (ty : TyOk X.K A) (hT : ∀ p ∈ T, OwnE X k p.1 p.2) (n : Nat) (hr : Room (n + 1 + k) X.A) : OpR X (compareOp .NotEq) (rCmpG X.K A T n true) := cmpG_run ty hT n hr true
def dCmpG (A : CtxD) (T : List (Addr × FS)) (n : Nat) (neq : Bool) : D → D → (D → Prop) → Prop := fun d e q => ∃ b, SqG A T n d e b ∧ q (.bl (xor neq b))
theorem sim_cmpG {K : PySem.W.Frag} {A : CtxD} {T : List (Addr × FS)} {n : Nat} {neq : Bool} : Sim2 K (rCmpG K A T n neq) (dCmpG A T n neq) := fun F H x y d e Q q s r1 r2 w k => by
  obtain ⟨b, g, z⟩ := w
  exact ⟨F, d, e, b, s, r1, r2, g, fun F' H' st => k _ _ F' H' st (.bl _) z⟩
/-- item by item -/
inductive EqL (A : CtxD) (T : List (Addr × FS)) (n : Nat) : List D → List D → List Bool → Prop
  | nil : EqL A T n [] [] []
  | cons {x y : D} {l m : List D} {b : Bool} {bs : List Bool} : EqG A T n x y b → EqL A T n l m bs → EqL A T n (x :: l) (y :: m) (b :: bs)
theorem EqL.len {A : CtxD} {T : List (Addr × FS)} {n : Nat} {l m : List D} {bs : List Bool} (h : EqL A T n l m bs) : l.length = m.length ∧ bs.length = l.length := by
  induction h with
  | nil => exact ⟨rfl, rfl⟩
  | cons _ _ ih => exact ⟨congrArg Nat.succ ih.1, congrArg Nat.succ ih.2⟩
theorem EqL.nth {A : CtxD} {T : List (Addr × FS)} {n : Nat} {l m : List D} {bs : List Bool} (h : EqL A T n l m bs) : ∀ (j : Nat) (x y : D), l[j]? = some x → m[j]? = some y → EqG A T n x y (bs.getD j false) := by
  induction h with
  | nil =>
    intro j x y e
    simp at e
  | cons g _ ih =>
    intro j x y e1 e2
    cases j with
    | zero =>
      simp at e1 e2
      subst e1
      subst e2
      exact g
    | succ j =>
      have := ih j x y (by simpa using e1) (by simpa using e2)
      simpa using this
theorem all_getD (bs : List Bool) : (List.range bs.length).all (fun j => bs.getD j false) = bs.all id := by
  induction bs with
  | nil => rfl
  | cons b bs ih =>
    rw [List.length_cons, List.range_succ_eq_map, List.all_cons, List.all_map, List.all_cons, ← ih]
    rfl
theorem sq_lst {A : CtxD} {T : List (Addr × FS)} {n : Nat} {l m : List D} {bs : List Bool} (h : EqL A T n l m bs) : SqG A T n (.lst l) (.lst m) (bs.all id) := by
  have g := SqG.lst h.nth
  obtain ⟨h1, h2⟩ := h.len
  rw [← h2, all_getD, h2, ← h1] at g
  simpa using g
theorem sq_tup {A : CtxD} {T : List (Addr × FS)} {n : Nat} {l m : List D} {bs : List Bool} (h : EqL A T n l m bs) : SqG A T n (.tup l) (.tup m) (bs.all id) := by
  have g := SqG.tup h.nth
  obtain ⟨h1, h2⟩ := h.len
  rw [← h1, Nat.min_self, ← h2, all_getD] at g
  simpa using g
theorem eqG_lst {A : CtxD} {T : List (Addr × FS)} {n : Nat} {l m : List D} {bs : List Bool} (h : EqL A T n l m bs) : EqG A T (n + 1) (.lst l) (.lst m) (bs.all id) := by
  have g := EqG.lst h.nth
  obtain ⟨h1, h2⟩ := h.len
  rw [← h2, all_getD, h2, ← h1] at g
  simpa using g
theorem eqG_tup {A : CtxD} {T : List (Addr × FS)} {n : Nat} {l m : List D} {bs : List Bool} (h : EqL A T n l m bs) : EqG A T (n + 1) (.tup l) (.tup m) (bs.all id) := by
  have g := EqG.tup h.nth
  obtain ⟨h1, h2⟩ := h.len
  rw [← h1, Nat.min_self, ← h2, all_getD] at g
  simpa using g
end
end DL
/-! DLO: instances called, len of instances, chains, join, list(range). -/
namespace DL
open PySem L2 PySem.Spec PyProof.Rows
variable [Tbl]
section
variable {K : PySem.W.Frag} {E E1 : XK} {ta tb tc to te : TE} {wa wb wc wo we : WE} {X : Cx}
/-! ### a < b < c -/
def wChain (f g : D → D → (D → Prop) → Prop) (wa wb wc : WE) : WE := fun env er q => wa env er fun x => wb env er fun y => f x y fun z => match z with
  | .bl true => wc env er fun v => g y v q
  | .bl false => q (.bl false)
  | _ => False
theorem sim_chain {r r' : R2} {f g : D → D → (D → Prop) → Prop} (hf : Sim2 K r f) (hg : Sim2 K r' g) (ha : SimE K E ta wa) (hb : SimE K E tb wb) (hc : SimE K E tc wc) : SimE K E (tChain r r' ta tb tc) (wChain f g wa wb wc) := fun B env F σ H Q er q a l w k =>
  ha B env F σ H _ er _ a l w fun x d F1 H1 s1 r1 w1 => hb B env F1 σ H1 _ er _ (a.step s1) l w1 fun y e F2 H2 s2 r2 w2 =>
    hf F2 H2 x y d e _ _ s2.fh (r1.mono s2.ff) r2 w2 fun z dz F3 H3 s3 r3 w3 => by
      cases r3 with
      | bl b =>
        refine ⟨b, rfl, ?_⟩
        cases b with
        | true =>
          show (if true = true then _ else _)
          rw [if_pos rfl]
          have s123 := (s1.trans s2).trans s3
          exact hc B env F3 σ H3 _ er _ (a.step s123) l w3 fun v dv F4 H4 s4 r4 w4 => hg F4 H4 y v e dv Q q s4.fh (r2.mono (s3.trans s4).ff) r4 w4 (k.step (s123.trans s4))
        | false =>
          show (if false = true then _ else _)
          rw [if_neg Bool.false_ne_true]
          exact k _ _ F3 H3 ((s1.trans s2).trans s3) (.bl false) w3
      | _ => exact w3.elim
/-! ### an instance called -/
def tCallI (C : Addr) (sp : Sp) (E : XK) (tf : TE) (t : TA) : TE := fun σ H Q => tf σ H fun y H1 => ∃ a, y = V.ref a ∧ t σ H1 fun vs H2 => (∃ dx fs, H2 a = some (.ins C dx fs)) ∧ sp (V.ref a :: vs) H2 Q E
theorem pe_callI {CX : CXT} {k : Nat} {C g : Addr} {fd : FuncData} {ps : List Str} {sp : Sp} {fe e : Expr} {es : List Expr} {tf : TE} {t : TA} {pos : Pos} (hf : PE X fe tf) (c : StX.CallO X.K C g) (F : FnOk X.prog X.w X.K X.mg X.base CX k g fd ps sp) (hr : Room k X.A) (hb : Binds X.K fd ps []) (hx : Passes CX X E) (ha : PA X (e :: es) t)
    (ht : eval (.Call fe (e :: es) [] pos) X.env = (do callWith pos (← eval fe X.env) [] (backTo pos (starEach (e :: es) X.env)) (backToKw pos (keywordEach [] X.env))) := by rfl)
    (he : starEach (e :: es) X.env = (false, eval e X.env) :: starEach es X.env := by rfl) (hpl : (backTo pos (starEach es X.env)).any (·.1) = false := by rfl) : PE X (.Call fe (e :: es) [] pos) (tCallI C sp E tf t) := by
  refine ⟨fun pins s σ H Q I h => ?_⟩
  refine Call_ (thn (hf.run pins s σ H _ I h) fun u s1 ⟨y, H1, I1, ry, a, ey, q⟩ => ?_) ht
  subst ey
  obtain rfl : u = Value.ref a := ry
  refine StX.callO_with (thn (ha.run pos pins s1 σ H1 _ I1 q) fun us s2 ⟨vs, H2, I2, r, hi, q2⟩ => ?_) he hpl
  obtain ⟨ox, od, J, hd⟩ := StX.insC_at (C := C) I2 (.inr hi)
  exact ⟨⟨C, ox, od, J, hd⟩, StX.run_callO c (F.raw hb .nil) hr hx I2 (.inr hi) r (by rw [List.append_nil]; exact q2)⟩
def wCallI (C : Addr) (n : Nat) (S : FS) (wf : WE) (wr : WA) : WE := fun env er q => wf env er fun o => match o with
  | .ins C' _ => C' = C ∧ wr env er fun ds => (o :: ds).length = n ∧ S (o :: ds) er q
  | _ => False
theorem sim_callI {C : Addr} {n : Nat} {S : FS} {t : TA} {w : WA} (ho : SimE K E ta wa) (ha : SimA K E t w) : SimE K E (tCallI C (spOf K n S) E ta t) (wCallI C n S wa w) := fun B env F σ H Q er q a l w k =>
  ho B env F σ H _ er _ a l w fun x d F1 H1 s1 r1 w1 => by
    cases r1 with
    | @ins p C' dx xs fs h1 h2 =>
      obtain ⟨e1, w2⟩ := w1
      subst e1
      refine ⟨p, rfl, ha B env F1 σ H1 _ er _ (a.step s1) l w2 fun ys ds F2 H2 s2 r2 w3 => ⟨⟨dx, xs, s2.hh.get (s1.fh _ _ h1)⟩, ?_⟩⟩
      exact ⟨F2, _, er, q, w3.1, s2.fh, .cons ((Rep.ins h1 h2).mono s2.ff) r2, w3.2, k.step (s1.trans s2), l.at (a.step (s1.trans s2))⟩
    | _ => exact w1.elim
def wCallI0 (C : Addr) (n : Nat) (S : FS) (wf : WE) (wr : WA) : WE := fun env er q => wf env er fun o => match o with
  | .ins C' _ => C' = C ∧ wr env er fun ds => (o :: ds).length = n ∧ S (o :: ds) (fun _ => False) q
  | _ => False
theorem sim_callI0 {C : Addr} {n : Nat} {S : FS} {t : TA} {w : WA} (ho : SimE K E ta wa) (ha : SimA K E t w) : SimE K E (tCallI C (spOf K n S) E1 ta t) (wCallI0 C n S wa w) := fun B env F σ H Q er q a l w k =>
  ho B env F σ H _ er _ a l w fun x d F1 H1 s1 r1 w1 => by
    cases r1 with
    | @ins p C' dx xs fs h1 h2 =>
      obtain ⟨e1, w2⟩ := w1
      subst e1
      refine ⟨p, rfl, ha B env F1 σ H1 _ er _ (a.step s1) l w2 fun ys ds F2 H2 s2 r2 w3 => ⟨⟨dx, xs, s2.hh.get (s1.fh _ _ h1)⟩, ?_⟩⟩
      exact ⟨F2, _, _, q, w3.1, s2.fh, .cons ((Rep.ins h1 h2).mono s2.ff) r2, w3.2, k.step (s1.trans s2), EL.no⟩
    | _ => exact w1.elim
theorem callO_ofK {M : Model} {A : Around} {E : Value → Shared → Prop} {s : Shared} {a : Addr} {pos : Pos} {Q : Value → Shared → Prop} {args : List (Bool × Sem Value)} {kws : List (Option Str × Sem Value)} (hplain : (args.any (·.1) || kws.any (·.1.isNone)) = false)
    (h : wpAny M A (evalArgs (.ref a) true args kws) (fun z s₁ => (∃ C ox od, PySem.W.InstAt s₁.heap a ox C od ∧ ox.data = .plain) ∧ wpAny M A (call (.ref a) ([] ++ z.pos) z.kw) Q E s₁) E s) : wpAny M A (callWith pos (.ref a) [] args kws) Q E s := by
  unfold callWith
  refine wpAny_bind (wpAny_holding (wpAny_mono h (fun z s₁ h₁ => wpAny_bind (wpAny_standAt ?_)) fun _ _ y => y))
  obtain ⟨⟨C, ox, od, J, hd⟩, h₁⟩ := h₁
  have L := PySem.W.kco_keeper (M := M) J hd
  simp only [hplain]
  refine wpAny_bind (L.here ?_)
  have tail : ∀ {t : Sem Value}, wpAny M A t Q E s₁ → wpAny M A (t >>= fun r => holding [r] point >>= fun _ => pure r) Q E s₁ :=
    fun ht => wpAny_bind (wpAny_mono ht (fun r s₂ hr => wpAny_bind (wpAny_holding (wpAny_point (wpAny_pure hr)))) fun _ _ y => y)
  exact tail (wpAny_operateT h₁)
/-- with keywords alone -/
def tCallIK (C : Addr) (m : Nat) (sp : Sp) (gV : List V → List V → List V) (E : XK) (tf : TE) (tk : TA) : TE := fun σ H Q => tf σ H fun y H1 => ∃ a, y = V.ref a ∧ tk σ H1 fun zs H2 => zs.length = m ∧ (∃ dx fs, H2 a = some (.ins C dx fs)) ∧ sp (gV [V.ref a] zs) H2 Q E
theorem pe_callIK {CX : CXT} {k : Nat} {C g : Addr} {fd : FuncData} {ps ks : List Str} {sp : Sp} {fe : Expr} {kws : List Keyword} {tf : TE} {tk : TA} {pos : Pos} {gG : List Value → List Value → List Value} {gV : List V → List V → List V} (hf : PE X fe tf) (c : StX.CallO X.K C g) (F : FnOk X.prog X.w X.K X.mg X.base CX k g fd ps sp) (hr : Room k X.A) (hb : KBn X.K fd ps 1 ks gG gV) (hx : Passes CX X E)
    (hkw : PK X kws tk) (hall : (backToKw pos (keywordEach kws X.env)).all (·.1.isSome) = true := by rfl) (hks : (backToKw pos (keywordEach kws X.env)).filterMap (·.1) = ks := by rfl)
    (hpl : ((backTo pos (starEach [] X.env)).any (·.1) || (backToKw pos (keywordEach kws X.env)).any (·.1.isNone)) = false := by rfl)
    (ht : eval (.Call fe [] kws pos) X.env = (do callWith pos (← eval fe X.env) [] (backTo pos (starEach [] X.env)) (backToKw pos (keywordEach kws X.env))) := by rfl) : PE X (.Call fe [] kws pos) (tCallIK C ks.length sp gV E tf tk) := by
  refine ⟨fun pins s σ H Q I h => ?_⟩
  rw [ht]
  refine wpAny_bind (thn (hf.run pins s σ H _ I h) fun u s1 ⟨y, H1, I1, ry, a, ey, q⟩ => ?_)
  subst ey
  obtain rfl : u = Value.ref a := ry
  refine callO_ofK hpl (evalArgs_kw2_nil hall (thn (hkw.run pos pins s1 σ H1 _ I1 q) fun ws s2 ⟨zs, H2, I2, rz, hl, hi, q2⟩ => ?_))
  obtain ⟨ox, od, J, hd⟩ := StX.insC_at (C := C) I2 (.inr hi)
  refine ⟨⟨C, ox, od, J, hd⟩, ?_⟩
  rw [hks]
  have r2 := hb.rel (.cons (show RelV (V.ref a) (Value.ref a) from rfl) .nil) rz
  refine wpAny_call (PySem.W.kco_code I2.kIn J hd c.at_ c.fn c.fi (codeAny_mono (F.run X.A X.stack s2 H2 ⟨[.ref a], ks.zip ws⟩ (gG [.ref a] ws) (gV [.ref a] zs) Q E hr I2.env0 (hb.to s2 [.ref a] ws I2.kIn rfl (rz.length.symm.trans hl)) r2 q2) fun r s' hq => ?_))
  cases r with
  | error e => exact hx pins σ H2 s2 e s' I2 hq
  | ok fl =>
    cases fl with
    | ret u => exact I2.after hq
    | next => exact False.elim hq
    | brk => exact False.elim hq
    | cont => exact False.elim hq
def wCallIK0 (C : Addr) (mm n : Nat) (S : FS) (g : List D → List D → List D) (wf : WE) (wk : WA) : WE := fun env er q => wf env er fun o => match o with
  | .ins C' _ => C' = C ∧ wk env er fun zs => zs.length = mm ∧ (g [o] zs).length = n ∧ S (g [o] zs) (fun _ => False) q
  | _ => False
theorem sim_callIK0 {C : Addr} {mm n : Nat} {S : FS} {gV : List V → List V → List V} {g : List D → List D → List D} {t : TA} {w : WA} (hg : ∀ F vs ds us zs, RepA K F vs ds → RepA K F us zs → RepA K F (gV vs us) (g ds zs)) (ho : SimE K E ta wa) (ha : SimA K E t w) :
    SimE K E (tCallIK C mm (spOf K n S) gV E1 ta t) (wCallIK0 C mm n S g wa w) := fun B env F σ H Q er q a l w k =>
  ho B env F σ H _ er _ a l w fun x d F1 H1 s1 r1 w1 => by
    cases r1 with
    | @ins p C' dx xs fs h1 h2 =>
      obtain ⟨e1, w2⟩ := w1
      subst e1
      refine ⟨p, rfl, ha B env F1 σ H1 _ er _ (a.step s1) l w2 fun ys zs F2 H2 s2 r2 w3 => ⟨by rw [r2.len]; exact w3.1, ⟨dx, xs, s2.hh.get (s1.fh _ _ h1)⟩, ?_⟩⟩
      exact ⟨F2, _, _, q, w3.2.1, s2.fh, hg F2 _ _ _ _ (.one ((Rep.ins h1 h2).mono s2.ff)) r2, w3.2.2, k.step (s1.trans s2), EL.no⟩
    | _ => exact w1.elim

/-! ### len of an instance -/
def rLenO (C : Addr) (sp : Sp) (E : XK) : List V → Hp → VK → Prop := fun xs H Q => ∃ a dx fs, xs = [V.ref a] ∧ H a = some (.ins C dx fs) ∧ sp [V.ref a] H (fun z H' => ∃ n : Int, z = .int n ∧ 0 ≤ n ∧ n < 2 ^ 63 ∧ Q (.int n) H') E
theorem call_lenO {CX : CXT} {k : Nat} {C g : Addr} {fd : FuncData} {sp : Sp} (hs : PySem.W.findIn X.K (.ref C) "__len__" = some (some (.ref g))) (hf : PySem.W.isFn X.K (.ref g) = true) (F : FnOk X.prog X.w X.K X.mg X.base CX k g fd ["self"] sp) (hb : Binds X.K fd ["self"] []) (hr : Room (k + 1) X.A) (hx : Passes CX X E) :
    CallR X (.builtin "len") (rLenO C sp E) := by
  intro pins s σ H xs us Q I r h
  obtain ⟨a, dx, fs, rfl, ha, q⟩ := h
  obtain ⟨u, rfl, rx⟩ := vals1 r
  cases (show u = Value.ref a from rx)
  obtain ⟨od, J⟩ := ins_inst I ha
  obtain ⟨m, hF⟩ := I.fr
  refine PySem.W.len_K hF I.ok.mod.kin J hs hf ?_
  refine wpAny_mono (run_fnA (us := [.ref a]) (vs := [.ref a]) (A := X.A.in1) F hr.in1 rfl hb hx I (.cons rfl .nil) q) (fun w s' z => ?_) fun _ _ x => x
  obtain ⟨z', H', I', rz, n, rfl, h0, h1, qz⟩ := z
  obtain ⟨t, rfl⟩ := rz
  exact ⟨⟨h0, h1⟩, .int n, H', I'.tok _, ⟨_, rfl⟩, qz⟩
def dLenO (C : Addr) (S : FS) : List D → (D → Prop) → Prop := fun ds q => match ds with
  | [.ins C' fs] => C' = C ∧ S [.ins C' fs] (fun _ => False) fun z => match z with
    | .int n => 0 ≤ n ∧ n < 2 ^ 63 ∧ q (.int n)
    | _ => False
  | _ => False
theorem sim_lenO {C : Addr} {S : FS} : SimC K (rLenO C (spOf K 1 S) E1) (dLenO C S) := fun F H xs ds Q q s r w k => by
  unfold dLenO at w
  split at w
  · cases r with
    | cons r1 r2 =>
      cases r2
      cases r1 with
      | ins h1 h2 =>
        obtain ⟨rfl, w⟩ := w
        refine ⟨_, _, _, rfl, s _ _ h1, F, _, _, _, rfl, s, .one (.ins h1 h2), w, fun v z F' H' s' r' z' => ?_, EL.no⟩
        cases r' with
        | int n => exact ⟨n, rfl, z'.1, z'.2.1, k _ _ F' H' s' (.int n) z'.2.2⟩
        | _ => exact False.elim z'
  · exact w.elim

/-! ### sep.join(texts) -/
def strsD : List D → Option (List Str)
  | [] => some []
  | .str x :: r => (strsD r).map (x :: ·)
  | _ => none
theorem strs_rep {F : Hp} : ∀ {xs : List V} {l : List D} {ys : List Str}, RepA K F xs l → strsD l = some ys → xs = ys.map V.str
  | _, [], _, .nil, e => by
    cases e
    rfl
  | _, d :: l, bs, .cons h r, e => by
    cases h with
    | str b =>
      unfold strsD at e
      cases h2 : strsD l with
      | none =>
        rw [h2] at e
        cases e
      | some cs =>
        rw [h2] at e
        cases e
        rw [strs_rep r h2]
        rfl
    | _ => cases e
abbrev rJoin (K : PySem.W.Frag) : V → List V → Hp → VK → Prop := fun x xs H Q => ∃ a p, ∃ ys : List Str, x = .str a ∧ xs = [.ref p] ∧ (SqL K H p (ys.map V.str) ∨ SqT K H p (ys.map V.str)) ∧ (ys.map (·.length)).sum + ys.length * a.length ≤ 16777216 ∧ Q (.str (Txt.join a ys)) H
def wJoin (wa : WE) (wo : WO) : WE := fun env er q => wa env er fun x => match x with
  | .str a => wo env er fun l => ∃ ys, strsD l = some ys ∧ (ys.map (·.length)).sum + ys.length * a.length ≤ 16777216 ∧ q (.str (Txt.join a ys))
  | _ => False
theorem sim_join {w : WO} (ha : SimE K E ta wa) (hl : SimL K E tb w) : SimE K E (tBM K "str" (rJoin K) ta (tCons tb tNil)) (wJoin wa w) := fun B env F σ H Q er q a l w k =>
  ha B env F σ H _ er _ a l w fun x d F1 H1 s1 r1 w1 => by
    cases r1 with
    | str z =>
      refine ⟨rfl, hl B env F1 σ H1 _ er _ (a.step s1) l w1 fun p xs ls F2 H2 s2 h2 r2 w2 => ?_⟩
      obtain ⟨ys, e, hz, w2⟩ := w2
      rw [strs_rep r2 e] at h2
      exact ⟨z, p, ys, rfl, rfl, .inl h2, hz, k _ _ F2 H2 (s1.trans s2) (.str _) w2⟩
    | _ => exact w1.elim
theorem strsD_map {α : Type} (f : α → Str) : ∀ l : List α, strsD (l.map fun x => D.str (f x)) = some (l.map f)
  | [] => rfl
  | x :: l => by
    rw [List.map_cons]
    unfold strsD
    rw [strsD_map f l]
    rfl

/-! ### list(range(..)) -/
theorem rgV_rep {F : Hp} (a b : Int) : RepA K F (rgV a b) (rngD a (b - a).toNat) := by
  unfold rgV rngD
  generalize (b - a).toNat = n
  have : ∀ l : List Nat, RepA K F (l.map fun i => V.int (a + (i : Nat))) (l.map fun i => D.int (a + (i : Nat))) := fun l => by
    induction l with
    | nil => exact .nil
    | cons x l ih => exact .cons (.int _) ih
  exact this _
def wLRg1 (wa : WE) : WO := fun env er q => wa env er fun x => match x with
  | .int n => RgOk 0 n ∧ q (rngD 0 n.toNat)
  | _ => False
theorem simo_lrg1 (ha : SimE K E ta wa) : SimO K E (tLstRg (tRg1 ta)) (wLRg1 wa) := fun B env F σ H Q er q a l w k =>
  ha B env F σ H _ er _ a l w fun x d F1 H1 s1 r1 w1 => by
    cases r1 with
    | int n =>
      refine ⟨n, rfl, w1.1, fun p hp => k p _ _ F1 _ (s1.trans (Stp.fresh s1.fh hp)) (s1.hh.fr _ (.inl hp)) upd_same (s1.fh.free hp) ?_ w1.2⟩
      have := rgV_rep (K := K) (F := F1) 0 n
      rwa [Int.sub_zero] at this
    | _ => exact w1.elim
def wLRg2 (wa wb : WE) : WO := fun env er q => wa env er fun x => wb env er fun y => match x, y with
  | .int i, .int j => RgOk i j ∧ q (rngD i (j - i).toNat)
  | _, _ => False
theorem simo_lrg2 (ha : SimE K E ta wa) (hb : SimE K E tb wb) : SimO K E (tLstRg (tRg2 ta tb)) (wLRg2 wa wb) := fun B env F σ H Q er q a l w k =>
  ha B env F σ H _ er _ a l w fun x d F1 H1 s1 r1 w1 => hb B env F1 σ H1 _ er _ (a.step s1) l w1 fun y e F2 H2 s2 r2 w2 => by
    split at w2
    · cases r1
      cases r2
      exact ⟨_, _, rfl, rfl, w2.1, fun p hp => k p _ _ F2 _ ((s1.trans s2).trans (Stp.fresh s2.fh hp)) (s1.hh.fr _ (s2.hh.fr _ (.inl hp))) upd_same (s2.fh.free hp) (rgV_rep _ _) w2.2⟩
    · exact w2.elim
/-- a comprehension whose items are only known to be of a kind -/
theorem comp_any {α β : Type} {c : α → D} {g : D → EV → (EV → Prop) → Prop} {we : WE} {ew : EV} {er : ER} {q : List D → Prop} {ev : α → EV} {e : β → D} {R : β → Prop} : ∀ {l : List α} {acc : List D}, (∀ x ∈ l, ∀ Q : EV → Prop, Q (ev x) → g (c x) ew Q) →
    (∀ x ∈ l, ∀ Q : D → Prop, (∀ z, R z → Q (e z)) → we (ev x) er Q) → acc.length + l.length ≤ PySem.sizeLine → (∀ zs : List β, zs.length = l.length → (∀ z ∈ zs, R z) → q (acc ++ zs.map e)) → wComp g wYes we ew er q (l.map c) acc
  | [], acc, _, _, _, z => by
    have := z [] rfl (by simp)
    show q acc
    simpa using this
  | x :: l, acc, h1, h3, h4, z => by
    rw [List.length_cons] at h4
    refine h1 x (by simp) _ ⟨fun _ => h3 x (by simp) _ fun y hy => ⟨by omega, ?_⟩, fun e => nomatch e⟩
    refine comp_any (ev := ev) (e := e) (R := R) (fun y hy => h1 y (by simp [hy])) (fun y hy => h3 y (by simp [hy])) (by rw [List.length_append]; show acc.length + 1 + l.length ≤ _; omega) fun zs hz hr => ?_
    have := z (y :: zs) (by rw [List.length_cons, List.length_cons, hz]) (fun w hw => by
      rcases List.mem_cons.mp hw with rfl | hw
      · exact hy
      · exact hr w hw)
    simpa using this
theorem join_chars : ∀ cs : List Nat, Txt.join (PySem.Str.ofString "") (cs.map fun c => (⟨#[c]⟩ : PySem.Str)) = ⟨cs.toArray⟩ := fun cs => by
  have e0 : PySem.Str.ofString "" = (⟨#[]⟩ : PySem.Str) := by decide
  have h : ∀ cs : List Nat, PySem.Str.join (⟨#[]⟩ : PySem.Str) (cs.map fun c => (⟨#[c]⟩ : PySem.Str)) = ⟨cs.toArray⟩ := fun cs => by
    induction cs with
    | nil => rfl
    | cons c r ih =>
      cases r with
      | nil => rfl
      | cons d r =>
        show (⟨#[c]⟩ : PySem.Str) ++ ⟨#[]⟩ ++ PySem.Str.join ⟨#[]⟩ ((d :: r).map fun c => (⟨#[c]⟩ : PySem.Str)) = _
        rw [ih]
        show (⟨(#[c] ++ #[]) ++ (d :: r).toArray⟩ : PySem.Str) = _
        simp
  rw [TL.join_eq, e0]
  exact h cs
theorem sum_chars (cs : List Nat) : ((cs.map fun c => (⟨#[c]⟩ : PySem.Str)).map (·.length)).sum = cs.length := by
  induction cs with
  | nil => rfl
  | cons c r ih =>
    rw [List.map_cons, List.map_cons, List.sum_cons, ih, List.length_cons]
    show 1 + _ = _
    omega
theorem cutD_from {α : Type} {xs : List α} {n : Nat} : cutD xs (some (n : Int)) none = xs.drop n := by
  unfold cutD
  rw [HT.sIx_nat, HT.sIx_none]
  by_cases h : n ≤ xs.length
  · rw [Nat.min_eq_left h, List.take_of_length_le (by rw [List.length_drop]; exact Nat.le_refl _)]
  · rw [Nat.min_eq_right (by omega), List.drop_length, List.drop_of_length_le (by omega)]
    simp
end
end DL
/-! DLY: generators of the data layer: a for amid a generator's body. -/
namespace DL
open PySem L2 PySem.Spec PyProof.Rows GenW
variable [Tbl]

section
variable {M : Model} {A : Around} {R : GenEnd} {Y : Protocol} {n : Nat} {s₀ : Shared} {c : Code} {fs : List Frame} {s : Shared} {env : Env}
  {K : Flow → Sem PySem.Fin} {J : Value → Sem PySem.Fin} {gd : Bool → Bool} {lv : List Value → List Value}
theorem seg_For {target iter : Expr} {body orelse : List Stmt} {pos : Pos} (hs : ∀ x, foldedSetIterable iter env x = pure x)
    (h : wpAny M (A.over c fs) (eval iter env) (fun x s1 => wpAny M (A.over c fs) (pyIter x) (fun it s2 => ∀ p, Seg M A R Y n s₀ (.forLoop target it body orelse env) (M.den (.forLoop target it body orelse env))
      (.ret (fun r => ((match r with | .ok f => (.pure f : Sem Flow) | .error e => .raise e).onRaise (cameBack env)).wrap K J gd lv) none (gd false) (lv []) c p [] :: fs) s2)
      (fun x s' => Seg M A R Y n s₀ c (J x) fs s') s1) (fun x s' => Seg M A R Y n s₀ c (J x) fs s') s) :
    Seg M A R Y n s₀ c ((exec (.For target iter body orelse pos) env).wrap K J gd lv) fs s := by
  rw [exec_For]
  refine seg_bind_wrap (wpAny_standAt ?_)
  refine seg_bind_wrap (wpAny_mono h (fun x s1 h1 => ?_) fun _ _ h' => h')
  refine seg_bind_wrap (wpAny_of_eq (hs x) ?_)
  refine seg_bind_wrap (wpAny_standAt ?_)
  refine seg_bind_wrap (wpAny_holding (wpAny_mono h1 (fun it s2 h2 => ?_) fun _ _ h' => h'))
  exact seg_call h2
end
section
variable {prog : Program} {w : World} {A : Around} {R : GenEnd} {Y : Protocol} {n : Nat} {s₀ : Shared} {fs : List Frame} {s : Shared} {env : Env}
theorem seg_forLoop {target : Expr} {it : Value} {body : List Stmt}
    (h : wpAny (model prog w) (A.over (.forLoop target it body [] env) fs) (pyNext it) (fun r s1 => match r with
        | none => Seg (model prog w) A R Y n s₀ (.block [] env) ((model prog w).den (.block [] env)) fs s1
        | some v => wpAny (model prog w) (A.over (.forLoop target it body [] env) fs) (letOwnedTupleGo target it v) (fun _ s2 =>
            wpAny (model prog w) (A.over (.forLoop target it body [] env) fs) (assign target env v) (fun _ s3 =>
              Seg (model prog w) A R Y n s₀ (.forLoop target it body [] env) ((execs body env).wrap (fun f => match f with
                | .next | .cont => .pure (.again (.forLoop target it body [] env))
                | .brk => .pure (.done .next)
                | .ret v => .pure (.done (.ret v))) (fun e => (do noteFrame e env; theTreesLotGoes e : Sem Unit).wrap (fun _ => .raise e) .raise id id) id id) fs s3)
              (fun x s' => Seg (model prog w) A R Y n s₀ (.forLoop target it body [] env) ((do noteFrame x env; theTreesLotGoes x : Sem Unit).wrap (fun _ => .raise x) .raise id id) fs s') s2)
            (fun x s' => Seg (model prog w) A R Y n s₀ (.forLoop target it body [] env) ((do noteFrame x env; theTreesLotGoes x : Sem Unit).wrap (fun _ => .raise x) .raise id id) fs s') s1)
      (fun x s' => Seg (model prog w) A R Y n s₀ (.forLoop target it body [] env) ((do noteFrame x env; theTreesLotGoes x : Sem Unit).wrap (fun _ => .raise x) .raise id id) fs s') s) :
    Seg (model prog w) A R Y n s₀ (.forLoop target it body [] env) ((model prog w).den (.forLoop target it body [] env)) fs s := by
  show Seg _ A R Y n s₀ _ ((forTurn target it body [] env).onRaise (fun x => do noteFrame x env; theTreesLotGoes x)) fs s
  have ej : ∀ e, ((do noteFrame e env; theTreesLotGoes e : Sem Unit) >>= fun _ => (Sem.raise e : Sem PySem.Fin)) = (do noteFrame e env; theTreesLotGoes e : Sem Unit).wrap (fun _ => .raise e) .raise id id := fun e => by
    first | exact Sem.bind_eq_wrap _ _ | (show (do noteFrame e env; theTreesLotGoes e : Sem Unit).bind (fun _ => .raise e) = _; rw [Sem.bind_eq_wrap])
  rw [Sem.onRaise_eq_wrap]
  have eJ : (fun e => (do noteFrame e env; theTreesLotGoes e : Sem Unit) >>= fun _ => (Sem.raise e : Sem PySem.Fin)) = fun e => (do noteFrame e env; theTreesLotGoes e : Sem Unit).wrap (fun _ => .raise e) .raise id id := funext ej
  first | rw [eJ] | (show Seg _ A R Y n s₀ _ ((forTurn target it body [] env).wrap _ (fun e => (do noteFrame e env; theTreesLotGoes e : Sem Unit) >>= fun _ => (Sem.raise e : Sem PySem.Fin)) _ _) fs s; rw [eJ]) | skip
  simp only [forTurn]
  refine seg_bind_wrap (wpAny_standAt ?_)
  refine seg_bind_wrap (wpAny_onRaise (wpAny_mono h (fun r s1 h1 => ?_) fun x s' h' => wpAny_standAt ?_))
  · cases r with
    | none => exact seg_again rfl h1
    | some v =>
      refine seg_bind_wrap (wpAny_mono h1 (fun _ s2 h2 => ?_) fun x s' h' => ?_)
      · refine seg_bind_wrap (wpAny_mono h2 (fun _ s3 h3 => ?_) fun x s' h' => ?_)
        · rw [Sem.bind_eq_wrap', Sem.wrap_wrap]
          rw [Sem.wrap_congr (execs body env) _ _ (K' := fun f => match f with
            | .next | .cont => .pure (.again (.forLoop target it body [] env))
            | .brk => .pure (.done .next)
            | .ret v => .pure (.done (.ret v))) (H' := (fun e => (do noteFrame e env; theTreesLotGoes e : Sem Unit).wrap (fun _ => .raise e) .raise id id))
            (fun f => by cases f <;> rfl) (fun e => by first | rfl | exact ej e)]
          exact h3
        · first | exact h' | (rw [← ej] at h'; exact h')
      · first | exact h' | (rw [← ej] at h'; exact h')
  · first | exact h' | (rw [← ej] at h'; exact h')
end

section
variable {X : Cx}
def tGFor (wi : TI) (g : TG) (tb : TGn) : TGn := fun D ys σ H => wi σ H fun J H1 => ∃ W : Nat → Nat → List V → L2.St → Hp → Prop, (∃ m, W 0 m ys σ H1) ∧ ∀ i m ys σ H, W i m ys σ H →
  (J.stop i H ∧ D.nx ys σ H) ∨ (J.go i H ∧ ∃ N : List V → L2.St → Hp → Prop, (∀ ys' σ' H', N ys' σ' H' → ∃ m', m' < m ∧ W (i + 1) m' ys' σ' H') ∧ ∀ x H', J.yld i H x H' → g x σ H' fun σ2 H2 => tb { D with nx := N, ct := N, bk := D.nx } ys σ2 H2)
theorem gc_for {S : Addr} {ip ip' : List (Addr × Obj)} {A : Around} {c c' : Code} {fs : List Frame} {gd : Bool → Bool} {k : Result → Sem PySem.Fin} {l kp : List Value} {p : Pos} (g : GC X S ip A c fs gd) (hip : ∀ p ∈ ip', p.1 ≠ S) (hw : c'.weight = 0) (hu : c'.cUnits = 0) :
    GC X S ip' A c' (.ret k none (gd false) l c p kp :: fs) id :=
  { gc_loop (k := k) (l := l) (kp := kp) (p := p) g hw hu with ip := hip }
theorem gs_for {tg iter : Expr} {body : List Stmt} {wi : TI} {g : TG} {tb : TGn} {pos : Pos} (hp : PassesOwn (model X.prog X.w) X.A X.env X.xe) (hc : X.calm = true) (hi : PI X tg iter wi) (hg : PG X tg g) (hb : GSs X body tb)
    (hs : ∀ x, foldedSetIterable iter X.env x = pure x := by intro _; rfl) : GS X (.For tg iter body [] pos) (tGFor wi g tb) := by
  refine ⟨fun A S ip R n ys s₀ c fs K J gd lv s σ H D gc hn k hI ht => ?_⟩
  obtain ⟨acc, cc, r, I⟩ := hI
  have ov := gc.over
  refine seg_For hs ?_
  rw [ov]
  refine wpAny_mono (hi.run _ s σ H _ I ht) (fun v s1 h1 => wpAny_mono h1 (fun itv s2 h2 p => ?_) fun x s' hx => k.exc n s₀ x s' hx) fun x s' hx => k.exc n s₀ x s' hx
  obtain ⟨it, fp, tn, JJ, H2, e, I2, T, st2, f2, W, ⟨m0, w0⟩, turn⟩ := h2
  subst e
  have stat : ∀ {pins : List (Addr × Obj)} {H' : Hp}, (∀ q ∈ X.pn ++ pins, ∀ b ∈ fp, q.1 ≠ b) → (∀ b ∈ fp, H' b = none) → ∀ b ∈ fp, FpOk X pins H' b := fun hq hn b hb => ⟨hn b hb, (f2 b hb).2.1, (f2 b hb).2.2.1, (f2 b hb).2.2.2.1, (f2 b hb).2.2.2.2.1, fun q hqm => hq q hqm b hb⟩
  have fpS : ∀ b ∈ fp, b ≠ S := fun b hb z => (f2 b hb).2.2.2.2.2 (S, lstObj acc cc) (List.mem_append_right _ List.mem_cons_self) z.symm
  have fpP : ∀ {a : Array Value} {c0 : Nat}, ∀ q ∈ X.pn ++ ((S, lstObj a c0) :: ip), ∀ b ∈ fp, q.1 ≠ b := fun {a c0} q hq b hb z => by
    rcases List.mem_append.mp hq with hq | hq
    · exact (f2 b hb).2.2.2.2.2 q (List.mem_append_left _ hq) z
    · rcases List.mem_cons.mp hq with hq | hq
      · subst hq; exact fpS b hb z.symm
      · exact (f2 b hb).2.2.2.2.2 q (List.mem_append_right _ (List.mem_cons_of_mem _ hq)) z
  have loop : ∀ (m n : Nat) (i : Nat) (ys : List V) (s₀ s : Shared) (σ : L2.St) (H : Hp), n + ys.length = sizeLine → W i m ys σ H → tn i s.heap → (∀ b ∈ fp, H b = none) → GI X S ip ys σ H s →
      Seg (model X.prog X.w) A R (GY X S) n s₀ (.forLoop tg (.ref it) body [] X.env) ((model X.prog X.w).den (.forLoop tg (.ref it) body [] X.env))
        (.ret (fun r => ((match r with | .ok f => (.pure f : Sem Flow) | .error e => .raise e).onRaise (cameBack X.env)).wrap K J gd lv) none (gd false) (lv []) c p [] :: fs) s := by
    intro m
    induction m using Nat.strongRecOn with
    | ind m ih =>
      intro n i ys s₀ s3 σ3 H3 hn w3 st3 fr3 hI3
      have gl := fun (ip' : List (Addr × Obj)) (hip : ∀ q ∈ ip', q.1 ≠ S) => gc_for (k := fun r => ((match r with | .ok f => (.pure f : Sem Flow) | .error e => .raise e).onRaise (cameBack X.env)).wrap K J gd lv) (c' := .forLoop tg (.ref it) body [] X.env) (l := lv []) (kp := []) (p := p) gc hip rfl rfl
      have ee : ∀ (n : Nat) (s₀ : Shared) (x : Value) (s' : Shared), X.xe x s' → Seg (model X.prog X.w) A R (GY X S) n s₀ (.forLoop tg (.ref it) body [] X.env)
          ((do noteFrame x X.env; theTreesLotGoes x : Sem Unit).wrap (fun _ => .raise x) .raise id id)
          (.ret (fun r => ((match r with | .ok f => (.pure f : Sem Flow) | .error e => .raise e).onRaise (cameBack X.env)).wrap K J gd lv) none (gd false) (lv []) c p [] :: fs) s' := fun n s₀ x s' hx => by
        refine seg_wrap ?_
        rw [(gl ip gc.ip).over]
        refine wpAny_bind (wpAny_mono (hp x s' hx) (fun _ s'' hcb => wpAny_theTreesLotGoes ?_) fun y s'' hcb => ?_)
        · exact seg_leaf (.error x) (seg_cameBack gc k hcb)
        · exact seg_leaf (.error y) (seg_cameBack gc k hcb)
      obtain ⟨acc3, cc3, r3, I3⟩ := hI3
      refine seg_forLoop ?_
      rw [(gl ip gc.ip).over]
      rcases turn i m ys σ3 H3 w3 with ⟨stop, qn⟩ | ⟨go, N, hN, step⟩
      · refine wpAny_mono (T.done X rfl rfl rfl hc i _ s3 σ3 H3 X.xe I3 (stat fpP fr3) st3 stop) (fun r s4 ⟨hr, I4⟩ => ?_) fun x s' hx => ee n s₀ x s' hx
        subst hr
        refine seg_leaf (.ok .next) (k.ok n ys s₀ s4 .next hn ⟨σ3, H3, ⟨acc3, cc3, r3, I4⟩, qn⟩)
      · refine wpAny_mono (T.item X rfl rfl rfl hc i _ s3 σ3 H3 X.xe I3 (stat fpP fr3) st3 go) (fun r s4 ⟨u, hr, h4⟩ => ?_) fun x s' hx => ee n s₀ x s' hx
        subst hr
        refine wpAny_mono h4 (fun _ s5 ⟨x, H5, I5, r5, y5, st5, fr5⟩ => ?_) fun x s' hx => ee n s₀ x s' hx
        have I5' := I5.pinned (stat fpP fr5) (T.obj _ _ st5)
        have ip5 : ∀ q ∈ ip ++ pinsAt fp s5.heap, q.1 ≠ S := fun q hq => (List.mem_append.mp hq).elim (fun z => gc.ip q z) fun z => fpS _ (of_pinsAt z).1
        refine wpAny_mono (hg.run _ s5 σ3 H5 x u _ I5' r5 (step x H5 y5)) (fun _ s6 ⟨σ6, H6, I6, q6⟩ => ?_) fun x s' hx => ee n s₀ x s' hx
        refine hb.run A S (ip ++ pinsAt fp s5.heap) R n ys s₀ _ _ _ _ id id s6 σ6 H6 { D with nx := N, ct := N, bk := D.nx } (gl _ ip5) hn ⟨fun n' ys' s₀' s7 f hn' hs7 => ?_, fun n' s₀' x s7 hx => ee n' s₀' x s7 hx⟩ ⟨acc3, cc3, r3, I6⟩ q6
        have back : ∀ {ys' : List V} {σ7 : L2.St} {H7 : Hp}, GI X S (ip ++ pinsAt fp s5.heap) ys' σ7 H7 s7 → GI X S ip ys' σ7 H7 s7 := fun {ys' σ7 H7} ⟨a7, c7, r7, I7⟩ => ⟨a7, c7, r7, I7.pins_of fun q hq => I7.pin q (by
          rcases List.mem_cons.mp hq with hq | hq
          · subst hq; exact List.mem_append_right _ List.mem_cons_self
          · exact List.mem_append_right _ (List.mem_cons_of_mem _ (List.mem_append_left _ hq)))⟩
        have again : ∀ {ys' : List V} {σ7 : L2.St} {H7 : Hp}, GI X S (ip ++ pinsAt fp s5.heap) ys' σ7 H7 s7 → n' + ys'.length = sizeLine → N ys' σ7 H7 →
            Seg (model X.prog X.w) A R (GY X S) n' s₀' (.forLoop tg (.ref it) body [] X.env) (.pure (.again (.forLoop tg (.ref it) body [] X.env)))
              (.ret (fun r => ((match r with | .ok f => (.pure f : Sem Flow) | .error e => .raise e).onRaise (cameBack X.env)).wrap K J gd lv) none (gd false) (lv []) c p [] :: fs) s7 := fun {ys' σ7 H7} G7 hn7 n7 => by
          obtain ⟨m', hm, w7⟩ := hN ys' σ7 H7 n7
          obtain ⟨a7, c7, r7, I7⟩ := id G7
          refine seg_again rfl (ih m' hm n' (i + 1) ys' s₀' s7 σ7 H7 hn7 w7 (T.keep _ _ _ st5 fun b hb o e => (I7.pin (b, o) (List.mem_append_right _ (List.mem_cons_of_mem _ (List.mem_append_right _ (mem_pinsAt hb e))))).1) (fun b hb => ?_) (back G7))
          obtain ⟨o, e, d⟩ := T.obj _ _ st5 b hb
          exact (I7.pin (b, o) (List.mem_append_right _ (List.mem_cons_of_mem _ (List.mem_append_right _ (mem_pinsAt hb e))))).2.1
        cases f with
        | next => obtain ⟨σ7, H7, I7, n7⟩ := hs7; exact again I7 hn' n7
        | cont => obtain ⟨σ7, H7, I7, n7⟩ := hs7; exact again I7 hn' n7
        | brk => obtain ⟨σ7, H7, I7, q7⟩ := hs7; exact seg_leaf (.ok .next) (k.ok n' ys' s₀' s7 .next hn' ⟨σ7, H7, back I7, q7⟩)
        | ret v => obtain ⟨x7, σ7, H7, I7, r7, q7⟩ := hs7; exact seg_leaf (.ok (.ret v)) (k.ok n' ys' s₀' s7 (.ret v) hn' ⟨x7, σ7, H7, back I7, r7, q7⟩)
  exact loop m0 n 0 ys s₀ s2 σ H2 hn w0 st2 (fun b hb => (f2 b hb).1) ⟨acc, cc, r, I2⟩
end
end DL
/-! ### readings of a generator's body -/
namespace DL
open PySem L2 PySem.Spec PyProof.Rows GenW
variable [Tbl]
structure GN where
  nx : List D → EV → Prop
  bk : List D → EV → Prop := fun _ _ => False
  ct : List D → EV → Prop := fun _ _ => False
  er : ER := fun _ => False
abbrev GW := GN → List D → EV → Prop
structure GLink (K : PySem.W.Frag) (E : XK) (B : Ent) (Dd : GEnds) (n : GN) : Prop where
  nx : ∀ (ys : List V) (ds : List D) (env : EV) (F : Hp) (σ : L2.St) (H : Hp), At K B env F σ H → RepA K F ys ds → n.nx ds env → Dd.nx ys σ H
  bk : ∀ (ys : List V) (ds : List D) (env : EV) (F : Hp) (σ : L2.St) (H : Hp), At K B env F σ H → RepA K F ys ds → n.bk ds env → Dd.bk ys σ H
  ct : ∀ (ys : List V) (ds : List D) (env : EV) (F : Hp) (σ : L2.St) (H : Hp), At K B env F σ H → RepA K F ys ds → n.ct ds env → Dd.ct ys σ H
  er : EL K B E n.er
def SimY (K : PySem.W.Frag) (E : XK) (tg : TGn) (w : GW) : Prop := ∀ (B : Ent) (Dd : GEnds) (n : GN), GLink K E B Dd n → ∀ (ys : List V) (ds : List D) (env : EV) (F : Hp) (σ : L2.St) (H : Hp), At K B env F σ H → RepA K F ys ds → w n ds env → tg Dd ys σ H
section
variable {K : PySem.W.Frag} {E : XK} {te : TE} {we : WE} {ts : TS} {ws : WS} {tg tg' : TGn} {w w' : GW}
def yPl (w : WS) : GW := fun n ds env => w { nx := n.nx ds, rt := fun _ => False, bk := n.bk ds, ct := n.ct ds, er := n.er } env
theorem simy_plain (h : SimS K E ts ws) : SimY K E (tPlain ts) (yPl ws) := fun B Dd n L ys ds env F σ H a r w =>
  h ⟨F, B.H⟩ (Dd.at ys) { nx := n.nx ds, rt := fun _ => False, bk := n.bk ds, ct := n.ct ds, er := n.er }
    ⟨fun env3 F3 σ3 H3 a3 w4 => L.nx _ _ _ _ _ _ (a3.up a.st) (RepA.mono a3.st.ff r) w4, fun _ _ _ _ _ _ z => z.elim, fun env3 F3 σ3 H3 a3 w4 => L.bk _ _ _ _ _ _ (a3.up a.st) (RepA.mono a3.st.ff r) w4,
      fun env3 F3 σ3 H3 a3 w4 => L.ct _ _ _ _ _ _ (a3.up a.st) (RepA.mono a3.st.ff r) w4, fun C d fs F3 H3 s3 r3 w4 => L.er C d fs F3 H3 (s3.up a.st) r3 w4⟩
    env F σ H (a.dn a.st (Same.refl F)) w
def yYield (we : WE) : GW := fun n ds env => ds.length < sizeLine ∧ we env n.er fun d => n.nx (ds ++ [d]) env
theorem simy_yield (h : SimE K E te we) : SimY K E (tGYield te) (yYield we) := fun B Dd n L ys ds env F σ H a r w =>
  ⟨by rw [r.len]; exact w.1, h B env F σ H _ n.er _ a L.er w.2 fun x d F' H' s rx q => L.nx _ _ _ _ _ _ (a.step s) ((RepA.mono s.ff r).app (.one rx)) q⟩
def yNil : GW := fun n ds env => n.nx ds env
theorem simy_nil : SimY K E tG0 yNil := fun B Dd n L ys ds env F σ H a r w => L.nx _ _ _ _ _ _ a r w
def ySeq (w u : GW) : GW := fun n ds env => w { n with nx := u n } ds env
theorem simy_seq (h : SimY K E tg w) (g : SimY K E tg' w') : SimY K E (tGThen tg tg') (ySeq w w') := fun B Dd n L ys ds env F σ H a r z =>
  h B { Dd with nx := fun ys' σ' H' => tg' Dd ys' σ' H' } { n with nx := w' n } ⟨fun ys ds env F σ H a r z => g B Dd n L ys ds env F σ H a r z, L.bk, L.ct, L.er⟩ ys ds env F σ H a r z
def yLoop (body : GW) (g : D → EV → (EV → Prop) → Prop) (n : GN) : List D → List D → EV → Prop
  | [], ds, env => n.nx ds env
  | x :: r, ds, env => g x env fun env1 => body { n with nx := yLoop body g n r, ct := yLoop body g n r, bk := n.nx } ds env1
def yFor (wi : WI) (g : D → EV → (EV → Prop) → Prop) (body : GW) : GW := fun n ds env => wi env n.er fun l => yLoop body g n l ds env
theorem simy_for {wi : TI} {wl : WI} {js : List Nat} {tgt : TG} {g : D → EV → (EV → Prop) → Prop} (hl : SimI K E wi wl) (hg : SimG K js tgt g) (hb : SimY K E tg w) : SimY K E (tGFor wi tgt tg) (yFor wl g w) := fun B Dd n L ys ds env F σ H a r z =>
  hl B env F σ H _ n.er _ a L.er z fun J l F1 H1 s1 wk w2 => by
    obtain ⟨P, hP⟩ : ∃ P : Nat → List V → L2.St → Hp → Prop, P = fun i ys' σ' H' => ∃ ds' env' F', At K B env' F' σ' H' ∧ Same F1 F' ∧ RepA K F' ys' ds' ∧ yLoop w g n (l.drop i) ds' env' := ⟨_, rfl⟩
    refine ⟨fun i m ys' σ' H' => m = l.length - i ∧ i ≤ l.length ∧ P i ys' σ' H', ⟨l.length, by simp, Nat.zero_le _, by rw [hP]; exact ⟨ds, env, F1, a.step s1, Same.refl _, RepA.mono s1.ff r, by rw [List.drop_zero]; exact w2⟩⟩, ?_⟩
    rintro i m ys' σ' H' ⟨rfl, hi, h⟩
    rw [hP] at h
    obtain ⟨ds', env', F', a', sf, r', wz⟩ := h
    obtain ⟨k1, k2⟩ := wk i F' H' sf a'.fh
    by_cases hlt : i < l.length
    · obtain ⟨dy, hd⟩ : ∃ dy, l[i]? = some dy := ⟨_, List.getElem?_eq_getElem hlt⟩
      obtain ⟨kg, ky⟩ := k1 dy hd
      refine .inr ⟨kg, P (i + 1), fun ys2 σ2 H2 p2 => ⟨l.length - (i + 1), by omega, rfl, hlt, p2⟩, fun y H2 hy => ?_⟩
      obtain ⟨F2, s2, ry⟩ := ky y H2 hy
      rw [drop_get hd] at wz
      have up : ∀ {env3 : EV} {F3 : Hp} {σ3 : L2.St} {H3 : Hp}, At K ⟨F1, B.H⟩ env3 F3 σ3 H3 → At K B env3 F3 σ3 H3 := fun a3 => a3.up (a.step s1).st
      refine hg ⟨F1, B.H⟩ env' F2 σ' H2 y dy _ _ ((a'.step s2).dn (a.step s1).st (sf.trans s2.ff)) ry wz fun env2 σ2 a2 _ _ w3 => ?_
      exact hb ⟨F1, B.H⟩ { Dd with nx := P (i + 1), ct := P (i + 1), bk := Dd.nx } { n with nx := yLoop w g n (l.drop (i + 1)), ct := yLoop w g n (l.drop (i + 1)), bk := n.nx }
        ⟨fun ys3 ds3 env3 F3 σ3 H3 a3 r3 w4 => by rw [hP]; exact ⟨ds3, env3, F3, up a3, a3.st.ff, r3, w4⟩, fun ys3 ds3 env3 F3 σ3 H3 a3 r3 w4 => L.nx _ _ _ _ _ _ (up a3) r3 w4,
          fun ys3 ds3 env3 F3 σ3 H3 a3 r3 w4 => by rw [hP]; exact ⟨ds3, env3, F3, up a3, a3.st.ff, r3, w4⟩, fun C d fs F3 H3 s3 r3 w4 => L.er C d fs F3 H3 (s3.up (a.step s1).st) r3 w4⟩ ys' ds' env2 F2 σ2 H2 a2 (RepA.mono s2.ff r') w3
    · have e : i = l.length := by omega
      subst e
      rw [List.drop_length] at wz
      exact .inl ⟨k2 rfl, L.nx ys' ds' env' F' σ' H' a' r' wz⟩

/-! ### a generator def, list(g(..)) -/
/-- a generator def's meaning -/
abbrev FG := List D → ER → (List D → Prop) → Prop
def spGOf (K : PySem.W.Frag) (n : Nat) (S : FG) : SpG := fun vs H Q E => ∃ (F : Hp) (ds : List D) (er : ER) (q : List D → Prop), ds.length = n ∧ Fz F H ∧ RepA K F vs ds ∧ S ds er q ∧
  (∀ (ys : List V) (out : List D) (F' H' : Hp), Stp F F' H H' → RepA K F' ys out → q out → Q ys H') ∧ EL K ⟨F, H⟩ E er
section
variable {P : Program} {w0 : World} {mg : Str → Option Value} {base : Heap}
theorem okG_def {x qual : Str} {st : Stmt} {f : Addr} {fd : FuncData} {N ps : List Str} {k : Nat} {S : FG} (Fn : Fun K x qual st f fd) (sc : GScope N ps (defScope st)) (hn : ps.length ≤ N.length)
    (hb : ∀ (cdv : Value) (A : Around) (outer : List Env) (s : Shared) (H : Hp) (E : XK) (pn : List (Addr × Obj)), Room k (A.deeper (envOfC qual (defScope st) s.heap.objs.size f cdv)) →
      ∃ t ws, GSs (gcxOf P w0 K mg base N qual (defScope st) f cdv A outer s H E pn) (defBody st) t ∧ SimY K E t ws ∧
        ∀ ds er q, ds.length = ps.length → S ds er q → ws { nx := fun out _ => q out, er := er } [] (envOf N.length ds)) :
    GFn P w0 K mg base (k + 1) f fd ps (spGOf K ps.length S) := by
  obtain ⟨oc, od, kV, doc, pm, an, cdv, ct, osl, rfl, lk, hcd⟩ := Fn.ex
  refine gfn_of lk hcd sc (fun vs H Q E h => ?_) fun A outer s H vs Q E pn hr hsp => ?_
  · obtain ⟨F, ds, er, q, hl, _, r, _⟩ := h
    rw [r.len, hl]
  · obtain ⟨t, ws, h1, h2, h3⟩ := hb cdv A outer s H E pn hr
    obtain ⟨F, ds, er, q, hl, hs, r, hS, kv, ke⟩ := hsp
    exact ⟨t, h1, h2 ⟨F, H⟩ _ { nx := fun out _ => q out, er := er } ⟨fun ys out env F' σ H' a r z => kv ys out F' H' a.st r z, fun _ _ _ _ _ _ _ _ z => z.elim, fun _ _ _ _ _ _ _ _ z => z.elim, ke⟩ [] [] _ F _ H (start_at hs r (by omega)) .nil (h3 ds er q hl hS)⟩
end
/-- a generator expression whose value one hears out -/
abbrev WG := EV → ER → (List D → Prop) → Prop
def SimGn (K : PySem.W.Frag) (E : XK) (tg : TGen) (w : WG) : Prop := ∀ (B : Ent) (env : EV) (F : Hp) (σ : L2.St) (H : Hp) (Q : List V → Hp → Prop) (er : ER) (q : List D → Prop), At K B env F σ H → EL K B E er → w env er q →
  (∀ (ys : List V) (out : List D) (F' H' : Hp), Stp F F' H H' → RepA K F' ys out → q out → Q ys H') → tg σ H Q
theorem simo_listG {tg : TGen} {w : WG} (h : SimGn K E tg w) : SimO K E (tListG tg) w := fun B env F σ H Q er q a l z k =>
  h B env F σ H _ er _ a l z fun ys out F' H' s r qo p hp => k p ys out F' (upd H' p (.lst ys)) (s.trans (.fresh s.fh hp)) (s.hh.fr _ (.inl hp)) upd_same (s.fh.free hp) r qo
/-! the call with keywords -/
def tCallGN (n m : Nat) (sp : SpG) (gV : List V → List V → List V) (E : XK) (t tk : TA) : TGen := fun σ H cont => t σ H fun vs H1 => tk σ H1 fun zs H2 => vs.length = n ∧ zs.length = m ∧ sp (gV vs zs) H2 cont E
section
variable {X : Cx} {k n : Nat} {f : Addr} {fd : FuncData} {ps ks : List Str} {sp : SpG} {x : Str} {p pos : Pos} {e : Expr} {es : List Expr} {kws : List Keyword} {t tk : TA} {g : List Value → List Value → List Value} {gV : List V → List V → List V}
theorem run_gfnN {pins : List (Addr × Obj)} {σ : L2.St} {H : Hp} {s : Shared} {us ws : List Value} {vs zs : List V} {cont : List V → Hp → Prop} {E1 : Value → Shared → Prop} (F : GFn X.prog X.w X.K X.mg X.base k f fd ps sp) (hr : Room k X.A) (hb : KBn X.K fd ps n ks g gV)
    (I : Inv X pins σ H s) (r : Vals vs us) (rz : Vals zs ws) (l1 : vs.length = n) (l2 : zs.length = ks.length) (h : sp (gV vs zs) H cont E) :
    wpAny (model X.prog X.w) X.A (call (.ref f) us (ks.zip ws)) (fun u s' => ∃ H1 sc ex, Inv X pins σ H1 sc ∧ ExOk X pins ex ∧ GMade X.prog X.w k X.stack H1 sc ex cont E u s') E1 s := by
  have r2 := hb.rel r rz
  refine wpAny_call (codeAny_mono (F.run X.A X.stack s H ⟨us, ks.zip ws⟩ (g us ws) (gV vs zs) cont E hr I.env0 (hb.to s us ws I.kIn (r.length.symm.trans l1) (rz.length.symm.trans l2)) r2 h) fun r s' hq => ?_)
  cases r with
  | error e => exact False.elim hq
  | ok fl =>
    cases fl with
    | ret u => exact ⟨H, s, [], I, .nil, hq⟩
    | next => exact False.elim hq
    | brk => exact False.elim hq
    | cont => exact False.elim hq
theorem pgen_callN (F : GFn X.prog X.w X.K X.mg X.base k f fd ps sp) (hr : Room k X.A) (hg : Gl X x) (hm : X.mg x = some (.ref f)) (hk : PySem.W.keepIn X.K (.ref f) = true) (hb : KBn X.K fd ps n ks g gV)
    (ha : PA X (e :: es) t) (hkw : PK X kws tk) (hall : (backToKw pos (keywordEach kws X.env)).all (·.1.isSome) = true := by rfl) (hks : (backToKw pos (keywordEach kws X.env)).filterMap (·.1) = ks := by rfl)
    (hdb : (x == ("__debug__" : Str)) = false := by decide) (he : starEach (e :: es) X.env = (false, eval e X.env) :: starEach es X.env := by rfl)
    (hpl : ((backTo pos (starEach (e :: es) X.env)).any (·.1) || (backToKw pos (keywordEach kws X.env)).any (·.1.isNone)) = false := by rfl) :
    PGen X k (.Call (.Name x p) (e :: es) kws pos) (tCallGN n ks.length sp gV E t tk) E := by
  refine ⟨fun pins s σ H cont I h => ?_⟩
  refine wpAny_Call_Name_kw (ld_glob I hg hm ?_ hdb)
  refine PySem.W.callWith_KW (h₀ := X.base) I.ok.mod.kin hk hall (thn (ha.run pos pins s σ H _ I h) fun us s1 ⟨vs, H1, I1, r, q⟩ => ?_) hpl he
  refine thn (hkw.run pos pins s1 σ H1 _ I1 q) fun ws s2 ⟨zs, H2, I2, rz, l1, l2, q2⟩ => ⟨I2.kIn, ?_⟩
  rw [hks]
  exact run_gfnN F hr hb I2 r rz l1 l2 q2
theorem pgen_callN0 (F : GFn X.prog X.w X.K X.mg X.base k f fd ps sp) (hr : Room k X.A) (hg : Gl X x) (hm : X.mg x = some (.ref f)) (hk : PySem.W.keepIn X.K (.ref f) = true) (hb : KBn X.K fd ps 0 ks g gV)
    (hkw : PK X kws tk) (hall : (backToKw pos (keywordEach kws X.env)).all (·.1.isSome) = true := by rfl) (hks : (backToKw pos (keywordEach kws X.env)).filterMap (·.1) = ks := by rfl)
    (hdb : (x == ("__debug__" : Str)) = false := by decide)
    (hpl : ((backTo pos (starEach [] X.env)).any (·.1) || (backToKw pos (keywordEach kws X.env)).any (·.1.isNone)) = false := by rfl) :
    PGen X k (.Call (.Name x p) [] kws pos) (tCallGN 0 ks.length sp gV E tNil tk) E := by
  refine ⟨fun pins s σ H cont I h => ?_⟩
  refine wpAny_Call_Name_kw (ld_glob I hg hm ?_ hdb)
  refine PySem.W.callWith_KW0 (h₀ := X.base) I.ok.mod.kin hk hall ?_ hpl
  refine thn (hkw.run pos pins s σ H _ I h) fun ws s2 ⟨zs, H2, I2, rz, l1, l2, q2⟩ => ⟨I2.kIn, ?_⟩
  rw [hks]
  exact run_gfnN (us := []) (vs := []) F hr hb I2 .nil rz rfl l2 q2
end
def wCallG0 (n m p : Nat) (S : FG) (g : List D → List D → List D) (wa wk : WA) : WG := fun env er q => wa env er fun ds => wk env er fun zs => ds.length = n ∧ zs.length = m ∧ (g ds zs).length = p ∧ S (g ds zs) (fun _ => False) q
theorem simgn_callN0 {n m p : Nat} {S : FG} {gV : List V → List V → List V} {g : List D → List D → List D} {t tk : TA} {w wk : WA} {E1 : XK} (hg : ∀ F vs ds us zs, RepA K F vs ds → RepA K F us zs → RepA K F (gV vs us) (g ds zs)) (ha : SimA K E t w) (hk : SimA K E tk wk) :
    SimGn K E (tCallGN n m (spGOf K p S) gV E1 t tk) (wCallG0 n m p S g w wk) := fun B env F σ H Q er q a l w k =>
  ha B env F σ H _ er _ a l w fun xs ds F1 H1 s1 r1 w1 => hk B env F1 σ H1 _ er _ (a.step s1) l w1 fun ys zs F2 H2 s2 r2 w2 =>
    ⟨by rw [r1.len]; exact w2.1, by rw [r2.len]; exact w2.2.1, F2, g ds zs, _, q, w2.2.2.1, s2.fh, hg F2 _ _ _ _ (RepA.mono s2.ff r1) r2, w2.2.2.2, fun ys out F3 H3 s3 r3 z => k ys out F3 H3 ((s1.trans s2).trans s3) r3 z, EL.no⟩
theorem noStop0 : NoStop K E0 := fun _ _ _ h => h.elim
end
end DL
/-! ### list(text), list(list) -/
namespace DL
open PySem L2 PySem.Spec PyProof.Rows
variable [Tbl]
section
variable {prog : Program} {w : World} {A : Around} {E : Value → Shared → Prop} {s : Shared}
theorem extend_str {R : Result → Shared → Prop} (hh : A.handled = none) (x : Str) (t : Tok) (hn : x.cps.size ≤ sizeLine) (S : Addr) (res : Value) (c₀ : Nat) (hS : s.heap.get? S = some { cls := .type "list", data := .seq #[] c₀ })
    (hR : ∀ h' tk acc' c', (∀ b o, b ≠ S → s.heap.get? b = some o → h'.get? b = some o) → h'.get? S = some { cls := .type "list", dict := none, data := .seq acc' c', slots := #[] } →
      ItemsOf (SignAt x) acc' x.cps.size → R (.ok (.ret res)) { s with heap := h', toks := tk }) :
    wpAny (model prog w) A.in1 (Builtin.List.listExtendWith (.ref S) (.str x t) res)
      (fun fin s' => match fin with | .done f => R (.ok f) s' | .again c' => c'.quiet = true ∧ codeAny (model prog w) A c' R s') (fun e s' => R (.error e) s') s := by
  unfold Builtin.List.listExtendWith
  refine wpAny_bind (wpAny_typeOf (T := "str") (v := .str x t) rfl ?_)
  have h1 : Builtin.List.listSameRef (.ref S) (.str x t) = false := rfl
  have h2 : (Value.type "str" == Value.type "list") = false := by decide
  have h3 : (Value.type "str" == Value.type "tuple") = false := by decide
  simp only [h1, h2, h3, Bool.or_false, Bool.false_eq_true, if_false]
  refine wpAny_bind (wpAny_pyIter_str fun o St W hst => ?_)
  refine wpAny_bind (wpAny_holding ?_)
  unfold Builtin.List.listLengthHint
  refine wpAny_bind (wpAny_specialOf (T := "str") (v := .str x t) rfl PySem.F.str_len ?_)
  wp_delta
  refine wpAny_bind (wpAny_isInstance (T := "str") (v := .str x t) (b := true) rfl (by rw [isSubtype_type]; kernel_rfl) ?_)
  show wpAny _ A.in1 (typeOf (Value.str x t) >>= _) _ _ _
  refine wpAny_bind (wpAny_typeOf (T := "str") (v := .str x t) rfl ?_)
  refine wpAny_pure ?_
  rw [if_neg (by decide)]
  have hSlt : S < s.heap.objs.size := Heap.lt_size hS
  have hSf : S ∉ [s.heap.objs.size] := fun hm => Nat.ne_of_lt hSlt (List.mem_singleton.mp hm)
  have hS1 : (s.heap.push o).get? S = some { cls := .type "list", data := .seq #[] c₀ } := Heap.get?_push_of_some _ hS
  refine wpAny_pure ⟨plainId_quiet PySem.F.plain_extend_loop _, codeAny_extend_loopS (W A.in1 hh).toS hn _ hSf _ x.cps.size 0 _ _ _ rfl (Nat.zero_le _) hst hS1 (ItemsOf.nil _) fun s' acc' c' hm hS' hacc => ?_⟩
  rw [Moved.eq_with hm]
  refine hR s'.heap s'.toks acc' c' (fun b ob hb e => hm.heap b ob (fun hmem => ?_) (Heap.get?_push_of_some _ e)) hS' hacc
  rcases List.mem_cons.mp hmem with e' | hmem
  · exact hb e'
  · exact absurd (Heap.lt_size e) (by rw [List.mem_singleton.mp hmem]; exact Nat.lt_irrefl _)
theorem call_list_str {x : Str} {t : Tok} {Q : Value → Shared → Prop} (hh : A.handled = none) (hn : x.cps.size ≤ sizeLine)
    (hQ : ∀ h' tk acc' c', (∀ b o, s.heap.get? b = some o → h'.get? b = some o) →
      h'.get? s.heap.objs.size = some { cls := .type "list", dict := none, data := .seq acc' c', slots := #[] } → ItemsOf (SignAt x) acc' x.cps.size → Q (.ref s.heap.objs.size) { s with heap := h', toks := tk }) :
    wpAny (model prog w) A (call (.type "list") [.str x t]) Q E s := by
  refine callType_codes (Q₁ := fun obj s₁ => obj = .ref s.heap.objs.size ∧ s₁ = { s with heap := s.heap.push { cls := .type "list", data := .seq #[] } }) PySem.F.called_list (PySem.F.typeCall_list_1 _) PySem.F.entry_list_init
    (code_list_new _ ⟨rfl, rfl⟩) fun obj s₁ h₁ => ?_
  obtain ⟨rfl, rfl⟩ := h₁
  have hS : (s.heap.push { cls := .type "list", data := .seq #[] }).get? s.heap.objs.size = some { cls := .type "list", data := .seq #[] } := Heap.get?_push_size _ rfl
  refine ⟨⟨_, hS, rfl⟩, PySem.F.args_list_init_2 _ _, ?_⟩
  show wpAny _ _ (do let old ← Builtin.List.listItems (.ref s.heap.objs.size); Builtin.List.listUpdate (.ref s.heap.objs.size) (fun _ => #[]); letGo old.toList.reverse; Builtin.List.listExtendWith (.ref s.heap.objs.size) (.str x t) .none) _ _ _
  refine wpAny_bind ?_
  unfold Builtin.List.listItems
  refine wpAny_bind (wpAny_seqItems hS rfl (wpAny_pure ?_))
  show wpAny _ _ (updateSeq s.heap.objs.size (fun _ => #[]) >>= fun _ => letGo (#[] : Array Value).toList.reverse >>= fun _ => Builtin.List.listExtendWith (.ref s.heap.objs.size) (.str x t) .none) _ _ _
  refine wpAny_bind (wpAny_updateSeq hS rfl ?_)
  have hS₂ := Heap.get?_update_self (Obj.mapSeq (fun _ => (#[] : Array Value))) hS rfl
  refine wpAny_bind (wpAny_letGo ?_)
  refine extend_str (A := A.in1) hh x t hn s.heap.objs.size .none _ hS₂ fun h' tk acc' c' hk hS' hacc => ?_
  exact ⟨rfl, hQ h' tk acc' c' (fun b o e => hk b o (Nat.ne_of_lt (Heap.lt_size e)) ((Heap.get?_update_other _ _ (Ne.symm (Nat.ne_of_lt (Heap.lt_size e)))).trans (Heap.get?_push_of_some _ e))) hS' hacc⟩
end
def chV (x : Str) : List V := x.cps.toList.map fun c => .str ⟨#[c]⟩
def chD (x : Str) : List D := x.cps.toList.map fun c => .str ⟨#[c]⟩
def rListS : List V → Hp → VK → Prop := fun xs H Q => ∃ x : Str, xs = [.str x] ∧ x.cps.size ≤ sizeLine ∧ ∀ p, H p = none → Q (.ref p) (upd H p (.lst (chV x)))
section
variable {X : Cx}
theorem cr_listS (hc : X.calm = true) : CallR X (.type "list") rListS := by
  intro pins s σ H xs us Q I r h
  obtain ⟨x, e, hz, q⟩ := h
  subst e
  obtain ⟨u, eu, rx⟩ := vals1 r
  subst eu
  obtain ⟨t, rfl⟩ := rx
  refine call_list_str (I.ok.hd hc) hz fun h' tk acc c' hk hS hacc => ?_
  have hv : Vals (chV x) acc.toList := vals_of_at (by unfold chV; rw [List.length_map, Array.length_toList, Array.length_toList]; exact hacc.1.symm) fun j y u e1 e2 => by
    obtain ⟨c, t', e3, rfl⟩ := hacc.2 j u (by rw [← e2, Array.getElem?_toList])
    unfold chV at e1
    rw [List.getElem?_map, Array.getElem?_toList, e3] at e1
    cases e1
    exact ⟨t', rfl⟩
  exact ⟨.ref s.heap.objs.size, upd H s.heap.objs.size (.lst (chV x)), I.laid hk (Nat.le_refl _) (show ObjOk X.prog X.w _ _ _ (.lst (chV x)) from ⟨by unfold chV; rw [List.length_map, Array.length_toList]; exact hz, acc.toList, c', hv, by rw [Array.toArray_toList]; exact hS⟩), rfl, q _ (I.hok.fresh (Nat.le_refl _))⟩
end
section
variable {K : PySem.W.Frag} {E : XK} {te : TE} {we : WE} {t : TA} {w : WA}
/-- a call that makes a new list -/
def SimCO (K : PySem.W.Frag) (r : List V → Hp → VK → Prop) (f : List D → (List D → Prop) → Prop) : Prop := ∀ (F H : Hp) (xs : List V) (ds : List D) (Q : VK) (q : List D → Prop), Fz F H → RepA K F xs ds → f ds q →
  (∀ (a : Addr) (ys : List V) (l : List D) (F' H' : Hp), Stp F F' H H' → H a = none → H' a = some (.lst ys) → F' a = none → RepA K F' ys l → q l → Q (.ref a) H') → r xs H Q
def wCBO (f : List D → (List D → Prop) → Prop) (wa : WA) : WO := fun env er q => wa env er fun ds => f ds q
theorem simo_cb {r : List V → Hp → VK → Prop} {f : List D → (List D → Prop) → Prop} (hr : SimCO K r f) (ha : SimA K E t w) : SimO K E (tCB r t) (wCBO f w) := fun B env F σ H Q er q a l z k =>
  ha B env F σ H _ er _ a l z fun xs ds F1 H1 s1 r1 w1 => hr F1 H1 xs ds Q q s1.fh r1 w1 fun p ys l F2 H2 s2 n h1 h2 r2 qq => k p ys l F2 H2 (s1.trans s2) (s1.hh.fr _ (.inl n)) h1 h2 r2 qq
def dListS : List D → (List D → Prop) → Prop := fun ds q => match ds with
  | [.str x] => x.cps.size ≤ sizeLine ∧ q (chD x)
  | _ => False
theorem rep_ch {F : Hp} (x : Str) : RepA K F (chV x) (chD x) := by
  unfold chV chD
  induction x.cps.toList with
  | nil => exact .nil
  | cons c r ih => exact .cons (.str _) ih
theorem sim_listS : SimCO K rListS dListS := fun F H xs ds Q q s r z k => by
  unfold dListS at z
  split at z
  · rename_i x
    cases r with
    | cons r1 r =>
      cases r
      cases r1
      exact ⟨x, rfl, z.1, fun p hp => k p _ _ F _ (.fresh s hp) hp upd_same (s.free hp) (rep_ch x) z.2⟩
  · exact z.elim
end
end DL
/-! DLT: len(set([texts])). -/
namespace DL
open PySem PySem.Spec PyProof.Rows
variable [Tbl]
def cntS (xs : List Str) : Nat → Nat
  | 0 => 0
  | i + 1 => if (xs.take i).any (· == xs.getD i Str.empty) = true then cntS xs i else cntS xs i + 1
theorem cntS_le (xs : List Str) : ∀ i, cntS xs i ≤ i
  | 0 => Nat.le_refl 0
  | i + 1 => by
    have := cntS_le xs i
    unfold cntS
    split <;> omega
section
variable {prog : Program} {w : World} {A : Around} {R : Result → Shared → Prop} {I : Addr} {fp wr : List Addr} {G : Array GenState → Array GenState → Prop} {n : Nat} {P : Nat → Value → Prop} {St : Nat → Shared → Prop}
theorem loopStrs (W : WalksS prog w A.in1 I fp wr G n P St) (S : Addr) (hSf : S ∉ fp) (xs : List Str) (hsz : xs.length = n) (hn1 : n ≤ 60)
    (hval : ∀ i v, P i v → ∃ t, v = .str (xs.getD i Str.empty) t) :
    ∀ (k i : Nat) (s : Shared), n - i = k → i ≤ n → St i s →
      s.heap.SetOf (PySem.strKind prog w) S (fun k' => (xs.take i).any (· == k')) (cntS xs i) →
      (∀ s', Moved (S :: wr) G s s' → s'.heap.SetOf (PySem.strKind prog w) S (fun k' => (xs.take n).any (· == k')) (cntS xs n) → R (.ok (.ret .none)) s') →
      codeAny (model prog w) A (.builtin "set.update.loop" ⟨[.ref S, .ref I], []⟩) R s := by
  have hSw : S ∉ wr := fun h => hSf (W.sub _ h)
  have hsub : ∀ b ∈ wr, b ∈ S :: wr := fun b hb => List.mem_cons_of_mem _ hb
  intro k
  induction k with
  | zero =>
    intro i s hk hi hst hS hR
    have hin : i = n := by omega
    subst hin
    refine codeAny_builtin PyProof.Rows.F.entry_set_update_loop ?_
    rw [Around.under_plainId PyProof.Rows.F.plain_set_update_loop _]
    show wpAny _ A.in1 (pyNext (.ref I) >>= _) _ _ s
    refine wpAny_bind (W.done s _ _ hst fun s' hm => ?_)
    show wpAny _ A.in1 (ret Value.none) _ _ s'
    exact wpAny_pure (hR s' (hm.mono hsub) (by
      obtain ⟨o, es, ep, t, ho, rest⟩ := hS
      exact ⟨o, es, ep, t, hm.heap S _ hSw ho, rest⟩))
  | succ k ih =>
    intro i s hk hi hst hS hR
    have hlt : i < n := by omega
    refine codeAny_builtin PyProof.Rows.F.entry_set_update_loop ?_
    rw [Around.under_plainId PyProof.Rows.F.plain_set_update_loop _]
    show wpAny _ A.in1 (pyNext (.ref I) >>= _) _ _ s
    refine wpAny_bind (W.item i s _ _ hlt hst fun v s' hP hst' hm => ?_)
    obtain ⟨t, rfl⟩ := hval i v hP
    have hS' : s'.heap.SetOf (PySem.strKind prog w) S (fun k' => (xs.take i).any (· == k')) (cntS xs i) := by
      obtain ⟨o, es, ep, tb, ho, rest⟩ := hS
      exact ⟨o, es, ep, tb, hm.heap S _ hSw ho, rest⟩
    show wpAny _ A.in1 (holding [Value.str (xs.getD i Str.empty) t] (setAdd S (.str (xs.getD i Str.empty) t)) >>= _) _ _ s'
    refine wpAny_bind (wpAny_holding ?_)
    unfold setAdd
    refine wpAny_holding ?_
    refine wpAny_bind ((PySem.strKind prog w).pyHash (k := xs.getD i Str.empty) (strKind_is _ _ _ _) ?_)
    have hc := cntS_le xs i
    refine wpAny_setAddHashed_of (knd := PySem.strKind prog w) (s := { s' with toks := s'.toks + 1 }) (strKind_is _ _ _ _) rfl hS' (by unfold scanBound; omega) fun h' hsb hS2 => ?_
    have hget : xs[i]? = some (xs.getD i Str.empty) := by
      have hi' : i < xs.length := by omega
      rw [List.getD_eq_getElem?_getD, List.getElem?_eq_getElem hi']
      rfl
    have hSi : h'.SetOf (PySem.strKind prog w) S (fun k' => (xs.take (i + 1)).any (· == k')) (cntS xs (i + 1)) := by
      refine SetOf_congr hS2 (fun k' => ?_) ?_
      · rw [List.take_add_one, hget, List.any_append]
        show ((xs.take i).any (· == k') || decide (k' = xs.getD i Str.empty)) = ((xs.take i).any (· == k') || [xs.getD i Str.empty].any (· == k'))
        congr 1
        by_cases e : k' = xs.getD i Str.empty
        · subst e; simp
        · have hb : (xs.getD i Str.empty == k') = false := by simpa [beq_iff_eq] using (fun h' : xs.getD i Str.empty = k' => e h'.symm)
          rw [decide_eq_false e]
          show false = ((xs.getD i Str.empty == k') || false)
          rw [hb]
          rfl
      · rfl
    refine wpAny_pure ⟨plainId_quiet PyProof.Rows.F.plain_set_update_loop _, ih (i + 1) _ (by omega) hlt (W.frame _ s' _ _ hst' (Nat.le_succ _) fun b hb o e => ?_) hSi fun s'' hm'' hS'' => ?_⟩
    · rw [hsb.2 b (fun h : b = S => hSf (by rw [← h]; exact hb))]; exact e
    · refine hR s'' (Moved.trans W.gtrans ((hm.mono hsub).then_heap (Nat.le_succ _) fun b o hb e => ?_) hm'') hS''
      rw [hsb.2 b (fun h : b = S => hb (by rw [h]; exact List.mem_cons_self))]; exact e
end
end DL
namespace DL
open PySem PySem.Spec PyProof.Rows
variable [Tbl]
section
variable {prog : Program} {w : World} {A : Around} {E : Value → Shared → Prop} {s : Shared}
abbrev setO (led : Bool) : Obj := { cls := .type "set", dict := none, data := .set #[] 0 (.fresh 0 0 led) }
theorem call_set_strs {l : Addr} {items : Array Value} {xs : List Str} {Q : Value → Shared → Prop} (hh : A.handled = none) (hl : s.heap.IsList l items) (hi : StrsAre items.toList xs) (hn1 : xs.length ≤ 60)
    (h : ∀ (h' : Heap) (tk : Nat), h'.SetOf (PySem.strKind prog w) s.heap.objs.size (fun k' => (xs.take items.size).any (· == k')) (cntS xs items.size) →
      (∀ b o, b < s.heap.objs.size → s.heap.get? b = some o → h'.get? b = some o) → Q (.ref s.heap.objs.size) { s with heap := h', toks := tk }) :
    wpAny (model prog w) A (call (.type "set") [.ref l]) Q E s := by
  obtain ⟨c, tl, hmro⟩ := PySem.F.called_set.mro
  have hmade := PySem.F.called_set.made
  have hsub := PySem.F.called_set.sub
  have h1 := PySem.F.called_set.notType
  have h2 := PySem.F.called_set.canCreate
  have hct := PySem.F.typeCall_set_1 (.ref l)
  refine wpAny_call (codeAny_of_tree ?_)
  show wpAny _ _ (callAny (.type "set") _) _ _ _
  refine wpAny_pure ⟨Code.quiet_builtin _ (by decide +kernel), codeAny_builtin PySem.F.entry_type_call ?_⟩
  rw [Around.under_plain (weight_type_call_type "set" [.ref l] []) rfl]
  repeat (any_goals (first | assumption | wp_step))
  refine codeAny_mono (code_set_new_1 (.ref l) (E := E) (Q₁ := fun obj s₁ => ∃ led : Bool, obj = .ref s.heap.objs.size ∧ s₁ = { s with heap := s.heap.push (setO led) }) fun led => ⟨led, rfl, rfl⟩) fun r s₁ hr => ?_
  rcases r with e | fl
  · exact hr
  cases fl with
  | ret obj =>
    obtain ⟨led, rfl, rfl⟩ := hr
    have hS : (s.heap.push (setO led)).get? s.heap.objs.size = some (setO led) := Heap.get?_push_size _ rfl
    have hT : Shared.TypeIs { s with heap := s.heap.push (setO led) } (.ref s.heap.objs.size) "set" := ⟨_, hS, rfl⟩
    have hli := PySem.F.called_set.init.lookup
    have hbi := PySem.F.called_set.init.bind (.ref s.heap.objs.size)
    repeat (any_goals (first | assumption | wp_step))
    refine codeAny_mono (codeAny_call_builtin (R := wants (fun r s₂ => r = .none ∧ Q (.ref s.heap.objs.size) s₂) E) PySem.F.called_set.init.plain PySem.F.entry_set_init (check_set_init_1 hT ?_)) fun r₂ s₂ hr₂ => ?_
    · obtain ⟨ol, hol, hcl, nl, hdl⟩ := hl
      obtain ⟨ocls, odict, odata, oslots⟩ := ol
      simp only at hcl hdl
      subst hcl
      subst hdl
      have hol' : (s.heap.push (setO led)).get? l = some { cls := .type "list", dict := odict, data := .seq items nl, slots := oslots } := Heap.get?_push_of_some _ hol
      have hl1 : (s.heap.push (setO led)).IsList l items := ⟨_, hol', rfl, nl, rfl⟩
      have hlS : l < s.heap.objs.size := Heap.lt_size hol
      have hz1 : (s.heap.push (setO led)).objs.size = s.heap.objs.size + 1 := Heap.size_push ..
      have q1 := PySem.F.sub_list_set
      have q2 := PySem.F.sub_list_frozenset
      have q3 : (Value.type "list" == Value.type "dict") = false := by decide
      unfold Builtin.«set.__init__» noKeywords Builtin.Frozenset.updateFrom
      generalize hPI : pyIter = PI
      wp_walk
      subst hPI
      refine wpAny_pyIter_list hl1 ?_
      refine wpAny_bind (wpAny_runValue ?_)
      have hsz : xs.length = items.size := by rw [← StrsAre.len_eq hi, Array.length_toList]
      have hneI : l ≠ (s.heap.push (setO led)).objs.size := by rw [hz1]; exact Nat.ne_of_lt (Nat.lt_succ_of_lt hlS)
      have hSf : s.heap.objs.size ∉ [(s.heap.push (setO led)).objs.size, l] := by
        rw [hz1]
        simp only [List.mem_cons, List.not_mem_nil, or_false, not_or]
        exact ⟨Nat.ne_of_lt (Nat.lt_succ_self _), Nat.ne_of_gt hlS⟩
      refine loopStrs ((Walks.list (by simp [hh]) _ l hneI items).toS) s.heap.objs.size hSf xs hsz (by omega) (fun i v hv => SS.strs_at hi i v (by rw [Array.getElem?_toList]; exact hv)) (items.size - 0) 0 _ (by omega) (Nat.zero_le _)
        ⟨⟨_, Heap.get?_push_size _ rfl, rfl, rfl⟩, (hl1.push _)⟩ ?hS0 fun s' hm hS' => ?hR
      case hS0 =>
        have g0 : ((s.heap.push (setO led)).push { cls := .type "list_iterator", data := .fields #[.ref l, .int 0 0] }).get? s.heap.objs.size = some { cls := .type "set", dict := none, data := .set #[] 0 (.fresh 0 0 led) } := Heap.get?_push_of_some _ hS
        exact SetOf_congr ((setObjOf_fresh (knd := PySem.strKind prog w) led).setOf g0 (by unfold scanBound; omega)) (fun _ => rfl) rfl
      case hR =>
        rw [Moved.eq_with hm]
        refine wpAny_pure ?_
        refine wpAny_pure ⟨rfl, h s'.heap s'.toks hS' fun b o hb e => hm.heap b o ?_ (Heap.get?_push_of_some _ (Heap.get?_push_of_some _ e))⟩
        simp only [List.mem_cons, List.not_mem_nil, or_false, not_or]
        exact ⟨Nat.ne_of_lt hb, by rw [hz1]; exact Nat.ne_of_lt (Nat.lt_succ_of_lt hb)⟩
    · rcases r₂ with e | fl₂
      · exact hr₂
      cases fl₂ with
      | ret r =>
        obtain ⟨rfl, hq⟩ := hr₂
        repeat (any_goals (first | assumption | wp_step))
      | _ => exact hr₂.elim
  | _ => exact hr.elim
end
end DL
namespace DL
open PySem PySem.Spec PyProof.Rows L2
variable [Tbl]
/-! len(set(list of texts)) -/
def tLenSetN (K : PySem.W.Frag) (ta : TE) : TE := fun σ H Q => ta σ H fun x H1 => ∃ (l : Addr) (xs : List Str), x = V.ref l ∧ SqL K H1 l (xs.map V.str) ∧ xs.length ≤ 60 ∧ Q (.int (cntS xs xs.length)) H1
theorem strs_of_vals : ∀ {xs : List Str} {us : List Value}, Vals (xs.map V.str) us → StrsAre us xs
  | [], _, .nil => .nil
  | x :: xs, _ :: us, .cons r t => by
    obtain ⟨k, rfl⟩ := r
    exact .cons x k (strs_of_vals t)
section
variable {X : Cx}
theorem pe_lenSetN {a : Expr} {ta : TE} {p p2 q pos : Pos} (hc : X.calm = true) (hg : Gl X "len") (hm : X.mg "len" = none) (hg2 : Gl X "set") (hm2 : X.mg "set" = none) (ha : PE X a ta)
    (na : starEach [a] X.env = (false, eval a X.env) :: starEach [] X.env := by rfl) : PE X (.Call (.Name "len" p) [.Call (.Name "set" p2) [a] [] q] [] pos) (tLenSetN X.K ta) := by
  refine ⟨fun pins s σ H Q I h => ?_⟩
  refine Call_ (ld_blt I hg hm PySem.boot_len ?_)
  refine callWith_builtin1 (args_cons ?_ rfl) rfl rfl
  refine Call_ (ld_blt I hg2 hm2 boot_set ?_)
  refine callWith_type1 (args_cons (thn (ha.run pins s σ H _ I h) fun v s1 ⟨x, H1, I1, r1, q1⟩ => args_nil ?_) na) na rfl
  obtain ⟨l, xs, rfl, hq, h1, q1⟩ := q1
  cases r1
  obtain ⟨its, r, pl, hz⟩ := I1.list hq
  have hl : its.toArray.size = xs.length := by rw [List.size_toArray, ← r.length, List.length_map]
  refine call_set_strs (I1.ok.hd hc) pl.isList (xs := xs) (by simpa using strs_of_vals r) h1 fun h' tk hS hk => ?_
  rw [hl] at hS
  refine args_nil ?_
  obtain ⟨o, es, ep, t, ho, hex, hd, _, _, _, hf, hn⟩ := hS
  have I2 : Inv X pins σ H1 { s1 with heap := h', toks := tk } := I1.kept fun b o e => hk b o (Heap.lt_size e) e
  have hle := cntS_le xs xs.length
  exact call_len_set ho hex hd hf (by rw [hn]; omega) ⟨.int (cntS xs xs.length), H1, I2.tok _, ⟨_, by rw [hn]⟩, q1⟩
end
section
variable {K : PySem.W.Frag} {E : XK} {te : TE} {wo : WO}
def isStrs : List D → Option (List Str)
  | [] => some []
  | .str x :: r => (isStrs r).map (x :: ·)
  | _ :: _ => none
theorem isStrs_map : ∀ xs : List Str, isStrs (xs.map .str) = some xs
  | [] => rfl
  | x :: r => by
    rw [List.map_cons, isStrs, isStrs_map r]
    rfl
theorem isStrs_rep {F : Hp} : ∀ {ys : List V} {l : List D} {xs : List Str}, RepA K F ys l → isStrs l = some xs → ys = xs.map V.str
  | _, _, _, .nil, e => by
    cases e
    rfl
  | _, _, xs, .cons (v := v) (d := d) h r, e => by
    cases h with
    | str x =>
      rw [isStrs] at e
      cases h2 : isStrs _ with
      | none =>
        rw [h2] at e
        cases e
      | some zs =>
        rw [h2] at e
        cases e
        rw [isStrs_rep r h2]
        rfl
    | _ => cases e
def wLenSet (wo : WO) : WE := fun env er q => wo env er fun l => ∃ xs, isStrs l = some xs ∧ xs.length ≤ 60 ∧ q (.int (cntS xs xs.length))
theorem sim_lenSet (h : SimL K E te wo) : SimE K E (tLenSetN K te) (wLenSet wo) := fun B env F σ H Q er q a l w k =>
  h B env F σ H _ er _ a l w fun p ys ds F1 H1 s1 hs r1 ⟨xs, e, hz, hq⟩ => by
    have ey := isStrs_rep r1 e
    subst ey
    exact ⟨p, xs, rfl, hs, hz, k _ _ F1 H1 s1 (.int _) hq⟩
theorem cntS_same {xs : List Str} (x : Str) (h : ∀ y ∈ xs, y = x) : ∀ i, 0 < i → i ≤ xs.length → cntS xs i = 1
  | 0, h0, _ => absurd h0 (Nat.lt_irrefl 0)
  | 1, _, h1 => by
    unfold cntS
    simp [cntS]
  | i + 2, _, h1 => by
    have ih := cntS_same x h (i + 1) (by omega) (by omega)
    unfold cntS
    rw [ih, if_pos]
    have hi : i + 1 < xs.length := by omega
    have e0 : xs[0]'(by omega) = x := h _ (List.getElem_mem _)
    have e1 : xs.getD (i + 1) Str.empty = x := by
      rw [List.getD_eq_getElem?_getD, List.getElem?_eq_getElem hi]
      exact h _ (List.getElem_mem _)
    rw [e1]
    refine List.any_eq_true.mpr ⟨xs[0]'(by omega), ?_, by rw [e0]; simp⟩
    rw [List.mem_take_iff_getElem]
    exact ⟨0, by omega, rfl⟩
end
end DL
/-! DLP: two own lists at once; an item that is taken out of one list and put behind another. -/
namespace DL
open PySem L2
variable [Tbl]
section
variable {K : PySem.W.Frag} {E : XK} {ta tb te : TE} {wa wb we : WE} {i j : Nat}
theorem RepA.erase {F : Hp} : ∀ {v : List V} {d : List D} (n : Nat), RepA K F v d → RepA K F (v.eraseIdx n) (d.eraseIdx n)
  | _, _, _, .nil => by
    rw [List.eraseIdx_nil, List.eraseIdx_nil]
    exact .nil
  | _, _, 0, .cons _ r => r
  | _, _, n + 1, .cons h r => .cons h (RepA.erase n r)
theorem sims_tupOO {wo wp : WO} (ha : SimO K E ta wo) (hb : SimO K E tb wp) (hij : i ≠ j) : SimS K E (tAsg (tTup (tCons ta (tCons tb tNil))) (gTup K 2 (gCons (gName i) (gCons (gName j) gNil)))) (sParOO i j wo wp) := fun B Dd n L env F σ H a w =>
  ha B env F σ H _ n.er _ a L.er w fun p xs l F1 H1 s1 hp h1 hf r1 w1 => hb B env F1 σ H1 _ n.er _ (a.step s1) L.er w1 fun p2 ys m F2 H2 s2 hp2 h2 hf2 r2 w2 =>
    ⟨by show 2 ≤ sizeLine; decide, fun T hT => ⟨T, _, rfl, .inl (.inl upd_same), rfl, _, _, rfl, _, _, rfl, rfl, by
      have s3 : Stp F2 F2 H2 (upd H2 T (.tup [.ref p, .ref p2])) := Stp.fresh s2.fh hT
      have s := (s1.trans s2).trans s3
      have g1 := s2.hh.get h1
      have f1 := s2.nw p hf ⟨_, h1, trivial⟩
      have hne : p ≠ p2 := fun z => by
        rw [z] at h1
        exact hp2.lst h1 trivial
      have a1 := a.setNew (i := i) s hp (by rw [upd_ne (ne_of_none g1 hT)]; exact g1) f1 (RepA.mono s2.ff r1)
      refine L.nx _ F2 _ _ (a1.setMine (sv := .own m) trivial ⟨p2, ys, rfl, by rw [upd_ne (ne_of_none h2 hT)]; exact h2, r2, hf2, a.st.hh.fr _ (s1.hh.fr _ hp2)⟩ fun k t hk e mt z => ?_) w2
      rcases get_set e with ⟨rfl, rfl⟩ | ⟨hki, e'⟩
      · rcases get_set z with ⟨_, z⟩ | ⟨z, _⟩
        · cases z
          exact hne rfl
        · exact z rfl
      · rw [List.getElem?_set_ne (fun y => hki y.symm)] at z
        exact (a.sl k t e').there mt z (s1.hh.fr _ hp2)⟩⟩
def sAppPop (i j : Nat) (we : WE) : WS := fun n env => match env[i]?, env[j]? with
  | some (.own l), some (.own m) => we env n.er fun d => match d with
    | .int k => 0 ≤ k ∧ k < m.length ∧ m.length < 2 ^ 62 ∧ l.length < sizeLine ∧ ∃ x, m[k.toNat]? = some x ∧ n.nx ((env.set j (.own (m.eraseIdx k.toNat))).set i (.own (l ++ [x])))
    | _ => False
  | _, _ => False
theorem sims_appPop (hij : i ≠ j) (h : SimE K E te we) : SimS K E (tDrop (tBM K "list" rAppend (tVar i) (tCons (tBM K "list" rPopAt (tVar j) (tCons te tNil)) tNil))) (sAppPop i j we) := fun B Dd n L env F σ H a w => by
  unfold sAppPop at w
  split at w
  · rename_i l m e1 e2
    obtain ⟨p, xs, ex, h1, r1, f1, b1⟩ := a.sl i _ e1
    obtain ⟨p2, ys, ey, h2, r2, f2, b2⟩ := a.sl j _ e2
    have hne : p ≠ p2 := fun z => hij (a.inj i j _ _ p e1 e2 trivial trivial ex (by rw [ey, z]))
    refine ⟨.ref p, ex, .inl ⟨rfl, xs, SqL.of h1⟩, .ref p2, ey, .inl ⟨rfl, ys, SqL.of h2⟩, h B env F σ H _ n.er _ a L.er w fun x d F1 H1 s1 rx w1 => ?_⟩
    cases rx with
    | int k =>
      obtain ⟨k0, k1, k2, k3, z, ez, w2⟩ := w1
      have g1 := s1.hh.get h1
      have g2 := s1.hh.get h2
      obtain ⟨y, hy, ry⟩ := r2.getD ez
      have hl : ys.length = m.length := r2.len
      have hx : seqIndex? k ys.length = some k.toNat := by
        unfold seqIndex?
        simp
        omega
      refine ⟨p2, ys, k, k.toNat, y, rfl, rfl, g2, by omega, by omega, hx, hy, ?_⟩
      have nw1 := s1.nw p f1 ⟨_, h1, trivial⟩
      have nw2 := s1.nw p2 f2 ⟨_, h2, trivial⟩
      refine ⟨p, xs, y, rfl, rfl, by rw [upd_ne hne]; exact g1, by rw [r1.len]; exact k3, ?_⟩
      have a1 := (a.step s1).change e2 trivial ey g2 trivial nw2 b2 (RepA.erase k.toNat (RepA.mono s1.ff r2))
      have e1' : (env.set j (.own (m.eraseIdx k.toNat)))[i]? = some (.own l) := by
        rw [List.getElem?_set_ne (fun z => hij z.symm)]
        exact e1
      exact L.nx _ F1 _ _ (a1.change e1' trivial ex (u := .lst xs) (by rw [upd_ne hne]; exact g1) trivial nw1 b1 ((RepA.mono s1.ff r1).app (.one (ry.mono s1.ff)))) w2
    | _ => exact w1.elim
  · exact w.elim
end
end DL
namespace DL
open PySem L2
variable [Tbl]
section
variable {K : PySem.W.Frag} {E : XK} {ta tb te : TE} {wa wb we : WE} {i j : Nat}
/-- one's own list in an operation whose answer holds no objects -/
def atomD : D → Prop
  | .bl _ => True
  | .int _ => True
  | .str _ => True
  | .non => True
  | _ => False
theorem rep_atom {F F' : Hp} {x : V} {d : D} (h : Rep K F x d) (a : atomD d) : Rep K F' x d := by
  cases h with
  | bl b => exact .bl b
  | int i => exact .int i
  | str s => exact .str s
  | non => exact .non
  | _ => exact a.elim
def wOpOwn (f : D → D → (D → Prop) → Prop) (i : Nat) (wb : WE) : WE := fun env er q => match env[i]? with
  | some (.own l) => wb env er fun y => f (.lst l) y fun d => atomD d ∧ q d
  | _ => False
theorem sim_opOwn {r : R2} {f : D → D → (D → Prop) → Prop} (hr : Sim2 K r f) (hb : SimE K E tb wb) : SimE K E (tOp r (tVar i) tb) (wOpOwn f i wb) := fun B env F σ H Q er q a l w k => by
  unfold wOpOwn at w
  split at w
  · rename_i ls e
    obtain ⟨p, xs, ex, h1, r1, f1, b1⟩ := a.sl i _ e
    refine ⟨.ref p, ex, hb B env F σ H _ er _ a l w fun y d F1 H1 s1 ry w1 => ?_⟩
    have g1 := s1.hh.get h1
    have nw := s1.nw p f1 ⟨_, h1, trivial⟩
    have sm : Same F1 (upd F1 p (.lst xs)) := same_new nw
    have fh : Same (upd F1 p (.lst xs)) H1 := fun b u z => by
      by_cases hb : b = p
      · subst hb
        rw [upd_same] at z
        rw [g1]
        exact z
      · rw [upd_ne hb] at z
        exact s1.fh b u z
    refine hr _ H1 (.ref p) y (.lst ls) d Q (fun d => atomD d ∧ q d) ⟨fh, s1.fh.tb, nt_upd s1.fh.nt trivial⟩ (.lst upd_same (RepA.mono (s1.ff.trans sm) r1)) (ry.mono sm) w1 fun x d2 F2 H2 s2 r2 ⟨at2, q2⟩ => ?_
    refine k x d2 (fun b => if b = p then none else F2 b) H2 (s1.trans ⟨fun b u z => ?_, s2.hh, ⟨fun b u z => ?_, s2.fh.tb, fun b u z => s2.fh.nt b u (by
      by_cases hb : b = p
      · rw [show (if b = p then none else F2 b) = none from if_pos hb] at z
        cases z
      · rw [show (if b = p then none else F2 b) = F2 b from if_neg hb] at z
        exact z)⟩, fun b z1 z2 => ?_⟩) (rep_atom r2 at2) q2
    · have hb : b ≠ p := fun y => by
        rw [y, nw] at z
        cases z
      show (if b = p then none else F2 b) = some u
      rw [if_neg hb]
      exact s2.ff b u (by rw [upd_ne hb]; exact z)
    · by_cases hb : b = p
      · rw [show (if b = p then none else F2 b) = none from if_pos hb] at z
        cases z
      · rw [show (if b = p then none else F2 b) = F2 b from if_neg hb] at z
        exact s2.fh b u z
    · show (if b = p then none else F2 b) = none
      by_cases hb : b = p
      · exact if_pos hb
      · rw [if_neg hb]
        exact s2.nw b (by rw [upd_ne hb]; exact z1) z2
  · exact w.elim
/-- l.index(k) of ints -/
def dIndex : List D → D → (D → Prop) → Prop := fun l d q => ∃ (ns : List Int) (k : Int) (j : Nat), l = ns.map .int ∧ d = .int k ∧ ns[j]? = some k ∧ (∀ m, m < j → ns[m]? ≠ some k) ∧ q (.int (j : Nat))
def wIndex (wo : WO) (we : WE) : WE := fun env er q => wo env er fun l => we env er fun d => dIndex l d q
theorem sim_index {wo : WO} (ho : SimL K E ta wo) (h : SimE K E te we) : SimE K E (tBM K "list" (rIndex K) ta (tCons te tNil)) (wIndex wo we) := fun B env F σ H Q er q a l w k =>
  ho B env F σ H _ er _ a l w fun p xs ls F1 H1 s1 hs r1 w1 => ⟨.inl ⟨rfl, xs, hs⟩, h B env F1 σ H1 _ er _ (a.step s1) l w1 fun x d F2 H2 s2 rx ⟨ns, z, j, e1, e2, h1, h2, hq⟩ => by
    subst e1
    subst e2
    have ex := r1.ints_inv
    subst ex
    cases rx
    refine ⟨p, ns.map .int, .int z, j, .int z, rfl, rfl, s2.hh.seq hs, rfl, ?_, by rw [List.getElem?_map, h1]; rfl, by simp [eqV], fun m z' hm hz => ?_, k _ _ F2 H2 (s1.trans s2) (.int _) hq⟩
    · rw [List.all_eq_true]
      intro y hy
      obtain ⟨n, _, rfl⟩ := List.mem_map.mp hy
      rfl
    · rw [List.getElem?_map] at hz
      cases e3 : ns[m]? with
      | none =>
        rw [e3] at hz
        cases hz
      | some n =>
        rw [e3] at hz
        cases hz
        have : n ≠ z := fun y => h2 m hm (by rw [e3, y])
        simp [eqV, this]⟩
end
end DL
namespace DL
open PySem L2
variable [Tbl]
section
variable {K : PySem.W.Frag} {E : XK} {ta tb te : TE} {wa wb we : WE} {i j : Nat}
def sParEO (i j : Nat) (wa : WE) (wp : WO) : WS := fun n env => wa env n.er fun y => wp env n.er fun l => n.nx ((env.set i (.d y)).set j (.own l))
theorem sims_tupEO {wp : WO} (ha : SimE K E ta wa) (hb : SimO K E tb wp) : SimS K E (tAsg (tTup (tCons ta (tCons tb tNil))) (gTup K 2 (gCons (gName i) (gCons (gName j) gNil)))) (sParEO i j wa wp) := fun B Dd n L env F σ H a w =>
  ha B env F σ H _ n.er _ a L.er w fun y e F1 H1 s1 r1 w1 => hb B env F1 σ H1 _ n.er _ (a.step s1) L.er w1 fun p xs l F2 H2 s2 hp h1 hf r2 w2 =>
    ⟨by show 2 ≤ sizeLine; decide, fun T hT => ⟨T, _, rfl, .inl (.inl upd_same), rfl, _, _, rfl, _, _, rfl, rfl, by
      have s3 : Stp F2 F2 H2 (upd H2 T (.tup [y, .ref p])) := Stp.fresh s2.fh hT
      exact L.nx _ F2 _ _ (((a.step s1).set (i := i) r1).setNew (s2.trans s3) hp (by rw [upd_ne (ne_of_none h1 hT)]; exact h1) hf r2) w2⟩⟩
theorem sims_parEO {wp : WO} (ha : SimE K E ta wa) (hb : SimO K E tb wp) : SimS K E (tPar i j (tCons ta (tCons tb tNil))) (sParEO i j wa wp) := fun B Dd n L env F σ H a w =>
  ha B env F σ H _ n.er _ a L.er w fun y e F1 H1 s1 r1 w1 => hb B env F1 σ H1 _ n.er _ (a.step s1) L.er w1 fun p xs l F2 H2 s2 hp h1 hf r2 w2 =>
    ⟨y, .ref p, rfl, L.nx _ F2 _ H2 (((a.step s1).set (i := i) r1).setNew s2 hp h1 hf r2) w2⟩
end
end DL
/-! DLR1: an except clause with three classes and a name; defs called with the exception that is handled. -/
namespace DL
open PySem L2 PySem.Spec PyProof.Rows
theorem fly_keep {B : Heap} {l : List Env} {a : Addr} {Z : Obj → Prop} {h g : Heap} (f : HandSPX.FlyingZ B l a Z h) (k : ∀ b o, h.get? b = some o → g.get? b = some o) : HandSPX.FlyingZ B l a Z g := by
  obtain ⟨f1, f2, f3, oe, vs, T, oT, ts, g1, g2, g3, g4, g5, g6, g7, g8, g9⟩ := f
  exact ⟨fun b o z => k b o (f1 b o z), f2, f3.of_keeps fun b o z _ => ⟨o, k b o z, rfl⟩, oe, vs, T, oT, ts, k _ _ g1, g2, g3, g4, g5, g6, k _ _ g7, g8, g9⟩
/-- what the clause wishes of an exception of the body; it always takes it -/
def wAs3 (K : PySem.W.Frag) (cs : List Value) (i : Nat) (ts : Addr → Value → Option Addr → TS) (D : Ends) : WX := fun cls d σ H =>
  PySem.W.exmAny K cls cs = some true ∧ ∀ a, H a = none →
    ts a cls d ⟨fun σ1 H1 => D.nx (σ1.set i none) H1, D.rt, fun σ1 H1 => D.bk (σ1.set i none) H1, fun σ1 H1 => D.ct (σ1.set i none) H1⟩ (σ.set i (some (.ref a))) H
/-- noted, landed, handed to the clauses -/
def lookE (X : Cx) (hd : List ExceptHandler) (P : Flow → Shared → Prop) : Value → Shared → Prop := fun e t => wpAny (model X.prog X.w) X.A (noteFrame e X.env) (fun _ t2 => wpAny (model X.prog X.w) X.A (setFlight e none) (fun _ t3 => wpAny (model X.prog X.w) X.A (handleBy e X.env hd) P X.xe t3) X.xe t2) X.xe t
theorem ps_try3 {X : Cx} {x1 x2 x3 n : Str} {c1 c2 c3 : Value} {i kk : Nat} {body suite : List Stmt} {b0 : Stmt} {p1 p2 p3 tp hp tpos : Pos} {tb : WX → TS} {ts : Addr → Value → Option Addr → TS}
    (stk : X.stack = X.env :: X.outer) (fr : X.env.frame = some X.env.locals) (nd : X.N.Nodup) (ix : X.N[i]? = some n) (loc : X.env.kindOf n = some .local) (n1 : Names X x1 c1) (n2 : Names X x2 c2) (n3 : Names X x3 c3)
    (hbody : ∀ (W : WX) (pn : List (Addr × Obj)) (xe : Value → Shared → Prop), Takes (X.tr pn xe) W → PassesOwn (model X.prog X.w) X.A X.env xe → PSs (X.tr pn xe) body (tb W))
    (hsuite : ∀ (a : Addr) (oe : Obj) (cls : Value) (d : Option Addr) (pn : List (Addr × Obj)), Zc cls d oe → (∃ vs, oe.data = .fields vs) → PSs (X.suite a ((a, oe) :: pn)) (b0 :: suite) (ts a cls d)) :
    PS X (.Try body [.ExceptHandler (some (.Tuple [.Name x1 p1, .Name x2 p2, .Name x3 p3] kk tp)) (some n) (b0 :: suite) hp] [] [] tpos) (fun D σ H => tb (wAs3 X.K [c1, c2, c3] i ts D) D σ H) := by
  constructor
  intro pins s0 σ0 H0 D I0 hw
  have ok := I0.ok
  have afr : X.A.frames = some (X.env :: X.outer) := ok.frames.trans (by rw [stk])
  refine wpAny_Try_except ?_
  have tk : Takes (X.tr (X.pn ++ pins) (lookE X [.ExceptHandler (some (.Tuple [.Name x1 p1, .Name x2 p2, .Name x3 p3] kk tp)) (some n) (b0 :: suite) hp] (SP X pins D))) (wAs3 X.K [c1, c2, c3] i ts D) := by
    rintro u t1 ⟨a, B, tI, pins1, σ1, H1, cls, d, rfl, J0, nb, up, sky, na, os, ag, ex, yes⟩
    have J : Inv X pins σ1 H1 tI := J0.ofTry ok
    rw [stk] at sky
    refine Sky.land Zc.steady afr fr sky fun h3 fl up3 => ?_
    obtain ⟨o3, v3, he3, hz3, hd3⟩ := fl.there
    have out : ∀ {h : Heap} {o : Obj} {v : Array Value}, h.FunFrames B (X.env :: X.outer) → h.get? a = some o → o.data = .fields v → a ∉ frs (X.env :: X.outer) := fun ff e dd hm => by
      obtain ⟨_, o1, e1, nf⟩ := ff.mem hm
      cases e.symm.trans e1
      exact nf _ dd
    have nfr := out fl.2.2.1 he3 hd3
    have aL : a ≠ X.env.locals := fun z => nfr (List.mem_filterMap.mpr ⟨X.env, List.mem_cons_self, fr.trans (by rw [z])⟩)
    have aF : a ∉ X.fs := fun hm => by
      obtain ⟨e, he, y⟩ := List.mem_filterMap.mp hm
      exact nfr (List.mem_filterMap.mpr ⟨e, List.mem_cons_of_mem _ he, y⟩)
    have J3 : Inv X pins σ1 H1 { t1 with heap := h3 } := J.landed nb fl.1 (up.trans up3) os ag
    have S3 := J3.suite he3 hd3 na aL aF
    refine wpAny_handleBy_cons (codeAny_handlers_test ?_) (fun z => by cases z)
    have ld : ∀ {x : Str} {c : Value} {np : Pos} {Q : Value → Shared → Prop} {E : Value → Shared → Prop}, Names X x c → Q c { t1 with heap := h3 } → wpAny (model X.prog X.w) (X.A.mark (some (.ref a))) (eval (.Name x np) X.env) Q E { t1 with heap := h3 } := fun nm q => by
      obtain ⟨g1, g2, g3 | ⟨g3, g4, g5⟩⟩ := nm
      · exact ld_glob (X := X.suite a ((a, o3) :: (X.pn ++ pins))) S3 g1 g3 q g2
      · exact ld_blt (X := X.suite a ((a, o3) :: (X.pn ++ pins))) S3 g1 g3 g4 q g5 g2
    refine wpAny_Tuple (wpAny_items_cons (ld n1 (wpAny_items_cons (ld n2 (wpAny_items_cons (ld n3 (wpAny_items_nil ⟨by size_fits, ?_⟩)))))))
    obtain ⟨g, hg⟩ : ∃ g, g = h3.push { cls := .type "tuple", data := .seq [c1, c2, c3].toArray } := ⟨_, rfl⟩
    have kp : ∀ b o, h3.get? b = some o → g.get? b = some o := fun b o e => by
      rw [hg]
      exact Heap.get?_push_of_some _ e
    have flg := fly_keep fl kp
    have upg : tI.heap.UpToSlots g := (up.trans up3).trans (Heap.UpToSlots.of_keeps kp)
    have Jg : Inv X pins σ1 H1 { t1 with heap := g } := J.landed nb flg.1 upg os ag
    have LT : PySem.W.Looks (model X.prog X.w) g (typeOf (.ref a)) cls := fun A Q E s k q => wpAny_typeOf_ref (k _ _ (kp _ _ he3)) (by rw [hz3.1]; exact q)
    have tup : g.get? h3.objs.size = some { cls := .type "tuple", data := .seq [c1, c2, c3].toArray } := by
      rw [hg]
      exact Heap.get?_push_size h3 rfl
    rw [← hg]
    refine (PySem.W.exm_tup3 Jg.kIn LT tup ex).here (codeAny_handlers_suite_as ?_)
    refine HandSPX.lands_againZ flg fun h4 fl4 up4 => ?_
    have J4 : Inv X pins σ1 H1 { t1 with heap := h4 } := J.landed nb fl4.1 (upg.trans up4) os ag
    obtain ⟨o4, v4, he4, hz4, hd4⟩ := fl4.there
    refine store_ok (X := X.suite a ((a, o4) :: (X.pn ++ pins))) (v := .ref a) (J4.suite he4 hd4 na aL aF) nd ix (.inl loc) rfl (fun t5 S5 => ?_) (.inr loc)
    have go := (hsuite a o4 cls d (X.pn ++ pins) hz4 ⟨_, hd4⟩).run [] t5 _ H1 _ S5 (yes a na)
    refine wpAny_mono go (fun f t6 hf => ?_) (fun _ _ z => False.elim z)
    have fin : ∀ {σ6 : L2.St} {H6 : Hp} {Q : Shared → Prop}, Inv (X.suite a ((a, o4) :: (X.pn ++ pins))) [] σ6 H6 t6 → (∀ t7, Inv X pins (σ6.set i none) H6 t7 → Q t7) →
        wpAny (model X.prog X.w) X.A (do bindName X.env n .none; unbindBehindTheSuite X.env n hp) (fun _ t7 => Q t7) X.xe t6 := fun S6 hq => gone_ok (S6.unsuite ok) nd ix loc hq
    cases f with
    | next =>
      obtain ⟨σ6, H6, S6, q6⟩ := hf
      exact fin S6 fun t7 J7 => ⟨_, _, J7, q6⟩
    | brk =>
      obtain ⟨σ6, H6, S6, q6⟩ := hf
      exact fin S6 fun t7 J7 => ⟨_, _, J7, q6⟩
    | cont =>
      obtain ⟨σ6, H6, S6, q6⟩ := hf
      exact fin S6 fun t7 J7 => ⟨_, _, J7, q6⟩
    | ret u =>
      obtain ⟨v6, σ6, H6, S6, r6, q6⟩ := hf
      exact fin S6 fun t7 J7 => ⟨_, _, _, J7, r6, q6⟩
  refine wpAny_mono ((hbody _ _ _ tk PassesOwn.looking).run [] s0 σ0 H0 D (I0.toTry _) hw) (fun f t1 h1 => ?_) fun e t h => h
  cases f with
  | next =>
    obtain ⟨σ1, H1, J, q⟩ := h1
    exact wpAny_execs_nil ⟨σ1, H1, J.ofTry ok, q⟩
  | brk =>
    obtain ⟨σ1, H1, J, q⟩ := h1
    exact ⟨σ1, H1, J.ofTry ok, q⟩
  | cont =>
    obtain ⟨σ1, H1, J, q⟩ := h1
    exact ⟨σ1, H1, J.ofTry ok, q⟩
  | ret u =>
    obtain ⟨v, σ1, H1, J, r, q⟩ := h1
    exact ⟨v, σ1, H1, J.ofTry ok, r, q⟩
/-! ### a def called with the exception that is handled -/
structure FnP (P : Program) (w : World) (K : PySem.W.Frag) (mg : Str → Option Value) (base : Heap) (CX : CXT) (k : Nat) (f : Addr) (fd : FuncData) (ps : List Str) (sp : Addr × Obj → Sp) : Prop where
  len : ∀ p vs H Q E, sp p vs H Q E → vs.length = ps.length
  run : ∀ (A : Around) (outer : List Env) (s : Shared) (H : Hp) (args : Args) (us : List Value) (vs : List V) (Q : VK) (E : XK) (p : Addr × Obj), L2H.RoomH k A → A.guards = some [] → L2H.PinOk outer H s p → Env0 P w K mg base A outer s H →
    BindsTo s fd args (ps.zip us) → Vals vs us → sp p vs H Q E → codeAny (model P w) A (.call (.ref f) args) (CR CX outer P w H s Q E) s
theorem fnP_of {CX : CXT} {P : Program} {w : World} {K : PySem.W.Frag} {mg : Str → Option Value} {base : Heap} {k : Nat} {x qual : Str} {st : Stmt} {f : Addr} {fd : FuncData} {N ps : List Str} {sp : Addr × Obj → Sp} (Fn : Fun K x qual st f fd) (sc : FnScope N ps (defScope st))
    (len : ∀ p vs H Q E, sp p vs H Q E → vs.length = ps.length)
    (hb : ∀ (cdv : Value) (A : Around) (outer : List Env) (s : Shared) (H : Hp) (vs : List V) (Q : VK) (E : XK) (p : Addr × Obj), L2H.RoomH k (A.deeper (envOfC qual (defScope st) s.heap.objs.size f cdv)) → A.guards = some [] → sp p vs H Q E →
      ∃ t, PSs (L2H.cxH CX P w K mg base N qual (defScope st) f cdv A outer s H E p) (defBody st) t ∧ t { nx := fun _ H1 => Q .non H1, rt := Q } (L2.start N vs) H) :
    FnP P w K mg base CX (k + 1) f fd ps sp := by
  refine ⟨len, ?_⟩
  intro A outer s H args us vs Q E p room hgd pin e0 bd r hsp
  obtain ⟨oc, od, kV, doc, pm, an, cdv, ct, osl, rfl, lk, hcd⟩ := Fn.ex
  have ln := len _ _ _ _ _ hsp
  have old : ∀ b o, base.get? b = some o → s.heap.get? b = some o := fun b o e => (e0.bs b o e).1
  have kinds : ∀ y ∈ ps.zip us, (defScope st).names.lookup y.1 = some .local ∨ ((defScope st).names.lookup y.1 = some .cell ∧ ((cellsFrom (s.heap.objs.size + 1) (defScope st).names []).lookup y.1).isSome = true) := by
    rintro ⟨n, v⟩ hy
    have := sc.par n (List.of_mem_zip hy).1
    exact this.imp id fun q => ⟨q, PySem.W.cellsFrom_some _ _ _ (.inl q)⟩
  have KX : K.In s.heap := e0.mod.kin.keeps old
  refine codeAny_call_function room.depth (KX _ _ lk) rfl sc.co sc.gen rfl (PySem.W.codeRec_of KX hcd) (bd _ _ _ _ (wpAny_newFunctionEnv_cells sc.kind kinds ?_))
  rintro env rfl t1 inc
  refine ⟨(e0.mod.nolimit.keeps old).keeps inc.toInCall.keep, codeAny_func ?_⟩
  obtain ⟨t, ht, ok⟩ := hb cdv A outer s H vs Q E p (room.deeper _) hgd hsp
  have J : Inv (L2H.cxH CX P w K mg base N qual (defScope st) f cdv A outer s H E p) [] (L2.start N vs) H t1 := L2H.inv_startH sc pin e0 ln r inc
  refine wpAny_mono (ht.run [] t1 _ H _ J ok) (fun fl t2 q => ?_) (fun _ _ q => q)
  have back : ∀ {σ2 : L2.St} {H2 : Hp} {v : V} {u : Value}, Inv (L2H.cxH CX P w K mg base N qual (defScope st) f cdv A outer s H E p) [] σ2 H2 t2 → RelV v u → Q v H2 → CE outer P w H s Q u t2 := fun J rv q => ⟨_, _, J.os, J.bare, J.base, J.hok, rv, q⟩
  cases fl with
  | next =>
    obtain ⟨_, _, J2, q2⟩ := q
    exact back (v := .non) (u := .none) J2 rfl q2
  | ret u =>
    obtain ⟨_, _, _, J2, rv, q2⟩ := q
    exact back J2 rv q2
  | brk =>
    obtain ⟨_, _, _, q2⟩ := q
    exact q2.elim
  | cont =>
    obtain ⟨_, _, _, q2⟩ := q
    exact q2.elim
section
variable {X : Cx} {CX : CXT} {k : Nat} {f : Addr} {fd : FuncData} {ps : List Str} {sp : Addr × Obj → Sp} {E : XK} {x : Str} {q pos : Pos} {e : Expr} {es : List Expr} {t : TA} {p : Addr × Obj}
def tCallP (sp : Sp) (E : XK) (t : TA) : TE := fun σ H Q => t σ H fun vs H1 => sp vs H1 Q E
theorem pe_callP (F : FnP X.prog X.w X.K X.mg X.base CX k f fd ps sp) (hr : L2H.RoomH k X.A) (hgd : X.A.guards = some []) (hp : p ∈ X.pn) (hg : Gl X x) (hm : X.mg x = some (.ref f)) (hk : PySem.W.keepIn X.K (.ref f) = true) (hb : Binds X.K fd ps []) (hx : Passes CX X E)
    (ha : PA X (e :: es) t) (hdb : (x == ("__debug__" : Str)) = false := by decide) (he : starEach (e :: es) X.env = (false, eval e X.env) :: starEach es X.env := by rfl) (hpl : (backTo pos (starEach es X.env)).any (·.1) = false := by rfl) :
    PE X (.Call (.Name x q) (e :: es) [] pos) (tCallP (sp p) E t) := ⟨fun pins s σ H Q I h => by
  refine wpAny_Call_Name_kw (ld_glob I hg hm (PySem.W.callWith_K (h₀ := X.base) I.ok.mod.kin hk (thn (ha.run pos pins s σ H _ I h) fun us t1 hv => ?_) he hpl) hdb)
  obtain ⟨vs, H1, I1, r, q1⟩ := hv
  refine ⟨I1.kIn, ?_⟩
  have l1 : us.length = ps.length := by rw [← r.length]; exact F.len _ _ _ _ _ q1
  have b1 := hb t1 us I1.kIn (by rw [List.append_nil]; exact l1)
  rw [List.append_nil] at b1
  have pk := I1.pin p (List.mem_append_left _ hp)
  have pin : L2H.PinOk X.stack H1 t1 p := ⟨pk.1, pk.2.1, fun hm => (List.mem_cons.mp (I1.stkSub p.1 hm)).elim pk.2.2.1 pk.2.2.2.1, pk.2.2.2.2⟩
  refine wpAny_call (codeAny_mono (F.run X.A X.stack t1 H1 ⟨us, []⟩ us vs Q E p hr hgd pin I1.env0 b1 r q1) fun z t2 h2 => ?_)
  cases z with
  | error e2 => exact hx pins σ H1 t1 e2 t2 I1 h2
  | ok fl =>
    cases fl with
    | ret u => exact I1.after h2
    | _ => exact False.elim h2⟩
end
end DL
/-! DLR2: bools counted, repr of data, what is asked of the exception that is handled. -/
namespace DL
open PySem L2 PySem.Spec PyProof.Rows
/-! ### list.count(True) -/
def isTrue : Value → Bool
  | .bool b => b
  | _ => false
theorem bools_of_vals : ∀ {bs : List Bool} {us : List Value}, Vals (bs.map V.bl) us → us = bs.map Value.bool
  | [], _, .nil => rfl
  | b :: bs, _, .cons h r => by
    cases h
    rw [bools_of_vals r]
    rfl
theorem countP_bools : ∀ bs : List Bool, (bs.map Value.bool).countP isTrue = bs.count true
  | [] => rfl
  | b :: bs => by
    rw [List.map_cons, List.countP_cons, List.count_cons, countP_bools bs]
    cases b <;> rfl
section
variable {X : Cx}
def rCntB (K : PySem.W.Frag) : V → List V → Hp → VK → Prop := fun x xs H Q => ∃ (p : Addr) (bs : List Bool), x = .ref p ∧ xs = [.bl true] ∧ SqL K H p (bs.map V.bl) ∧ Q (.int (bs.count true : Nat)) H
theorem mt_cntB : MtR X "list.count" (rCntB X.K) := by
  intro pins s σ H x xs v us Q I rx rxs h
  obtain ⟨p, bs, rfl, rfl, hs, q⟩ := h
  cases rx
  obtain ⟨u, rfl, ru⟩ := rxs.one
  obtain rfl : u = Value.bool true := ru
  obtain ⟨its, rv, ⟨⟨cls, dd, data, sl⟩, n, ho, hc, hdn, hd⟩, hlen⟩ := I.list hs
  simp only at hc hd
  subst hc hd
  have hi := bools_of_vals rv
  subst hi
  refine call_meets PySem.F.slot_list_count ⟨_, ho, rfl⟩ PySem.F.entry_list_count (PySem.F.args_list_count_2 _ _) (SeqAt.list_countAt p _ n dd sl (.bool true) isTrue) ⟨ho, fun y hy => ?_, ?_⟩
  · have hy : y ∈ bs.map Value.bool := by simpa using hy
    obtain ⟨b, _, rfl⟩ := List.mem_map.mp hy
    have : isTrue (.bool b) = (b == true) := by cases b <;> rfl
    rw [this]
    exact SeqAt.EqAt.bool_bool b true
  · refine ⟨.int (bs.count true : Nat), H, I.tok _, ⟨s.toks, ?_⟩, q⟩
    show Value.int (((bs.map Value.bool).toArray.toList.countP isTrue : Nat) : Int) s.toks = _
    rw [List.toList_toArray, countP_bools]
/-! ### repr(data) -/
def rRepr (K : PySem.W.Frag) : List V → Hp → VK → Prop := fun xs H Q => ∃ x p, xs = [x] ∧ Dp K H x p ∧ p.showable = true ∧ p.hasDict = false ∧ p.shown.length ≤ sizeLine ∧ p.depth ≤ 64 ∧ Q (.str p.shown) H
theorem call_repr (hg : X.A.guards = some []) (hu : X.A.units + 128 < cLine) : CallR X (.builtin "repr") (rRepr X.K) := by
  intro pins s σ H xs us Q I r h
  obtain ⟨x, p, rfl, dp, h1, h2, h3, h4, q⟩ := h
  obtain ⟨u, rfl, ru⟩ := vals1 r
  obtain ⟨as, rd⟩ := Dp.reads I p x u dp ru
  have key : ∀ (h1 : Heap) (tk0 : Tok) (tk : Nat), (∀ b o, s.heap.get? b = some o → h1.get? b = some o) → ∃ v H1, Inv X pins σ H1 { s with heap := h1, toks := tk } ∧ RelV v (.str p.shown tk0) ∧ Q v H1 := fun h1 tk0 tk k => ⟨.str p.shown, H, I.kept k, ⟨_, rfl⟩, q⟩
  have same : ∀ (tk0 : Tok) (tk : Nat), ∃ v H1, Inv X pins σ H1 { s with toks := tk } ∧ RelV v (.str p.shown tk0) ∧ Q v H1 := fun tk0 tk => key s.heap tk0 tk fun _ _ e => e
  have no : ∀ as : List Addr, p.hasDict = true → sysModules ∉ as := fun as z => by
    rw [h2] at z
    cases z
  cases rd with
  | none => exact PySem.P.repr_of_none (same _ _)
  | bool b => exact PySem.P.repr_of_bool (same _ _)
  | int i t => exact PySem.P.repr_of_int (of_decide_eq_true h1) (same _ _)
  | str y t => exact PySem.P.repr_of_str (same _ _) h3
  | list e1 e2 e3 e4 => exact repr_of_reads' (.list e1 e2 e3 e4) h1 (no _) hg (by omega) (fun _ _ e => e) (fun h1 tk0 tk k => key h1 tk0 tk k) h3
  | tuple e1 e2 e3 e4 => exact repr_of_reads' (.tuple e1 e2 e3 e4) h1 (no _) hg (by omega) (fun _ _ e => e) (fun h1 tk0 tk k => key h1 tk0 tk k) h3
  | dict e1 e2 e3 e4 e5 => exact repr_of_reads' (.dict e1 e2 e3 e4 e5) h1 (no _) hg (by omega) (fun _ _ e => e) (fun h1 tk0 tk k => key h1 tk0 tk k) h3
def dRepr : List D → (D → Prop) → Prop := fun ds q => match ds with
  | [d] => ∃ p, pd d = some p ∧ p.showable = true ∧ p.hasDict = false ∧ p.shown.length ≤ sizeLine ∧ p.depth ≤ 64 ∧ q (.str p.shown)
  | _ => False
theorem sim_repr [Tbl] {K : PySem.W.Frag} : SimC K (rRepr K) dRepr := fun F H xs ds Q q s r w k => by
  unfold dRepr at w
  split at w
  · cases r with
    | cons r1 r2 =>
      cases r2
      obtain ⟨p, e, h1, h2, h3, h4, w⟩ := w
      exact ⟨_, p, rfl, dp_of s r1 e, h1, h2, h3, h4, k.here s (.str _) w⟩
  · exact w.elim
/-! ### the exception that is handled -/
/-- what an error class must say, so that its instances are asked rightly -/
structure ErrK (K : PySem.W.Frag) (C : Addr) : Prop where
  xf : XfC K C
  cl : (PySem.W.clsIn K C).isSome = true
  ha : PySem.W.findIn K (.ref C) "__class__" = some (some (.builtin "object.__class__"))
  hn : PySem.W.specialIn K (.builtin "object.__class__") "__get__" = some (some (.builtin "getset_descriptor.__get__"))
  ht : PySem.W.takesIn K (.builtin "object.__class__") = some true
  hm : PySem.W.mroIn K C (.type "object") = some true
/-- p is pinned, an exception of the class at C with the dict at dd -/
structure PinE (X : Cx) (p : Addr × Obj) (C dd : Addr) : Prop where
  mem : p ∈ X.pn
  zc : Zc (.ref C) (some dd) p.2
  fl : ∃ vs, p.2.data = .fields vs
theorem PinE.inst {p : Addr × Obj} {C dd : Addr} {pins : List (Addr × Obj)} {σ : L2.St} {H : Hp} {s : Shared} {fs : List (Str × V)} (P : PinE X p C dd) (I : Inv X pins σ H s) (h : H dd = some (.xd fs)) :
    ∃ (od : Obj) (mA : Str → Option Value), PySem.W.InstAt s.heap p.1 p.2 C (some od) ∧ (∀ name, PySem.W.lookIn name od = some (mA name)) ∧ ∀ f, RelO (fs.lookup f) (mA f) := by
  obtain ⟨m, z, vs, hv⟩ := P
  have g := (I.pin p (List.mem_append_left _ m)).1
  have x : ObjOk X.prog X.w H s.heap dd (.xd fs) := I.hok dd _ h
  obtain ⟨mA, ns, rel⟩ := x
  obtain ⟨od, ho, hl⟩ := lookIn_ns ns
  exact ⟨od, mA, ⟨g, z.1, by unfold PySem.W.notCls; rw [hv] <;> rfl, by rw [z.2]; exact ho⟩, hl, rel⟩
def rIsP (K : PySem.W.Frag) (C dd a : Addr) : List V → Hp → VK → Prop := fun xs H Q => ∃ (c : V) (cv : Value) (b : Bool) (fs : List (Str × V)), xs = [.ref a, c] ∧ (∀ u, RelV c u → u = cv) ∧ H dd = some (.xd fs) ∧ PySem.W.kitOne K (.ref C) cv = some b ∧ Q (.bl b) H
theorem call_isP {p : Addr × Obj} {C dd : Addr} (T : ErrK X.K C) (P : PinE X p C dd) : CallR X (.builtin "isinstance") (rIsP X.K C dd p.1) := by
  intro pins s σ H xs us Q I r h
  obtain ⟨c, cv, b, fs, rfl, hcv, hd, e, q⟩ := h
  obtain ⟨u1, u2, rfl, r1, r2⟩ := vals2 r
  obtain rfl : u1 = Value.ref p.1 := r1
  have e2 := hcv _ r2
  subst e2
  obtain ⟨od, mA, J, _, _⟩ := P.inst I hd
  exact PySem.W.kia_one (PySem.W.kitx_exc T.cl T.xf.ga T.xf.gg T.xf.exC T.ha T.hn T.ht T.hm) I.kIn J e (fun z => nomatch z) fun tk => ⟨.bl b, H, I.tok tk, rfl, q⟩
def tXfP (a C dd : Addr) (f : Str) (te : TE) : TE := fun σ H Q => te σ H fun x H1 => x = .ref a ∧ ∃ (fs : List (Str × V)) (v : V), H1 dd = some (.xd fs) ∧ fs.lookup f = some v ∧ Q v H1
theorem pe_xfP {p : Addr × Obj} {C dd : Addr} {e : Expr} {te : TE} {pos : Pos} {n : Str} (T : ErrK X.K C) (hno : PySem.W.findIn X.K (.ref C) n = some none) (P : PinE X p C dd) (he : PE X e te) (hb : attributeBase e n X.env (eval e X.env) = eval e X.env := by rfl) :
    PE X (.Attribute e n pos) (tXfP p.1 C dd n te) := ⟨fun pins s σ H Q I h => by
  refine attr_of hb (thn (he.run pins s σ H _ I h) fun u t1 hh => ?_)
  obtain ⟨x, H1, I1, rx, ex, fs, v, hd, l, q⟩ := hh
  subst ex
  obtain rfl : u = Value.ref p.1 := rx
  obtain ⟨od, mA, J, hl, rel⟩ := P.inst I1 hd
  obtain ⟨y, hy, ry⟩ := RelO.some_of (v := v) (o := mA n) (by rw [← l]; exact rel n)
  exact HandSPX.exc_get I1.kIn J T.xf.ga T.xf.gg T.xf.exC (PySem.W.findObj_own T.xf.hdC hno rfl (by rw [hl, hy])) (handed_of ry) ⟨v, H1, I1.tok _, ry, q⟩⟩
end
end DL
/-! DLR3: defs called where no repr is at work (FnG), errors raised, what a told act comes to. -/
namespace DL
open PySem L2 PySem.Spec PyProof.Rows
/-! ### FnG -/
structure FnG (P : Program) (w : World) (K : PySem.W.Frag) (mg : Str → Option Value) (base : Heap) (CX : CXT) (k : Nat) (f : Addr) (fd : FuncData) (ps : List Str) (sp : Sp) : Prop where
  len : ∀ vs H Q E, sp vs H Q E → vs.length = ps.length
  run : ∀ (A : Around) (outer : List Env) (s : Shared) (H : Hp) (args : Args) (us : List Value) (vs : List V) (Q : VK) (E : XK), Room k A → A.guards = some [] → Env0 P w K mg base A outer s H →
    BindsTo s fd args (ps.zip us) → Vals vs us → sp vs H Q E → codeAny (model P w) A (.call (.ref f) args) (CR CX outer P w H s Q E) s
/-- the def at f, its code object at c -/
structure FunC (K : PySem.W.Frag) (x qual : Str) (st : Stmt) (f : Addr) (fd : FuncData) (c : Addr) : Prop where
  ex : ∃ (oc : Value) (od : Option Addr) (kV doc pm : Value) (an : Option Addr) (ct : Value) (osl : Array (Option Value)), fd = PySem.W.fnOf x qual (defArgs st) (defBody st) (defScope st) .none kV doc pm an (.ref c) ct ∧
    K.lookup f = some ⟨oc, od, .func fd, osl⟩ ∧ PySem.W.codeIn K (.ref c) qual = true
  kp : PySem.W.keepIn K (.ref f) = true
theorem FunC.fn {K : PySem.W.Frag} {x qual : Str} {st : Stmt} {f : Addr} {fd : FuncData} {c : Addr} (F : FunC K x qual st f fd c) : Fun K x qual st f fd := by
  obtain ⟨oc, od, kV, doc, pm, an, ct, osl, rfl, lk, hc⟩ := F.ex
  exact ⟨⟨oc, od, kV, doc, pm, an, .ref c, ct, osl, rfl, lk, hc⟩, F.kp⟩
section
variable [Tbl] {P : Program} {w : World} {K : PySem.W.Frag} {mg : Str → Option Value} {base : Heap}
theorem okR_def {x qual : Str} {st : Stmt} {f : Addr} {fd : FuncData} {N ps : List Str} {k : Nat} {S : FS} (F : Fun K x qual st f fd) (sc : FnScope N ps (defScope st)) (hn : ps.length ≤ N.length)
    (hb : ∀ (cdv : Value) (A : Around) (outer : List Env) (s : Shared) (H : Hp) (E : XK), Room k (A.deeper (envOfC qual (defScope st) s.heap.objs.size f cdv)) → A.guards = some [] →
      ∃ t ws, PSs (cxOf (L2.CX P w) P w K mg base N qual (defScope st) f cdv A outer s H E) (defBody st) t ∧ SimS K E t ws ∧
        ∀ ds er q, ds.length = ps.length → S ds er q → ws { nx := fun _ => q .non, rt := q, er := er } (envOf N.length ds)) :
    FnG P w K mg base (L2.CX P w) (k + 1) f fd ps (spOf K ps.length S) := by
  refine ⟨fun vs H Q E h => spOf_len h, fun A outer s H args us vs Q E hr hg e0 bd r h => ?_⟩
  obtain ⟨oc, od, kV, doc, pm, an, cdv, ct, osl, rfl, lk, hcd⟩ := F.ex
  refine LamX.run_ofS lk hcd sc hr e0 bd r (spOf_len h) fun hr2 => ?_
  obtain ⟨t, ws, h1, h2, h3⟩ := hb cdv A outer s H E hr2 hg
  exact ⟨t, h1, body_of h2 hn h3 h⟩
theorem okC_def {x qual : Str} {st : Stmt} {f c : Addr} {fd : FuncData} {N ps : List Str} {k : Nat} {S : FS} (F : FunC K x qual st f fd c) (sc : FnScope N ps (defScope st)) (hn : ps.length ≤ N.length)
    (hb : ∀ (A : Around) (outer : List Env) (s : Shared) (H : Hp) (E : XK), Room k (A.deeper (envOfC qual (defScope st) s.heap.objs.size f (.ref c))) → A.guards = some [] →
      ∃ t ws, PSs (cxOf (L2.CX P w) P w K mg base N qual (defScope st) f (.ref c) A outer s H E) (defBody st) t ∧ SimS K E t ws ∧
        ∀ ds er q, ds.length = ps.length → S ds er q → ws { nx := fun _ => q .non, rt := q, er := er } (envOf N.length ds)) :
    FnG P w K mg base (L2.CX P w) (k + 1) f fd ps (spOf K ps.length S) := by
  refine ⟨fun vs H Q E h => spOf_len h, fun A outer s H args us vs Q E hr hg e0 bd r h => ?_⟩
  obtain ⟨oc, od, kV, doc, pm, an, ct, osl, rfl, lk, hcd⟩ := F.ex
  refine LamX.run_ofS lk hcd sc hr e0 bd r (spOf_len h) fun hr2 => ?_
  obtain ⟨t, ws, h1, h2, h3⟩ := hb A outer s H E hr2 hg
  exact ⟨t, h1, body_of h2 hn h3 h⟩
end
section
variable {X : Cx} {CX : CXT} {k : Nat} {f : Addr} {fd : FuncData} {ps : List Str} {sp : Sp} {E : XK} {x : Str} {q pos : Pos} {e : Expr} {es : List Expr} {t : TA}
theorem pe_callG (F : FnG X.prog X.w X.K X.mg X.base CX k f fd ps sp) (hr : Room k X.A) (hgd : X.A.guards = some []) (hg : Gl X x) (hm : X.mg x = some (.ref f)) (hk : PySem.W.keepIn X.K (.ref f) = true) (hb : Binds X.K fd ps []) (hx : Passes CX X E)
    (ha : PA X (e :: es) t) (hdb : (x == ("__debug__" : Str)) = false := by decide) (he : starEach (e :: es) X.env = (false, eval e X.env) :: starEach es X.env := by rfl) (hpl : (backTo pos (starEach es X.env)).any (·.1) = false := by rfl) :
    PE X (.Call (.Name x q) (e :: es) [] pos) (tCall sp [] E t) := ⟨fun pins s σ H Q I h => by
  refine wpAny_Call_Name_kw (ld_glob I hg hm (PySem.W.callWith_K (h₀ := X.base) I.ok.mod.kin hk (thn (ha.run pos pins s σ H _ I h) fun us t1 hv => ?_) he hpl) hdb)
  obtain ⟨vs, H1, I1, r, q1⟩ := hv
  rw [List.append_nil] at q1
  refine ⟨I1.kIn, ?_⟩
  have l1 : us.length = ps.length := by rw [← r.length]; exact F.len _ _ _ _ q1
  have b1 := hb t1 us I1.kIn (by rw [List.append_nil]; exact l1)
  rw [List.append_nil] at b1
  refine wpAny_call (codeAny_mono (F.run X.A X.stack t1 H1 ⟨us, []⟩ us vs Q E hr hgd I1.env0 b1 r q1) fun z t2 h2 => ?_)
  cases z with
  | error e2 => exact hx pins σ H1 t1 e2 t2 I1 h2
  | ok fl =>
    cases fl with
    | ret u => exact I1.after h2
    | _ => exact False.elim h2⟩
/-- what a def or a lambda lets out -/
theorem passE (hs : X.stack = X.env :: X.outer) (hf : X.env.frame = some X.env.locals) (hex : X.ex = []) {E1 : Value → Shared → Prop}
    (hx : X.xe = fun e s1 => wpAny (model X.prog X.w) X.A (leaving X.env e) (fun _ s2 => L2.CX X.prog X.w X.outer X.H_0 X.s_0 E e s2) E1 s1) : Passes (L2.CX X.prog X.w) X E := passes_call (takes_of hs hf hex hx) fun _ _ _ _ h => h
end
/-! ### errors made and raised -/
def spEx (C : Addr) (f : Str) : Sp := fun vs H Q _ => ∃ (a : Addr) (y : V), vs = [.ref a, y] ∧ H a = some (exo a C none) ∧ ∀ d, H d = none → d ≠ a → Q .non (upd (upd H d (exd d [(f, y)])) a (exo a C (some d)))
section
variable {P : Program} {w : World} {K : PySem.W.Frag} {mg : Str → Option Value} {base : Heap}
theorem ok_err {x qual : Str} {st : Stmt} {g C : Addr} {fd : FuncData} {f v : Str} (F : Fun K x qual st g fd) (sc : FnScope ["self", v] ["self", v] (defScope st)) (T : OexC K C) (hno : PySem.W.findIn K (.ref C) f = some none)
    (hb : ∀ (cdv : Value) (A : Around) (outer : List Env) (s : Shared) (H : Hp) (E : XK), PSs (cxOf (L2.CX P w) P w K mg base ["self", v] qual (defScope st) g cdv A outer s H E) (defBody st) (tOst K f (tVar 0) (tVar 1))) :
    FnOk P w K mg base (L2.CX P w) 1 g fd ["self", v] (spEx C f) :=
  F.okX sc (fun vs H Q E h => by
    obtain ⟨a, y, rfl, _⟩ := h
    rfl) fun cdv A outer s H vs Q E hr h => by
    obtain ⟨a, y, rfl, ha, hq⟩ := h
    exact ⟨_, hb cdv A outer s H E, y, rfl, .ref a, rfl, a, C, rfl, T, hno, .inl ⟨ha, fun d h1 h2 => hq d h1 h2⟩⟩
end
def sRaise (C : Addr) (f : Str) (wa : WA) : WS := fun n env => wa env n.er fun ds => match ds with
  | [d] => n.er ⟨C, [(f, d)]⟩
  | _ => False
theorem sims_raise [Tbl] {K : PySem.W.Frag} {E : XK} {C : Addr} {f : Str} {ta : TA} {wa : WA} (h : SimA K E ta wa) : SimS K E (fun _ σ H => tMkO C (spEx C f) [] ta σ H fun cls d H1 => E cls d H1) (sRaise C f wa) := fun B Dd n L env F σ H a w =>
  h B env F σ H _ n.er _ a L.er w fun xs ds F1 H1 s1 r1 w1 => by
    split at w1
    · rename_i d
      cases r1 with
      | @cons v vs _ _ r1 r2 =>
        cases r2
        refine ⟨by simp, fun p hp => ⟨p, v, rfl, upd_same, fun dx h1 h2 => ⟨rfl, dx, [(f, v)], upd_same, ?_, ?_, ?_⟩⟩⟩
        · rw [upd_ne h2, upd_same]
        · rw [upd_ne h2] at h1
          exact h1
        · have hd : H1 dx = none := by
            rw [upd_ne h2] at h1
            exact h1
          have e : upd (del (upd (upd (upd H1 p (exo p C none)) dx (exd dx [(f, v)])) p (exo p C (some dx))) p) dx (.xd [(f, v)]) = upd H1 dx (.xd [(f, v)]) := by
            funext b
            by_cases hb : b = dx
            · rw [hb, upd_same, upd_same]
            · rw [upd_ne hb, upd_ne hb]
              by_cases hp2 : b = p
              · rw [hp2, del_same, hp]
              · rw [del_ne hp2, upd_ne hp2, upd_ne hb, upd_ne hp2]
          rw [e]
          have st : Stp F1 (upd F1 dx (.xd [(f, v)])) H1 (upd H1 dx (.xd [(f, v)])) := Stp.new s1.fh hd
          exact L.er C (some dx) [(f, d)] _ _ ((a.st.trans s1).trans st) ⟨_, upd_same, .cons (r1.mono st.ff) .nil⟩ w1
    · exact w1.elim
end DL
/-! DLR4: told: what an act returns, or the error that it raises; lambdas; the errors' classes. -/
namespace DL
open PySem L2 PySem.Spec PyProof.Rows
/-- what a def makes of an error -/
abbrev FE := Er → (D → Prop) → Prop
section
variable [Tbl]
def spS (K : PySem.W.Frag) (S : FE) (p : Addr × Obj) : Sp := fun vs H Q _ => ∃ (C dd : Addr) (F : Hp) (xs : List (Str × V)) (fs : List (Str × D)) (q : D → Prop), vs = [.ref p.1] ∧ Zc (.ref C) (some dd) p.2 ∧ (∃ vs, p.2.data = .fields vs) ∧ Fz F H ∧
  F dd = some (.xd xs) ∧ RepF K F xs fs ∧ S ⟨C, fs⟩ q ∧ VL K F H Q q
/-- told: try: got = act() / except (A, B, C) as e: return sort(e) / return ["returned", got] -/
def TTold (K : PySem.W.Frag) (cs : List Value) (S : FE) : (XK → Hp → VK → Prop) → Hp → VK → Prop := fun tl H Q =>
  tl (fun cls d H1 => PySem.W.exmAny K cls cs = some true ∧ ∀ (a : Addr) (oe : Obj), H1 a = none → Zc cls d oe → (∃ vs, oe.data = .fields vs) → spS K S (a, oe) [.ref a] H1 Q E0) H
    fun v H1 => ∀ p, H1 p = none → Q (.ref p) (upd H1 p (.lst [.str "returned", v]))
abbrev toldN : List Str := ["_law_act", "_law_got", "_law_e"]
abbrev toldB (p1 p2 p3 p4 p5 p6 p7 p8 p9 p10 p11 p12 p13 p14 p15 p16 p17 p18 : Pos) (kk j : Nat) : List Stmt :=
  [.Try [.Assign [.Name "_law_got" p1] (.Call (.Name "_law_act" p2) [] [] p3) p4]
    [.ExceptHandler (some (.Tuple [.Name "ShapeError" p5, .Name "QuestionError" p6, .Name "SizeError" p7] kk p8)) (some "_law_e") [.Return (some (.Call (.Name "_law_sort" p9) [.Name "_law_e" p10] [] p11)) p12] p13] [] [] p14,
    .Return (some (.List [.Constant (.str "returned") j p15, .Name "_law_got" p16] p17)) p18]
structure ToldS (sg : Scope) : Prop where
  fn : FnScope toldN ["_law_act"] sg
  lg : sg.names.lookup ("_law_got" : Str) = some NameKind.local
  la : sg.names.lookup ("_law_act" : Str) = some NameKind.local
  le : sg.names.lookup ("_law_e" : Str) = some NameKind.local
  g1 : sg.names.lookup ("ShapeError" : Str) = some NameKind.globalImplicit
  g2 : sg.names.lookup ("QuestionError" : Str) = some NameKind.globalImplicit
  g3 : sg.names.lookup ("SizeError" : Str) = some NameKind.globalImplicit
  gs : sg.names.lookup ("_law_sort" : Str) = some NameKind.globalImplicit
theorem pe_mono {X : Cx} {e : Expr} {te : TE} (h : PE X e te) : PE X e (fun σ H Q => ∃ Q0 : VK, te σ H Q0 ∧ ∀ v H1, Q0 v H1 → Q v H1) := ⟨fun pins s σ H Q I ⟨Q0, h0, hq⟩ => thn (h.run pins s σ H Q0 I h0) fun u t1 ⟨x, H1, J, r, q⟩ => ⟨x, H1, J, r, hq x H1 q⟩⟩
theorem takes_len {X : Cx} {W : WX} (t : Takes X W) : Takes X (fun cls d σ H => σ.length = X.N.length → W cls d σ H) := fun u s1 ⟨a, B, tI, pins, σ, H, cls, d, e, I, nb, up, sky, na, os, ag, w⟩ => t u s1 ⟨a, B, tI, pins, σ, H, cls, d, e, I, nb, up, sky, na, os, ag, w I.len⟩
theorem told_gives {X : Cx} {x q : Str} {sg : Scope} {g C1 C2 C3 fs : Addr} {cdg : Value} {k kk j : Nat} {fd : FuncData} {S : FE} {p1 p2 p3 p4 p5 p6 p7 p8 p9 p10 p11 p12 p13 p14 p15 p16 p17 p18 : Pos} (T : ToldS sg)
    (m1 : X.mg "ShapeError" = some (.ref C1)) (m2 : X.mg "QuestionError" = some (.ref C2)) (m3 : X.mg "SizeError" = some (.ref C3)) (ms : X.mg "_law_sort" = some (.ref fs))
    (Fs : FnP X.prog X.w X.K X.mg X.base (L2.CX X.prog X.w) k fs fd ["_law_e"] (spS X.K S)) (ks : PySem.W.keepIn X.K (.ref fs) = true) (bs : Binds X.K fd ["_law_e"] []) (hr : Room (k + 1) X.A) (hgd : X.A.guards = some []) :
    LamX.GivesTo X toldN x sg g cdg (toldB p1 p2 p3 p4 p5 p6 p7 p8 p9 p10 p11 p12 p13 p14 p15 p16 p17 p18 kk j) "_law_act" q (TTold X.K [.ref C1, .ref C2, .ref C3] S) := by
  intro f c s H Q tl act hc h
  have nd : toldN.Nodup := T.fn.nd
  have r1 := hr.deeper (envOfC x sg s.heap.objs.size g cdg)
  have t1 := ps_try3 (X := (cxOf C8.CX0 X.prog X.w X.K X.mg X.base toldN x sg g cdg X.A X.stack s H C8.E0).nox) (x1 := "ShapeError") (x2 := "QuestionError") (x3 := "SizeError") (n := "_law_e") (c1 := .ref C1) (c2 := .ref C2) (c3 := .ref C3) (i := 2) (kk := kk)
    (body := [.Assign [.Name "_law_got" p1] (.Call (.Name "_law_act" p2) [] [] p3) p4]) (b0 := .Return (some (.Call (.Name "_law_sort" p9) [.Name "_law_e" p10] [] p11)) p12) (suite := []) (p1 := p5) (p2 := p6) (p3 := p7) (tp := p8) (hp := p13) (tpos := p14)
    (tb := fun W D σ H1 => ∃ Ech : XK, (∀ cls d σ2 H2, Ech cls d H2 → σ2.length = 3 → W cls d σ2 H2) ∧ σ[0]? = some (some (.ref f)) ∧ H1 c = some (LamX.CodeO c q) ∧ ∃ Q0 : VK, tl Ech H1 Q0 ∧ ∀ v H2, Q0 v H2 → D.nx (σ.set 1 (some v)) H2)
    (ts := fun a cls d D σ H1 => ∀ oe, Zc cls d oe → (∃ vs, oe.data = .fields vs) → tRet (tCallP (spS X.K S (a, oe)) E0 (tCons (tVar 2) tNil)) D σ H1)
    rfl rfl nd rfl T.le ⟨T.g1, by decide, .inl m1⟩ ⟨T.g2, by decide, .inl m2⟩ ⟨T.g3, by decide, .inl m3⟩ ?hbody ?hsuite
  case hbody =>
    intro W pn xe tk _
    refine ⟨fun pins s1 σ H1 D I hw => ?_⟩
    obtain ⟨Ech, e1, e2, e3, Q0, e4, e5⟩ := hw
    have hp := act _ pn xe Ech p2 p3 (takes_len tk) e1
    have hs := pss_one (ps_set (i := 1) (pos := p4) (pos' := p1) nd rfl (.inl T.lg) (pe_mono hp))
    exact hs.run pins s1 σ H1 D I ⟨Q0, ⟨e2, e3, e4⟩, e5⟩
  case hsuite =>
    intro a oe cls d pn hz hf
    refine ⟨fun pins s1 σ H1 D I hw => ?_⟩
    have hs := pss_one (ps_ret (pos := p12) (pe_callP (X := ((cxOf C8.CX0 X.prog X.w X.K X.mg X.base toldN x sg g cdg X.A X.stack s H C8.E0).nox).suite a ((a, oe) :: pn)) (E := E0) (p := (a, oe)) (q := p9) (pos := p11) Fs ⟨r1.dp, r1.un⟩ hgd List.mem_cons_self T.gs ms ks bs passN (pa_cons (pe_var (pos := p10) (i := 2) rfl (.inl T.le)) pa_nil)))
    exact hs.run pins s1 σ H1 D I (hw oe hz hf)
  refine ⟨_, pss_cons t1 (pss_one (ps_ret (pos := p18) (pe_lst (pa_cons pe_str (pa_cons (pe_var (pos := p16) (i := 1) rfl (.inl T.lg)) pa_nil))))), ?_⟩
  refine ⟨fun cls d H1 => PySem.W.exmAny X.K cls [.ref C1, .ref C2, .ref C3] = some true ∧ ∀ (a : Addr) (oe : Obj), H1 a = none → Zc cls d oe → (∃ vs, oe.data = .fields vs) → spS X.K S (a, oe) [.ref a] H1 Q E0, fun cls d σ2 H2 hh hl => ?_, rfl, hc, fun v H1 => ∀ p, H1 p = none → Q (.ref p) (upd H1 p (.lst [.str "returned", v])), h, fun v H2 hq => ?_⟩
  · obtain ⟨h1, h2⟩ := hh
    refine ⟨h1, fun a ha oe hz hf => ⟨.ref a, ?_, h2 a oe ha hz hf⟩⟩
    rw [List.getElem?_set_self (by omega)]
  · exact ⟨v, rfl, by show 2 ≤ sizeLine; decide, hq⟩
/-! ### the act -/
theorem nt_of {o : HO} (n : NT o) : ∀ ps, o ≠ .tbl ps := fun ps z => by
  subst z
  exact n
theorem lam_stp {F H H1 : Hp} (fz : Fz F H) (eN : LamX.ExtN H H1) (T1 : LamX.Tabs Tbl.T H1) : Stp F F H H1 := by
  refine ⟨Same.refl F, ⟨fun a o h n => eN a o h (nt_of n), fun a h => ?_⟩, ⟨fun a o h => eN a o (fz a o h) (nt_of (fz.nt a o h)), T1, fz.nt⟩, fun a h _ => h⟩
  cases e : H a with
  | none => exact .inl e
  | some o =>
    by_cases n : NT o
    · exact (h.lst (eN a o e (nt_of n)) n).elim
    · obtain ⟨ps, rfl⟩ : ∃ ps, o = .tbl ps := by
        cases o <;> first | exact ⟨_, rfl⟩ | exact (n trivial).elim
      refine .inr ⟨⟨ps, e⟩, fun p hp z => ?_⟩
      obtain ⟨qs, g, _⟩ := T1 p hp
      rw [z] at g
      rcases h with h | ⟨_, h⟩
      · rw [h] at g
        cases g
      · exact h p hp z
def maskS : SV → SV
  | .own _ => .un
  | .dic _ => .un
  | .me _ _ _ => .un
  | s => s
def maskE (env : EV) : EV := env.map maskS
theorem At.mask {K : PySem.W.Frag} {B : Ent} {env : EV} {F H : Hp} {σ : L2.St} (a : At K B env F σ H) : At K ⟨F, H⟩ (maskE env) F σ H := by
  refine ⟨by unfold maskE; rw [List.length_map]; exact a.len, Stp.refl a.fh, fun i sv e => ?_, fun i j s t b e1 e2 m1 m2 q1 q2 => ?_⟩
  · unfold maskE at e
    rw [List.getElem?_map] at e
    cases h : env[i]? with
    | none =>
      rw [h] at e
      cases e
    | some s =>
      rw [h] at e
      cases e
      have := a.sl i s h
      cases s <;> first | exact this | trivial
  · exfalso
    unfold maskE at e1
    rw [List.getElem?_map] at e1
    cases h : env[i]? with
    | none =>
      rw [h] at e1
      cases e1
    | some s =>
      rw [h] at e1
      cases e1
      cases s <;> exact m1
def wTold (S : FE) (we : WE) : WE := fun env er q => we (maskE env) (fun e => S e q) fun d => q (.lst [.str "returned", d])
theorem sim_told {K : PySem.W.Frag} {E : XK} {cs : List Value} {S : FE} {t : XK → TE} {we : WE} (hS : ∀ e q, S e q → PySem.W.exmAny K (.ref e.C) cs = some true ∧ e.fs ≠ []) (hb : ∀ E1, SimE K E1 (t E1) we) :
    SimE K E (LamX.tLam Tbl.T (TTold K cs S) t) (wTold S we) := fun B env F σ H Q er q a l w k => ⟨a.fh.tb, fun H1 eN T1 => by
  have st := lam_stp a.fh eN T1
  have k1 := k.step st
  refine hb _ ⟨F, H1⟩ (maskE env) F σ H1 _ (fun e => S e q) (fun d => q (.lst [.str "returned", d])) (a.step st).mask ?_ w ?_
  · intro C d fs F2 H2 s2 rp z
    obtain ⟨z1, z2⟩ := hS _ _ z
    refine ⟨z1, fun b oe hn hz hf => ?_⟩
    cases d with
    | none => exact (z2 rp).elim
    | some dd =>
      obtain ⟨xs, e1, e2⟩ := rp
      exact ⟨C, dd, F2, xs, fs, q, rfl, hz, hf, s2.fh, e1, e2, z, k1.step s2⟩
  · intro x d F2 H2 s2 r z p hp
    have s3 : Stp F2 (upd F2 p (.lst [.str "returned", x])) H2 (upd H2 p (.lst [.str "returned", x])) := Stp.new s2.fh hp
    exact k1 _ _ _ _ (s2.trans s3) (.lst upd_same (.cons (.str _) (.cons (r.mono s3.ff) .nil))) z⟩
end
end DL
/-! DLR5: the errors' classes by data, readings of a def that sorts errors. -/
namespace DL
open PySem L2 PySem.Spec PyProof.Rows
def ebts : List String := ["ValueError", "LookupError", "ArithmeticError"]
abbrev ECs := List (Addr × List Addr × List String)
structure EcOk (K : PySem.W.Frag) (l : ECs) (efs : List Str) : Prop where
  ok : ∀ p ∈ l, ErrK K p.1 ∧ OwnM K p.1 p.2.1 p.2.2
  na : ∀ p ∈ l, ∀ f ∈ efs, PySem.W.findIn K (.ref p.1) f = some none
def isEO (l : ECs) (C E : Addr) : Option Bool := match l.lookup C, l.lookup E with
  | some u, some _ => some (u.1.contains E)
  | _, _ => none
def isET (l : ECs) (C : Addr) (T : String) : Option Bool := match l.lookup C with
  | some u => if T ∈ ebts then some (u.2.contains T) else none
  | none => none
section
variable {K : PySem.W.Frag} {l : ECs} {efs : List Str} {C E : Addr} {b : Bool}
theorem look_in {β : Type} {C : Addr} {u : β} : ∀ {cs : List (Addr × β)}, cs.lookup C = some u → (C, u) ∈ cs
  | [], h => by cases h
  | (a, v) :: cs, h => by
    rw [List.lookup_cons] at h
    cases e : C == a with
    | true =>
      rw [e] at h
      cases h
      rw [beq_iff_eq.mp e]
      exact List.mem_cons_self
    | false =>
      rw [e] at h
      exact List.mem_cons_of_mem _ (look_in h)
theorem isEO_get (e : isEO l C E = some b) : ∃ u v, (C, u) ∈ l ∧ (E, v) ∈ l ∧ b = u.1.contains E := by
  unfold isEO at e
  cases h1 : l.lookup C with
  | none =>
    rw [h1] at e
    cases e
  | some u =>
    cases h2 : l.lookup E with
    | none =>
      rw [h1, h2] at e
      cases e
    | some v =>
      rw [h1, h2] at e
      cases e
      exact ⟨u, v, look_in h1, look_in h2, rfl⟩
theorem isEO_ok (h : EcOk K l efs) (e : isEO l C E = some b) : PySem.W.kitOne K (.ref C) (.ref E) = some b := by
  obtain ⟨u, v, h1, h2, rfl⟩ := isEO_get e
  exact (h.ok _ h1).2.sub (h.ok _ h2).2
theorem isET_ok (h : EcOk K l efs) {T : String} (e : isET l C T = some b) : PySem.W.kitOne K (.ref C) (.type T) = some b := by
  unfold isET at e
  cases h1 : l.lookup C with
  | none =>
    rw [h1] at e
    cases e
  | some u =>
    rw [h1] at e
    have e : (if T ∈ ebts then some (u.2.contains T) else none) = some b := e
    split at e
    · rename_i hT
      cases e
      have m := (h.ok _ (look_in h1)).2
      have km : PySem.W.kitMeta T = true := by
        unfold ebts at hT
        simp only [List.mem_cons, List.not_mem_nil, or_false] at hT
        rcases hT with rfl | rfl | rfl <;> kernel_rfl
      unfold PySem.W.kitOne
      rw [if_neg (by intro z; cases (beq_iff_eq.mp z))]
      show (if PySem.W.kitMeta T = true then PySem.W.subIn K (.ref C) (.type T) else none) = _
      rw [if_pos km]
      show PySem.W.mroIn K C (.type T) = _
      rw [m.mro, mroL_ty]
    · cases e
theorem exm_isE (h : EcOk K l efs) (e : isEO l C E = some b) : PySem.W.exmOne K (.ref C) (.ref E) = some b := by
  obtain ⟨u, v, h1, h2, rfl⟩ := isEO_get e
  obtain ⟨k2, m2⟩ := h.ok _ h2
  obtain ⟨k1, m1⟩ := h.ok _ h1
  refine PySem.W.exm_ref k2.xf.exC k2.xf.hdC m2.tp ?_
  show PySem.W.mroIn K C (.ref E) = _
  rw [m1.mro, mroL_ref]
theorem exm_3 (h : EcOk K l efs) {E1 E2 E3 : Addr} {b1 b2 b3 : Bool} (e1 : isEO l C E1 = some b1) (e2 : isEO l C E2 = some b2) (e3 : isEO l C E3 = some b3) (hb : (b1 || (b2 || (b3 || false))) = true) : PySem.W.exmAny K (.ref C) [.ref E1, .ref E2, .ref E3] = some true := by
  have g1 := exm_isE h e1
  have g2 := exm_isE h e2
  have g3 := exm_isE h e3
  unfold PySem.W.exmAny PySem.W.exmAny PySem.W.exmAny PySem.W.exmAny
  rw [g1, g2, g3]
  exact congrArg some hb
end
/-! ### readings -/
section
variable [Tbl] {K : PySem.W.Frag} {E : XK} {a C dd : Addr} {i : Nat} {b : Option Bool}
def wIsP (a C dd : Addr) (i : Nat) (b : Option Bool) : WE := fun env _ q => (∃ fs, env[i]? = some (.exn a C dd fs)) ∧ ∃ c, b = some c ∧ q (.bl c)
theorem sim_isP {cv : V} {u : Value} (hu : ∀ z, RelV cv z → z = u) (hk : ∀ c, b = some c → PySem.W.kitOne K (.ref C) u = some c) : SimE K E (tCB (rIsP K C dd a) (tCons (tVar i) (tCons (tC cv) tNil))) (wIsP a C dd i b) := fun B env F σ H Q er q z _ w k => by
  obtain ⟨⟨fs, e⟩, c, e2, w⟩ := w
  obtain ⟨h1, xs, h2, _⟩ := z.sl i _ e
  exact ⟨.ref a, h1, cv, u, c, xs, rfl, hu, z.fh _ _ h2, hk c e2, k.here z.fh (.bl c) w⟩
def wXf (a C dd : Addr) (i : Nat) (f : Str) : WE := fun env _ q => match env[i]? with
  | some (.exn a' C' dd' fs) => a' = a ∧ C' = C ∧ dd' = dd ∧ match fs.lookup f with
    | some d => q d
    | none => False
  | _ => False
theorem sim_xf {f : Str} : SimE K E (tXfP a C dd f (tVar i)) (wXf a C dd i f) := fun B env F σ H Q er q z _ w k => by
  unfold wXf at w
  split at w
  · rename_i a1 C1 d1 fs e
    obtain ⟨rfl, rfl, rfl, w⟩ := w
    obtain ⟨h1, xs, h2, r⟩ := z.sl i _ e
    cases e2 : fs.lookup f with
    | none =>
      rw [e2] at w
      exact w.elim
    | some d =>
      rw [e2] at w
      obtain ⟨v, e3, rv⟩ := r.lookup e2
      exact ⟨.ref a1, h1, rfl, xs, v, z.fh _ _ h2, e3, k.here z.fh rv w⟩
  · exact w.elim
def wCntB (wo : WO) : WE := fun env er q => wo env er fun l => ∃ bs, bools l = some bs ∧ q (.int (bs.count true : Nat))
theorem sim_cntB {ta : TE} {wo : WO} (h : SimL K E ta wo) : SimE K E (tBM K "list" (rCntB K) ta (tCons (tC (.bl true)) tNil)) (wCntB wo) := fun B env F σ H Q er q z l w k =>
  h B env F σ H _ er _ z l w fun p xs ds F1 H1 s1 h1 r1 ⟨bs, e, w1⟩ => by
    rw [bools_rep r1 e] at h1
    exact ⟨.inl ⟨rfl, _, h1⟩, p, bs, rfl, rfl, h1, k _ _ F1 H1 s1 (.int _) w1⟩
theorem exn_at {K : PySem.W.Frag} {N : List Str} {F H : Hp} {p C dd : Addr} {xs : List (Str × V)} {fs : List (Str × D)} (s : Fz F H) (h : F dd = some (.xd xs)) (r : RepF K F xs fs) (hl : 1 ≤ N.length) : At K ⟨F, H⟩ (.exn p C dd fs :: List.replicate (N.length - 1) .un) F (L2.start N [.ref p]) H := by
  refine ⟨?_, Stp.refl s, fun i sv e => ?_, fun i j t u c e1 e2 m1 _ _ _ => ?_⟩
  · unfold L2.start
    simp
  · cases i with
    | zero =>
      cases e
      exact ⟨rfl, xs, h, r⟩
    | succ i =>
      have z := List.mem_of_getElem? (show (List.replicate (N.length - 1) SV.un)[i]? = some sv by simpa using e)
      rw [(List.mem_replicate.mp z).2]
      trivial
  · exfalso
    have z := List.mem_of_getElem? e1
    rcases List.mem_cons.mp z with z | z
    · rw [z] at m1
      exact m1
    · rw [(List.mem_replicate.mp z).2] at m1
      exact m1
theorem okP_def {P : Program} {w : World} {mg : Str → Option Value} {base : Heap} {x qual : Str} {st : Stmt} {f : Addr} {fd : FuncData} {N : List Str} {k : Nat} {S : FE} (Fn : Fun K x qual st f fd) (sc : FnScope N ["_law_e"] (defScope st)) (hn : 1 ≤ N.length)
    (hC : ∀ C fs q, S ⟨C, fs⟩ q → ErrK K C)
    (hb : ∀ (cdv : Value) (A : Around) (outer : List Env) (s : Shared) (H : Hp) (E : XK) (p : Addr × Obj) (C dd : Addr), L2H.RoomH k (A.deeper (envOfC qual (defScope st) s.heap.objs.size f cdv)) → A.guards = some [] → ErrK K C → (∃ fs q, S ⟨C, fs⟩ q) →
      PinE (L2H.cxH (L2.CX P w) P w K mg base N qual (defScope st) f cdv A outer s H E p) p C dd →
      ∃ t ws, PSs (L2H.cxH (L2.CX P w) P w K mg base N qual (defScope st) f cdv A outer s H E p) (defBody st) t ∧ SimS K E t ws ∧
        ∀ fs q, S ⟨C, fs⟩ q → ws { nx := fun _ => q .non, rt := q, er := fun _ => False } (.exn p.1 C dd fs :: List.replicate (N.length - 1) .un)) :
    FnP P w K mg base (L2.CX P w) (k + 1) f fd ["_law_e"] (spS K S) := by
  refine fnP_of Fn sc (fun p vs H Q E h => ?_) fun cdv A outer s H vs Q E p hr hg h => ?_
  · obtain ⟨C, dd, F, xs, fs, q, rfl, _⟩ := h
    rfl
  · obtain ⟨C, dd, F, xs, fs, q, rfl, hz, hf, fz, e1, r, hS, k⟩ := h
    obtain ⟨t, ws, h1, h2, h3⟩ := hb cdv A outer s H E p C dd hr hg (hC _ _ _ hS) ⟨fs, q, hS⟩ ⟨List.mem_cons_self, hz, hf⟩
    refine ⟨t, h1, h2 ⟨F, H⟩ _ _ ⟨fun env F1 σ H1 a z => k _ _ F1 H1 a.st .non z, fun x d F1 H1 st r z => k x d F1 H1 st r z, fun _ _ _ _ _ z => False.elim z, fun _ _ _ _ _ z => False.elim z, EL.no⟩ _ F _ H (exn_at fz e1 r hn) (h3 fs q hS)⟩
end
end DL
/-! DLR6: the end of a law whose defs make lambdas and tell reprs (FnG). -/
namespace DL
open PySem L2 PySem.Spec PyProof.Rows
abbrev emptyT : Obj := { cls := .none, data := .fields #[] }
abbrev scrO (us : List Value) : Obj := { cls := .type "list", data := .seq us.toArray }
/-- what is tracked at the start: the tables of the lambdas' makers, and the script unless it is known already -/
def stH (K : PySem.W.Frag) (Ps : List Addr) (a : Addr) (us : List Value) (ns : List Int) : Hp := fun b =>
  if Ps.contains b then some (.tbl #[]) else if b = a then (match K.lookup a with
    | none => some (.frz (scrO us) (.lst (ns.map V.int)))
    | some _ => none) else none
section
variable {K : PySem.W.Frag} {Ps : List Addr} {a b : Addr} {us : List Value} {ns : List Int} {u : HO}
theorem stH_tab (h : b ∈ Ps) : stH K Ps a us ns b = some (.tbl #[]) := if_pos (List.contains_iff_mem.mpr h)
theorem stH_inv (e : stH K Ps a us ns b = some u) : (b ∈ Ps ∧ u = .tbl #[]) ∨ (b = a ∧ K.lookup a = none ∧ u = .frz (scrO us) (.lst (ns.map V.int))) := by
  unfold stH at e
  by_cases hb : Ps.contains b = true
  · rw [if_pos hb] at e
    exact .inl ⟨List.contains_iff_mem.mp hb, (Option.some.inj e).symm⟩
  · rw [if_neg hb] at e
    by_cases ha : b = a
    · rw [if_pos ha] at e
      split at e
      · rename_i hk
        exact .inr ⟨ha, hk, (Option.some.inj e).symm⟩
      · cases e
    · rw [if_neg ha] at e
      cases e
theorem stH_not (h : ∀ u, stH K Ps a us ns b = some u → False) : stH K Ps a us ns b = none := by
  cases e : stH K Ps a us ns b with
  | none => rfl
  | some u => exact (h u e).elim
end
/-- the law's def called at the start -/
theorem law_callG {P : Program} {w : World} {K : PySem.W.Frag} {mg mb : Str → Option Value} {k : Nat} {fa a : Addr} {cs : List (Addr × Addr × Str)} {fd : FuncData} {x : Str} {s : Shared} {us : List Value} {ns : List Int}
    (KX : K.In s.heap) (hgl : s.heap.Ns mainGlobals mg) (hbi : s.heap.Ns builtinsNs mb) (hboot : ∀ y : Str, y ≠ "__name__" → mb y = bootBuiltins y) (hnl : s.heap.NoLimit) (hgn : s.gens = #[])
    (hmod : ∃ (bm : Addr) (ob : Obj), mg "__builtins__" = some (.ref bm) ∧ bm ≠ builtinsNs ∧ s.heap.get? bm = some ob ∧ ob.cls = .type "module" ∧ ob.dict = some builtinsNs ∧ ob.data = .plain)
    (hT : ∀ p ∈ cs, s.heap.get? p.2.1 = some emptyT ∧ K.lookup p.2.1 = none ∧ PySem.W.codeHdIn K p.1 p.2.1 = true)
    (hs : s.heap.get? a = some (scrO us)) (hi : IntsAre us ns) (hl : ns.length ≤ 63) (hr : Room k callerA) (hbind : ∀ (s : Shared) (u : Value), BindsTo s fd ⟨[u], []⟩ [(x, u)])
    (F : ∀ base : Heap, K.In base → base.Ns mainGlobals mg → (∀ p ∈ cs, LamX.TabB base mg p.1 p.2.1) → FnG P w K mg base (L2.CX P w) k fa fd [x] (@spOf ⟨cs.map (·.2)⟩ K 1 sLawD)) :
    codeAny (model P w) callerA (.call (.ref fa) ⟨[.ref a], []⟩) (fun r t => r = .ok (.ret (.bool true)) ∧ OldK s.heap t.heap ∧ t.os = s.os ∧ AllBare t.gens) s := by
  have H0 : ∃ H, H = stH K (cs.map (·.2.1)) a us ns := ⟨_, rfl⟩
  obtain ⟨H, eH⟩ := H0
  have inv : ∀ b u, H b = some u → (b ∈ cs.map (·.2.1) ∧ u = .tbl #[]) ∨ (b = a ∧ K.lookup a = none ∧ u = .frz (scrO us) (.lst (ns.map V.int))) := fun b u e => stH_inv (by rw [← eH]; exact e)
  have tab : ∀ b ∈ cs.map (·.2.1), s.heap.get? b = some emptyT ∧ K.lookup b = none := fun b hb => by
    obtain ⟨p, hp, rfl⟩ := List.mem_map.mp hb
    exact ⟨(hT p hp).1, (hT p hp).2.1⟩
  have len : us.length = ns.length := hi.length
  have vs : Vals (ns.map V.int) us := vals_ints hi
  have okH : HOk P w H s.heap := fun b u e => by
    rcases inv b u e with ⟨hb, rfl⟩ | ⟨rfl, _, rfl⟩
    · exact (tab b hb).1
    · exact ⟨hs, by rw [List.length_map]; exact Nat.le_trans hl (by decide), us, _, vs, hs⟩
  -- what is no empty table and no list is not tracked
  have out : ∀ b (o : Obj), s.heap.get? b = some o → o ≠ emptyT → o ≠ scrO us → H b = none := fun b o e n1 n2 => by
    cases q : H b with
    | none => rfl
    | some u =>
      rcases inv b u q with ⟨hb, _⟩ | ⟨rfl, _, _⟩
      · exact (n1 (Option.some.inj (e.symm.trans (tab b hb).1))).elim
      · exact (n2 (Option.some.inj (e.symm.trans hs))).elim
  have ns_ : ∀ {b : Addr} {m : Str → Option Value}, s.heap.Ns b m → (hidT s.heap H).Ns b m := fun {b m} ⟨o, es, n, e, d, r⟩ => ⟨o, es, n, hidT_get e (out b o e (fun z => by rw [z] at d; cases d) fun z => by rw [z] at d; cases d), d, r⟩
  have KB : K.In (hidT s.heap H) := fun b o e => by
    refine hidT_get (KX b o e) ?_
    cases q : H b with
    | none => rfl
    | some u =>
      rcases inv b u q with ⟨hb, _⟩ | ⟨rfl, hk, _⟩
      · rw [(tab b hb).2] at e
        cases e
      · rw [hk] at e
        cases e
  obtain ⟨mc, c1, c2⟩ := hnl
  have modB : L2.Mod K mg (hidT s.heap H) := ⟨KB, ns_ hgl, ⟨mb, ns_ hbi, hboot⟩, mc, ns_ c1, c2⟩
  have e0 : Env0 P w K mg (hidT s.heap H) callerA [] s H := ⟨rfl, modB, fun b o e => of_hidT e, Nat.le_of_eq (hidT_size _ _), trivial, fun b hb => absurd (show b ∈ ([] : List Addr) from hb) List.not_mem_nil, okH, .of_eq hgn⟩
  have tbs : ∀ p ∈ cs, LamX.TabB (hidT s.heap H) mg p.1 p.2.1 := fun p hp => by
    obtain ⟨h1, h2, h3⟩ := hT p hp
    obtain ⟨bm, ob, b1, b2, b3, b4, b5, b6⟩ := hmod
    have hm : (mainGlobals : Addr) ≠ p.2.1 := fun z => by
      obtain ⟨o, es, n, e, d, _⟩ := hgl
      rw [z, h1] at e
      cases e
      cases d
    refine ⟨PySem.W.codeHd_of_K KB h3, ⟨bm, ob, b1, b2, fun z => ?_, fun z => ?_, hidT_get b3 (out bm ob b3 (fun z => ?_) fun z => ?_), b4, b5, b6⟩, hm⟩
    · obtain ⟨o, es, n, e, d, _⟩ := hgl
      rw [z, e] at b3
      cases b3
      rw [d] at b6
      cases b6
    · rw [z, h1] at b3
      cases b3
      cases b6
    · rw [z] at b6
      cases b6
    · rw [z] at b6
      cases b6
  have sq : SqL K H a (ns.map V.int) := by
    cases hk : K.lookup a with
    | some o =>
      have e := Option.some.inj ((KX a o hk).symm.trans hs)
      exact .inr ⟨o, us.toArray, _, hk, by rw [e], by rw [e], by rw [e], by rw [List.size_toArray, len]; exact Nat.le_trans hl (by decide), by simpa using vs⟩
    | none =>
      have na : ¬ (cs.map (·.2.1)).contains a = true := fun z => by
        have z1 := (tab a (List.contains_iff_mem.mp z)).1
        rw [hs] at z1
        cases z1
      refine .inl (.inr ⟨scrO us, ?_⟩)
      rw [eH]
      unfold stH
      rw [if_neg na, if_pos rfl, hk]
  have tbH : @LamX.Tabs (cs.map (·.2)) H := fun q hq => by
    obtain ⟨p, hp, rfl⟩ := List.mem_map.mp hq
    exact LamX.TabS.nil (by rw [eH]; exact stH_tab (List.mem_map.mpr ⟨p, hp, rfl⟩))
  refine codeAny_mono ((F _ KB (ns_ hgl) tbs).run callerA [] s H ⟨[.ref a], []⟩ [.ref a] [.ref a] (fun v _ => v = .bl true) (fun _ _ _ => False) hr rfl e0 (hbind s (.ref a)) (.cons rfl .nil) (@sp_law ⟨cs.map (·.2)⟩ K H a ns tbH hl sq)) fun r t h => ?_
  rcases r with e | fl
  · obtain ⟨_, _, _, _, _, _, _, _, _, _, _, _, h⟩ := (show L2.CX P w [] H s (fun _ _ _ => False) e t from h)
    exact h.elim
  · cases fl with
    | next => exact (show False from h).elim
    | brk => exact (show False from h).elim
    | cont => exact (show False from h).elim
    | ret u =>
      obtain ⟨v, H1, os, bare, un, ok1, rv, rfl⟩ := h
      obtain rfl : u = Value.bool true := rv
      have grow : ∀ b ∈ cs.map (·.2.1), ∃ more, t.heap.get? b = some { cls := .none, data := .fields more } := fun b hb => by
        obtain ⟨more, z⟩ := un.tbls b #[] (by rw [eH]; exact stH_tab hb)
        exact ⟨_, ok1 b _ z⟩
      have stay : ∀ b o, b ∉ cs.map (·.2.1) → s.heap.get? b = some o → t.heap.get? b = some o := fun b o nb e => by
        cases q : H b with
        | none => exact un.keep b o e q (fun z => absurd (show b ∈ ([] : List Addr) from z) List.not_mem_nil) List.not_mem_nil
        | some u =>
          rcases inv b u q with ⟨hb, _⟩ | ⟨rfl, _, rfl⟩
          · exact (nb hb).elim
          · have z := (ok1 b _ (un.frzs b _ _ q)).1
            rw [hs] at e
            rw [← e]
            exact z
      refine ⟨rfl, ⟨fun b o e => ?_, fun b o e => ?_⟩, os, bare⟩
      · by_cases hb : b ∈ cs.map (·.2.1)
        · obtain ⟨more, hm⟩ := grow b hb
          obtain ⟨p, hp, rfl⟩ := List.mem_map.mp hb
          obtain ⟨h1, _, h3⟩ := hT p hp
          have e1 := Option.some.inj (e.symm.trans h1)
          subst e1
          exact .inr (.inl ⟨((PySem.W.codeHd_of_K KX h3).tab h1).isCodeTable, rfl, #[], more, rfl, by rw [Array.empty_append]; exact hm⟩)
        · exact .inl (stay b o hb e)
      · by_cases hb : b ∈ cs.map (·.2.1)
        · obtain ⟨more, hm⟩ := grow b hb
          exact ⟨_, hm⟩
        · exact ⟨o, stay b o hb e⟩
theorem walkG {l : PySem.W.OpenLaw} {k : Nat} {x : Str} {q : Program} {loose : List Str} {XP : (Str → Option Value) → Heap → Prop} {d : DefRec} {K : Params → PySem.W.Frag} {as : List Addr} {e : ∀ P, as = (K P).map (·.1)} {ts : List Addr} (hn : l.most = some 63) (hdf : d.params.defaults = []) (hr : Room k callerA)
    (F : ∀ (w : World) (mg : Str → Option Value) (fa : Addr) (h : Heap), (K w.params).In h → h.Ns mainGlobals mg → mg d.name = some (.ref fa) →
      ∃ (cs : List (Addr × Addr × Str)) (fd : FuncData), (∀ p ∈ cs, p.2.1 ∈ ts ∧ (K w.params).lookup p.2.1 = none ∧ PySem.W.codeHdIn (K w.params) p.1 p.2.1 = true) ∧ (∀ (s : Shared) (u : Value), BindsTo s fd ⟨[u], []⟩ [(x, u)]) ∧
        ∀ base : Heap, (K w.params).In base → base.Ns mainGlobals mg → (∀ p ∈ cs, LamX.TabB base mg p.1 p.2.1) → FnG l.prog w (K w.params) mg base (L2.CX l.prog w) k fa fd [x] (@spOf ⟨cs.map (·.2)⟩ (K w.params) 1 sLawD)) :
    PySem.W.WalkO q loose XP (PySem.W.kmHook K as e ts).says l.row.toRowW d [] (fun f vs => PySem.call f vs) := by
  refine Att.attach_callB hn hdf fun w _ s mg mb fa o pm cd doc a us ns G Y ho hd hcd hmg hobj hints hlen hbits hg => ?_
  have KX := PySem.W.km_in_of Y
  have TX := PySem.W.km_tabs_of Y
  obtain ⟨cs, fd, h1, h2, h3⟩ := F w mg fa _ KX G.T.g hmg
  exact law_callG KX G.T.g G.T.b G.T.builtins G.T.nolimit hg G.T.bmain (fun p hp => ⟨TX _ (h1 p hp).1, (h1 p hp).2⟩) hobj hints hlen hr h2 h3
end DL
/-! DLR7: sum, the told call as one rule, names of built-ins. -/
namespace DL
open PySem L2 PySem.Spec PyProof.Rows
theorem bt_ValueError : bootBuiltins "ValueError" = some (.type "ValueError") := by kernel_rfl
theorem bt_LookupError : bootBuiltins "LookupError" = some (.type "LookupError") := by kernel_rfl
theorem bt_ArithmeticError : bootBuiltins "ArithmeticError" = some (.type "ArithmeticError") := by kernel_rfl
theorem hu128 {k : Nat} {A : Around} (hr : Room k A) : A.units + 128 < cLine := by
  have := hr.un
  omega
theorem huH {k : Nat} {A : Around} (hr : L2H.RoomH k A) : A.units + 128 < cLine := by
  have := hr.un
  omega
theorem huH64 {k : Nat} {A : Around} (hr : L2H.RoomH k A) : A.units + 64 < cLine := by
  have := hr.un
  omega
/-! ### sum(ints) -/
def rSumD (K : PySem.W.Frag) : List V → Hp → VK → Prop := fun xs H Q => ∃ (p : Addr) (ns : List Int), xs = [.ref p] ∧ (SqL K H p (ns.map V.int) ∨ SqT K H p (ns.map V.int)) ∧ Q (.int ns.sum) H
theorem call_sumD {X : Cx} (hc : X.calm = true) : CallR X (.builtin "sum") (rSumD X.K) := by
  intro pins s σ H xs us Q I r h
  obtain ⟨p, ns, rfl, h1 | h1, q⟩ := h
  · exact cr_sum hc pins s σ H _ us Q I r ⟨p, ns, rfl, h1, q⟩
  · obtain ⟨its, rv, ⟨⟨cls, dd, data, sl⟩, ho, hcl, n, hd⟩, _⟩ := I.tuple h1
    simp only at hcl hd
    subst hcl hd
    rw [Vals.ref1 r]
    have hi := rv.ints
    obtain ⟨zs, e⟩ := hi.allInts.items
    have hn : numsOf (intItems zs).toList = ns := by rw [← e]; exact hi.numsOf
    rw [nums_intItems] at hn
    rw [e] at ho
    refine PySem.W.ktm_sumG (I.ok.hd hc) ⟨_, ho, rfl, n, rfl⟩ fun h' tk t' hk => ⟨.int ns.sum, H, I.kept hk, ⟨t', ?_⟩, q⟩
    rw [preSum_eq, List.take_of_length_le (by simp), hn]
def intsOf : List D → Option (List Int)
  | [] => some []
  | .int i :: r => (intsOf r).map (i :: ·)
  | _ :: _ => none
theorem intsOf_map : ∀ l : List Int, intsOf (l.map D.int) = some l
  | [] => rfl
  | i :: r => by
    show (intsOf (r.map D.int)).map _ = _
    rw [intsOf_map r]
    rfl
def dSum : List D → (D → Prop) → Prop := fun ds q => match ds with
  | [.lst l] => ∃ ns, intsOf l = some ns ∧ q (.int ns.sum)
  | [.tup l] => ∃ ns, intsOf l = some ns ∧ q (.int ns.sum)
  | _ => False
section
variable [Tbl] {K : PySem.W.Frag}
theorem intsOf_rep {F : Hp} : ∀ {xs : List V} {ds : List D} {ns : List Int}, RepA K F xs ds → intsOf ds = some ns → xs = ns.map V.int
  | _, _, _, .nil, e => by
    cases e
    rfl
  | _, _, _, .cons (d := d) r1 r2, e => by
    cases d <;> try (cases e; done)
    cases r1
    unfold intsOf at e
    obtain ⟨ms, e1, rfl⟩ := Option.map_eq_some_iff.mp e
    rw [intsOf_rep r2 e1]
    rfl
theorem sim_sum : SimC K (rSumD K) dSum := fun F H xs ds Q q s r w k => by
  cases r with
  | nil => exact w.elim
  | cons r1 r2 =>
    cases r2 with
    | cons _ _ => cases r1 <;> exact w.elim
    | nil =>
      cases r1 with
      | lst h1 a1 =>
        obtain ⟨ns, e, w⟩ := w
        rw [intsOf_rep a1 e] at h1
        exact ⟨_, ns, rfl, .inl (SqL.of (s _ _ h1)), k.here s (.int _) w⟩
      | tup h1 a1 =>
        obtain ⟨ns, e, w⟩ := w
        rw [intsOf_rep a1 e] at h1
        exact ⟨_, ns, rfl, .inr (same_t s h1), k.here s (.int _) w⟩
      | _ => exact w.elim
end
/-! ### told -/
/-- the name of a lambda that the def qual makes -/
abbrev lamN (qual : Str) : Str := (qual ++ (".<locals>." : Str)) ++ ("<lambda>" : Str)
section
variable [Tbl] {X : Cx}
theorem pe_told {st : Stmt} {g C1 C2 C3 fs c P : Addr} {fdt fd : FuncData} {k kk j : Nat} {S : FE} {params : Arguments} {body : Expr} {scope : Scope} {t : XK → TE} {qual : Str} {p lpos pos p1 p2 p3 p4 p5 p6 p7 p8 p9 p10 p11 p12 p13 p14 p15 p16 p17 p18 : Pos}
    (Ft : Fun X.K "_law_told" "_law_told" st g fdt) (bt : Binds X.K fdt ["_law_act"] []) (hbd : defBody st = toldB p1 p2 p3 p4 p5 p6 p7 p8 p9 p10 p11 p12 p13 p14 p15 p16 p17 p18 kk j) (TS : ToldS (defScope st))
    (m1 : X.mg "ShapeError" = some (.ref C1)) (m2 : X.mg "QuestionError" = some (.ref C2)) (m3 : X.mg "SizeError" = some (.ref C3)) (ms : X.mg "_law_sort" = some (.ref fs))
    (Fs : FnP X.prog X.w X.K X.mg X.base (L2.CX X.prog X.w) k fs fd ["_law_e"] (spS X.K S)) (ks : PySem.W.keepIn X.K (.ref fs) = true) (bs : Binds X.K fd ["_law_e"] []) (hgd : X.A.guards = some [])
    (hg : Gl X "_law_told") (hm : X.mg "_law_told" = some (.ref g)) (TB : LamX.TabB X.base X.mg c P) (hcode : X.env.code = .ref c) (hq : X.env.qual = qual ++ (".<locals>." : Str)) (hmT : (P, lamN qual) ∈ Tbl.T) (hu : ∀ p ∈ Tbl.T, p.1 = P → p.2 = lamN qual) (hr : Room (k + 2) X.A)
    (L : LamX.LamS X.env.scope scope) (hdef : defaultsOf params X.env = ([], []))
    (hbind : ∀ (q : Str) (cl : List (Str × Addr)) (pm cv ctv : Value), bindArgs (PySem.W.kla_fn "<lambda>" q params body scope cl pm cv ctv) ⟨[], []⟩ = pure [])
    (hbody : ∀ (A : Around) (outer : List Env) (s : Shared) (H : Hp) (E : XK) (f c' : Addr), Room k (A.deeper (LamX.lamEnv X scope s.heap.objs.size f c')) → PE (LamX.lamCx X A outer s H E scope f c') body (t E)) :
    PE X (.Call (.Name "_law_told" p) [.Lambda params body scope lpos] [] pos) (LamX.tLam Tbl.T (TTold X.K [.ref C1, .ref C2, .ref C3] S) t) := by
  have e1 : lamN qual = X.env.qual ++ ("<lambda>" : Str) := by rw [hq]
  rw [e1] at hmT hu
  obtain ⟨oc, od, kV, doc, pm, an, cd, ct, osl, rfl, lk, hcd⟩ := Ft.ex
  rw [hbd] at lk bt
  exact LamX.pe_lamcall (a := "_law_act") hg hm Ft.kp lk hcd bt TS.fn rfl (.inl TS.la) (told_gives TS m1 m2 m3 ms Fs ks bs (hr.mono (by omega)) hgd) TB hcode hmT hu hr L hdef hbind hbody
end
end DL
/-! DLN: enumerate of a tuple. -/
namespace DL
open PySem L2 PySem.Spec PyProof.Rows
open Sem (wp)
open AutoSeq1 (wpAny_loadPart')

theorem meets_enumT (l : Addr) (items : Array Value) (n : Nat) (dct : Option Addr) (sl : Array (Option Value)) :
    Meets (Builtin.«enumerate.__new__» ⟨[.type "enumerate", .ref l], []⟩) (fun _ R s => s.heap.get? l = some { cls := .type "tuple", dict := dct, data := .seq items n, slots := sl } ∧
      R (.ok (.ret (.ref (s.heap.push { cls := .type "tuple_iterator", data := .fields #[.ref l, .int 0 0] }).objs.size)))
        { s with heap := (s.heap.push { cls := .type "tuple_iterator", data := .fields #[.ref l, .int 0 0] }).push { cls := .type "enumerate", data := .fields #[.none, .bool false, .ref s.heap.objs.size, rawInt 0, .none, .none] } }) :=
  .of_wp fun prog w A R s h => by
    obtain ⟨hp, g, d, tk, os⟩ := s; obtain ⟨hl, h⟩ := h
    have hsub := sub_enumerate
    have hL : Heap.IsTuple (Shared.heap ⟨hp, g, d, tk, os⟩) l items := ⟨_, hl, rfl, n, rfl⟩
    wp_walk using wpAny_loadPart' hl
    refine wpAny_stack_any fun st => wpAny_pure ?_
    split
    · rename_i c _ _ _ _ _
      cases (c == Value.type "enumerate")
      · wp_walk using wpAny_loadPart' hl, wpAny_pyIter_tuple hL
        exact ⟨_, rfl, h⟩
      · wp_walk using wpAny_loadPart' hl, wpAny_pyIter_tuple hL
        exact ⟨_, rfl, h⟩
    · wp_walk using wpAny_loadPart' hl, wpAny_pyIter_tuple hL
      exact ⟨_, rfl, h⟩

theorem call_enumT {prog : Program} {w : World} {A : Around} {E : Value → Shared → Prop} {s : Shared} {l : Addr} {items : Array Value} {Q : Value → Shared → Prop} (hL : s.heap.IsTuple l items)
    (h : ∀ h', IsEnum h' (s.heap.objs.size + 1) s.heap.objs.size 0 .none → h'.IsTupleIter s.heap.objs.size l 0 → h'.objs.size = s.heap.objs.size + 2 →
      (∀ b o, s.heap.get? b = some o → h'.get? b = some o) → Q (.ref (s.heap.objs.size + 1)) { s with heap := h' }) :
    wpAny (model prog w) A (call (.type "enumerate") [.ref l]) Q E s := by
  obtain ⟨⟨c, dct, dt, sl⟩, hl, hc, n, hd⟩ := hL
  replace hc : c = .type "tuple" := hc
  replace hd : dt = .seq items n := hd
  subst hc hd
  refine callType_new F.called_enumerate (by decide) (F.typeCall_enumerate_1 _) (F.newCall_enumerate_1 _) (fun obj => F.args_object_init_2 obj _) F.entry_enumerate_new
    (meets_enumT l items n dct sl) ⟨hl, ?_⟩
  have hz : (s.heap.push { cls := .type "tuple_iterator", data := .fields #[.ref l, .int 0 0] }).objs.size = s.heap.objs.size + 1 := Heap.size_push ..
  show _ ∧ _
  rw [hz]
  have he : IsEnum ((s.heap.push { cls := .type "tuple_iterator", data := .fields #[.ref l, .int 0 0] }).push
      { cls := .type "enumerate", data := .fields #[.none, .bool false, .ref s.heap.objs.size, rawInt 0, .none, .none] }) (s.heap.objs.size + 1) s.heap.objs.size 0 .none := by
    have := Heap.get?_push_size (s.heap.push { cls := .type "tuple_iterator", data := .fields #[.ref l, .int 0 0] })
      (o := { cls := .type "enumerate", data := .fields #[.none, .bool false, .ref s.heap.objs.size, rawInt 0, .none, .none] }) rfl
    rw [hz] at this; exact this
  refine ⟨⟨_, he, rfl⟩, h _ he ⟨_, Heap.get?_push_of_some _ (Heap.get?_push_size _ rfl), rfl, rfl⟩ (by rw [Heap.size_push, hz]) fun b o x => Heap.get?_push_of_some _ (Heap.get?_push_of_some _ x)⟩

/-- enumerate of a tuple: each item in a new pair -/
def IteT (K : PySem.W.Frag) (a : Addr) : It :=
  ⟨fun i H => ∃ (xs : List V) (x : V), SqT K H a xs ∧ xs[i]? = some x, fun i H v H' => ∃ T x, v = .ref T ∧ H T = none ∧ H' = upd H T (.tup [.int (i : Nat), x]) ∧ ∀ xs, SqT K H a xs → xs[i]? = some x, fun i H => ∃ xs : List V, SqT K H a xs ∧ xs.length = i⟩
theorem turn_enumT {P : Program} {w : World} {K : PySem.W.Frag} {elts : List Expr} {kk : Nat} {tpos : Pos} (a e it : Addr) (hai : a ≠ it) (hae : a ≠ e) :
    Turn P w K (.Tuple elts kk tpos) (IteT K a) [e, it] e (fun i h => (∃ old, IsEnum h e it ((i : Nat) : Int) old) ∧ h.IsTupleIter it a i ∧ e ≠ it) where
  mem := by simp
  obj := fun i h st b hb => by
    obtain ⟨⟨old, he⟩, ⟨o, ho, hc, hd⟩, _⟩ := st
    have e' : b = e ∨ b = it := by simpa using hb
    rcases e' with z | z
    · rw [z]; exact ⟨_, he, fun v q => nomatch q⟩
    · rw [z]; exact ⟨o, ho, fun v q => by rw [hd] at q; cases q⟩
  keep := fun i h h' st k => let ⟨⟨old, he⟩, hi, hne⟩ := st; ⟨⟨old, k e (by simp) _ he⟩, hi.at fun o q => k it (by simp) o q, hne⟩
  item := by
    intro X hP hw hK hc i pins s σ H E I hf st hg
    subst hP hw hK
    obtain ⟨⟨old, he⟩, hit, hne⟩ := st
    obtain ⟨xs, x, hq, hx⟩ := hg
    obtain ⟨its, rv, p, hz⟩ := I.tuple hq
    obtain ⟨u, hu, ru⟩ := rv.get hx
    have hel : e < s.heap.objs.size := Heap.lt_size he
    have hil : it < s.heap.objs.size := by obtain ⟨_, q, _⟩ := hit; exact Heap.lt_size q
    have hlt : i < its.length := by
      rcases Nat.lt_or_ge i its.length with q | q
      · exact q
      · rw [List.getElem?_eq_none q] at hu
        cases hu
    refine wpAny_pyNext_enum_itemD (Draws.tuple (prog := X.prog) (w := X.w) (A := X.A.in1) (I.ok.hd hc) it a hai its.toArray) he ⟨hit, p⟩ (by simpa using hlt) hne (by
      intro z
      rcases List.mem_cons.mp z with z | z
      · exact hne z
      · exact hae (List.mem_singleton.mp z).symm) fun u' h' tk hP ho hit' hT hsz hk => ?_
    obtain rfl : u' = u := by
      have : its.toArray[i]? = some u := by simpa using hu
      exact Option.some.inj (hP.symm.trans this)
    refine ⟨_, rfl, wpAny_letOwnedTupleGo_enum (s := { s with heap := h', toks := tk + 1 }) ho fun h'' he' sb => ?_⟩
    have hT2 : h''.get? s.heap.objs.size = some { cls := .type "tuple", data := .seq #[.int i tk, u'] } := (sb.2 _ (Nat.ne_of_gt hel)).trans hT
    have new : ObjOk X.prog X.w (upd H s.heap.objs.size (.tup [.int (i : Nat), x])) h'' s.heap.objs.size (.tup [.int (i : Nat), x]) :=
      ⟨by show 2 ≤ sizeLine; decide, [.int i tk, u'], .cons ⟨_, rfl⟩ (.cons ru .nil), ⟨_, hT2, rfl, _, rfl⟩⟩
    have I1 : Inv X pins σ (upd H s.heap.objs.size (.tup [.int (i : Nat), x])) { s with heap := h'', toks := tk + 1 } :=
      I.turnedNew (ch := [e, it]) (fun b ob hb q => (sb.2 b (fun z => hb (by simp [z]))).trans (hk b ob (fun z => hb (by simp [z])) (fun z => hb (by simp [z])) q)) hf (Nat.le_refl _) new
    refine ⟨.ref s.heap.objs.size, _, I1, rfl, ⟨_, x, rfl, I.hok.fresh (Nat.le_refl _), rfl, fun ys hy => by rw [I.tuple_inj hy hq]; exact hx⟩, ⟨⟨u', ?_⟩, hit'.1.at fun o q => (sb.2 it (Ne.symm hne)).trans q, hne⟩, fun b hb => ?_⟩
    · have e1 : ((i + 1 : Nat) : Int) = (i : Int) + 1 := by omega
      rw [e1]; exact he'
    · have hb' : b < s.heap.objs.size := by
        have e' : b = e ∨ b = it := by simpa using hb
        rcases e' with z | z
        · rw [z]; exact hel
        · rw [z]; exact hil
      rw [upd_ne (Nat.ne_of_lt hb')]
      exact (hf b hb).1
  done := by
    intro X hP hw hK hc i pins s σ H E I hf st hg
    subst hP hw hK
    obtain ⟨⟨old, he⟩, hit, hne⟩ := st
    obtain ⟨xs, hq, hx⟩ := hg
    obtain ⟨its, rv, p, hz⟩ := I.tuple hq
    obtain ⟨f0, f1, f2, f3, f4, f5⟩ := hf it (by simp)
    have hl := rv.length
    have hn : its.toArray.size = i := by rw [List.size_toArray, ← hl, hx]
    exact wpAny_pyNext_enum_endD (Draws.tuple (prog := X.prog) (w := X.w) (A := X.A.in1) (I.ok.hd hc) it a hai its.toArray) he (hn.symm ▸ ⟨hit, p⟩) fun h' eb => ⟨rfl, I.turned (t' := s.toks) (fun b o hb q => eb b o hb q) f0 f1 f3 f4 f5⟩
  self := fun A i s Q E st h => let ⟨⟨_, he⟩, _⟩ := st; wpAny_pyIter_enum he h
def iEnumT (K : PySem.W.Frag) (ta : TA) : TI := fun σ H R => ta σ H fun vs H1 => ∃ a xs, vs = [.ref a] ∧ SqT K H1 a xs ∧ R (IteT K a) H1
theorem pi_enumT {X : Cx} {e : Expr} {ta : TA} {p pos tpos : Pos} {elts : List Expr} {kk : Nat} (hg : Gl X "enumerate") (hm : X.mg "enumerate" = none) (ha : PA X [e] ta) (hs : starEach [e] X.env = [(false, eval e X.env)] := by rfl) :
    PI X (.Tuple elts kk tpos) (.Call (.Name "enumerate" p) [e] [] pos) (iEnumT X.K ta) := by
  refine ⟨fun pins s σ H R I h => ?_⟩
  refine Call_ (ld_blt I hg hm boot_enumerate (PyProof.Rows.callWith_type1 (thn (ha.run pos pins s σ H _ I h) fun us s1 ⟨vs, H1, I1, r1, q1⟩ => ?_) hs rfl))
  obtain ⟨a, xs, ex, hq, q⟩ := q1
  subst ex
  cases r1 with
  | cons r rr =>
    cases rr
    cases r
    obtain ⟨its, rv, p', hz⟩ := I1.tuple hq
    have hlt : a < s1.heap.objs.size := by obtain ⟨o, ho, _⟩ := p'; exact Heap.lt_size ho
    refine call_enumT p' fun h' he hit hsz hk => wpAny_pyIter_enum he ?_
    have I2 : Inv X pins σ H1 { s1 with heap := h' } := I1.kept (t' := s1.toks) hk
    refine ⟨s1.heap.objs.size + 1, [s1.heap.objs.size + 1, s1.heap.objs.size], _, _, H1, rfl, I2, turn_enumT a (s1.heap.objs.size + 1) s1.heap.objs.size (Nat.ne_of_lt hlt) (Nat.ne_of_lt (Nat.lt_succ_of_lt hlt)), ⟨⟨.none, he⟩, hit, Nat.succ_ne_self _⟩, fun b hb => ?_, q⟩
    have e' : b = s1.heap.objs.size + 1 ∨ b = s1.heap.objs.size := by simpa using hb
    have hle : s1.heap.objs.size ≤ b := by
      rcases e' with z | z
      · rw [z]; exact Nat.le_add_right _ _
      · rw [z]; exact Nat.le_refl _
    exact I1.fpOk hle (I1.hok.fresh hle)
/-- over data -/
def enumD : Nat → List D → List D
  | _, [] => []
  | i, d :: r => .tup [.int (i : Nat), d] :: enumD (i + 1) r
theorem enumD_len : ∀ (i : Nat) (l : List D), (enumD i l).length = l.length
  | _, [] => rfl
  | i, _ :: r => congrArg Nat.succ (enumD_len (i + 1) r)
theorem enumD_get : ∀ (i : Nat) (l : List D) (j : Nat), (enumD i l)[j]? = (l[j]?).map fun d => .tup [.int ((i + j : Nat) : Int), d]
  | _, [], _ => by simp [enumD]
  | i, d :: r, 0 => by simp [enumD]
  | i, d :: r, j + 1 => by
    show (enumD (i + 1) r)[j]? = (r[j]?).map _
    rw [enumD_get (i + 1) r j, show i + 1 + j = i + (j + 1) by omega]
section
variable [Tbl]
def iEnumW (wa : WA) : WI := fun env er q => wa env er fun ds => match ds with
  | [.tup l] => q (enumD 0 l)
  | _ => False
theorem wk_enumT {K : PySem.W.Frag} {F0 : Hp} {a : Addr} {xs : List V} {ds : List D} (h : SqT K F0 a xs) (r : RepA K F0 xs ds) : Wk K (IteT K a) F0 (enumD 0 ds) := fun i F H sf fh => by
  have hH : SqT K H a xs := same_t (sf.trans fh.sm) h
  refine ⟨fun d hd => ?_, fun hi => ⟨xs, hH, by rw [hi, enumD_len, r.len]⟩⟩
  rw [enumD_get] at hd
  obtain ⟨y, hy, rfl⟩ := Option.map_eq_some_iff.mp hd
  obtain ⟨x, hx, rx⟩ := r.getD hy
  refine ⟨⟨xs, x, hH, hx⟩, fun z H' hz => ?_⟩
  obtain ⟨T, x', rfl, hT, rfl, g⟩ := hz
  have e : x' = x := Option.some.inj ((g xs hH).symm.trans hx)
  subst e
  refine ⟨_, Stp.new fh hT, .tup (.inl (.inl upd_same)) ?_⟩
  rw [Nat.zero_add]
  exact (RepA.cons (.int _) (.one (rx.mono sf))).mono (same_new (fh.free hT))
theorem simi_enumT {K : PySem.W.Frag} {E : XK} {ta : TA} {wa : WA} (h : SimA K E ta wa) : SimI K E (iEnumT K ta) (iEnumW wa) := fun B env F σ H R er q a l w k =>
  h B env F σ H _ er _ a l w fun xs ds F1 H1 s1 r1 w1 => by
    cases r1 with
    | nil => exact w1.elim
    | cons r rr =>
      cases rr with
      | cons _ _ => exact (by cases r <;> exact w1.elim)
      | nil =>
        cases r with
        | tup h1 h2 => exact ⟨_, _, rfl, same_t s1.fh.sm h1, k _ _ F1 H1 s1 (wk_enumT h1 h2) w1⟩
        | _ => exact w1.elim
end
end DL
/-! DLD: dicts with texts as keys; new values of any kind; lists of texts. -/
namespace DL
open PySem L2

/-! ### tables -/
def sput {α : Type} (xs : List (Str × α)) (k : Str) (v : α) : List (Str × α) := if (xs.any fun p => decide (p.1 = k)) = true then xs.map (fun p => if p.1 = k then (p.1, v) else p) else xs ++ [(k, v)]
theorem keyed_any (xs : List (Str × V)) (k : Str) : ((keyed xs).any fun p => decide (p.1 = Sum.inr k)) = xs.any fun p => decide (p.1 = k) := by
  induction xs with
  | nil => rfl
  | cons p r ih =>
    show (decide ((Sum.inr p.1 : Key) = Sum.inr k) || _) = (decide (p.1 = k) || _)
    rw [← ih]
    congr 1
    exact decide_eq_decide.mpr ⟨fun e => Sum.inr.inj e, fun e => by rw [e]⟩
theorem keyed_put (xs : List (Str × V)) (k : Str) (v : V) : putK (keyed xs) (Sum.inr k) v = keyed (sput xs k v) := by
  unfold putK sput
  rw [keyed_any]
  by_cases h : (xs.any fun p => decide (p.1 = k)) = true
  · rw [if_pos h, if_pos h]
    clear h
    induction xs with
    | nil => rfl
    | cons p r ih =>
      show (if (Sum.inr p.1 : Key) = Sum.inr k then _ else _) :: _ = _
      rw [ih]
      by_cases e : p.1 = k
      · rw [if_pos (by rw [e])]
        show _ = (Sum.inr (if p.1 = k then (p.1, v) else p).1, (if p.1 = k then (p.1, v) else p).2) :: _
        rw [if_pos e]
      · rw [if_neg (fun z => e (Sum.inr.inj z))]
        show _ = (Sum.inr (if p.1 = k then (p.1, v) else p).1, (if p.1 = k then (p.1, v) else p).2) :: _
        rw [if_neg e]
  · rw [if_neg h, if_neg h]
    show _ = keyed (xs ++ [(k, v)])
    simp [keyed]
theorem keyed_val (xs : List (Str × V)) (k : Str) : valV (keyed xs) (Sum.inr k) = xs.lookup k := by
  induction xs with
  | nil => rfl
  | cons p r ih =>
    obtain ⟨j, x⟩ := p
    rw [List.lookup_cons]
    by_cases e : k = j
    · subst e
      show valV ((Sum.inr k, x) :: keyed r) (Sum.inr k) = _
      rw [valV_pos (p := (Sum.inr k, x)) rfl]
      simp
    · show valV ((Sum.inr j, x) :: keyed r) (Sum.inr k) = _
      rw [valV_neg (p := (Sum.inr j, x)) (fun z => e (Sum.inr.inj z).symm)]
      rw [show (k == j) = false from beq_eq_false_iff_ne.mpr e]
      exact ih
theorem RepF.anyK {K : PySem.W.Frag} {F : Hp} {k : Str} : ∀ {xs : List (Str × V)} {fs : List (Str × D)}, RepF K F xs fs → (xs.any fun p => decide (p.1 = k)) = fs.any fun p => decide (p.1 = k)
  | _, _, .nil => rfl
  | (n, v) :: xs, (_, d) :: fs, .cons h r => by
    rw [List.any_cons, List.any_cons, RepF.anyK r]
theorem RepF.mapPut {K : PySem.W.Frag} {F : Hp} {k : Str} {y : V} {d : D} (hy : Rep K F y d) : ∀ {xs : List (Str × V)} {fs : List (Str × D)}, RepF K F xs fs → RepF K F (xs.map (fun p => if p.1 = k then (p.1, y) else p)) (fs.map (fun p => if p.1 = k then (p.1, d) else p))
  | _, _, .nil => .nil
  | (n, v) :: xs, (_, e) :: fs, .cons h r => by
    rw [List.map_cons, List.map_cons]
    by_cases z : n = k
    · rw [if_pos z, if_pos z]
      exact .cons hy (RepF.mapPut hy r)
    · rw [if_neg z, if_neg z]
      exact .cons h (RepF.mapPut hy r)
theorem RepF.snoc {K : PySem.W.Frag} {F : Hp} {k : Str} {y : V} {d : D} (hy : Rep K F y d) : ∀ {xs : List (Str × V)} {fs : List (Str × D)}, RepF K F xs fs → RepF K F (xs ++ [(k, y)]) (fs ++ [(k, d)])
  | _, _, .nil => .cons hy .nil
  | (n, v) :: xs, (_, e) :: fs, .cons h r => .cons h (RepF.snoc hy r)
theorem RepF.sput {K : PySem.W.Frag} {F : Hp} {k : Str} {y : V} {d : D} {xs : List (Str × V)} {fs : List (Str × D)} (r : RepF K F xs fs) (hy : Rep K F y d) : RepF K F (sput xs k y) (sput fs k d) := by
  unfold DL.sput
  rw [r.anyK]
  split
  · exact RepF.mapPut hy r
  · exact RepF.snoc hy r
theorem RepF.isSome {K : PySem.W.Frag} {F : Hp} {k : Str} {xs : List (Str × V)} {fs : List (Str × D)} (r : RepF K F xs fs) : (xs.lookup k).isSome = (fs.lookup k).isSome := by
  cases e : fs.lookup k with
  | none =>
    rw [r.none e]
    rfl
  | some d =>
    obtain ⟨x, ex, _⟩ := r.lookup e
    rw [ex]
    rfl

variable [Tbl]
theorem Grw.rd {H H' : Hp} {a : Addr} {u : HO} (g : Grw H H') (h : Rd H a u) (n : NT u := by exact True.intro) : Rd H' a u := by
  rcases h with h | ⟨o, h⟩
  · exact .inl (g.get h n)
  · exact .inr ⟨o, g.get h⟩
section
variable {K : PySem.W.Frag} {E E1 : XK} {te ta tb tc td : TE} {we wa wb wc : WE} {i j m : Nat} {X : Cx}
/-! ### new values -/
inductive NV where
  | d (v : D) | own (l : List D) | dic (fs : List (Str × D))
def NV.sv : NV → SV
  | .d v => .d v
  | .own l => .own l
  | .dic fs => .dic fs
abbrev WN := EV → ER → (NV → Prop) → Prop
def NvOk (K : PySem.W.Frag) (F' H H' : Hp) (x : V) : NV → Prop
  | .d v => Rep K F' x v
  | .own l => ∃ (a : Addr) (xs : List V), x = .ref a ∧ Fre H a ∧ H' a = some (.lst xs) ∧ F' a = none ∧ RepA K F' xs l
  | .dic fs => ∃ (a : Addr) (xs : List (Str × V)), x = .ref a ∧ Fre H a ∧ H' a = some (.dK (keyed xs)) ∧ F' a = none ∧ RepF K F' xs fs
def SimN (K : PySem.W.Frag) (E : XK) (te : TE) (w : WN) : Prop := ∀ (B : Ent) (env : EV) (F : Hp) (σ : St) (H : Hp) (Q : VK) (er : ER) (q : NV → Prop), At K B env F σ H → EL K B E er → w env er q →
  (∀ (x : V) (nv : NV) (F' H' : Hp), Stp F F' H H' → NvOk K F' H H' x nv → q nv → Q x H') → te σ H Q
theorem NvOk.step {F1 F2 H H1 H2 : Hp} {x : V} {nv : NV} (h : NvOk K F1 H H1 x nv) (s : Stp F1 F2 H1 H2) : NvOk K F2 H H2 x nv := by
  cases nv with
  | d v => exact Rep.mono s.ff h
  | own l =>
    obtain ⟨a, xs, e, f, h1, h2, r⟩ := h
    exact ⟨a, xs, e, f, s.hh.get h1, s.nw a h2 ⟨_, h1, trivial⟩, RepA.mono s.ff r⟩
  | dic l =>
    obtain ⟨a, xs, e, f, h1, h2, r⟩ := h
    exact ⟨a, xs, e, f, s.hh.get h1, s.nw a h2 ⟨_, h1, trivial⟩, RepF.mono s.ff r⟩
theorem At.setNv {B : Ent} {env : EV} {F0 F H0 H : Hp} {σ : St} {x : V} {nv : NV} (a0 : At K B env F0 σ H0) (s : Stp F0 F H0 H) (h : NvOk K F H0 H x nv) : At K B (env.set i nv.sv) F (σ.set i (some x)) H := by
  cases nv with
  | d v => exact (a0.step s).set h
  | own l =>
    obtain ⟨a, xs, rfl, f, h1, h2, r⟩ := h
    exact a0.setNew s f h1 h2 r
  | dic l =>
    obtain ⟨a, xs, rfl, f, h1, h2, r⟩ := h
    exact (a0.step s).setMine (sv := .dic l) trivial ⟨a, xs, rfl, h1, r, h2, a0.st.hh.fr _ f⟩ fun j t _ e m z => (a0.sl j t e).there m z f
def nE (we : WE) : WN := fun env er q => we env er fun d => q (.d d)
theorem simn_E (h : SimE K E te we) : SimN K E te (nE we) := fun B env F σ H Q er q a l w k =>
  h B env F σ H _ er _ a l w fun x d F1 H1 s1 r1 w1 => k x (.d d) F1 H1 s1 r1 w1
def nO (wo : WO) : WN := fun env er q => wo env er fun l => q (.own l)
theorem simn_O {wo : WO} (h : SimO K E te wo) : SimN K E te (nO wo) := fun B env F σ H Q er q a l w k =>
  h B env F σ H _ er _ a l w fun p xs ds F1 H1 s1 hp h1 hf r1 w1 => k _ (.own ds) F1 H1 s1 ⟨p, xs, rfl, hp, h1, hf, r1⟩ w1
def nDict : WN := fun _ _ q => q (.dic [])
theorem simn_dict : SimN K E tDNewK nDict := fun B env F σ H Q er q a l w k => fun p hp =>
  k _ (.dic []) F _ (Stp.fresh a.fh hp) ⟨p, [], rfl, .inl hp, upd_same, a.fh.free hp, .nil⟩ w
def nDisp1 (wa wb : WE) : WN := fun env er q => wa env er fun k => match k with
  | .str k => wb env er fun v => q (.dic [(k, v)])
  | _ => False
theorem simn_disp1 (ha : SimE K E ta wa) (hb : SimE K E tb wb) : SimN K E (tDisp [(ta, tb)]) (nDisp1 wa wb) := fun B env F σ H Q er q a l w k => fun p hp => by
  have s0 : Stp F F H (upd H p (.dK [])) := Stp.fresh a.fh hp
  refine ha B env F σ _ _ er _ (a.step s0) l w fun x d F1 H1 s1 r1 w1 => ?_
  cases r1 with
  | str z =>
    refine hb B env F1 σ H1 _ er _ (a.step (s0.trans s1)) l w1 fun y e F2 H2 s2 r2 w2 => ?_
    have g : H2 p = some (.dK []) := (s1.trans s2).hh.get upd_same
    have f2 : F2 p = none := (s1.trans s2).nw p (a.fh.free hp) ⟨_, upd_same, trivial⟩
    refine ⟨g, [(Sum.inr z, y)], rfl, by show 1 ≤ 15; decide, ?_⟩
    have st := (s0.trans s1).trans s2
    have st' : Stp F F2 H (upd H2 p (.dK (keyed [(z, y)]))) := st.mut (.inl hp) f2 g
    exact k _ (.dic [(z, e)]) F2 _ st' ⟨p, [(z, y)], rfl, .inl hp, upd_same, f2, .cons r2 .nil⟩ w2
  | _ => exact w1.elim
/-- a new dict, locked for ever, as data -/
def tFzD (t : TE) : TE := fun σ H Q => t σ H fun v H1 => ∃ d u, v = .ref d ∧ H1 d = some u ∧ Mut (some u) ∧ ∀ od, Q v (upd H1 d (.frz od u))
theorem pe_fzD {e : Expr} (h : PE X e te) : PE X e (tFzD te) := ⟨fun pins s σ H Q I hw => thn (h.run pins s σ H _ I hw) fun v s1 ⟨x, H1, I1, r, d, u, ex, hd, mu, q⟩ => by
  obtain ⟨od, I2⟩ := I1.lock hd mu
  exact ⟨x, _, I2, r, q od⟩⟩
def wFzD (wn : WN) : WE := fun env er q => wn env er fun nv => match nv with
  | .dic fs => q (.dct fs)
  | _ => False
theorem sim_fzD {wn : WN} (h : SimN K E te wn) : SimE K E (tFzD te) (wFzD wn) := fun B env F σ H Q er q a l w k =>
  h B env F σ H _ er _ a l w fun x nv F1 H1 s1 r1 w1 => by
    cases nv with
    | dic l =>
      obtain ⟨p, xs, rfl, hp, h1, hf, r⟩ := r1
      refine ⟨p, _, rfl, h1, trivial, fun od => ?_⟩
      have s2 : Stp F F1 H (upd H1 p (.frz od (.dK (keyed xs)))) := s1.mut hp hf h1
      exact k _ _ _ _ (s2.freeze hp hf upd_same) (.dct upd_same (r.mono (same_new hf))) w1
    | _ => exact w1.elim
/-! ### stores -/
def sAsgN (i : Nat) (wn : WN) : WS := fun n env => wn env n.er fun nv => n.nx (env.set i nv.sv)
theorem sims_asgN {wn : WN} (h : SimN K E te wn) : SimS K E (tAsg te (gName i)) (sAsgN i wn) := fun B Dd n L env F σ H a w =>
  h B env F σ H _ n.er _ a L.er w fun x nv F1 H1 s1 r1 w1 => L.nx _ F1 _ H1 (a.setNv s1 r1) w1
def sParN (i j : Nat) (wa wb : WN) : WS := fun n env => wa env n.er fun x => wb env n.er fun y => n.nx ((env.set i x.sv).set j y.sv)
theorem sims_parN {wa wb : WN} (ha : SimN K E ta wa) (hb : SimN K E tb wb) : SimS K E (tPar i j (tCons ta (tCons tb tNil))) (sParN i j wa wb) := fun B Dd n L env F σ H a w =>
  ha B env F σ H _ n.er _ a L.er w fun x nv F1 H1 s1 r1 w1 => hb B env F1 σ H1 _ n.er _ (a.step s1) L.er w1 fun y nw F2 H2 s2 r2 w2 =>
    ⟨x, y, rfl, L.nx _ F2 _ H2 ((a.setNv s1 r1).setNv s2 r2) w2⟩
def sParN3 (i j m : Nat) (wa wb wc : WN) : WS := fun n env => wa env n.er fun x => wb env n.er fun y => wc env n.er fun z => n.nx (((env.set i x.sv).set j y.sv).set m z.sv)
theorem sims_parN3 {wa wb wc : WN} (ha : SimN K E ta wa) (hb : SimN K E tb wb) (hc : SimN K E tc wc) : SimS K E (tPar3 i j m (tCons ta (tCons tb (tCons tc tNil)))) (sParN3 i j m wa wb wc) := fun B Dd n L env F σ H a w =>
  ha B env F σ H _ n.er _ a L.er w fun x nv F1 H1 s1 r1 w1 => hb B env F1 σ H1 _ n.er _ (a.step s1) L.er w1 fun y nw F2 H2 s2 r2 w2 => hc B env F2 σ H2 _ n.er _ (a.step (s1.trans s2)) L.er w2 fun z nz F3 H3 s3 r3 w3 =>
    ⟨x, y, z, rfl, L.nx _ F3 _ H3 (((a.setNv s1 r1).setNv s2 r2).setNv s3 r3) w3⟩
theorem sims_tupN {wa wb : WN} (ha : SimN K E ta wa) (hb : SimN K E tb wb) : SimS K E (tAsg (tTup (tCons ta (tCons tb tNil))) (gTup K 2 (gCons (gName i) (gCons (gName j) gNil)))) (sParN i j wa wb) := fun B Dd n L env F σ H a w =>
  ha B env F σ H _ n.er _ a L.er w fun x nv F1 H1 s1 r1 w1 => hb B env F1 σ H1 _ n.er _ (a.step s1) L.er w1 fun y nw F2 H2 s2 r2 w2 =>
    ⟨by show 2 ≤ sizeLine; decide, fun T hT => ⟨T, _, rfl, .inl (.inl upd_same), rfl, _, _, rfl, _, _, rfl, rfl, by
      have s := Stp.fresh (o := .tup [x, y]) s2.fh hT
      exact L.nx _ F2 _ _ (((a.setNv s1 r1).setNv s2 r2).step s) w2⟩⟩
theorem sims_tupN3 {wa wb wc : WN} (ha : SimN K E ta wa) (hb : SimN K E tb wb) (hc : SimN K E tc wc) : SimS K E (tAsg (tTup (tCons ta (tCons tb (tCons tc tNil)))) (gTup K 3 (gCons (gName i) (gCons (gName j) (gCons (gName m) gNil))))) (sParN3 i j m wa wb wc) := fun B Dd n L env F σ H a w =>
  ha B env F σ H _ n.er _ a L.er w fun x nv F1 H1 s1 r1 w1 => hb B env F1 σ H1 _ n.er _ (a.step s1) L.er w1 fun y nw F2 H2 s2 r2 w2 => hc B env F2 σ H2 _ n.er _ (a.step (s1.trans s2)) L.er w2 fun z nz F3 H3 s3 r3 w3 =>
    ⟨by show 3 ≤ sizeLine; decide, fun T hT => ⟨T, _, rfl, .inl (.inl upd_same), rfl, _, _, rfl, _, _, rfl, _, _, rfl, rfl, by
      have s := Stp.fresh (o := .tup [x, y, z]) s3.fh hT
      exact L.nx _ F3 _ _ ((((a.setNv s1 r1).setNv s2 r2).setNv s3 r3).step s) w3⟩⟩
/-! ### dicts looked at -/
abbrev WD := EV → ER → (List (Str × D) → Prop) → Prop
def SimD (K : PySem.W.Frag) (E : XK) (te : TE) (w : WD) : Prop := ∀ (B : Ent) (env : EV) (F : Hp) (σ : St) (H : Hp) (Q : VK) (er : ER) (q : List (Str × D) → Prop), At K B env F σ H → EL K B E er → w env er q →
  (∀ (a : Addr) (xs : List (Str × V)) (fs : List (Str × D)) (F' H' : Hp), Stp F F' H H' → Rd H' a (.dK (keyed xs)) → RepF K F' xs fs → q fs → Q (.ref a) H') → te σ H Q
def dOwn (i : Nat) : WD := fun env _ q => match env[i]? with
  | some (.dic fs) => q fs
  | _ => False
theorem simd_own : SimD K E (tVar i) (dOwn i) := fun B env F σ H Q er q a _ w k => by
  unfold dOwn at w
  split at w
  · rename_i fs e
    obtain ⟨p, xs, ex, h1, r, h2, h3⟩ := a.sl i _ e
    exact ⟨.ref p, ex, k p xs fs F H (Stp.refl a.fh) (.inl h1) r w⟩
  · exact w.elim
def dE (we : WE) : WD := fun env er q => we env er fun d => match d with
  | .dct fs => q fs
  | _ => False
theorem simd_E (h : SimE K E te we) : SimD K E te (dE we) := fun B env F σ H Q er q a l w k =>
  h B env F σ H _ er _ a l w fun x d F1 H1 s1 r1 w1 => by
    cases r1 with
    | dct h1 h2 => exact k _ _ _ F1 H1 s1 (.inr ⟨_, s1.fh _ _ h1⟩) h2 w1
    | _ => exact w1.elim
/-- d[k] -/
def wDGet (wd : WD) (wk : WE) : WE := fun env er q => wd env er fun fs => wk env er fun k => match k with
  | .str k => match fs.lookup k with
    | some d => q d
    | none => False
  | _ => False
theorem sim_dget {wd : WD} (hd : SimD K E td wd) (hk : SimE K E ta wa) : SimE K E (tDGet td ta) (wDGet wd wa) := fun B env F σ H Q er q a l w k =>
  hd B env F σ H _ er _ a l w fun p xs fs F1 H1 s1 h1 r1 w1 => hk B env F1 σ H1 _ er _ (a.step s1) l w1 fun y e F2 H2 s2 r2 w2 => by
    cases r2 with
    | str z =>
      have w2' : (match fs.lookup z with | some d => q d | none => False) := w2
      cases ee : fs.lookup z with
      | none =>
        rw [ee] at w2'
        exact w2'.elim
      | some d =>
        rw [ee] at w2'
        obtain ⟨v, ev, rv⟩ := r1.lookup ee
        refine ⟨p, v, rfl, .inl ⟨keyed xs, Sum.inr z, s2.hh.rd h1, rfl, ?_⟩, k v d F2 H2 (s1.trans s2) (rv.mono s2.ff) w2'⟩
        rw [keyed_val, ev]
    | _ => exact w2.elim
/-- k in d -/
def wDIn (wk : WE) (wd : WD) : WE := fun env er q => wk env er fun k => match k with
  | .str k => wd env er fun fs => q (.bl (fs.lookup k).isSome)
  | _ => False
theorem sim_din {wd : WD} (hk : SimE K E ta wa) (hd : SimD K E td wd) : SimE K E (tDIn ta td) (wDIn wa wd) := fun B env F σ H Q er q a l w k =>
  hk B env F σ H _ er _ a l w fun y e F1 H1 s1 r1 w1 => by
    cases r1 with
    | str z =>
      refine hd B env F1 σ H1 _ er _ (a.step s1) l w1 fun p xs fs F2 H2 s2 h2 r2 w2 => ?_
      refine ⟨p, xs.lookup z, rfl, .inl ⟨keyed xs, Sum.inr z, h2, rfl, (keyed_val xs z).symm⟩, ?_⟩
      rw [r2.isSome]
      exact k _ _ F2 H2 (s1.trans s2) (.bl _) w2
    | _ => exact w1.elim
def wDNotIn (wk : WE) (wd : WD) : WE := fun env er q => wk env er fun k => match k with
  | .str k => wd env er fun fs => q (.bl (!(fs.lookup k).isSome))
  | _ => False
theorem sim_dnotin {wd : WD} (hk : SimE K E ta wa) (hd : SimD K E td wd) : SimE K E (tDNotIn ta td) (wDNotIn wa wd) := fun B env F σ H Q er q a l w k =>
  hk B env F σ H _ er _ a l w fun y e F1 H1 s1 r1 w1 => by
    cases r1 with
    | str z =>
      refine hd B env F1 σ H1 _ er _ (a.step s1) l w1 fun p xs fs F2 H2 s2 h2 r2 w2 => ?_
      refine ⟨p, xs.lookup z, rfl, .inl ⟨keyed xs, Sum.inr z, h2, rfl, (keyed_val xs z).symm⟩, ?_⟩
      rw [r2.isSome]
      exact k _ _ F2 H2 (s1.trans s2) (.bl _) w2
    | _ => exact w1.elim
/-- d[k] = v, one's own dict -/
def sDPutW (i : Nat) (wk wv : WE) : WS := fun n env => wv env n.er fun v => match env[i]? with
  | some (.dic fs) => wk env n.er fun k => match k with
    | .str k => fs.length < sizeLine ∧ n.nx (env.set i (.dic (sput fs k v)))
    | _ => False
  | _ => False
theorem sims_dput (hk : SimE K E ta wa) (hv : SimE K E tb wb) : SimS K E (sDPut (tVar i) ta tb) (sDPutW i wa wb) := fun B Dd n L env F σ H a w =>
  hv B env F σ H _ n.er _ a L.er w fun v d F1 H1 s1 r1 w1 => by
    cases e : env[i]? with
    | none =>
      rw [e] at w1
      exact w1.elim
    | some sv =>
      rw [e] at w1
      cases sv with
      | dic fs =>
        obtain ⟨p, xs, ex, h1, r, h2, h3⟩ := (a.step s1).sl i _ e
        refine ⟨.ref p, ex, hk B env F1 σ H1 _ n.er _ (a.step s1) L.er w1 fun y k F2 H2 s2 r2 w2 => ?_⟩
        cases r2 with
        | str z =>
          have g2 : H2 p = some (.dK (keyed xs)) := s2.hh.get h1
          have f2 : F2 p = none := s2.nw p h2 ⟨_, h1, trivial⟩
          have rr : RepF K F2 (sput xs z v) (sput fs z d) := (RepF.mono s2.ff r).sput (r1.mono s2.ff)
          have hl : (keyed xs).length < sizeLine := by
            rw [List.length_map, r.len]
            exact w2.1
          refine ⟨p, upd H2 p (.dK (keyed (sput xs z v))), rfl, .inl ⟨keyed xs, Sum.inr z, g2, rfl, hl, by rw [keyed_put]⟩, ?_⟩
          exact L.nx _ F2 _ _ ((a.step (s1.trans s2)).changeG (sw := .dic (sput fs z d)) e trivial ex g2 trivial f2 h3 ⟨p, _, rfl, upd_same, rr, f2, h3⟩) w2.2
        | _ => exact w2.elim
      | _ => exact w1.elim
/-- from here on a dict as any other -/
def sFrzD (i : Nat) (w : WS) : WS := fun n env => match env[i]? with
  | some (.dic l) => w n (env.set i (.d (.dct l)))
  | _ => False
def tFrzS (t : TS) : TS := fun D σ H => ∃ d u, H d = some u ∧ Mut (some u) ∧ ∀ od, t D σ (upd H d (.frz od u))
theorem ps_frzD {st : Stmt} {t : TS} (h : PS X st t) : PS X st (tFrzS t) := ⟨fun pins s σ H D I ⟨d, u, hd, mu, hw⟩ => by
  obtain ⟨od, I1⟩ := I.lock hd mu
  exact h.run pins s σ _ D I1 (hw od)⟩
theorem sims_frzD {ts : TS} {ws : WS} (h : SimS K E ts ws) : SimS K E (tFrzS ts) (sFrzD i ws) := fun B Dd n L env F σ H a w => by
  unfold sFrzD at w
  split at w
  · rename_i l e
    obtain ⟨p, xs, ex, h1, r, h2, h3⟩ := a.sl i _ e
    exact ⟨p, _, h1, trivial, fun od => h B Dd n L _ _ σ _ (a.freezeD e ex h1 h2 h3 r) w⟩
  · exact w.elim
/-! ### {k: v for ..} -/
def wCompD (g : D → EV → (EV → Prop) → Prop) (wt : WT) (wk wv : WE) (ew : EV) (er : ER) (q : List (Str × D) → Prop) : List D → List (Str × D) → Prop
  | [], acc => q acc
  | d :: r, acc => g d ew fun env2 => wt env2 er fun b => (b = true → wk env2 er fun k => match k with
      | .str k => wv env2 er fun v => acc.length < sizeLine ∧ wCompD g wt wk wv ew er q r (sput acc k v)
      | _ => False) ∧ (b = false → wCompD g wt wk wv ew er q r acc)
def nDc (wi : WI) (g : D → EV → (EV → Prop) → Prop) (wt : WT) (wk wv : WE) (vs : List Nat) : WN := fun env er q => wi env er fun ds => wCompD g wt wk wv (wipeE env vs) er (fun fs => q (.dic fs)) ds []
theorem simn_dc {wi : TI} {wl : WI} {js vs : List Nat} {tg : TG} {g : D → EV → (EV → Prop) → Prop} {tt : TT} {wt : WT} (hl : SimI K E wi wl) (hg : SimG K js tg g) (ht : SimT K E tt wt) (hk : SimE K E ta wa) (hv : SimE K E tb wb) (hj : ∀ j ∈ js, j ∈ vs) :
    SimN K E (tDc wi tg tt ta tb vs) (nDc wl g wt wa wb vs) := fun B env F σ H Q er q a l w k =>
  hl B env F σ H _ er _ a l w fun J ds F1 H1 s1 wk w2 => fun Dl hD => by
    have a1 := a.step s1
    have hDF : F1 Dl = none := s1.fh.free hD
    have hDH : Fre H Dl := s1.hh.fr _ (.inl hD)
    obtain ⟨P, hP⟩ : ∃ P : Nat → Hp → Prop, P = fun i H' => ∃ (F' : Hp) (acc : List (Str × D)) (xs : List (Str × V)), Stp F1 F' H1 H' ∧ H' Dl = some (.dK (keyed xs)) ∧ F' Dl = none ∧ RepF K F' xs acc ∧ wCompD g wt wa wb (wipeE env vs) er (fun fs => q (.dic fs)) (ds.drop i) acc := ⟨_, rfl⟩
    refine ⟨fun i m H' => m = ds.length - i ∧ i ≤ ds.length ∧ P i H', ⟨ds.length, by simp, Nat.zero_le _, by rw [hP]; exact ⟨F1, [], [], Stp.fresh s1.fh hD, upd_same, hDF, .nil, by rw [List.drop_zero]; exact w2⟩⟩, ?_⟩
    rintro i m H' ⟨rfl, hi, h⟩
    rw [hP] at h
    obtain ⟨F', acc, xs, s', h1, h2, r, wz⟩ := h
    obtain ⟨k1, k2⟩ := wk i F' H' s'.ff s'.fh
    by_cases hlt : i < ds.length
    · obtain ⟨dy, hd⟩ : ∃ dy, ds[i]? = some dy := ⟨_, List.getElem?_eq_getElem hlt⟩
      obtain ⟨kg, ky⟩ := k1 dy hd
      refine .inr ⟨kg, P (i + 1), fun H2 p2 => ⟨ds.length - (i + 1), by omega, rfl, hlt, p2⟩, fun y H2 hy => ?_⟩
      obtain ⟨F2, s2, ry⟩ := ky y H2 hy
      rw [drop_get hd] at wz
      have aw : At K B (wipeE env vs) F2 (wipe σ vs) H2 := ((a1.step s').step s2).wipe vs
      refine hg B _ F2 _ H2 y dy _ _ aw ry wz fun env2 σ2 a2 len2 off w3 => ⟨wipe_eq hj len2 off, ?_⟩
      refine ht B env2 F2 σ2 H2 _ er _ a2 l w3 fun b F3 H3 s3 w4 => ?_
      have d3 : H3 Dl = some (.dK (keyed xs)) := s3.hh.get (s2.hh.get h1)
      have f3 : F3 Dl = none := s3.nw _ (s2.nw _ h2 ⟨_, h1, trivial⟩) ⟨_, s2.hh.get h1, trivial⟩
      cases b with
      | true =>
        show (if true = true then _ else _)
        rw [if_pos rfl]
        refine hk B env2 F3 σ2 H3 _ er _ (a2.step s3) l (w4.1 rfl) fun z dz F4 H4 s4 r4 w5 => ?_
        cases r4 with
        | str kz =>
          refine hv B env2 F4 σ2 H4 _ er _ (a2.step (s3.trans s4)) l w5 fun u du F5 H5 s5 r5 w6 => ?_
          have d4 : H4 Dl = some (.dK (keyed xs)) := s4.hh.get d3
          have f4 : F4 Dl = none := s4.nw _ f3 ⟨_, d3, trivial⟩
          have d5 : H5 Dl = some (.dK (keyed xs)) := s5.hh.get d4
          have f5 : F5 Dl = none := s5.nw _ f4 ⟨_, d4, trivial⟩
          have hl5 : (keyed xs).length < sizeLine := by
            rw [List.length_map, r.len]
            exact w6.1
          refine ⟨keyed xs, Sum.inr kz, rfl, d5, hl5, ?_⟩
          rw [hP, keyed_put]
          have st := (((s'.trans s2).trans s3).trans s4).trans s5
          exact ⟨F5, sput acc kz du, sput xs kz u, st.mut (.inl hD) f5 d5, upd_same, f5, (RepF.mono (((s2.trans s3).trans s4).trans s5).ff r).sput r5, w6.2⟩
        | _ => exact w5.elim
      | false =>
        show (if false = true then _ else _)
        rw [if_neg Bool.false_ne_true, hP]
        exact ⟨F3, acc, xs, (s'.trans s2).trans s3, d3, f3, RepF.mono (s2.trans s3).ff r, w4.2 rfl⟩
    · have e : i = ds.length := by omega
      subst e
      rw [List.drop_length] at wz
      exact .inl ⟨k2 rfl, k (.ref Dl) (.dic acc) F' H' (s1.trans s') ⟨Dl, xs, rfl, hDH, h1, h2, r⟩ wz⟩
/-! ### lists of texts -/
theorem idxOf_min {α : Type} [BEq α] [LawfulBEq α] {x : α} : ∀ {ys : List α} {m : Nat}, ys[m]? = some x → m < ys.idxOf x → False
  | [], _, e, _ => by simp at e
  | y :: r, 0, e, h => by
    simp at e
    subst e
    simp at h
  | y :: r, m + 1, e, h => by
    rw [List.idxOf_cons] at h
    cases hb : y == x with
    | true =>
      rw [hb] at h
      simp at h
    | false =>
      rw [hb] at h
      simp only [cond_false] at h
      exact idxOf_min (ys := r) (m := m) (by simpa using e) (by omega)
theorem inV_strs (z : Str) (ys : List Str) : inV (.str z) (ys.map V.str) = decide (z ∈ ys) := by
  unfold inV
  induction ys with
  | nil => rfl
  | cons y r ih =>
    rw [List.map_cons, List.any_cons, ih]
    show ((y == z) || _) = _
    by_cases h : y = z
    · subst h
      simp
    · rw [beq_eq_false_iff_ne.mpr h]
      rw [Bool.false_or]
      exact decide_eq_decide.mpr ⟨fun m => List.mem_cons_of_mem _ m, fun m => (List.mem_cons.mp m).resolve_left fun e => h e.symm⟩
theorem flat_strs (ys : List Str) : (ys.map V.str).all flatV = true := by
  rw [List.all_map]
  exact List.all_eq_true.mpr fun _ _ => rfl
/-- k in xs, a list of texts -/
def wInS (neg : Bool) (wa : WE) (wo : WO) : WE := fun env er q => wa env er fun x => match x with
  | .str x => wo env er fun l => ∃ ys, strsD l = some ys ∧ q (.bl (if neg then !decide (x ∈ ys) else decide (x ∈ ys)))
  | _ => False
theorem sim_inS {wo : WO} {neg : Bool} (ha : SimE K E ta wa) (hl : SimL K E tb wo) : SimE K E (tOp (rIn K neg) ta tb) (wInS neg wa wo) := fun B env F σ H Q er q a l w k =>
  ha B env F σ H _ er _ a l w fun x d F1 H1 s1 r1 w1 => by
    cases r1 with
    | str z =>
      refine hl B env F1 σ H1 _ er _ (a.step s1) l w1 fun p xs ds F2 H2 s2 h2 r2 w2 => ?_
      obtain ⟨ys, ey, w3⟩ := w2
      obtain rfl := strs_rep r2 ey
      refine ⟨p, _, rfl, .inl h2, rfl, flat_strs ys, ?_⟩
      rw [inV_strs]
      exact k _ _ F2 H2 (s1.trans s2) (.bl _) w3
    | _ => exact w1.elim
/-- xs.index(x), a list of texts -/
def wIndexS (wo : WO) (we : WE) : WE := fun env er q => wo env er fun l => we env er fun d => match d with
  | .str x => ∃ ys, strsD l = some ys ∧ x ∈ ys ∧ q (.int (ys.idxOf x : Nat))
  | _ => False
theorem sim_indexS {wo : WO} (ho : SimL K E ta wo) (h : SimE K E te we) : SimE K E (tBM K "list" (rIndex K) ta (tCons te tNil)) (wIndexS wo we) := fun B env F σ H Q er q a l w k =>
  ho B env F σ H _ er _ a l w fun p xs ds F1 H1 s1 h1 r1 w1 => ⟨.inl ⟨rfl, xs, h1⟩, h B env F1 σ H1 _ er _ (a.step s1) l w1 fun y d F2 H2 s2 r2 w2 => by
    cases r2 with
    | str z =>
      obtain ⟨ys, ey, hm, w3⟩ := w2
      obtain rfl := strs_rep r1 ey
      have hi : ys.idxOf z < ys.length := List.idxOf_lt_length_iff.mpr hm
      refine ⟨p, _, .str z, ys.idxOf z, .str z, rfl, rfl, s2.hh.seq h1, rfl, flat_strs ys, ?_, beq_self_eq_true z, fun m z' hlt e => ?_, k _ _ F2 H2 (s1.trans s2) (.int _) w3⟩
      · rw [List.getElem?_map, List.getElem?_eq_getElem hi, List.getElem_idxOf hi]
        rfl
      · rw [List.getElem?_map] at e
        obtain ⟨y, ey2, rfl⟩ := Option.map_eq_some_iff.mp e
        show (y == z) = false
        refine beq_eq_false_iff_ne.mpr fun q => ?_
        subst q
        exact idxOf_min ey2 hlt
    | _ => exact w2.elim⟩
end
end DL
/-! DLS: static methods called through their class; lists put together; ints in a tuple. -/
namespace DL
open PySem L2 PySem.Spec PyProof.Rows
/-- C.m is a static method: its record at p, its def at g -/
structure SMet (K : PySem.W.Frag) (C g : Addr) (m : Str) : Prop where
  ex : ∃ (p : Addr) (mc : Value), PySem.W.readsIn K C mc = true ∧ PySem.W.findCls K (.ref C) mc m = some (.get (.builtin "staticmethod.__get__") (.ref p) .none (.ref C)) ∧ ∃ rest, PySem.W.recIn K p "staticmethod" = some (.ref g :: rest)
  ga : PySem.W.specialIn K (.ref C) "__getattribute__" = some (some (.builtin "type.__getattribute__"))
  kp : PySem.W.keepIn K (.ref g) = true
theorem huD [Tbl] {k : Nat} {A : Around} (hr : Room k A) : A.units + 1 < cLine := by
  have := hu64 hr
  omega
section
variable {X : Cx} {CX : CXT} {k : Nat} {C g : Addr} {fd : FuncData} {ps ks : List Str} {sp : Sp} {E : XK} {o e : Expr} {es : List Expr} {kws : List Keyword} {m : Str} {pos apos : Pos} {t tk : TA} {ds : List Value} {dvs : List V} {n : Nat} {gG : List Value → List Value → List Value} {gV : List V → List V → List V}
theorem getmethsm_ok {pl : Sem Bool} {pins : List (Addr × Obj)} {σ : L2.St} {H : Hp} {s : Shared} {A : Around} {E : Value → Shared → Prop} {Q : Value × List Value → Shared → Prop} (I : Inv X pins σ H s) (c : SMet X.K C g m)
    (h : ∀ s', Inv X pins σ H s' → Q (.ref g, []) s') : wpAny (model X.prog X.w) A (getMethod (.ref C) m pl) Q E s := by
  obtain ⟨p, mc, r1, r2, rest, r3⟩ := c.ex
  refine PySem.W.method_cls I.kIn c.ga (PySem.W.cls_bind I.kIn r1 r2 (wpAny_call (PySem.W.sm_get (s := { s with toks := s.toks + 1 }) I.kIn r3 (PySem.W.handed_on rfl ?_))))
  exact h _ (I.tok _)
theorem pe_static {pl : Sem Bool} (he : PE X o (tC (.ref C))) (c : SMet X.K C g m) (F : FnOk X.prog X.w X.K X.mg X.base CX k g fd ps sp) (hr : Room k X.A) (hb : Binds X.K fd ps ds) (hd : Vals dvs ds) (hx : Passes CX X E) (ha : PA X (e :: es) t)
    (hst : starEach (e :: es) X.env = (false, eval e X.env) :: starEach es X.env := by rfl) (hpl : (backTo pos (starEach es X.env)).any (·.1) = false := by rfl)
    (ht : eval (.Call (.Attribute o m apos) (e :: es) [] pos) X.env = (do
      let ov ← eval o X.env
      standAt apos.atName
      let (f, first) ← holding [ov] (getMethod ov m pl)
      callWith pos f first (backTo pos (starEach (e :: es) X.env)) (backToKw pos (keywordEach [] X.env))) := by rfl) :
    PE X (.Call (.Attribute o m apos) (e :: es) [] pos) (tCall sp dvs E t) := by
  refine ⟨fun pins s σ H Q I h => ?_⟩
  refine PySem.W.methodCall_KW (pl := pl) (thn (he.run pins s σ H (fun x H1 => x = .ref C ∧ H1 = H) I ⟨rfl, rfl⟩) fun u s1 ⟨x, H1, I1, rx, ex, eH⟩ => ?_) ht
  subst ex eH
  obtain rfl : u = Value.ref C := rx
  refine getmethsm_ok I1 c fun s2 I2 => ?_
  refine PySem.W.callWith_K (first := []) (h₀ := X.base) I.ok.mod.kin c.kp (thn (ha.run pos pins s2 σ H1 _ I2 h) fun us s3 ⟨vs, H2, I3, r, q2⟩ => ⟨I3.kIn, ?_⟩) hst hpl
  exact run_fn F hr hb hd hx I3 r q2
theorem pe_staticK {pl : Sem Bool} (he : PE X o (tC (.ref C))) (c : SMet X.K C g m) (F : FnOk X.prog X.w X.K X.mg X.base CX k g fd ps sp) (hr : Room k X.A) (hb : KBn X.K fd ps 0 ks gG gV) (hx : Passes CX X E)
    (hkw : PK X kws tk) (hall : (backToKw pos (keywordEach kws X.env)).all (·.1.isSome) = true := by rfl) (hks : (backToKw pos (keywordEach kws X.env)).filterMap (·.1) = ks := by rfl)
    (hpl : ((backTo pos (starEach [] X.env)).any (·.1) || (backToKw pos (keywordEach kws X.env)).any (·.1.isNone)) = false := by rfl)
    (ht : eval (.Call (.Attribute o m apos) [] kws pos) X.env = (do
      let ov ← eval o X.env
      standAt apos.atName
      let (f, first) ← holding [ov] (getMethod ov m pl)
      callWith pos f first (backTo pos (starEach [] X.env)) (backToKw pos (keywordEach kws X.env))) := by rfl) :
    PE X (.Call (.Attribute o m apos) [] kws pos) (tCallN 0 ks.length sp gV E tNil tk) := by
  refine ⟨fun pins s σ H Q I h => ?_⟩
  refine PySem.W.methodCall_KW (pl := pl) (thn (he.run pins s σ H (fun x H1 => x = .ref C ∧ H1 = H) I ⟨rfl, rfl⟩) fun u s1 ⟨x, H1, I1, rx, ex, eH⟩ => ?_) ht
  subst ex eH
  obtain rfl : u = Value.ref C := rx
  refine getmethsm_ok I1 c fun s2 I2 => ?_
  refine PySem.W.callWith_KW0 (first := []) (h₀ := X.base) I.ok.mod.kin c.kp hall (thn (hkw.run pos pins s2 σ H1 _ I2 h) fun ws s3 ⟨zs, H2, I3, rz, l1, l2, q2⟩ => ⟨I3.kIn, ?_⟩) hpl
  rw [hks]
  exact run_fnN (us := []) (vs := []) F hr hb hx I3 .nil rz rfl l2 q2
/-- f(k = v, ..) -/
theorem pe_callN0 {x : Str} {p : Pos} (F : FnOk X.prog X.w X.K X.mg X.base CX k g fd ps sp) (hr : Room k X.A) (hg : Gl X x) (hm : X.mg x = some (.ref g)) (hk : PySem.W.keepIn X.K (.ref g) = true) (hb : KBn X.K fd ps 0 ks gG gV) (hx : Passes CX X E)
    (hkw : PK X kws tk) (hall : (backToKw pos (keywordEach kws X.env)).all (·.1.isSome) = true := by rfl) (hks : (backToKw pos (keywordEach kws X.env)).filterMap (·.1) = ks := by rfl)
    (hdb : (x == ("__debug__" : Str)) = false := by decide)
    (hpl : ((backTo pos (starEach [] X.env)).any (·.1) || (backToKw pos (keywordEach kws X.env)).any (·.1.isNone)) = false := by rfl) :
    PE X (.Call (.Name x p) [] kws pos) (tCallN 0 ks.length sp gV E tNil tk) := by
  refine ⟨fun pins s σ H Q I h => ?_⟩
  refine wpAny_Call_Name_kw (ld_glob I hg hm ?_ hdb)
  refine PySem.W.callWith_KW0 (first := []) (h₀ := X.base) I.ok.mod.kin hk hall (thn (hkw.run pos pins s σ H _ I h) fun ws s3 ⟨zs, H2, I3, rz, l1, l2, q2⟩ => ⟨I3.kIn, ?_⟩) hpl
  rw [hks]
  exact run_fnN (us := []) (vs := []) F hr hb hx I3 .nil rz rfl l2 q2
end
section
variable [Tbl] {K : PySem.W.Frag} {E : XK} {ta tb : TE} {wa wb : WE}
/-- xs + ys, new lists both -/
def wCatO (wa wb : WO) : WO := fun env er q => wa env er fun x => wb env er fun y => x.length + y.length ≤ sizeLine ∧ q (x ++ y)
theorem simo_cat {wa wb : WO} (ha : SimO K E ta wa) (hb : SimO K E tb wb) : SimO K E (tOp (rAddD K) ta tb) (wCatO wa wb) := fun B env F σ H Q er q a l w k =>
  ha B env F σ H _ er _ a l w fun p xs lx F1 H1 s1 hp h1 hf r1 w1 => hb B env F1 σ H1 _ er _ (a.step s1) l w1 fun p2 ys ly F2 H2 s2 hp2 h2 hf2 r2 w2 => by
    refine .inr (.inr (.inl ⟨p, p2, xs, ys, rfl, rfl, s2.hh.get h1, h2, by rw [r1.len, r2.len]; exact w2.1, fun p3 hp3 => ?_⟩))
    have st := (s1.trans s2).trans (Stp.fresh (o := .lst (xs ++ ys)) s2.fh hp3)
    exact k p3 (xs ++ ys) (lx ++ ly) F2 _ st ((s1.trans s2).hh.fr _ (.inl hp3)) upd_same (s2.fh.free hp3) ((RepA.mono s2.ff r1).app r2) w2.2
/-- x in (a, b): ints -/
def intsD : List D → Option (List Int)
  | [] => some []
  | .int x :: r => (intsD r).map (x :: ·)
  | _ => none
theorem ints_rep {F : Hp} : ∀ {xs : List V} {l : List D} {bs : List Int}, RepA K F xs l → intsD l = some bs → xs = bs.map V.int
  | _, [], _, .nil, e => by
    cases e
    rfl
  | _, d :: l, bs, .cons h r, e => by
    cases h with
    | int b =>
      obtain ⟨bs', e1, rfl⟩ := Option.map_eq_some_iff.mp e
      rw [ints_rep r e1]
      rfl
    | _ => cases e
theorem inV_ints (z : Int) (ys : List Int) : inV (.int z) (ys.map V.int) = decide (z ∈ ys) := by
  unfold inV
  induction ys with
  | nil => rfl
  | cons y r ih =>
    rw [List.map_cons, List.any_cons, ih]
    show ((y == z) || _) = _
    by_cases h : y = z
    · subst h
      simp
    · rw [beq_eq_false_iff_ne.mpr h, Bool.false_or]
      exact decide_eq_decide.mpr ⟨fun m => List.mem_cons_of_mem _ m, fun m => (List.mem_cons.mp m).resolve_left fun e => h e.symm⟩
theorem flat_ints (ys : List Int) : (ys.map V.int).all flatV = true := by
  rw [List.all_map]
  exact List.all_eq_true.mpr fun _ _ => rfl
def dInI (neg : Bool) : D → D → (D → Prop) → Prop := fun x y q => match x, y with
  | .int i, .tup l => ∃ ns, intsD l = some ns ∧ q (.bl (if neg then !decide (i ∈ ns) else decide (i ∈ ns)))
  | .int i, .lst l => ∃ ns, intsD l = some ns ∧ q (.bl (if neg then !decide (i ∈ ns) else decide (i ∈ ns)))
  | .str i, .tup l => ∃ ns, strsD l = some ns ∧ q (.bl (if neg then !decide (i ∈ ns) else decide (i ∈ ns)))
  | .str i, .lst l => ∃ ns, strsD l = some ns ∧ q (.bl (if neg then !decide (i ∈ ns) else decide (i ∈ ns)))
  | _, _ => False
theorem sim_inI {neg : Bool} : Sim2 K (rIn K neg) (dInI neg) := fun F H x y d e Q q s r1 r2 w k => by
  cases r1 with
  | int i =>
    cases r2 with
    | tup h1 h2 =>
      obtain ⟨ns, e1, w⟩ := w
      obtain rfl := ints_rep h2 e1
      refine ⟨_, _, rfl, .inr (same_t s.sm h1), rfl, flat_ints ns, ?_⟩
      rw [inV_ints]
      exact k.here s (.bl _) w
    | lst h1 h2 =>
      obtain ⟨ns, e1, w⟩ := w
      obtain rfl := ints_rep h2 e1
      refine ⟨_, _, rfl, .inl (SqL.of (s _ _ h1)), rfl, flat_ints ns, ?_⟩
      rw [inV_ints]
      exact k.here s (.bl _) w
    | _ => exact w.elim
  | str i =>
    cases r2 with
    | tup h1 h2 =>
      obtain ⟨ns, e1, w⟩ := w
      obtain rfl := strs_rep h2 e1
      refine ⟨_, _, rfl, .inr (same_t s.sm h1), rfl, flat_strs ns, ?_⟩
      rw [inV_strs]
      exact k.here s (.bl _) w
    | lst h1 h2 =>
      obtain ⟨ns, e1, w⟩ := w
      obtain rfl := strs_rep h2 e1
      refine ⟨_, _, rfl, .inl (SqL.of (s _ _ h1)), rfl, flat_strs ns, ?_⟩
      rw [inV_strs]
      exact k.here s (.bl _) w
    | _ => exact w.elim
  | _ => cases r2 <;> exact w.elim
end
end DL
namespace DL
open PySem L2 PySem.Spec PyProof.Rows
/-- keywords of a def with defaults, all parameters written -/
theorem kb_permD [Tbl] {K : PySem.W.Frag} {x qual : Str} {params : Arguments} {body : List Stmt} {scope : Scope} {dvs : List V} {f : Addr} {fd : FuncData} {ps : List Str} (F : FunD K x qual params body scope dvs [] f fd) (n : Nat) (ks : List Str) (p : List Nat) (hd : dvs ≠ [])
    (h : ∀ (T : Addr) (kV doc pm : Value) (an : Option Addr) (cdv ct : Value) (us its ws : List Value), us.length = n → its.length = dvs.length → ws.length = ks.length →
      ∃ k, bindArgs (PySem.W.fnOf x qual params body scope (.ref T) kV doc pm an cdv ct) ⟨us, ks.zip ws⟩ = seqItems? (.ref T) >>= k ∧ k (some its.toArray) = pure (ps.zip (pmA p us ws))) : KBn K fd ps n ks (pmA p) (pmA p) := by
  obtain ⟨oc, od, dV, kV, doc, pm, an, cdv, ct, osl, rfl, lk, hcd, hD, hK⟩ := F.ex
  rcases hD with ⟨e, _⟩ | ⟨_, T, o, its, m, rfl, lT, oT, rT⟩
  · exact absurd e hd
  · refine ⟨fun s us ws X h1 h2 => ?_, fun h1 h2 => h1.append (perm_vals h2 p)⟩
    obtain ⟨k, e1, e2⟩ := h T kV doc pm an cdv ct us its ws h1 rT.length.symm h2
    refine BindsTo.of_looks fun M => ?_
    rw [e1]
    exact looks_items X lT oT (.of_pure e2)
end DL
/-! DLV: values of any kind: `{}` shown and compared with tuples, truths by `is`, list(tuple). -/
namespace DL
open PySem L2 PySem.Spec PyProof.Rows
theorem dict_ne_declines_tuple (l b : Addr) (items : Array Value) (n : Nat) (dd : Option Addr) (sl : Array (Option Value)) (es : Array DictEntry) (ep : Nat) (dd2 : Option Addr) (sl2 : Array (Option Value)) :
    Meets (Builtin.«dict.__ne__» ⟨[.ref b, .ref l], []⟩) (fun _ R s => s.heap.get? l = some { cls := .type "tuple", dict := dd, data := .seq items n, slots := sl } ∧ s.heap.get? b = some { cls := .type "dict", dict := dd2, data := .dict es ep, slots := sl2 } ∧ R (.ok (.ret .notImplemented)) s) :=
  .of_wp fun prog w A R s h => by obtain ⟨hp, g, d, tk, os⟩ := s; obtain ⟨hl, hb, h⟩ := h; have f1 := F.sub_tuple_dict; wp_walk using SeqAt.wpAny_loadPart' hl, SeqAt.wpAny_loadPart' hb; exact ⟨_, rfl, h⟩
theorem tuple_ne_declines_dict (l b : Addr) (items : Array Value) (n : Nat) (dd : Option Addr) (sl : Array (Option Value)) (es : Array DictEntry) (ep : Nat) (dd2 : Option Addr) (sl2 : Array (Option Value)) :
    Meets (Builtin.«tuple.__ne__» ⟨[.ref l, .ref b], []⟩) (fun _ R s => s.heap.get? l = some { cls := .type "tuple", dict := dd, data := .seq items n, slots := sl } ∧ s.heap.get? b = some { cls := .type "dict", dict := dd2, data := .dict es ep, slots := sl2 } ∧ R (.ok (.ret .notImplemented)) s) :=
  .of_wp fun prog w A R s h => by obtain ⟨hp, g, d, tk, os⟩ := s; obtain ⟨hl, hb, h⟩ := h; have f1 := F.sub_dict_tuple; wp_walk using SeqAt.wpAny_loadPart' hl, SeqAt.wpAny_loadPart' hb; exact ⟨_, rfl, h⟩
section
variable {X : Cx}
def rNeX (K : PySem.W.Frag) : R2 := fun x y H Q => rNeD K x y H Q ∨ ∃ a b xs kvs, x = .ref a ∧ y = .ref b ∧ Rd H a (.dK kvs) ∧ SqT K H b xs ∧ Q (.bl true) H
theorem op_neDT (hu : X.A.units + 64 < cLine) : OpR X (compareOp .NotEq) (fun x y H Q => ∃ a b xs kvs, x = .ref a ∧ y = .ref b ∧ Rd H a (.dK kvs) ∧ SqT X.K H b xs ∧ Q (.bl true) H) := by
  intro pins s σ H x y v u Q I rx ry h
  obtain ⟨a, b, xs, kvs, rfl, rfl, ha, hb, q⟩ := h
  cases (show v = Value.ref a from rx)
  cases (show u = Value.ref b from ry)
  obtain ⟨z1, z2, vs, kv, ⟨cls, dd, data, sl⟩, es, ep, ho, hx, hd, _⟩ := dk_rd I.hok ha
  obtain ⟨its, rv, ⟨⟨cls2, dd2, data2, sl2⟩, ho2, hc2, n2, hd2⟩, _⟩ := I.tuple hb
  obtain ⟨hc, hdd, hsl⟩ := hx
  simp only at hc hd hc2 hd2
  subst hc hd hc2 hd2
  have hne : a ≠ b := fun e => by
    subst e
    rw [ho] at ho2
    exact absurd (congrArg Obj.cls (Option.some.inj ho2)) (by simp)
  exact (SeqAt.rc_ne_decline_or (k := false) ⟨_, ho, rfl⟩ ⟨_, ho2, rfl⟩ (by decide) F.sub_tuple_dict F.slot_dict_ne F.slot_tuple_ne_refl
    (fun _ hq => call_meets F.slot_dict_ne ⟨_, ho, rfl⟩ F.entry_dict_ne (F.args_dict_ne_2 _ _) (dict_ne_declines_tuple b a its.toArray n2 dd2 sl2 es ep dd sl) ⟨ho2, ho, hq⟩)
    (fun _ hq => call_meets F.slot_tuple_ne_refl ⟨_, ho2, rfl⟩ F.entry_tuple_ne (F.args_tuple_ne_2 _ _) (tuple_ne_declines_dict b a its.toArray n2 dd2 sl2 es ep dd sl) ⟨ho2, ho, hq⟩)
    (fun _ hq => wpAny_isSame_ref_other hne ho ho2 (by simp) hq) (.inr (by omega)) ⟨.bl true, H, I, rfl, q⟩)
theorem op_neX (hu : X.A.units + 64 < cLine) : OpR X (compareOp .NotEq) (rNeX X.K) := OpR.or (op_neD hu) (op_neDT hu)
/-- repr, of data or {} -/
def rReprX (K : PySem.W.Frag) : List V → Hp → VK → Prop := fun xs H Q => rRepr K xs H Q ∨ ∃ a, xs = [.ref a] ∧ Rd H a (.dK []) ∧ Q (.str "{}") H
theorem call_reprX (hg : X.A.guards = some []) (hu : X.A.units + 128 < cLine) : CallR X (.builtin "repr") (rReprX X.K) := by
  intro pins s σ H xs us Q I r h
  rcases h with h | ⟨a, rfl, ha, q⟩
  · exact call_repr hg hu pins s σ H xs us Q I r h
  · obtain ⟨u, rfl, ru⟩ := vals1 r
    cases (show u = Value.ref a from ru)
    obtain ⟨z1, z2, vs, kv, o, es, ep, ho, hx, hd, _, hp, _⟩ := dk_rd I.hok ha
    cases kv
    obtain ⟨hc, hdd, hsl⟩ := hx
    have e0 : es.toList = [] := by
      cases e : es.toList with
      | nil => rfl
      | cons c r =>
        rw [e] at hp
        cases hp
    have rd : Reads s.heap (.ref a) (.dict []) (a :: [] ++ []) := .dict ho hc hd (by rw [e0]; exact .nil) (by rw [e0]; exact .nil)
    refine repr_of_reads' rd rfl (fun _ m => ?_) hg ?_ (fun _ _ e => e) (fun h1 tk0 tk k => ⟨.str "{}", H, I.kept k, ⟨_, rfl⟩, q⟩) (by decide)
    · have : a = sysModules := (by simpa using m : sysModules = a).symm
      rw [this] at z2
      simp at z2
    · show X.A.units + (1 + 1) < cLine
      omega
end
section
variable [Tbl] {K : PySem.W.Frag} {E : XK}
def dNeX : D → D → (D → Prop) → Prop := fun d e q => match d, e with
  | .dct _, .tup _ => q (.bl true)
  | d, e => dNe d e q
theorem sim_neX : Sim2 K (rNeX K) dNeX := fun F H x y d e Q q s r1 r2 w k => by
  unfold dNeX at w
  split at w
  · cases r1 with
    | dct h1 a1 =>
      cases r2 with
      | tup h2 a2 => exact .inr ⟨_, _, _, _, rfl, rfl, .inr ⟨_, s _ _ h1⟩, same_t s h2, k.here s (.bl _) w⟩
  · exact .inl (sim_ne F H x y _ _ Q q s r1 r2 w k)
def dReprX : List D → (D → Prop) → Prop := fun ds q => match ds with
  | [.dct []] => q (.str "{}")
  | ds => dRepr ds q
theorem sim_reprX : SimC K (rReprX K) dReprX := fun F H xs ds Q q s r w k => by
  unfold dReprX at w
  split at w
  · cases r with
    | cons r1 r2 =>
      cases r2
      cases r1 with
      | dct h1 a1 =>
        cases a1
        exact .inr ⟨_, rfl, .inr ⟨_, s _ _ h1⟩, k.here s (.str _) w⟩
  · exact .inl (sim_repr F H xs _ Q q s r w k)
/-! ### is, is not, of truths -/
abbrev rIsB : R2 := fun x y H Q => ∃ a b, x = .bl a ∧ y = .bl b ∧ Q (.bl (decide (a = b))) H
abbrev rNotB : R2 := fun x y H Q => ∃ a b, x = .bl a ∧ y = .bl b ∧ Q (.bl (!decide (a = b))) H
def dIsB : D → D → (D → Prop) → Prop
  | .bl a, .bl b, q => q (.bl (decide (a = b)))
  | _, _, _ => False
def dNotB : D → D → (D → Prop) → Prop
  | .bl a, .bl b, q => q (.bl (!decide (a = b)))
  | _, _, _ => False
theorem op_isB {X : Cx} : OpR X (compareOp .Is) rIsB := op_is_bl
theorem op_notB {X : Cx} : OpR X (compareOp .IsNot) rNotB := op_isnot_bl
theorem sim_isB : Sim2 K rIsB dIsB := fun F H x y d e Q q s r1 r2 w k => by
  cases r1 with
  | bl a =>
    cases r2 with
    | bl b => exact ⟨a, b, rfl, rfl, k.here s (.bl _) w⟩
    | _ => exact w.elim
  | _ => exact w.elim
theorem sim_notB : Sim2 K rNotB dNotB := fun F H x y d e Q q s r1 r2 w k => by
  cases r1 with
  | bl a =>
    cases r2 with
    | bl b => exact ⟨a, b, rfl, rfl, k.here s (.bl _) w⟩
    | _ => exact w.elim
  | _ => exact w.elim
/-! ### list(tuple), list(list) -/
def rListT (K : PySem.W.Frag) : List V → Hp → VK → Prop := fun xs H Q => ∃ p ys, xs = [.ref p] ∧ (SqL K H p ys ∨ SqT K H p ys) ∧ ∀ l, H l = none → Q (.ref l) (upd H l (.lst ys))
theorem cr_listT {X : Cx} : CallR X (.type "list") (rListT X.K) := call_list_of
def dListT : List D → (List D → Prop) → Prop := fun ds q => match ds with
  | [.tup l] => q l
  | [.lst l] => q l
  | _ => False
theorem sim_listT : SimCO K (rListT K) dListT := fun F H xs ds Q q s r z k => by
  unfold dListT at z
  split at z
  · cases r with
    | cons r1 r =>
      cases r
      cases r1 with
      | tup h1 a1 => exact ⟨_, _, rfl, .inr (same_t s h1), fun p hp => k p _ _ F _ (.fresh s hp) hp upd_same (s.free hp) a1 z⟩
  · cases r with
    | cons r1 r =>
      cases r
      cases r1 with
      | lst h1 a1 => exact ⟨_, _, rfl, .inl (SqL.of (s _ _ h1)), fun p hp => k p _ _ F _ (.fresh s hp) hp upd_same (s.free hp) a1 z⟩
  · exact z.elim
end
end DL
/-! DLK: dicts walked, max of a dict's values, a list with one own dict in it. -/
namespace DL
open PySem L2 PySem.Spec PyProof.Rows
section
variable [Tbl] {K : PySem.W.Frag} {E : XK} {te ta tb td : TE} {we wa wb : WE} {i j : Nat}
/-! ### for k in d -/
def iKeysW (we : WE) : WI := fun env er q => we env er fun d => match d with
  | .dct fs => q (fs.map fun p => .str p.1)
  | _ => False
theorem RepF.key {F : Hp} : ∀ {xs : List (Str × V)} {fs : List (Str × D)}, RepF K F xs fs → xs.map Prod.fst = fs.map Prod.fst
  | _, _, .nil => rfl
  | _, _, .cons _ r => by rw [List.map_cons, List.map_cons, RepF.key r]
theorem wk_keys {F0 : Hp} {a : Addr} {o : Obj} {xs : List (Str × V)} {fs : List (Str × D)} (h : F0 a = some (.frz o (.dK (keyed xs)))) (r : RepF K F0 xs fs) : Wk K (Itk a o (keyed xs)) F0 (fs.map fun p => .str p.1) := fun i F H sf fh => by
  have hH : H a = some (.frz o (.dK (keyed xs))) := fh _ _ (sf _ _ h)
  have hl : (keyed xs).length = fs.length := by rw [List.length_map, r.len]
  refine ⟨fun d hd => ?_, fun e => ⟨hH, by rw [hl, e, List.length_map]; exact Nat.le_refl _⟩⟩
  have hi := lt_of_get hd
  rw [List.length_map] at hi
  refine ⟨⟨hH, by rw [hl]; exact hi⟩, fun y H' hy => ?_⟩
  obtain ⟨rfl, k, v, hk, rfl⟩ := hy
  refine ⟨F, Stp.refl fh, ?_⟩
  have e1 : (xs.map Prod.fst)[i]? = (fs.map Prod.fst)[i]? := by rw [r.key]
  rw [List.getElem?_map] at hk hd
  rw [List.getElem?_map, List.getElem?_map] at e1
  obtain ⟨p, hp, rfl⟩ := Option.map_eq_some_iff.mp hd
  obtain ⟨z, hz, e2⟩ := Option.map_eq_some_iff.mp hk
  cases e2
  rw [hp, hz] at e1
  have e1 : z.1 = p.1 := Option.some.inj e1
  show Rep K F (.str z.1) (.str p.1)
  rw [e1]
  exact .str _
theorem simi_keys (h : SimE K E td we) : SimI K E (iKeys td) (iKeysW we) := fun B env F σ H R er q a l w k =>
  h B env F σ H _ er _ a l w fun x d F1 H1 s1 r1 w1 => by
    cases r1 with
    | dct h1 h2 => exact ⟨_, _, rfl, .inl ⟨_, s1.fh _ _ h1, k _ _ F1 H1 s1 (wk_keys h1 h2) w1⟩⟩
    | _ => exact w1.elim
end
/-! ### max(d.values()) -/
section
variable {X : Cx}
def tDVal (t : TE) : TE := fun σ H Q => t σ H fun x H1 => ∃ a o kvs, x = .ref a ∧ H1 a = some (.frz o (.dK kvs)) ∧ ∀ p, H1 p = none → Q (.ref p) (upd H1 p (viewO "dict_values" p a))
theorem pe_dvalsP {e : Expr} {td : TE} {apos cpos : Pos} (he : PE X e td) (hbase : attributeBase e "values" X.env (eval e X.env) = eval e X.env := by rfl) (hline : (apos.endLine == cpos.line) = true := by rfl) : PE X (.Call (.Attribute e "values" apos) [] [] cpos) (tDVal td) := by
  refine ⟨fun pins s σ H Q I h => ?_⟩
  refine wpAny_Call_method (T := "dict") (id := "dict.values") hbase rfl hline F.plainAttrs_dict F.slot_dict_values F.type_dict_values (thn (he.run pins s σ H _ I h) fun u s1 ⟨x, H1, I1, rx, d, o, kvs, ex, hd, q⟩ => ?_)
  subst ex
  obtain rfl : u = Value.ref d := rx
  obtain ⟨hs, hgd, hx, es, ep, vs, hdt, hsz, kv, hm⟩ := I1.frzK hd
  refine ⟨hm.dictOf.typeIs, hm.dictOf.mapOf.noDict, ?_⟩
  have fin : EP X pins σ Q (.ref s1.heap.objs.size) { s1 with heap := s1.heap.push { cls := .type "dict_values", data := .fields #[.ref d] } } := ⟨.ref s1.heap.objs.size, _, I1.laid (t' := s1.toks) (fun b o q => Heap.get?_push_of_some _ q) (Nat.le_refl _) (viewO_ok (Heap.get?_push_size _ rfl)), rfl, q _ (I1.hok.fresh (Nat.le_refl _))⟩
  show wpAny _ _ (callWith cpos (.builtin "dict.values") [.ref d] [] []) _ X.xe s1
  exact method_meetsIn F.slot_dict_values F.entry_dict_values rfl (PySem.evalArgs_none ⟨rfl, hm.dictOf.typeIs, F.args_dict_values_1 _, _, meets_dict_values (mixKind X.prog X.w) d hs, ⟨vs, hm.dictOf⟩, fin⟩)
def rMaxP : List V → Hp → VK → Prop := fun xs H Q => ∃ (p a : Addr) (o : Obj) (kvs : List (Key × V)) (ns : List Int), xs = [.ref p] ∧ H p = some (viewO "dict_values" p a) ∧ H a = some (.frz o (.dK kvs)) ∧ kvs.map Prod.snd = ns.map V.int ∧ 0 < ns.length ∧ ∀ m, m ∈ ns → (∀ y, y ∈ ns → y ≤ m) → Q (.int m) H
theorem cr_maxP (hc : X.calm = true) : CallR X (.builtin "max") rMaxP := by
  intro pins s σ H xs us Q I rx h
  obtain ⟨p, a, o, kvs, ns, rfl, hp, hd, hns, hne, q⟩ := h
  rw [Vals.ref1 rx]
  obtain ⟨hs, hgd, hx, es, ep, vs, hdt, hsz, kv, hm⟩ := I.frzK hd
  have hv : s.heap.get? p = some (DSub.viewOb "dict_values" a) := (show ObjOk X.prog X.w H s.heap p (viewO "dict_values" p a) from I.hok p _ hp).1
  have hkn : kvs.length = ns.length := by
    have e := congrArg List.length hns
    rw [List.length_map, List.length_map] at e
    exact e
  have hsz : es.size = ns.length := hsz.trans hkn
  obtain ⟨o2, es2, ho2, hx2, hdt2, hk2, hp2, hn2⟩ := hm
  rw [hgd] at ho2
  cases ho2
  rw [hdt] at hdt2
  cases hdt2
  have hP : ∀ (i : Nat) (e : DictEntry), es[i]? = some e → ∃ t, e.val = .int (ns.getD i 0) t := fun i e he => by
    have hi : i < es.size := by
      rcases Nat.lt_or_ge i es.size with z | z
      · exact z
      · rw [Array.getElem?_eq_none z] at he
        cases he
    have hi2 : i < kvs.length := by omega
    have hi3 : i < ns.length := by omega
    obtain ⟨u, hu, ru⟩ := kv_get kv (k := kvs[i].1) (v := kvs[i].2) (List.getElem?_eq_getElem hi2)
    obtain ⟨h1, h2⟩ := hp2.get? (i := i) (e := e) (by rw [Array.getElem?_toList]; exact he) hu
    have e2 : kvs[i].2 = V.int ns[i] := by
      have z : (kvs.map Prod.snd)[i]? = (ns.map V.int)[i]? := by rw [hns]
      rw [List.getElem?_map, List.getElem?_map, List.getElem?_eq_getElem hi2, List.getElem?_eq_getElem hi3] at z
      exact Option.some.inj z
    have e3 : ns.getD i 0 = ns[i] := by rw [List.getD_eq_getElem?_getD, List.getElem?_eq_getElem hi3] <;> rfl
    rw [e2] at ru
    rw [e3, h2]
    exact ru
  refine call_max_walk ?_
  refine DSub.iter_vals hv hgd hdt ?_
  have ha : a < s.heap.objs.size := Heap.lt_size hgd
  refine ⟨s.heap.objs.size, [s.heap.objs.size, a], [s.heap.objs.size], es.size, fun i v => ∃ t, v = .int (ns.getD i 0) t, _, fun i j => decide (ns.getD i 0 > ns.getD j 0), rfl, DSub.walksVal (a := a) (show X.A.in1.handled = none from I.ok.hd hc) (Nat.ne_of_lt ha) hdt hP, ⟨Heap.get?_push_size _ rfl, Heap.get?_push_of_some _ hgd⟩, fun b hb => ?_, by omega, CmpOf.ints_gt (fun i => ns.getD i 0) (fun i v z => z), fun v h' tk hv' hk => ?_⟩
  · show b < (s.heap.push _).objs.size
    rw [size_push']
    rcases List.mem_cons.mp hb with z | z
    · rw [z]
      exact Nat.lt_succ_self _
    · rw [List.mem_singleton.mp z]
      exact Nat.lt_succ_of_lt ha
  · obtain ⟨t, rfl⟩ := hv'
    obtain ⟨m1', m2'⟩ := argBest_gt (fun i => ns.getD i 0) (es.size - 1)
    have m1 : argBest (fun i j => decide (ns.getD i 0 > ns.getD j 0)) (es.size - 1) ≤ es.size - 1 := m1'
    have m2 : ∀ j, j ≤ es.size - 1 → ns.getD j 0 ≤ ns.getD (argBest (fun i j => decide (ns.getD i 0 > ns.getD j 0)) (es.size - 1)) 0 := m2'
    have hk2 : ∀ b o, s.heap.get? b = some o → h'.get? b = some o := fun b o e => hk b o (fun z => by rw [List.mem_singleton.mp z] at e; exact absurd (Heap.lt_size e) (Nat.lt_irrefl _)) (Heap.get?_push_of_some _ e)
    refine ⟨.int _, H, I.kept (t' := tk) hk2, ⟨t, rfl⟩, q _ (PySem.getD_mem (by omega)) fun y hy => ?_⟩
    obtain ⟨j, hj, e⟩ := List.mem_iff_getElem.mp hy
    have z := m2 j (by omega)
    have e3 : ns.getD j 0 = y := by rw [List.getD_eq_getElem?_getD, List.getElem?_eq_getElem hj, ← e] <;> rfl
    rw [e3] at z
    exact z
end
section
variable [Tbl] {K : PySem.W.Frag} {E : XK} {te ta tb td : TE} {we wa wb : WE} {i j : Nat}
def wMaxV (we : WE) : WE := fun env er q => we env er fun d => match d with
  | .dct fs => ∃ ns : List Int, fs.map Prod.snd = ns.map D.int ∧ 0 < ns.length ∧ ∀ m, m ∈ ns → (∀ y, y ∈ ns → y ≤ m) → q (.int m)
  | _ => False
theorem RepF.ints {F : Hp} : ∀ {xs : List (Str × V)} {fs : List (Str × D)} {ns : List Int}, RepF K F xs fs → fs.map Prod.snd = ns.map D.int → (keyed xs).map Prod.snd = ns.map V.int
  | _, _, ns, .nil, e => by
    cases ns with
    | nil => rfl
    | cons n ns => cases e
  | _, _, ns, .cons h r, e => by
    cases ns with
    | nil => cases e
    | cons n ns =>
      rw [List.map_cons, List.map_cons] at e
      obtain ⟨e1, e2⟩ := List.cons.inj e
      have e1 : _ = D.int n := e1
      subst e1
      cases h
      have ih := RepF.ints r e2
      show V.int n :: (keyed _).map Prod.snd = _
      rw [ih]
      rfl
theorem sim_maxV (h : SimE K E td we) : SimE K E (tCB rMaxP (tCons (tDVal td) tNil)) (wMaxV we) := fun B env F σ H Q er q a l w k =>
  h B env F σ H _ er _ a l w fun x d F1 H1 s1 r1 w1 => by
    cases r1 with
    | @dct ad o xs fs h1 h2 =>
      obtain ⟨ns, e1, e2, w2⟩ := w1
      have hd := s1.fh _ _ h1
      refine ⟨ad, o, keyed xs, rfl, hd, fun p hp => ?_⟩
      have st : Stp F1 F1 H1 (upd H1 p (viewO "dict_values" p ad)) := Stp.fresh s1.fh hp
      have ne : ad ≠ p := ne_of_none hd hp
      exact ⟨p, ad, o, keyed xs, ns, rfl, upd_same, by rw [upd_ne ne]; exact hd, h2.ints e1, e2, fun m hm hy => k _ _ F1 _ (s1.trans st) (.int m) (w2 m hm hy)⟩
    | _ => exact w1.elim
end
/-! ### X = [{}], then X[0][k] = c for all keys of a dict -/
section
variable [Tbl] {K : PySem.W.Frag} {E : XK} {te ta tb td : TE} {we wa wb : WE} {i j : Nat}
/-- what is behind the statement is locked, where it goes on -/
def tFrzA (t : TS) : TS := fun D σ H => t { D with nx := fun σ' H' => ∃ d u, H' d = some u ∧ Mut (some u) ∧ ∀ od, D.nx σ' (upd H' d (.frz od u)) } σ H
theorem ps_frzA {X : Cx} {st : Stmt} {t : TS} (h : PS X st t) : PS X st (tFrzA t) := ⟨fun pins s σ H D I hw => thn (h.run pins s σ H _ I hw) fun f s1 q => by
  cases f with
  | next =>
    obtain ⟨σ', H', I2, d, u, hd, mu, q⟩ := q
    obtain ⟨od, I3⟩ := I2.lock hd mu
    exact ⟨σ', _, I3, q od⟩
  | _ => exact q⟩
/-- what no slot holds as its own changes -/
theorem At.ghost {B : Ent} {env : EV} {F H : Hp} {σ : L2.St} (a : At K B env F σ H) {p : Addr} {o u : HO} (hu : H p = some u) (mu : Mn u) (hf : F p = none) (hb : Fre B.H p) (hne : ∀ (j : Nat) (t : SV), env[j]? = some t → Mine t → σ[j]? ≠ some (some (.ref p))) : At K B env F σ (upd H p o) := by
  refine ⟨a.len, a.st.mut hb hf hu mu, fun j sv' e' => ?_, a.inj⟩
  have h := a.sl j sv' e'
  cases sv' with
  | un => trivial
  | d v => exact h
  | exn a C dd fs => exact h
  | own l' =>
    obtain ⟨b, ys, z, h1, h2, h3, h4⟩ := h
    refine ⟨b, ys, z, ?_, h2, h3, h4⟩
    rw [upd_ne (fun w => hne j _ e' trivial (by rw [z, w]))]
    exact h1
  | dic l' =>
    obtain ⟨b, ys, z, h1, h2, h3, h4⟩ := h
    refine ⟨b, ys, z, ?_, h2, h3, h4⟩
    rw [upd_ne (fun w => hne j _ e' trivial (by rw [z, w]))]
    exact h1
  | me b C fs =>
    obtain ⟨dx, ys, z, h1, h2, h3, h4⟩ := h
    refine ⟨dx, ys, z, ?_, h2, h3, h4⟩
    rw [upd_ne (fun w => hne j _ e' trivial (by rw [z, w]))]
    exact h1
def onesOf {α : Type} (v : α) : List (Str × α) → List Str → List (Str × α)
  | acc, [] => acc
  | acc, k :: r => onesOf v (sput acc k v) r
theorem onesOf_snoc {α : Type} (v : α) (k : Str) : ∀ (ks : List Str) (acc : List (Str × α)), onesOf v acc (ks ++ [k]) = sput (onesOf v acc ks) k v
  | [], acc => rfl
  | x :: ks, acc => onesOf_snoc v k ks (sput acc x v)
theorem RepF.ones {F : Hp} {v : V} {d : D} (h : Rep K F v d) : ∀ (ks : List Str) {xs : List (Str × V)} {fs : List (Str × D)}, RepF K F xs fs → RepF K F (onesOf v xs ks) (onesOf d fs ks)
  | [], _, _, r => r
  | k :: ks, _, _, r => RepF.ones h ks (r.sput h)
theorem sput_len {α : Type} (xs : List (Str × α)) (k : Str) (v : α) : (sput xs k v).length ≤ xs.length + 1 := by
  unfold sput
  split
  · rw [List.length_map]
    omega
  · rw [List.length_append]
    exact Nat.le_refl _
theorem onesOf_len {α : Type} (v : α) : ∀ (ks : List Str) (acc : List (Str × α)), (onesOf v acc ks).length ≤ acc.length + ks.length
  | [], acc => Nat.le_refl _
  | k :: ks, acc => by
    have h1 := onesOf_len v ks (sput acc k v)
    have h2 := sput_len acc k v
    rw [List.length_cons]
    unfold onesOf
    omega
def sOnes (i j : Nat) (c : Int) (we : WE) : WS := fun n env => we (env.set i .un) n.er fun d => match d with
  | .dct fs => fs.length ≤ 1000 ∧ i < env.length ∧ j < env.length ∧ ∀ x, n.nx ((env.set i (.own [.dct (onesOf (.int c) [] (fs.map Prod.fst))])).set j x)
  | _ => False
theorem sims_ones {c : Int} (hij : i ≠ j) (h : SimE K E te we) : SimS K E (tSeq (tAsg (tLst (tCons tDNewK tNil)) (gName i)) (tFrzA (tFor (iKeys te) (gName j) (sDPut (tOp (rIx K) (tVar i) (tC (.int 0))) (tVar j) (tC (.int c)))))) (sOnes i j c we) := fun B Dd n L env F σ H a w => by
  intro d hd
  refine ⟨by show 1 ≤ sizeLine; decide, fun p hp => ?_⟩
  have s1 : Stp F F H (upd H d (.dK [])) := Stp.fresh a.fh hd
  have s2 : Stp F F H (upd (upd H d (.dK [])) p (.lst [.ref d])) := s1.trans (Stp.fresh s1.fh hp)
  have hpd : p ≠ d := fun z => by rw [z, upd_same] at hp; cases hp
  have hpH : H p = none := by rw [upd_ne hpd] at hp; exact hp
  have a1 : At K B (env.set i .un) F (σ.set i (some (.ref p))) (upd (upd H d (.dK [])) p (.lst [.ref d])) := (a.step s2).unset _
  have nd : ∀ (m : Nat) (t : SV), (env.set i .un)[m]? = some t → Mine t → (σ.set i (some (.ref p)))[m]? ≠ some (some (.ref d)) ∧ (σ.set i (some (.ref p)))[m]? ≠ some (some (.ref p)) := fun m t et mt => by
    rcases get_set et with ⟨_, rfl⟩ | ⟨hm, et⟩
    · exact mt.elim
    · rw [List.getElem?_set_ne (fun z => hm z.symm)]
      exact ⟨fun z => (a.sl m t et).there mt z (.inl hd), fun z => (a.sl m t et).there mt z (.inl hpH)⟩
  refine h B _ F _ _ _ n.er _ a1 L.er w fun x dd F3 H3 s3 r3 w3 => ?_
  cases r3 with
  | @dct ad o xs fs g1 g2 =>
    obtain ⟨hl, hi, hj, w3⟩ := w3
    have hgo := s3.fh _ _ g1
    refine ⟨ad, o, rfl, .inl ⟨keyed xs, hgo, ?_⟩⟩
    have e1 : H3 d = some (.dK (keyed [])) := s3.hh.get (by rw [upd_ne (fun z => hpd z.symm)]; exact upd_same)
    have e2 : H3 p = some (.lst [.ref d]) := s3.hh.get upd_same
    have f1 : F3 d = none := s3.nw d (a.fh.free hd) ⟨.dK [], by rw [upd_ne (fun z => hpd z.symm)]; exact upd_same, trivial⟩
    have f2 : F3 p = none := s3.nw p (a.fh.free hpH) ⟨_, upd_same, trivial⟩
    have b1 : Fre B.H d := a.st.hh.fr _ (.inl hd)
    have b2 : Fre B.H p := a.st.hh.fr _ (.inl hpH)
    have had : ad ≠ d := fun z => by rw [z, f1] at g1; cases g1
    have a3 := a1.step s3
    have hiσ : i < σ.length := by rw [a.len]; exact hi
    have hsi : (σ.set i (some (.ref p)))[i]? = some (some (.ref p)) := set_get hiσ
    have hkl : (keyed xs).length = fs.length := by rw [List.length_map, g2.len]
    have hks : xs.map Prod.fst = fs.map Prod.fst := g2.key
    obtain ⟨P, hP⟩ : ∃ P : Nat → L2.St → Hp → Prop, P = fun m σ' H' => (σ' = σ.set i (some (.ref p)) ∨ ∃ k, σ' = (σ.set i (some (.ref p))).set j (some (.str k))) ∧ H' = upd H3 d (.dK (keyed (onesOf (.int c) [] ((xs.map Prod.fst).take m)))) := ⟨_, rfl⟩
    have upself : ∀ {G : Hp} {q : Addr} {u : HO}, G q = some u → upd G q u = G := fun {G q u} e => funext fun b => by
      by_cases z : b = q
      · rw [z, upd_same, e]
      · rw [upd_ne z]
    have upup : ∀ {G : Hp} {q : Addr} {u v : HO}, upd (upd G q u) q v = upd G q v := fun {G q u v} => funext fun b => by
      by_cases z : b = q
      · rw [z, upd_same, upd_same]
      · rw [upd_ne z, upd_ne z, upd_ne z]
    refine ⟨fun m r σ' H' => r = fs.length - m ∧ m ≤ fs.length ∧ P m σ' H', ⟨fs.length, by omega, Nat.zero_le _, by
      rw [hP]
      exact ⟨.inl rfl, (upself e1).symm⟩⟩, ?_⟩
    rintro m r σ' H' ⟨rfl, hm, h4⟩
    rw [hP] at h4
    obtain ⟨hσ, rfl⟩ := h4
    have hgo2 : (upd H3 d (.dK (keyed (onesOf (V.int c) [] ((xs.map Prod.fst).take m))))) ad = some (.frz o (.dK (keyed xs))) := by
      rw [upd_ne had]
      exact hgo
    have hi' : σ'[i]? = some (some (.ref p)) := by
      rcases hσ with rfl | ⟨k, rfl⟩
      · exact hsi
      · rw [List.getElem?_set_ne (fun z => hij z.symm)]
        exact hsi
    by_cases hlt : m < fs.length
    · refine .inr ⟨⟨hgo2, by rw [hkl]; exact hlt⟩, P (m + 1), fun σ2 H2 p2 => ⟨fs.length - (m + 1), by omega, rfl, hlt, p2⟩, fun y H2 hy => ?_⟩
      obtain ⟨rfl, k, v, hk, rfl⟩ := hy
      rw [List.getElem?_map] at hk
      obtain ⟨z, hz, e3⟩ := Option.map_eq_some_iff.mp hk
      cases e3
      have hset : σ'.set j (some (V.str z.1)) = (σ.set i (some (.ref p))).set j (some (.str z.1)) := by
        rcases hσ with rfl | ⟨k, rfl⟩
        · rfl
        · rw [List.set_set]
      have hsj : ((σ.set i (some (.ref p))).set j (some (V.str z.1)))[j]? = some (some (.str z.1)) := set_get (by rw [List.length_set, a.len]; exact hj)
      show sDPut _ _ _ _ (σ'.set j (some (V.str z.1))) _
      rw [hset]
      have hsi2 : ((σ.set i (some (.ref p))).set j (some (V.str z.1)))[i]? = some (some (.ref p)) := by
        rw [List.getElem?_set_ne (fun w => hij w.symm)]
        exact hsi
      have hl2 : (keyed (onesOf (V.int c) [] ((xs.map Prod.fst).take m))).length < sizeLine := by
        have h1 := onesOf_len (V.int c) ((xs.map Prod.fst).take m) []
        rw [List.length_map, show sizeLine = 16777216 from rfl]
        rw [List.length_take] at h1
        have h2 : ([] : List (Str × V)).length = 0 := rfl
        omega
      refine ⟨.ref p, hsi2, .inl ⟨p, [.ref d], 0, .ref d, rfl, rfl, SqL.of (by rw [upd_ne hpd]; exact e2), rfl, .str z.1, hsj, d, _, rfl, .inl ⟨keyed (onesOf (V.int c) [] ((xs.map Prod.fst).take m)), Sum.inr z.1, upd_same, rfl, hl2, rfl⟩, ?_⟩⟩
      show P (m + 1) _ _
      rw [hP]
      refine ⟨.inr ⟨z.1, rfl⟩, ?_⟩
      rw [upup, keyed_put]
      have e4 : (xs.map Prod.fst).take (m + 1) = (xs.map Prod.fst).take m ++ [z.1] := by
        rw [List.take_add_one, List.getElem?_map, hz]
        rfl
      rw [e4, onesOf_snoc]
    · have e : m = fs.length := by omega
      subst e
      refine .inl ⟨⟨hgo2, by rw [hkl]; exact Nat.le_refl _⟩, d, _, upd_same, trivial, fun od => ?_⟩
      have e5 : (xs.map Prod.fst).take fs.length = fs.map Prod.fst := by
        rw [hks, List.take_of_length_le (by rw [List.length_map]; exact Nat.le_refl _)]
      rw [e5] at hgo2 ⊢
      have ndd := fun m t et mt => (nd m t et mt).1
      have ndp := fun m t et mt => (nd m t et mt).2
      have a4 := a3.ghost (p := d) (o := .dK (keyed (onesOf (V.int c) [] (fs.map Prod.fst)))) e1 trivial f1 b1 ndd
      have a5 := a4.ghost (p := d) (o := .frz od (.dK (keyed (onesOf (V.int c) [] (fs.map Prod.fst))))) upd_same trivial f1 b1 ndd
      have a6 := a5.frzAt (o := .frz od (.dK (keyed (onesOf (V.int c) [] (fs.map Prod.fst))))) upd_same f1 b1 trivial ndd
      have rr : RepF K (upd F3 d (.frz od (.dK (keyed (onesOf (V.int c) [] (fs.map Prod.fst)))))) (onesOf (V.int c) [] (fs.map Prod.fst)) (onesOf (.int c) [] (fs.map Prod.fst)) := RepF.ones (.int c) _ .nil
      have a7 := a6.setMine (i := i) (p := p) (sv := .own [.dct (onesOf (.int c) [] (fs.map Prod.fst))]) trivial ⟨p, [.ref d], rfl, by rw [upd_ne hpd, upd_ne hpd]; exact e2, .one (.dct upd_same rr), by rw [upd_ne hpd]; exact f2, b2⟩ fun m t hm et mt => ndp m t et mt
      rw [List.set_set, List.set_set] at a7
      rcases hσ with rfl | ⟨k, rfl⟩
      · have w4 := w3 ((env.set i (.own [.dct (onesOf (.int c) [] (fs.map Prod.fst))]))[j]'(by rw [List.length_set]; exact hj))
        rw [List.set_getElem_self] at w4
        exact L.nx _ _ _ _ a7 w4
      · exact L.nx _ _ _ _ (a7.set (i := j) (x := .str k) (d := .str k) (.str k)) (w3 _)
  | _ => exact w3.elim
theorem sims_seq2 {t1 t2 t3 : TS} {w1 w2 : WS} (h : SimS K E (tSeq t1 t2) w1) (g : SimS K E t3 w2) : SimS K E (tSeq t1 (tSeq t2 t3)) (sSeq w1 w2) := by
  have e : tSeq t1 (tSeq t2 t3) = tSeq (tSeq t1 t2) t3 := rfl
  rw [e]
  exact sims_seq h g
end
end DL
/-! DLTX: tuples whose object is known (made by tuple(list)), their count. -/
namespace DL
open PySem L2 PySem.Spec PyProof.Rows
def rTupX (K : PySem.W.Frag) : List V → Hp → VK → Prop := fun xs H Q => ∃ p ys, xs = [.ref p] ∧ SqL K H p ys ∧ ∀ (l : Addr) (o : Obj), H l = none → o.dict = none → Q (.ref l) (upd H l (.frz o (.tup ys)))
def tyTup (x : V) (H : Hp) : Prop := ∃ a o xs, x = .ref a ∧ H a = some (.frz o (.tup xs)) ∧ o.dict = none
section
variable {X : Cx}
theorem call_tuple_x : CallR X (.type "tuple") (rTupX X.K) := by
  intro pins s σ H xs us Q I r h
  obtain ⟨p, ys, rfl, hq, q⟩ := h
  obtain ⟨u, rfl, rx⟩ := vals1 r
  cases rx
  obtain ⟨its, r', pl, hz⟩ := I.list hq
  have hlen := r'.length
  refine call_tuple_list pl.isList (fun h' kp => ?_) (by simp only [List.size_toArray] <;> omega)
  have I1 : Inv X pins σ H { s with heap := h' } := I.kept (t' := s.toks) kp
  have I2 : Inv X pins σ (upd H h'.objs.size (.frz { cls := .type "tuple", data := .seq its.toArray } (.tup ys))) { s with heap := h'.push { cls := .type "tuple", data := .seq its.toArray } } :=
    I1.laid (t' := s.toks) (fun b o e => Heap.get?_push_of_some _ e) (Nat.le_refl _) (show ObjOk X.prog X.w _ _ _ (.frz { cls := .type "tuple", data := .seq its.toArray } (.tup ys)) from ⟨Heap.get?_push_size _ rfl, hz, its, r', IsTup.new _ _⟩)
  exact ⟨.ref h'.objs.size, _, I2, rfl, q _ _ (I1.hok.fresh (Nat.le_refl _)) rfl⟩
theorem ty_tup : L2.TyOk X "tuple" tyTup := by
  intro pins σ H s x v I r ty
  obtain ⟨a, o, xs, rfl, h, hd⟩ := ty
  cases r
  obtain ⟨ho, hz, its, rv, ob, ho2, hc, n, hdt⟩ := I.hok a _ h
  rw [ho] at ho2
  cases ho2
  refine ⟨⟨_, ho, hc⟩, fun b e => ?_⟩
  cases e
  exact ⟨_, ho, hd⟩
def rCntT (K : PySem.W.Frag) : V → List V → Hp → VK → Prop := fun x xs H Q => ∃ (p : Addr) (ns : List Int) (k : Int), x = .ref p ∧ xs = [.int k] ∧ SqT K H p (ns.map V.int) ∧ Q (.int (ns.count k : Nat)) H
theorem mt_tcount : MtR X "tuple.count" (rCntT X.K) := by
  intro pins s σ H x xs v us Q I rx rxs h
  obtain ⟨p, ns, k, rfl, rfl, hs, q⟩ := h
  cases rx
  obtain ⟨u, rfl, ru⟩ := rxs.one
  obtain ⟨t, rfl⟩ := ru
  obtain ⟨its, rv, ⟨⟨cls, dd, data, sl⟩, ho, hc, n, hd⟩, hlen⟩ := I.tuple hs
  simp only at hc hd
  subst hc hd
  have hi := ints_of_vals rv
  refine call_meets PySem.F.slot_tuple_count ⟨_, ho, rfl⟩ PySem.F.entry_tuple_count (PySem.F.args_tuple_count_2 _ _)
    (SeqAt.tuple_countAt p its.toArray n dd sl (.int k t) (eqk k)) ⟨ho, fun y hy => (eqk_gives hi y (by simpa using hy)).at _ _, ?_⟩
  have ec : its.toArray.toList.countP (eqk k) = ns.count k := eqk_count hi
  refine ⟨.int (ns.count k : Nat), H, I.tok _, ⟨s.toks, ?_⟩, q⟩
  show Value.int ((its.toArray.toList.countP (eqk k) : Nat) : Int) s.toks = Value.int ((ns.count k : Nat) : Int) s.toks
  rw [ec]
end
section
variable [Tbl] {K : PySem.W.Frag} {E : XK} {te : TE} {we : WE}
/-- tuple(list): the tuple, known -/
def lTupX : List D → (D → Prop) → Prop := fun l q => q (.tux l)
theorem sim_tupX : SimCL K (rTupX K) lTupX := fun F H a xs l Q q s h r w k => ⟨a, xs, rfl, h, fun p o hp hd => k _ _ _ _ (Stp.new s hp) (.tux upd_same hd (r.mono (same_new (s.free hp)))) w⟩
/-- t.count(k), t a known tuple of ints -/
def wCntT (we : WE) (k : Int) : WE := fun env er q => we env er fun x => match x with
  | .tux l => ∃ ns : List Int, l = ns.map .int ∧ q (.int (ns.count k : Nat))
  | _ => False
theorem sim_cntT {k : Int} (h : SimE K E te we) : SimE K E (tMG tyTup (rCntT K) te (tCons (tC (.int k)) tNil)) (wCntT we k) := fun B env F σ H Q er q a l w z =>
  h B env F σ H _ er _ a l w fun x d F1 H1 s1 r1 w1 => by
    cases r1 with
    | tux h1 h2 h3 =>
      obtain ⟨ns, e, w1⟩ := w1
      subst e
      have e := h3.ints_inv
      subst e
      exact ⟨⟨_, _, _, rfl, s1.fh _ _ h1, h2⟩, _, ns, k, rfl, rfl, .inl (.inr ⟨_, s1.fh _ _ h1⟩), z _ _ F1 H1 s1 (.int _) w1⟩
    | _ => exact w1.elim
end
end DL
namespace Lw
open PySem L2 DL
structure Ad where
  c_ShapeError : PySem.Addr
  c_InvalidStep : PySem.Addr
  c_InvalidNumber : PySem.Addr
  c_InvalidDigits : PySem.Addr
  c_InvalidMoves : PySem.Addr
  c_InvalidSigns : PySem.Addr
  c_InvalidRule : PySem.Addr
  c_NotASystem : PySem.Addr
  c_System : PySem.Addr
  c_Row : PySem.Addr
  ne : [c_System, c_Row].Nodup
def cd (A : Ad) : CtxD := cdOf [(A.c_System, [A.c_System]), (A.c_Row, [A.c_Row])]
theorem nq_System_Row (A : Ad) : A.c_System ≠ A.c_Row := fun e => by have h := A.ne; simp [e] at h
theorem nq_Row_System (A : Ad) : A.c_Row ≠ A.c_System := fun e => nq_System_Row A e.symm
theorem be_System_Row (A : Ad) : (A.c_System == A.c_Row) = false := beq_eq_false_iff_ne.mpr (nq_System_Row A)
theorem be_Row_System (A : Ad) : (A.c_Row == A.c_System) = false := beq_eq_false_iff_ne.mpr (nq_Row_System A)
theorem ow_System (A : Ad) : (cd A).own A.c_System = true := by simp [cd, cdOf, List.lookup_cons, be_System_Row, nq_System_Row, be_Row_System, nq_Row_System]
theorem ow_Row (A : Ad) : (cd A).own A.c_Row = true := by simp [cd, cdOf, List.lookup_cons, be_System_Row, nq_System_Row, be_Row_System, nq_Row_System]
theorem su_System_System (A : Ad) : (cd A).sub A.c_System A.c_System = some true := by simp [cd, cdOf, List.lookup_cons, List.contains_cons, be_System_Row, nq_System_Row, be_Row_System, nq_Row_System]
theorem su_System_Row (A : Ad) : (cd A).sub A.c_System A.c_Row = some false := by simp [cd, cdOf, List.lookup_cons, List.contains_cons, be_System_Row, nq_System_Row, be_Row_System, nq_Row_System]
theorem su_Row_System (A : Ad) : (cd A).sub A.c_Row A.c_System = some false := by simp [cd, cdOf, List.lookup_cons, List.contains_cons, be_System_Row, nq_System_Row, be_Row_System, nq_Row_System]
theorem su_Row_Row (A : Ad) : (cd A).sub A.c_Row A.c_Row = some true := by simp [cd, cdOf, List.lookup_cons, List.contains_cons, be_System_Row, nq_System_Row, be_Row_System, nq_Row_System]
/-! ### the numbers of a system -/
/-- the unit before, the unit -/
def pr (k : Int) : Nat → Int × Int
  | 0 => (1, 1)
  | n + 1 => ((pr k n).2, k * (pr k n).2 + (pr k n).1)
def un (k : Int) (n : Nat) : Int := (pr k n).2
def unL (k : Int) (n : Nat) : List Int := (List.range n).map (un k)
def gd : List Int → Int → List Int
  | [], _ => []
  | u :: us, r => (r / u) :: gd us (r % u)
/-- the digits of m by the first j units -/
def dg (k : Int) (m : Int) (j : Nat) : List Int := gd (unL k j).reverse m
/-- what the digits tell, from the last one -/
def nv (k : Int) : Int → Int → Int → List Int → Int
  | f, _, _, [] => f
  | f, b, u, d :: r => nv k (f + d * u) u (k * u + b) r
def Lim (k m : Int) (j : Nat) : Prop := (∀ i, i < j → un k i ≤ m) ∧ m < un k j
def pairOk (k : Int) (l : List Int) (i : Nat) : Bool := (match l[i]? with | some d => decide (d < k) | none => false) || (match l[i + 1]? with | some d => d == 0 | none => false)
def isDg (k : Int) (l : List Int) : Bool := (l.all fun d => decide (0 ≤ d) && decide (d ≤ k)) && ((List.range (l.length - 1)).all (pairOk k l))
def isI : D → Bool
  | .int _ => true
  | _ => false
def sysD (A : Ad) (k : Int) : D := .ins A.c_System [("step", .int k)]
def K3 (k : Int) : Prop := 1 ≤ k ∧ k ≤ 3
/-! ### what each def does -/
def isSys (A : Ad) (d : D) (p : Int → Prop) : Prop := match d with
  | .ins C fs => C = A.c_System ∧ ∃ k, fs = [(("step" : Str), D.int k)] ∧ p k
  | _ => False
def isInts (d : D) (p : List Int → Prop) : Prop := match d with
  | .tup t => ∃ l : List Int, t = l.map .int ∧ p l
  | _ => False
def S_is_integer (A : Ad) : FS := fun ds _ q => match ds with
  | [d] => (isT (cd A) d "int").isSome = true ∧ q (.bl (isI d))
  | _ => False
def S_is_number (A : Ad) : FS := fun ds _ q => match ds with
  | [.int i, .int m] => q (.bl (decide (0 ≤ i) && decide (i ≤ m)))
  | _ => False
def S_System_init (A : Ad) : IS := fun ds _ q => match ds with
  | [.int k] => K3 k ∧ q [("step", .int k)]
  | _ => False
def S_units_up_to (A : Ad) : FS := fun ds _ q => match ds with
  | [.int k, .int m] => K3 k ∧ ∃ j : Nat, Lim k m j ∧ j ≤ 200 ∧ q (.lst ((unL k j).map .int))
  | _ => False
def S_digits_of (A : Ad) : FS := fun ds _ q => match ds with
  | [.int k, .int m] => K3 k ∧ m ≤ 10 ^ 41 ∧ ∃ j : Nat, Lim k m j ∧ j ≤ 200 ∧ q (.tup ((dg k m j).map .int))
  | _ => False
def S_System_eq (A : Ad) : FS := fun ds _ q => match ds with
  | [x, y] => isSys A x fun k => match y with
    | .ins C fs => C = A.c_System ∧ ∃ j, fs = [(("step" : Str), D.int j)] ∧ q (.bl (k == j))
    | d => isO (cd A) d A.c_System = some false ∧ q (.bl false)
  | _ => False
def S_law_draw (A : Ad) : FS := sDraw
def S_law_bag (A : Ad) : FS := fun ds _ q => match ds with
  | [.scr ns, .int k] => 0 ≤ k ∧ ∀ a, q (.bag a)
  | _ => False
def S_law_units (A : Ad) : FS := fun ds _ q => match ds with
  | [.int k, .int n] => K3 k ∧ 0 ≤ n ∧ n ≤ 1000 ∧ q (.lst ((unL k n.toNat).map .int))
  | _ => False
def S_law_great (A : Ad) : FS := fun ds _ q => match ds with
  | [.bag _, .int k] => K3 k ∧ ∀ m : Int, 0 ≤ m → m ≤ 10 ^ 40 → q (.int m)
  | _ => False
def S_law_right (A : Ad) : FS := fun ds _ q => match ds with
  | [.bag _] => q (.bl true)
  | _ => False
def S_law (A : Ad) : FS := sLawD
/-! ### rows -/
/-- the texts of one sign each -/
def ch (c : Nat) : D := .str ⟨#[c]⟩
def mvD (mv : List (List Int)) : D := .tup (mv.map fun l => .tup (l.map .int))
def isMv (d : D) (p : List (List Int) → Prop) : Prop := match d with
  | .tup t => ∃ mv : List (List Int), t = mv.map (fun l => .tup (l.map .int)) ∧ p mv
  | _ => False
structure OkMv (k : Int) (mv : List (List Int)) : Prop where
  lo : 1 ≤ mv.length
  hi : mv.length ≤ 8
  wd : ∀ l ∈ mv, (l.length : Int) = k + 1
  st : ∀ l ∈ mv, ∀ s ∈ l, 0 ≤ s ∧ s ≤ (mv.length : Int) - 1
  z0 : ∃ l r, mv = (0 :: l) :: r
def OkSg (mv : List (List Int)) (x : PySem.Str) : Prop := x.length = mv.length ∧ ∀ c ∈ x.cps.toList, 97 ≤ c ∧ c ≤ 122
def rowD (A : Ad) (k : Int) (mv : List (List Int)) (x : PySem.Str) : D := .ins A.c_Row [("system", sysD A k), ("moves", mvD mv), ("signs", .str x)]
def isRow (A : Ad) (d : D) (p : Int → List (List Int) → PySem.Str → Prop) : Prop := match d with
  | .ins C fs => C = A.c_Row ∧ ∃ k mv x, fs = [(("system" : PySem.Str), sysD A k), (("moves" : PySem.Str), mvD mv), (("signs" : PySem.Str), D.str x)] ∧ p k mv x
  | _ => False
/-- one move on -/
def stp (mv : List (List Int)) (s d : Int) : Int := (mv[s.toNat]?.getD [])[d.toNat]?.getD 0
def walk (mv : List (List Int)) : Int → List Int → Int
  | s, [] => s
  | s, d :: r => walk mv (stp mv s d) r
def sgn (k : Int) (mv : List (List Int)) (x : PySem.Str) (m : Int) (j : Nat) : D := ch (x.cps.toList[(walk mv 0 (dg k m j)).toNat]?.getD 0)
noncomputable def jm (k m : Int) : Nat := Classical.epsilon fun j => j ≤ 197 ∧ Lim k m j
def S_check_system (A : Ad) : FS := fun ds _ q => match ds with
  | [x] => isSys A x fun _ => q .non
  | _ => False
def S_are_moves (A : Ad) : FS := fun ds _ q => match ds with
  | [.int k, d] => isMv d fun mv => K3 k ∧ OkMv k mv ∧ q (.bl true)
  | _ => False
def S_are_small (A : Ad) : FS := fun ds _ q => match ds with
  | [.str x, .int a, .int b] => (x.length ≤ 1000 ∧ a ≤ x.length ∧ x.length ≤ b ∧ ∀ c ∈ x.cps.toList, 97 ≤ c ∧ c ≤ 122) ∧ q (.bl true)
  | _ => False
def S_Row_init (A : Ad) : IS := fun ds _ q => match ds with
  | [s, m, .str x] => isSys A s fun k => isMv m fun mv => K3 k ∧ OkMv k mv ∧ OkSg mv x ∧ q [("system", sysD A k), ("moves", mvD mv), ("signs", .str x)]
  | _ => False
def S_sign_at (A : Ad) : FS := fun ds _ q => match ds with
  | [r, .int m] => isRow A r fun k mv x => K3 k ∧ OkMv k mv ∧ OkSg mv x ∧ 0 ≤ m ∧ m ≤ 10 ^ 40 + 3000 ∧ ∃ j : Nat, Lim k m j ∧ j ≤ 200 ∧ q (sgn k mv x m j)
  | _ => False
def S_Row_call (A : Ad) : FS := fun ds _ q => match ds with
  | [r, .int m] => isRow A r fun k mv x => K3 k ∧ OkMv k mv ∧ OkSg mv x ∧ 0 ≤ m ∧ m ≤ 10 ^ 40 ∧ ∃ j : Nat, Lim k m j ∧ j ≤ 200 ∧ q (sgn k mv x m j)
  | _ => False
noncomputable def sgc (k : Int) (mv : List (List Int)) (x : PySem.Str) (m : Int) : Nat := x.cps.toList[(walk mv 0 (dg k m (jm k m))).toNat]?.getD 0
noncomputable def strX (k : Int) (mv : List (List Int)) (x : PySem.Str) (m : Int) (n : Nat) : PySem.Str := ⟨((List.range n).map fun i => sgc k mv x (m + (i : Nat))).toArray⟩
def S_Row_stretch (A : Ad) : FS := fun ds _ q => match ds with
  | [r, .int m, .int n] => isRow A r fun k mv x => K3 k ∧ OkMv k mv ∧ OkSg mv x ∧ 0 ≤ m ∧ m ≤ 10 ^ 40 ∧ 0 ≤ n ∧ n ≤ 2000 ∧ q (.str (strX k mv x m n.toNat))
  | _ => False
def S_Row_eq (A : Ad) : FS := fun ds _ q => match ds with
  | [r, y] => isRow A r fun k mv x => match y with
    | .ins C fs => C = A.c_Row ∧ ∃ k2 mv2 x2, fs = [(("system" : PySem.Str), sysD A k2), (("moves" : PySem.Str), mvD mv2), (("signs" : PySem.Str), D.str x2)] ∧ (∀ c ∈ x.cps.toList, c < 1114112) ∧ (∀ c ∈ x2.cps.toList, c < 1114112) ∧ q (.bl ((k == k2) && ((eqD (mvD mv) (mvD mv2)) && (eqD (.str x) (.str x2)))))
    | d => isO (cd A) d A.c_Row = some false ∧ q (.bl false)
  | _ => False
/-! ### rules -/
abbrev RL := List (Nat × List Nat)
def chS (c : Nat) : PySem.Str := ⟨#[c]⟩
def ws (w : List Nat) : D := .str ⟨w.toArray⟩
def prR (p : Nat × List Nat) : D := .tup [ch p.1, ws p.2]
def rlD (rl : RL) : D := .tup (rl.map prR)
def isRl (d : D) (p : RL → Prop) : Prop := match d with
  | .tup t => ∃ rl : RL, t = rl.map prR ∧ p rl
  | _ => False
def wdD (rl : RL) : List (PySem.Str × D) := rl.map fun p => (chS p.1, ws p.2)
/-- the word of a sign -/
def wf (rl : RL) (c : Nat) : List Nat := (rl.lookup c).getD []
def Lg (rl : RL) (c : Nat) : Prop := ∃ w, (c, w) ∈ rl ∧ 1 < w.length
def Sh (rl : RL) (c : Nat) : Prop := ∃ w, (c, w) ∈ rl ∧ w.length = 1
def WdOk (k : Int) (rl : RL) (w : List Nat) : Prop := (∃ l, w = [l] ∧ Lg rl l) ∨ ∃ ls s, w = ls ++ [s] ∧ (ls.length : Int) = k ∧ (∀ l ∈ ls, Lg rl l) ∧ Sh rl s
structure OkRl (k : Int) (rl : RL) : Prop where
  n2 : 2 ≤ rl.length
  n8 : rl.length ≤ 8
  nd : (rl.map (·.1)).Nodup
  lt : ∀ p ∈ rl, 97 ≤ p.1 ∧ p.1 ≤ 122
  wd : ∀ p ∈ rl, WdOk k rl p.2
  hd : ∃ c e w r, rl = (c, c :: e :: w) :: r
/-- so many turns of one sign -/
def W (f : Nat → List Nat) : Nat → Nat → List Nat
  | 0, s => [s]
  | j + 1, s => (f s).flatMap (W f j)
/-- down by digits -/
def desc (f : Nat → List Nat) : Nat → List Int → Nat
  | s, [] => s
  | s, d :: r => desc f ((f s)[d.toNat]?.getD 0) r
/-- signs not met before are put behind -/
def add1 (st : List Nat) (c : Nat) : List Nat := if c ∈ st then st else st ++ [c]
def addL : List Nat → List Nat → List Nat
  | st, [] => st
  | st, c :: w => addL (add1 st c) w
def bfs (f : Nat → List Nat) : Nat → List Nat → Nat → List Nat
  | 0, st, _ => st
  | t + 1, st, i => if h : i < st.length then bfs f t (addL st (f st[i])) (i + 1) else st
def frst (rl : RL) : Nat := (rl.head?.map (·.1)).getD 0
def stOf (rl : RL) : List Nat := bfs (wf rl) 8 [frst rl] 0
def lineOf (k : Int) (f : Nat → List Nat) (S : List Nat) (s : Nat) : List Int := ((f s).map fun c => ((S.idxOf c : Nat) : Int)) ++ List.replicate (k + 1 - ((f s).length : Int)).toNat 0
def mvOf (k : Int) (rl : RL) : List (List Int) := (stOf rl).map (lineOf k (wf rl) (stOf rl))
/-- the signs shown -/
def mkF (rl : RL) (v : Option (List Nat)) (c : Nat) : Nat := match v with
  | none => c
  | some v => v[(rl.map (·.1)).idxOf c]?.getD 0
def shD : Option (List Nat) → D
  | none => .non
  | some v => ws v
def OkSh (rl : RL) : Option (List Nat) → Prop
  | none => True
  | some v => v.length = rl.length ∧ ∀ c ∈ v, 97 ≤ c ∧ c ≤ 122
def sgOf (rl : RL) (v : Option (List Nat)) : PySem.Str := ⟨((stOf rl).map (mkF rl v)).toArray⟩
def mkD (rl : RL) (v : Option (List Nat)) : List (PySem.Str × D) := rl.map fun p => (chS p.1, ch (mkF rl v p.1))
def S_is_pair (A : Ad) : FS := fun ds _ q => match ds with
  | [.int k, d] => ∃ p, d = prR p ∧ K3 k ∧ (97 ≤ p.1 ∧ p.1 ≤ 122) ∧ (p.2.length = 1 ∨ (p.2.length : Int) = k + 1) ∧ (∀ c ∈ p.2, 97 ≤ c ∧ c ≤ 122) ∧ q (.bl true)
  | _ => False
def S_is_well_worded (A : Ad) : FS := fun ds _ q => match ds with
  | [.dct fs, .str x] => ∃ k rl w, fs = wdD rl ∧ x = ⟨w.toArray⟩ ∧ K3 k ∧ OkRl k rl ∧ WdOk k rl w ∧ q (.bl true)
  | _ => False
def S_words_of (A : Ad) : FS := fun ds _ q => match ds with
  | [.int k, d] => isRl d fun rl => K3 k ∧ OkRl k rl ∧ q (.dct (wdD rl))
  | _ => False
def S_row_by_rule (A : Ad) : FS := fun ds _ q => match ds with
  | [s, d, h] => isSys A s fun k => isRl d fun rl => ∃ v, h = shD v ∧ K3 k ∧ OkRl k rl ∧ OkSh rl v ∧ q (rowD A k (mvOf k rl) (sgOf rl v))
  | _ => False
def S_Row_by_rule (A : Ad) : FS := S_row_by_rule A
/-! ### sample rows -/
def bM (k : Int) : List (List Int) := [List.replicate k.toNat 0 ++ [1], List.replicate (k.toNat + 1) 0]
def oddM : List (List Int) := [[0, 1], [1, 0]]
def S_golden_row (A : Ad) : FS := fun ds _ q => match ds with
  | [] => q (rowD A 1 (bM 1) "ab")
  | _ => False
def S_silver_row (A : Ad) : FS := fun ds _ q => match ds with
  | [] => q (rowD A 2 (bM 2) "ab")
  | _ => False
def S_bronze_row (A : Ad) : FS := fun ds _ q => match ds with
  | [] => q (rowD A 3 (bM 3) "ab")
  | _ => False
def S_odd_row (A : Ad) : FS := fun ds _ q => match ds with
  | [] => q (rowD A 1 oddM "ab")
  | _ => False
def S_law_root (A : Ad) : FS := fun ds _ q => match ds with
  | [.int s] => 0 ≤ s ∧ s ≤ 10 ^ 70 ∧ ∀ r : Int, 0 ≤ r → r * r ≤ s → s < (r + 1) * (r + 1) → q (.int r)
  | _ => False
def S_law_digits (A : Ad) : FS := fun ds _ q => match ds with
  | [.int k, .int m] => K3 k ∧ 0 ≤ m ∧ m ≤ 10 ^ 41 ∧ ∃ j : Nat, Lim k m j ∧ j ≤ 197 ∧ q (.tux ((dg k m j).map .int))
  | _ => False
end Lw
namespace Lw
open PySem L2 DL
def top (i : Nat) : Stmt := PySem.Challenge.pw_goldenrows_k11_whole_sample_rows.main.body.getD i (.Pass ⟨0, 0, 0, 0⟩)
abbrev s_System_eq : Stmt := inClass (top 22) 5
theorem sc_System_eq : FnScope ["self", "other"] ["self", "other"] (defScope s_System_eq) := ⟨rfl, rfl, rfl, by decide +kernel, rfl, by decide +kernel, by decide +kernel⟩
abbrev s_Row_eq : Stmt := inClass (top 30) 5
theorem sc_Row_eq : FnScope ["self", "other"] ["self", "other"] (defScope s_Row_eq) := ⟨rfl, rfl, rfl, by decide +kernel, rfl, by decide +kernel, by decide +kernel⟩
abbrev s_check_system : Stmt := top 23
theorem sc_check_system : FnScope ["system"] ["system"] (defScope s_check_system) := ⟨rfl, rfl, rfl, by decide +kernel, rfl, by decide +kernel, by decide +kernel⟩
abbrev s_is_well_worded : Stmt := top 27
theorem sc_is_well_worded : FnScope ["words", "word", "sign", "long_ones"] ["words", "word"] (defScope s_is_well_worded) := ⟨rfl, rfl, rfl, by decide +kernel, rfl, by decide +kernel, by decide +kernel⟩
abbrev s_are_small : Stmt := top 12
theorem sc_are_small : FnScope ["value", "least", "most", "sign"] ["value", "least", "most"] (defScope s_are_small) := ⟨rfl, rfl, rfl, by decide +kernel, rfl, by decide +kernel, by decide +kernel⟩
abbrev s_is_pair : Stmt := top 26
theorem sc_is_pair : FnScope ["step", "value"] ["step", "value"] (defScope s_is_pair) := ⟨rfl, rfl, rfl, by decide +kernel, rfl, by decide +kernel, by decide +kernel⟩
abbrev s_words_of : Stmt := top 28
theorem sc_words_of : FnScope ["step", "rule", "words", "index", "pair"] ["step", "rule"] (defScope s_words_of) := ⟨rfl, rfl, rfl, by decide +kernel, rfl, by decide +kernel, by decide +kernel⟩
abbrev s_is_integer : Stmt := top 10
theorem sc_is_integer : FnScope ["value"] ["value"] (defScope s_is_integer) := ⟨rfl, rfl, rfl, by decide +kernel, rfl, by decide +kernel, by decide +kernel⟩
abbrev s_is_number : Stmt := top 11
theorem sc_is_number : FnScope ["value", "most"] ["value", "most"] (defScope s_is_number) := ⟨rfl, rfl, rfl, by decide +kernel, rfl, by decide +kernel, by decide +kernel⟩
abbrev s_are_moves : Stmt := top 25
theorem sc_are_moves : FnScope ["step", "value", "line", "stand"] ["step", "value"] (defScope s_are_moves) := ⟨rfl, rfl, rfl, by decide +kernel, rfl, by decide +kernel, by decide +kernel⟩
abbrev s_Row_init : Stmt := inClass (top 30) 0
theorem sc_Row_init : FnScope ["self", "system", "moves", "signs"] ["self", "system", "moves", "signs"] (defScope s_Row_init) := ⟨rfl, rfl, rfl, by decide +kernel, rfl, by decide +kernel, by decide +kernel⟩
abbrev s_row_by_rule : Stmt := top 29
theorem sc_row_by_rule : FnScope ["system", "rule", "shown", "words", "masks", "index", "pair", "stands", "places", "moves", "line", "sign"] ["system", "rule", "shown"] (defScope s_row_by_rule) := ⟨rfl, rfl, rfl, by decide +kernel, rfl, by decide +kernel, by decide +kernel⟩
abbrev s_Row_by_rule : Stmt := inClass (top 30) 1
theorem sc_Row_by_rule : FnScope ["system", "rule", "shown"] ["system", "rule", "shown"] (defScope s_Row_by_rule) := ⟨rfl, rfl, rfl, by decide +kernel, rfl, by decide +kernel, by decide +kernel⟩
abbrev s_System_init : Stmt := inClass (top 22) 0
theorem sc_System_init : FnScope ["self", "step"] ["self", "step"] (defScope s_System_init) := ⟨rfl, rfl, rfl, by decide +kernel, rfl, by decide +kernel, by decide +kernel⟩
abbrev s_golden_row : Stmt := top 33
theorem sc_golden_row : FnScope [] [] (defScope s_golden_row) := ⟨rfl, rfl, rfl, by decide +kernel, rfl, by decide +kernel, by decide +kernel⟩
abbrev s_silver_row : Stmt := top 34
theorem sc_silver_row : FnScope [] [] (defScope s_silver_row) := ⟨rfl, rfl, rfl, by decide +kernel, rfl, by decide +kernel, by decide +kernel⟩
abbrev s_bronze_row : Stmt := top 35
theorem sc_bronze_row : FnScope [] [] (defScope s_bronze_row) := ⟨rfl, rfl, rfl, by decide +kernel, rfl, by decide +kernel, by decide +kernel⟩
abbrev s_odd_row : Stmt := top 36
theorem sc_odd_row : FnScope [] [] (defScope s_odd_row) := ⟨rfl, rfl, rfl, by decide +kernel, rfl, by decide +kernel, by decide +kernel⟩
abbrev s_units_up_to : Stmt := top 19
theorem sc_units_up_to : FnScope ["step", "number", "found", "before", "unit"] ["step", "number"] (defScope s_units_up_to) := ⟨rfl, rfl, rfl, by decide +kernel, rfl, by decide +kernel, by decide +kernel⟩
abbrev s_digits_of : Stmt := top 20
theorem sc_digits_of : FnScope ["step", "number", "found", "rest", "unit"] ["step", "number"] (defScope s_digits_of) := ⟨rfl, rfl, rfl, by decide +kernel, rfl, by decide +kernel, by decide +kernel⟩
abbrev s_sign_at : Stmt := top 31
theorem sc_sign_at : FnScope ["row", "number", "stand", "digit"] ["row", "number"] (defScope s_sign_at) := ⟨rfl, rfl, rfl, by decide +kernel, rfl, by decide +kernel, by decide +kernel⟩
abbrev s_Row_stretch : Stmt := inClass (top 30) 3
theorem sc_Row_stretch : FnScope ["self", "number", "length", "more"] ["self", "number", "length"] (defScope s_Row_stretch) := ⟨rfl, rfl, rfl, by decide +kernel, rfl, by decide +kernel, by decide +kernel⟩
abbrev s_law_draw : Stmt := top 39
theorem sc_law_draw : FnScope ["_law_bag_here", "_law_wide", "_law_figure", "_law_held"] ["_law_bag_here", "_law_wide"] (defScope s_law_draw) := ⟨rfl, rfl, rfl, by decide +kernel, rfl, by decide +kernel, by decide +kernel⟩
abbrev s_law_units : Stmt := top 41
theorem sc_law_units : FnScope ["_law_level", "_law_many", "_law_found", "_law_turn"] ["_law_level", "_law_many"] (defScope s_law_units) := ⟨rfl, rfl, rfl, by decide +kernel, rfl, by decide +kernel, by decide +kernel⟩
abbrev s_law_great : Stmt := top 43
theorem sc_law_great : FnScope ["_law_bag_here", "_law_level", "_law_way", "_law_found", "_law_turn"] ["_law_bag_here", "_law_level"] (defScope s_law_great) := ⟨rfl, rfl, rfl, by decide +kernel, rfl, by decide +kernel, by decide +kernel⟩
abbrev s_law_root : Stmt := top 44
theorem sc_law_root : FnScope ["_law_square", "_law_high", "_law_low", "_law_here"] ["_law_square"] (defScope s_law_root) := ⟨rfl, rfl, rfl, by decide +kernel, rfl, by decide +kernel, by decide +kernel⟩
abbrev s_Row_call : Stmt := inClass (top 30) 2
theorem sc_Row_call : FnScope ["self", "number"] ["self", "number"] (defScope s_Row_call) := ⟨rfl, rfl, rfl, by decide +kernel, rfl, by decide +kernel, by decide +kernel⟩
abbrev s_law_digits : Stmt := top 42
theorem sc_law_digits : FnScope ["_law_level", "_law_amount", "_law_found", "_law_left", "_law_unit", "_law_many", "_law_k"] ["_law_level", "_law_amount"] (defScope s_law_digits) := ⟨rfl, rfl, rfl, by decide +kernel, rfl, by decide +kernel, by decide +kernel⟩
abbrev s_law_right : Stmt := top 45
theorem sc_law_right : FnScope ["_law_bag_here", "_law_rows", "_law_turn", "_law_many", "_law_figure", "_law_level", "_law_root_here", "_law_place", "_law_more", "_law_odd", "_law_here"] ["_law_bag_here"] (defScope s_law_right) := ⟨rfl, rfl, rfl, by decide +kernel, rfl, by decide +kernel, by decide +kernel⟩
abbrev s_law_bag : Stmt := top 38
theorem sc_law_bag : FnScope ["_law_cells", "_law_k", "_law_cell", "_law_seed", "_law_this", "_law_figures"] ["_law_cells", "_law_k"] (defScope s_law_bag) := ⟨rfl, rfl, rfl, by decide +kernel, rfl, by decide +kernel, by decide +kernel⟩
abbrev s_law : Stmt := top 46
theorem sc_law : FnScope ["_law_cells", "_law_rows", "_law_rank", "_law_due", "_law_k"] ["_law_cells"] (defScope s_law) := ⟨rfl, rfl, rfl, by decide +kernel, rfl, by decide +kernel, by decide +kernel⟩
def TT (A : Ad) : List (PySem.Addr × FS) := [(A.c_System, S_System_eq A), (A.c_Row, S_Row_eq A)]
def w_System_eq (A : Ad) : WS :=
    (sRet (wAnd (wCB (isA (cd A)) (wCons (wVar 1) (wCons (wC (.obj A.c_System)) wNil))) (w2 dEq (wFldC A.c_System "step" (wVar 0)) (wFldC A.c_System "step" (wVar 1)))))
def w_Row_eq (A : Ad) : WS :=
    (sSeq (sIf (tyNot (wB (wCB (isA (cd A)) (wCons (wVar 1) (wCons (wC (.obj A.c_Row)) wNil))))) (sRet (wC (.bl false))) sNext)
    (sRet (wAnd (w2 (eqO (cd A) A.c_System (S_System_eq A)) (wFldC A.c_Row "system" (wVar 0)) (wFldC A.c_Row "system" (wVar 1))) (wAnd (w2 dEq (wFldC A.c_Row "moves" (wVar 0)) (wFldC A.c_Row "moves" (wVar 1))) (w2 dEq (wFldC A.c_Row "signs" (wVar 0)) (wFldC A.c_Row "signs" (wVar 1)))))))
def w_check_system (A : Ad) : WS :=
    (sIf (tyNot (wB (wCB (isA (cd A)) (wCons (wVar 0) (wCons (wC (.obj A.c_System)) wNil))))) sNever sNext)
def w_is_well_worded (A : Ad) : WS :=
    (sSeq (sIf (tyNot (wB (wCBL lAll (wLc (iSt (wVar 1)) (gVar 2) wYes (wDIn (wVar 2) (dE (wVar 0))) [2])))) (sRet (wC (.bl false))) sNext)
    (sSeq (sAsg 3 (wFz (wLc (iSt (wVar 1)) (gVar 2) wYes (w2 dGt (wCB dLen (wCons (wDGet (dE (wVar 0)) (wVar 2)) wNil)) (wC (.int 1))) [2])))
    (sRet (wIf (wB (w2 dEq (wCB dLen (wCons (wVar 1) wNil)) (wC (.int 1)))) (w2 dEq (wVar 3) (wFz (wLstO (wCons (wC (.bl true)) wNil)))) (w2 dEq (wVar 3) (w2 dAdd (w2 dMulT (wFz (wLstO (wCons (wC (.bl true)) wNil))) (w2 dSub (wCB dLen (wCons (wVar 1) wNil)) (wC (.int 1)))) (wFz (wLstO (wCons (wC (.bl false)) wNil)))))))))
def w_are_small (A : Ad) : WS :=
    (sSeq (sIf (tyOr (tyNot (wB (wCB (isA (cd A)) (wCons (wVar 0) (wCons (wC (.ty "str")) wNil))))) (tyNot (wB (wChain dLe dLe (wVar 1) (wCB dLen (wCons (wVar 0) wNil)) (wVar 2))))) (sRet (wC (.bl false))) sNext)
    (sRet (wCBL lAll (wLc (iSt (wVar 0)) (gVar 3) wYes (wChain dLe dLe (wC (.str "a")) (wVar 3) (wC (.str "z"))) [3]))))
def w_is_pair (A : Ad) : WS :=
    (sSeq (sIf (tyOr (tyNot (wB (wCB (isA (cd A)) (wCons (wVar 1) (wCons (wC (.ty "tuple")) wNil))))) (tyOr (wB (w2 dNe (wCB dLen (wCons (wVar 1) wNil)) (wC (.int 2)))) (tyNot (wB (wCall0 3 (S_are_small A) [] (wCons (w2 dIx (wVar 1) (wC (.int 0))) (wCons (wC (.int 1)) (wCons (wC (.int 1)) wNil)))))))) (sRet (wC (.bl false))) sNext)
    (sRet (wAnd (wCall0 3 (S_are_small A) [] (wCons (w2 dIx (wVar 1) (wC (.int 1))) (wCons (wC (.int 1)) (wCons (w2 dAdd (wVar 0) (wC (.int 1))) wNil)))) (w2 (dInI false) (wCB dLen (wCons (w2 dIx (wVar 1) (wC (.int 1))) wNil)) (wTup (wCons (wC (.int 1)) (wCons (w2 dAdd (wVar 0) (wC (.int 1))) wNil)))))))
def lb_words_of_1 (A : Ad) : WS :=
    (sSeq (sIf (tyOr (tyNot (wB (wCall0 2 (S_is_pair A) [] (wCons (wVar 0) (wCons (wVar 4) wNil))))) (wB (wDIn (w2 dIx (wVar 4) (wC (.int 0))) (dOwn 2)))) sNever sNext)
    (sDPutW 2 (w2 dIx (wVar 4) (wC (.int 0))) (w2 dIx (wVar 4) (wC (.int 1)))))
def lb_words_of_2 (A : Ad) : WS :=
    (sIf (tyNot (wB (wCall0 2 (S_is_well_worded A) [] (wCons (wVar 2) (wCons (w2 dIx (wVar 4) (wC (.int 1))) wNil))))) sNever sNext)
def w_words_of (A : Ad) : WS :=
    (sSeq (sIf (tyOr (tyNot (wB (wCB (isA (cd A)) (wCons (wVar 1) (wCons (wC (.ty "tuple")) wNil))))) (tyNot (wB (wChain dLe dLe (wC (.int 2)) (wCB dLen (wCons (wVar 1) wNil)) (wC (.int 8)))))) sNever sNext)
    (sSeq (sAsgN 2 nDict)
    (sSeq (sFor (iEnumW (wCons (wVar 1) wNil)) (gTupD [3, 4]) (lb_words_of_1 A))
    (sSeq (sFrzD 2 (sFor (iEnumW (wCons (wVar 1) wNil)) (gTupD [3, 4]) (lb_words_of_2 A)))
    (sSeq (sIf (tyOr (wB (w2 dEq (wCB dLen (wCons (w2 dIx (w2 dIx (wVar 1) (wC (.int 0))) (wC (.int 1))) wNil)) (wC (.int 1)))) (wB (w2 dNe (w2 dIx (w2 dIx (w2 dIx (wVar 1) (wC (.int 0))) (wC (.int 1))) (wC (.int 0))) (w2 dIx (w2 dIx (wVar 1) (wC (.int 0))) (wC (.int 0)))))) sNever sNext)
    (sRet (wVar 2)))))))
def w_is_integer (A : Ad) : WS :=
    (sRet (wAnd (wCB (isA (cd A)) (wCons (wVar 0) (wCons (wC (.ty "int")) wNil))) (wNot (wCB (isA (cd A)) (wCons (wVar 0) (wCons (wC (.ty "bool")) wNil))))))
def w_is_number (A : Ad) : WS :=
    (sRet (wAnd (wCall0 1 (S_is_integer A) [] (wCons (wVar 0) wNil)) (wAnd (w2 dGe (wVar 0) (wC (.int 0))) (wOr (w2 dIsN (wVar 1) (wC .non)) (w2 dLe (wVar 0) (wVar 1))))))
def lb_are_moves_1 (A : Ad) : WS :=
    (sSeq (sIf (tyOr (tyNot (wB (wCB (isA (cd A)) (wCons (wVar 2) (wCons (wC (.ty "tuple")) wNil))))) (wB (w2 dNe (wCB dLen (wCons (wVar 2) wNil)) (w2 dAdd (wVar 0) (wC (.int 1)))))) (sRet (wC (.bl false))) sNext)
    (sIf (tyNot (wB (wCBL lAll (wLc (iTupW (wVar 2)) (gVar 3) wYes (wCall0 2 (S_is_number A) [] (wCons (wVar 3) (wCons (w2 dSub (wCB dLen (wCons (wVar 1) wNil)) (wC (.int 1))) wNil))) [3])))) (sRet (wC (.bl false))) sNext))
def w_are_moves (A : Ad) : WS :=
    (sSeq (sIf (tyOr (tyNot (wB (wCB (isA (cd A)) (wCons (wVar 1) (wCons (wC (.ty "tuple")) wNil))))) (tyNot (wB (wChain dLe dLe (wC (.int 1)) (wCB dLen (wCons (wVar 1) wNil)) (wC (.int 8)))))) (sRet (wC (.bl false))) sNext)
    (sSeq (sFor (iTupW (wVar 1)) (gVar 2) (lb_are_moves_1 A))
    (sRet (w2 dEq (w2 dIx (w2 dIx (wVar 1) (wC (.int 0))) (wC (.int 0))) (wC (.int 0))))))
def w_Row_init (A : Ad) : WS :=
    (sSeq (sDrop (wCall0 1 (S_check_system A) [] (wCons (wVar 1) wNil)))
    (sSeq (sIf (tyNot (wB (wCall0 2 (S_are_moves A) [] (wCons (wFldC A.c_System "step" (wVar 1)) (wCons (wVar 2) wNil))))) sNever sNext)
    (sSeq (sIf (tyNot (wB (wCall0 3 (S_are_small A) [] (wCons (wVar 3) (wCons (wCB dLen (wCons (wVar 2) wNil)) (wCons (wCB dLen (wCons (wVar 2) wNil)) wNil)))))) sNever sNext)
    (sSeq (sFldI A.c_Row 0 "system" (wVar 1))
    (sSeq (sFldI A.c_Row 0 "moves" (wVar 2))
    (sFldI A.c_Row 0 "signs" (wVar 3)))))))
def lb_row_by_rule_1 (A : Ad) : WS :=
    (sSeq (sIf (wB (wDNotIn (wVar 11) (dOwn 8))) (sSeq (sDPutW 8 (wVar 11) (wCBL lLen (wOwn 7)))
    (sApp 7 (wVar 11))) sNext)
    (sApp 10 (wDGet (dOwn 8) (wVar 11))))
def lb_row_by_rule_2 (A : Ad) : WS :=
    (sSeq (sAsgO 10 (wLstO wNil))
    (sSeq (sFor (iSt (wDGet (dE (wVar 3)) (wIxL (wOwn 7) (wCBL lLen (wOwn 9))))) (gVar 11) (lb_row_by_rule_1 A))
    (sFrz 10 (sApp 9 (wCBL lTup (wLk (w2 dAdd (wVar 10) (w2 dMulT (wFz (wLstO (wCons (wC (.int 0)) wNil))) (w2 dSub (w2 dAdd (wFldC A.c_System "step" (wVar 0)) (wC (.int 1))) (wCB dLen (wCons (wVar 10) wNil)))))))))))
def w_row_by_rule (A : Ad) : WS :=
    (sSeq (sDrop (wCall0 1 (S_check_system A) [] (wCons (wVar 0) wNil)))
    (sSeq (sAsg 3 (wCall0 2 (S_words_of A) [] (wCons (wFldC A.c_System "step" (wVar 0)) (wCons (wVar 1) wNil))))
    (sSeq (sIf (tyAnd (wB (w2 dNotN (wVar 2) (wC .non))) (tyNot (wB (wCall0 3 (S_are_small A) [] (wCons (wVar 2) (wCons (wCB dLen (wCons (wVar 1) wNil)) (wCons (wCB dLen (wCons (wVar 1) wNil)) wNil))))))) sNever sNext)
    (sSeq (sAsg 4 (wFzD (nDc (iEnumW (wCons (wVar 1) wNil)) (gTupD [5, 6]) wYes (w2 dIx (wVar 6) (wC (.int 0))) (wIf (wB (w2 dIsN (wVar 2) (wC .non))) (w2 dIx (wVar 6) (wC (.int 0))) (w2 dIx (wVar 2) (wVar 5))) [5, 6])))
    (sSeq (sParN3 7 8 9 (nO (wLstO (wCons (w2 dIx (w2 dIx (wVar 1) (wC (.int 0))) (wC (.int 0))) wNil))) (nDisp1 (w2 dIx (w2 dIx (wVar 1) (wC (.int 0))) (wC (.int 0))) (wC (.int 0))) (nO (wLstO wNil)))
    (sSeq (sWhile (wB (w2 dLt (wCBL lLen (wOwn 9)) (wCBL lLen (wOwn 7)))) (lb_row_by_rule_2 A))
    (sFrz 7 (sRet (wMake0 A.c_Row 3 (S_Row_init A) [] (wCons (wVar 0) (wCons (wCBL lTup (wOwn 9)) (wCons (wJoin (wC (.str "")) (wLc (iLst (wVar 7)) (gVar 11) wYes (wDGet (dE (wVar 4)) (wVar 11)) [11])) wNil))))))))))))
def w_Row_by_rule (A : Ad) : WS :=
    (sRet (wCall0 3 (S_row_by_rule A) [] (wCons (wVar 0) (wCons (wVar 1) (wCons (wVar 2) wNil)))))
def w_System_init (A : Ad) : WS :=
    (sSeq (sIf (tyOr (tyNot (wB (wCall0 2 (S_is_number A) [] (wCons (wVar 1) (wCons (wC (.int 3)) wNil))))) (wB (w2 dEq (wVar 1) (wC (.int 0))))) sNever sNext)
    (sFldI A.c_System 0 "step" (wVar 1)))
def w_golden_row (A : Ad) : WS :=
    (sRet (wCall0 3 (S_Row_by_rule A) [.non] (wCons (wMake0 A.c_System 1 (S_System_init A) [] (wCons (wC (.int 1)) wNil)) (wCons (wTup (wCons (wTup (wCons (wC (.str "a")) (wCons (wC (.str "ab")) wNil))) (wCons (wTup (wCons (wC (.str "b")) (wCons (wC (.str "a")) wNil))) wNil))) wNil))))
def w_silver_row (A : Ad) : WS :=
    (sRet (wCall0 3 (S_Row_by_rule A) [.non] (wCons (wMake0 A.c_System 1 (S_System_init A) [] (wCons (wC (.int 2)) wNil)) (wCons (wTup (wCons (wTup (wCons (wC (.str "a")) (wCons (wC (.str "aab")) wNil))) (wCons (wTup (wCons (wC (.str "b")) (wCons (wC (.str "a")) wNil))) wNil))) wNil))))
def w_bronze_row (A : Ad) : WS :=
    (sRet (wCall0 3 (S_Row_by_rule A) [.non] (wCons (wMake0 A.c_System 1 (S_System_init A) [] (wCons (wC (.int 3)) wNil)) (wCons (wTup (wCons (wTup (wCons (wC (.str "a")) (wCons (wC (.str "aaab")) wNil))) (wCons (wTup (wCons (wC (.str "b")) (wCons (wC (.str "a")) wNil))) wNil))) wNil))))
def w_odd_row (A : Ad) : WS :=
    (sRet (wMake0 A.c_Row 3 (S_Row_init A) [] (wCons (wMake0 A.c_System 1 (S_System_init A) [] (wCons (wC (.int 1)) wNil)) (wCons (wTup (wCons (wTup (wCons (wC (.int 0)) (wCons (wC (.int 1)) wNil))) (wCons (wTup (wCons (wC (.int 1)) (wCons (wC (.int 0)) wNil))) wNil))) (wCons (wC (.str "ab")) wNil)))))
def lb_units_up_to_1 (A : Ad) : WS :=
    (sSeq (sApp 2 (wVar 4))
    (sPar 3 4 (wVar 4) (w2 dAdd (w2 dMulT (wVar 0) (wVar 4)) (wVar 3))))
def w_units_up_to (A : Ad) : WS :=
    (sSeq (sParO3 2 3 4 (wLstO wNil) (wC (.int 1)) (wC (.int 1)))
    (sSeq (sWhile (wB (w2 dLe (wVar 4) (wVar 1))) (lb_units_up_to_1 A))
    (sRetO 2)))
def lb_digits_of_1 (A : Ad) : WS :=
    (sSeq (sApp 2 (w2 dDiv (wVar 3) (wVar 4)))
    (sAsg 3 (w2 dMod (wVar 3) (wVar 4))))
def w_digits_of (A : Ad) : WS :=
    (sSeq (sParO 2 3 (wLstO wNil) (wVar 1))
    (sSeq (sFor (iLst (wRev (wCall0 2 (S_units_up_to A) [] (wCons (wVar 0) (wCons (wVar 1) wNil))))) (gVar 4) (lb_digits_of_1 A))
    (sRet (wCBL lTup (wOwn 2)))))
def lb_sign_at_1 (A : Ad) : WS :=
    (sAsg 2 (w2 dIx (w2 dIx (wFldC A.c_Row "moves" (wVar 0)) (wVar 2)) (wVar 3)))
def w_sign_at (A : Ad) : WS :=
    (sSeq (sAsg 2 (wC (.int 0)))
    (sSeq (sFor (iTupW (wCall0 2 (S_digits_of A) [] (wCons (wFldC A.c_System "step" (wFldC A.c_Row "system" (wVar 0))) (wCons (wVar 1) wNil)))) (gVar 3) (lb_sign_at_1 A))
    (sRet (w2 dIx (wFldC A.c_Row "signs" (wVar 0)) (wVar 2)))))
def w_Row_stretch (A : Ad) : WS :=
    (sSeq (sIf (tyNot (wB (wCall0 2 (S_is_number A) [] (wCons (wVar 1) (wCons (wC (.int 10000000000000000000000000000000000000000)) wNil))))) sNever sNext)
    (sSeq (sIf (tyNot (wB (wCall0 2 (S_is_number A) [] (wCons (wVar 2) (wCons (wC (.int 2000)) wNil))))) sNever sNext)
    (sRet (wJoin (wC (.str "")) (wLc (iRg1 (wCons (wVar 2) wNil)) (gVar 3) wYes (wCall0 2 (S_sign_at A) [] (wCons (wVar 0) (wCons (w2 dAdd (wVar 1) (wVar 3)) wNil))) [3])))))
def lb_law_units_1 (A : Ad) : WS :=
    (sApp 2 (w2 dAdd (w2 dMulT (wVar 0) (wIxL (wOwn 2) (w1 dNeg (wC (.int 1))))) (wIxL (wOwn 2) (w1 dNeg (wC (.int 2))))))
def w_law_units (A : Ad) : WS :=
    (sSeq (sAsgO 2 (wLstO (wCons (wC (.int 1)) (wCons (w2 dAdd (wVar 0) (wC (.int 1))) wNil))))
    (sSeq (sFor (iRg1 (wCons (wVar 1) wNil)) (gVar 3) (lb_law_units_1 A))
    (sRet (wFz (wSlO (wOwn 2) wNoP (wPart (wVar 1)))))))
def lb_law_great_1 (A : Ad) : WS :=
    (sAsg 3 (w2 dAdd (w2 dMulT (wVar 3) (wC (.int 10))) (wCall0 2 (S_law_draw A) [] (wCons (wVar 0) (wCons (wC (.int 10)) wNil)))))
def w_law_great (A : Ad) : WS :=
    (sSeq (sPar 2 3 (wCall0 2 (S_law_draw A) [] (wCons (wVar 0) (wCons (wC (.int 5)) wNil))) (wC (.int 0)))
    (sSeq (sIf (wB (w2 dLt (wVar 2) (wC (.int 2)))) (sRet (wCall0 2 (S_law_draw A) [] (wCons (wVar 0) (wCons (wC (.int 90)) wNil)))) sNext)
    (sSeq (sIf (wB (w2 dEq (wVar 2) (wC (.int 2)))) (sRet (w2 dSub (w2 dAdd (w2 dIx (wCall0 2 (S_law_units A) [] (wCons (wVar 1) (wCons (w2 dAdd (wC (.int 4)) (wCall0 2 (S_law_draw A) [] (wCons (wVar 0) (wCons (wC (.int 60)) wNil)))) wNil))) (w1 dNeg (wC (.int 1)))) (wCall0 2 (S_law_draw A) [] (wCons (wVar 0) (wCons (wC (.int 5)) wNil)))) (wC (.int 2)))) sNext)
    (sSeq (sFor (iRg1 (wCons (w2 dAdd (wC (.int 1)) (wCall0 2 (S_law_draw A) [] (wCons (wVar 0) (wCons (wC (.int 40)) wNil)))) wNil)) (gVar 4) (lb_law_great_1 A))
    (sRet (wVar 3))))))
def lb_law_root_1 (A : Ad) : WS :=
    (sAsg 1 (w2 dMulT (wVar 1) (wC (.int 2))))
def lb_law_root_2 (A : Ad) : WS :=
    (sSeq (sAsg 3 (w2 dDiv (wCB dInt (wCons (w2 dAdd (wVar 2) (wVar 1)) wNil)) (wC (.int 2))))
    (sIf (wB (w2 dLe (w2 dMulT (wVar 3) (wVar 3)) (wVar 0))) (sAsg 2 (wVar 3)) (sAsg 1 (wVar 3))))
def w_law_root (A : Ad) : WS :=
    (sSeq (sAsg 1 (wC (.int 1)))
    (sSeq (sWhile (wB (w2 dLe (w2 dMulT (wVar 1) (wVar 1)) (wVar 0))) (lb_law_root_1 A))
    (sSeq (sAsg 2 (w2 dDiv (wVar 1) (wC (.int 2))))
    (sSeq (sWhile (wB (w2 dGt (w2 dSub (wVar 1) (wVar 2)) (wC (.int 1)))) (lb_law_root_2 A))
    (sRet (wIf (wB (w2 dGt (wVar 0) (wC (.int 0)))) (wVar 2) (wC (.int 0))))))))
def w_Row_call (A : Ad) : WS :=
    (sSeq (sIf (tyNot (wB (wCall0 2 (S_is_number A) [] (wCons (wVar 1) (wCons (wC (.int 10000000000000000000000000000000000000000)) wNil))))) sNever sNext)
    (sRet (wCall0 2 (S_sign_at A) [] (wCons (wVar 0) (wCons (wVar 1) wNil)))))
def lb_law_digits_1 (A : Ad) : WS :=
    (sSeq (sAsg 5 (wCBL lLen (wLc (iRg2 (wCons (wC (.int 1)) (wCons (w2 dAdd (wVar 0) (wC (.int 1))) wNil))) (gVar 6) (wB (w2 dLe (w2 dMulT (wVar 6) (wVar 4)) (wVar 3))) (wVar 6) [6])))
    (sSeq (sApp 2 (wVar 5))
    (sAsg 3 (w2 dSub (wVar 3) (w2 dMulT (wVar 5) (wVar 4))))))
def w_law_digits (A : Ad) : WS :=
    (sSeq (sParO 2 3 (wLstO wNil) (wVar 1))
    (sSeq (sFor (iLst (wRev (wFz (wLc (iLst (wCall0 2 (S_law_units A) [] (wCons (wVar 0) (wCons (wC (.int 198)) wNil)))) (gVar 4) (wB (w2 dLe (wVar 4) (wVar 1))) (wVar 4) [4])))) (gVar 4) (lb_law_digits_1 A))
    (sRet (wCBL lTupX (wOwn 2)))))
def lb_law_right_1 (A : Ad) : WS :=
    (sAsg 3 (w2 dAdd (w2 dMulT (wVar 3) (wC (.int 10))) (wCall0 2 (S_law_draw A) [] (wCons (wVar 0) (wCons (wC (.int 10)) wNil)))))
def lb_law_right_2 (A : Ad) : WS :=
    (sSeq (sAsg 6 (wCall0 1 (S_law_root A) [] (wCons (w2 dMulT (w2 dMulT (w2 dAdd (w2 dMulT (wVar 5) (wVar 5)) (wC (.int 4))) (wVar 3)) (wVar 3)) wNil)))
    (sSeq (sAsg 7 (w2 dSub (w2 dDiv (wCB dInt (wCons (w2 dAdd (w2 dMulT (w2 dAdd (wVar 5) (wC (.int 2))) (wVar 3)) (wVar 6)) wNil)) (wC (.int 2))) (wC (.int 1))))
    (sIf (wB (w2 dNe (wFz (wLc (iLst (wFz (wLstO (wCons (w1 dNeg (wC (.int 1))) (wCons (wC (.int 0)) (wCons (wC (.int 1)) wNil)))))) (gVar 8) wYes (wCallI0 A.c_Row 2 (S_Row_call A) (w2 dIx (wVar 1) (w2 dSub (wVar 5) (wC (.int 1)))) (wCons (w2 dAdd (wVar 7) (wVar 8)) wNil)) [8])) (wFz (wLstO (wCons (wC (.str "a")) (wCons (wC (.str "b")) (wCons (wC (.str "a")) wNil))))))) (sRet (wC (.bl false))) sNext)))
def lb_law_right_3 (A : Ad) : WS :=
    (sSeq (sAsg 3 (wC (.int 0)))
    (sSeq (sFor (iRg1 (wCons (w2 dAdd (wC (.int 1)) (wCall0 2 (S_law_draw A) [] (wCons (wVar 0) (wCons (wC (.int 30)) wNil)))) wNil)) (gVar 4) (lb_law_right_1 A))
    (sSeq (sAsg 3 (w2 dAdd (wVar 3) (wC (.int 1))))
    (sFor (iRg2 (wCons (wC (.int 1)) (wCons (wC (.int 4)) wNil))) (gVar 5) (lb_law_right_2 A)))))
def lb_law_right_4 (A : Ad) : WS :=
    (sSeq (sAsg 10 (wCall0 2 (S_law_great A) [] (wCons (wVar 0) (wCons (wC (.int 1)) wNil))))
    (sIf (wB (w2 dNe (wCallI0 A.c_Row 2 (S_Row_call A) (wVar 9) (wCons (wVar 10) wNil)) (w2 dIx (wC (.str "ab")) (w2 dMod (wCB dInt (wCons (wCntT (wCall0 2 (S_law_digits A) [] (wCons (wC (.int 1)) (wCons (wVar 10) wNil))) 1) wNil)) (wC (.int 2)))))) (sRet (wC (.bl false))) sNext))
def w_law_right (A : Ad) : WS :=
    (sSeq (sAsg 1 (wFz (wLstO (wCons (wCall0 0 (S_golden_row A) [] wNil) (wCons (wCall0 0 (S_silver_row A) [] wNil) (wCons (wCall0 0 (S_bronze_row A) [] wNil) wNil))))))
    (sSeq (sFor (iRg1 (wCons (wC (.int 12)) wNil)) (gVar 2) (lb_law_right_3 A))
    (sSeq (sAsg 9 (wCall0 0 (S_odd_row A) [] wNil))
    (sSeq (sFor (iRg1 (wCons (wC (.int 10)) wNil)) (gVar 2) (lb_law_right_4 A))
    (sRet (wC (.bl true)))))))
def lb_law_bag_1 (A : Ad) : WS :=
    (sAsg 3 (w2 dMod (wCB dInt (wCons (w2 dAdd (w2 dAdd (w2 dMulT (wVar 3) (wC (.int 29501))) (w2 dMod (wCB dInt (wCons (wVar 4) wNil)) (wC (.int 1000033)))) (w2 dMulT (wC (.int 11)) (wVar 1))) wNil)) (wC (.int 2147483587))))
def w_law_bag (A : Ad) : WS :=
    (sSeq (sPar 2 3 (wIf (wB (w2 dLt (wVar 1) (wCB dLen (wCons (wVar 0) wNil)))) (wCB dInt (wCons (w2 dIx (wVar 0) (wVar 1)) wNil)) (wC (.int 0))) (w2 dMulT (wC (.int 70001)) (w2 dAdd (wVar 1) (wC (.int 5)))))
    (sSeq (sFor (iLst (wSl (wVar 0) wNoP (wPart (wC (.int 7))))) (gVar 4) (lb_law_bag_1 A))
    (sSeq (sAsg 5 (wIf (tyOr (wB (w2 dLt (wVar 2) (wC (.int 0)))) (wB (w2 dGe (wVar 2) (w2 dPow (wC (.int 10)) (wC (.int 15)))))) (wCB dAbs (wCons (wVar 2) wNil)) (wC (.int 0))))
    (sRet (wBag (wLstO (wCons (wVar 5) (wCons (w2 dMod (wCB dInt (wCons (w2 dAdd (wVar 3) (w2 dMulT (wC (.int 40487)) (w2 dMod (wCB dInt (wCons (wVar 2) wNil)) (wC (.int 999961))))) wNil)) (wC (.int 2147483587))) (wCons (wC (.int 0)) wNil)))))))))
def w_law (A : Ad) : WS :=
    (sSeq (sAsg 1 (wFz (wLstO (wCons (wCall0 0 (S_golden_row A) [] wNil) (wCons (wCall0 0 (S_silver_row A) [] wNil) (wCons (wCall0 0 (S_bronze_row A) [] wNil) (wCons (wCall0 0 (S_odd_row A) [] wNil) wNil)))))))
    (sSeq (sIf (wB (w2 (dCmpG (cd A) (TT A) 3 true) (wFz (wLc (iLst (wVar 1)) (gVar 2) wYes (wFldC A.c_Row "system" (wVar 2)) [2])) (wFz (wLstO (wCons (wMake0 A.c_System 1 (S_System_init A) [] (wCons (wC (.int 1)) wNil)) (wCons (wMake0 A.c_System 1 (S_System_init A) [] (wCons (wC (.int 2)) wNil)) (wCons (wMake0 A.c_System 1 (S_System_init A) [] (wCons (wC (.int 3)) wNil)) (wCons (wMake0 A.c_System 1 (S_System_init A) [] (wCons (wC (.int 1)) wNil)) wNil)))))))) (sRet (wC (.bl false))) sNext)
    (sSeq (sAsg 3 (wFz (wLstO (wCons (wC (.str "abaababaabaabab")) (wCons (wC (.str "aabaabaaabaabaa")) (wCons (wC (.str "aaabaaabaaabaaa")) wNil))))))
    (sSeq (sIf (tyOr (wB (w2 dNe (wFz (wLc (iLst (wSl (wVar 1) wNoP (wPart (wC (.int 3))))) (gVar 2) wYes (wMeth0 A.c_Row "stretch" 3 (S_Row_stretch A) [] (wVar 2) (wCons (wC (.int 0)) (wCons (wC (.int 15)) wNil))) [2])) (wVar 3))) (wB (w2 dNe (wMeth0 A.c_Row "stretch" 3 (S_Row_stretch A) [] (w2 dIx (wVar 1) (wC (.int 3))) (wCons (wC (.int 0)) (wCons (wC (.int 8)) wNil))) (wC (.str "abbbabaa"))))) (sRet (wC (.bl false))) sNext)
    (sSeq (sIf (wB (w2 dNe (wFz (wLstO (wCons (wFldC A.c_Row "moves" (w2 dIx (wVar 1) (wC (.int 0)))) (wCons (wFldC A.c_Row "moves" (w2 dIx (wVar 1) (wC (.int 1)))) (wCons (wFldC A.c_Row "moves" (w2 dIx (wVar 1) (wC (.int 3)))) wNil))))) (wFz (wLstO (wCons (wTup (wCons (wTup (wCons (wC (.int 0)) (wCons (wC (.int 1)) wNil))) (wCons (wTup (wCons (wC (.int 0)) (wCons (wC (.int 0)) wNil))) wNil))) (wCons (wTup (wCons (wTup (wCons (wC (.int 0)) (wCons (wC (.int 0)) (wCons (wC (.int 1)) wNil)))) (wCons (wTup (wCons (wC (.int 0)) (wCons (wC (.int 0)) (wCons (wC (.int 0)) wNil)))) wNil))) (wCons (wTup (wCons (wTup (wCons (wC (.int 0)) (wCons (wC (.int 1)) wNil))) (wCons (wTup (wCons (wC (.int 1)) (wCons (wC (.int 0)) wNil))) wNil))) wNil))))))) (sRet (wC (.bl false))) sNext)
    (sRet (wCBL lAll (wLc (iRg1 (wCons (wCB dMax2 (wCons (wC (.int 2)) (wCons (wCB dMin2 (wCons (wCB dLen (wCons (wVar 0) wNil)) (wCons (wC (.int 6)) wNil))) wNil))) wNil)) (gVar 4) wYes (wCall0 1 (S_law_right A) [] (wCons (wCall0 2 (S_law_bag A) [] (wCons (wVar 0) (wCons (wVar 4) wNil))) wNil)) [4]))))))))
end Lw
namespace Lw
open PySem L2 DL
variable [Tbl]
/-! ### one statement after the other -/
theorem seqI {ws us : WS} {n : DN} {env : EV} (h : ∀ N : EV → Prop, (∀ env', us n env' → N env') → ws { n with nx := N } env) : sSeq ws us n env := h _ fun _ h => h
/-! ### the units -/
theorem un_0 (k : Int) : un k 0 = 1 := rfl
theorem un_1 (k : Int) : un k 1 = k + 1 := by
  show k * 1 + 1 = k + 1
  omega
theorem un_2 (k : Int) (n : Nat) : un k (n + 2) = k * un k (n + 1) + un k n := rfl
theorem pr_1 (k : Int) (n : Nat) : (pr k (n + 1)).1 = un k n := rfl
theorem pr_eq (k : Int) (n : Nat) : pr k n = ((pr k n).1, un k n) := rfl
theorem un_s (k : Int) (n : Nat) : un k (n + 1) = k * un k n + (pr k n).1 := rfl
theorem pr_pos {k : Int} (h : K3 k) : ∀ n, 1 ≤ (pr k n).1 ∧ (pr k n).1 ≤ un k n
  | 0 => ⟨Int.le_refl _, Int.le_refl _⟩
  | n + 1 => by
    obtain ⟨h1, h2⟩ := pr_pos h n
    have h3 : un k n ≤ k * un k n := by
      have := Int.mul_le_mul_of_nonneg_right h.1 (show 0 ≤ un k n by omega)
      omega
    rw [pr_1, un_s]
    omega
theorem un_pos {k : Int} (h : K3 k) (n : Nat) : 1 ≤ un k n := Int.le_trans (pr_pos h n).1 (pr_pos h n).2
theorem un_lt {k : Int} (h : K3 k) (n : Nat) : un k n < un k (n + 1) := by
  obtain ⟨h1, h2⟩ := pr_pos h n
  have h3 := Int.mul_le_mul_of_nonneg_right h.1 (show 0 ≤ un k n by omega)
  rw [un_s]
  omega
theorem un_le {k : Int} (h : K3 k) (n : Nat) : un k (n + 1) ≤ (k + 1) * un k n := by
  obtain ⟨h1, h2⟩ := pr_pos h n
  rw [un_s, Int.add_mul]
  omega
theorem un_mono {k : Int} (h : K3 k) {i j : Nat} (e : i ≤ j) : un k i ≤ un k j := by
  induction j with
  | zero =>
    have : i = 0 := by omega
    subst this
    exact Int.le_refl _
  | succ j ih =>
    by_cases z : i = j + 1
    · subst z
      exact Int.le_refl _
    · have := ih (by omega)
      have := un_lt h j
      omega
theorem un_4 {k : Int} (h : K3 k) (n : Nat) : un k n ≤ 4 ^ n := by
  induction n with
  | zero => exact Int.le_refl _
  | succ n ih =>
    have h1 := un_le h n
    have h2 : (k + 1) * un k n ≤ 4 * un k n := Int.mul_le_mul_of_nonneg_right (by have := h.2; omega) (by have := un_pos h n; omega)
    rw [Int.pow_succ]
    omega
theorem k3_cases {k : Int} (h : K3 k) : k = 1 ∨ k = 2 ∨ k = 3 := by
  have h1 := h.1
  have h2 := h.2
  omega
theorem un_big {k : Int} (h : K3 k) : (10 : Int) ^ 41 < un k 197 := by
  rcases k3_cases h with rfl | rfl | rfl <;> decide +kernel
theorem lim_ex {k m : Int} (N : Nat) (h : m < un k N) : ∃ j, j ≤ N ∧ Lim k m j := by
  induction N using Nat.strongRecOn with
  | _ N ih =>
    by_cases y : ∀ i, i < N → un k i ≤ m
    · exact ⟨N, Nat.le_refl _, y, h⟩
    · obtain ⟨i, hi⟩ := Classical.not_forall.mp y
      obtain ⟨h1, h2⟩ := Classical.not_imp.mp hi
      obtain ⟨j, h4, h5⟩ := ih i h1 (by omega)
      exact ⟨j, by omega, h5⟩
theorem unL_len (k : Int) (n : Nat) : (unL k n).length = n := by
  unfold unL
  rw [List.length_map, List.length_range]
theorem unL_s (k : Int) (n : Nat) : unL k (n + 1) = unL k n ++ [un k n] := by
  unfold unL
  rw [List.range_succ, List.map_append]
  rfl
/-! ### the defs -/
theorem isT_int (A : Ad) (i : Int) (T : String) (h : T ∈ bts) : isT (cd A) (.int i) T = some (T == "int") := if_pos h
theorem isT_tup (A : Ad) (i : List D) (T : String) (h : T ∈ bts) : isT (cd A) (.tup i) T = some (T == "tuple") := if_pos h
theorem hw_is_integer (A : Ad) : ∀ ds er q, ds.length = 1 → S_is_integer A ds er q → w_is_integer A { nx := fun _ => q .non, rt := q, er := er } (envOf 1 ds) := by
  intro ds er q hlen h
  unfold S_is_integer at h
  split at h
  · rename_i d
    obtain ⟨h, hq⟩ := h
    simp [w_is_integer, wVar, wC, w2, w1, wNil, wCons, wTup, wLstO, wFz, wLk, wOwn, wAnd, wOr, wNot, wB, wYes, wIf, wFldC, wCB, wCBL, wCall0, wMeth0, wMethN0, wMakeK0, wMake0, sSeq, sNext, sNever, sRet, sRetN, sRetO, sIf, sAsg, sAsgO, sPar, sParO, sPar3, sParO3, sAsgG, gTupD, setAll, sAug, sApp, sFldI, tyAnd, tyOr, tyNot, iRg1, iRg2, iLst, iTupW, sFor, dAdd, dSub, dMul, dMulT, dDiv, dMod, dPow, dNeg, dLt, dLe, dGt, dGe, dIsN, DL.isNon, dNotN, dEq, dNe, dIx, dLen, dInt, dAbs, dMax2, dMin2, lLen, lTup, isA, envOf, envI, putD, gVar, wRev, wRevT, wIxL, wSl, wSlO, wNoP, wPart, wBag, okD_int, okD_bl, okD_non, eqD_int, eqD_bl, wipeE, wChain, wCallI0, wCallIK0, iSt, dLenO, wLRg1, wJoin, sDrop, wDGet, wDIn, wDNotIn, dE, dOwn, sDPutW, sFrzD, sFrz, sAsgN, sParN, sParN3, nE, nO, nDict, nDisp1, wFzD, NV.sv, iEnumW, wInS, wIndexS, wCatO, dInI, iKeysW, wMaxV, wCntT, lTupX]
    cases d <;> simp_all [isT, isI, bts] <;> (try (rw [if_pos h]; exact hq))
  · exact h.elim
theorem hw_is_number (A : Ad) : ∀ ds er q, ds.length = 2 → S_is_number A ds er q → w_is_number A { nx := fun _ => q .non, rt := q, er := er } (envOf 2 ds) := by
  intro ds er q hlen h
  unfold S_is_number at h
  split at h
  · rename_i i m
    simp [w_is_number, wVar, wC, w2, w1, wNil, wCons, wTup, wLstO, wFz, wLk, wOwn, wAnd, wOr, wNot, wB, wYes, wIf, wFldC, wCB, wCBL, wCall0, wMeth0, wMethN0, wMakeK0, wMake0, sSeq, sNext, sNever, sRet, sRetN, sRetO, sIf, sAsg, sAsgO, sPar, sParO, sPar3, sParO3, sAsgG, gTupD, setAll, sAug, sApp, sFldI, tyAnd, tyOr, tyNot, iRg1, iRg2, iLst, iTupW, sFor, dAdd, dSub, dMul, dMulT, dDiv, dMod, dPow, dNeg, dLt, dLe, dGt, dGe, dIsN, DL.isNon, dNotN, dEq, dNe, dIx, dLen, dInt, dAbs, dMax2, dMin2, lLen, lTup, isA, envOf, envI, putD, gVar, wRev, wRevT, wIxL, wSl, wSlO, wNoP, wPart, wBag, okD_int, okD_bl, okD_non, eqD_int, eqD_bl, wipeE, wChain, wCallI0, wCallIK0, iSt, dLenO, wLRg1, wJoin, sDrop, wDGet, wDIn, wDNotIn, dE, dOwn, sDPutW, sFrzD, sFrz, sAsgN, sParN, sParN3, nE, nO, nDict, nDisp1, wFzD, NV.sv, iEnumW, wInS, wIndexS, wCatO, dInI, iKeysW, wMaxV, wCntT, lTupX, S_is_integer, isT, bts, isI]
    by_cases h0 : 0 ≤ i
    · simp_all
    · have e := decide_eq_false h0
      rw [e] at h ⊢
      exact h
  · exact h.elim
theorem step_look (x : D) : List.lookup ("step" : Str) [(("step" : Str), x)] = some x := by simp [List.lookup]
theorem hw_System_init (A : Ad) : ∀ x ds er q, ds.length = 1 → S_System_init A ds er q → w_System_init A { nx := fun env => ∃ fs, env[0]? = some (.me x A.c_System fs) ∧ q fs, rt := fun _ => False, er := er } (envI 2 x A.c_System ds) := by
  intro x ds er q hlen h
  unfold S_System_init at h
  split at h
  · rename_i k
    obtain ⟨⟨h1, h2⟩, hq⟩ := h
    simp [w_System_init, wVar, wC, w2, w1, wNil, wCons, wTup, wLstO, wFz, wLk, wOwn, wAnd, wOr, wNot, wB, wYes, wIf, wFldC, wCB, wCBL, wCall0, wMeth0, wMethN0, wMakeK0, wMake0, sSeq, sNext, sNever, sRet, sRetN, sRetO, sIf, sAsg, sAsgO, sPar, sParO, sPar3, sParO3, sAsgG, gTupD, setAll, sAug, sApp, sFldI, tyAnd, tyOr, tyNot, iRg1, iRg2, iLst, iTupW, sFor, dAdd, dSub, dMul, dMulT, dDiv, dMod, dPow, dNeg, dLt, dLe, dGt, dGe, dIsN, DL.isNon, dNotN, dEq, dNe, dIx, dLen, dInt, dAbs, dMax2, dMin2, lLen, lTup, isA, envOf, envI, putD, gVar, wRev, wRevT, wIxL, wSl, wSlO, wNoP, wPart, wBag, okD_int, okD_bl, okD_non, eqD_int, eqD_bl, wipeE, wChain, wCallI0, wCallIK0, iSt, dLenO, wLRg1, wJoin, sDrop, wDGet, wDIn, wDNotIn, dE, dOwn, sDPutW, sFrzD, sFrz, sAsgN, sParN, sParN3, nE, nO, nDict, nDisp1, wFzD, NV.sv, iEnumW, wInS, wIndexS, wCatO, dInI, iKeysW, wMaxV, wCntT, lTupX, S_is_number]
    have h3 : ¬ k = 0 := by omega
    have h4 : 0 ≤ k := by omega
    first
      | (simp_all; done)
      | (simp_all; intro z; omega)
  · exact h.elim
theorem k3_mul {k x : Int} (h : K3 k) : CMul k x := .inl ⟨by have := h.1; omega, by have := h.2; omega⟩
theorem iter_units (A : Ad) {k m : Int} {n : DN} {c d : SV} (hk : K3 k) (j : Nat) (hj : j ≤ 200) (hl : Lim k m j) : ∀ t i : Nat, i + t = j → n.nx [.d (.int k), .d (.int m), .own ((unL k j).map .int), .d (.int (pr k j).1), .d (.int (un k j))] →
    sIter (wB (w2 dLe (wVar 4) (wVar 1))) (lb_units_up_to_1 A) n (t + 1) [.d (.int k), .d (.int m), .own ((unL k i).map .int), .d (.int (pr k i).1), .d (.int (un k i))]
  | 0, i, e, h => by
    have : i = j := by omega
    subst this
    have h2 := hl.2
    rw [sIter]
    simp [wVar, wC, w2, w1, wNil, wCons, wTup, wLstO, wFz, wLk, wOwn, wAnd, wOr, wNot, wB, wYes, wIf, wFldC, wCB, wCBL, wCall0, wMeth0, wMethN0, wMakeK0, wMake0, sSeq, sNext, sNever, sRet, sRetN, sRetO, sIf, sAsg, sAsgO, sPar, sParO, sPar3, sParO3, sAsgG, gTupD, setAll, sAug, sApp, sFldI, tyAnd, tyOr, tyNot, iRg1, iRg2, iLst, iTupW, sFor, dAdd, dSub, dMul, dMulT, dDiv, dMod, dPow, dNeg, dLt, dLe, dGt, dGe, dIsN, DL.isNon, dNotN, dEq, dNe, dIx, dLen, dInt, dAbs, dMax2, dMin2, lLen, lTup, isA, envOf, envI, putD, gVar, wRev, wRevT, wIxL, wSl, wSlO, wNoP, wPart, wBag, okD_int, okD_bl, okD_non, eqD_int, eqD_bl, wipeE, wChain, wCallI0, wCallIK0, iSt, dLenO, wLRg1, wJoin, sDrop, wDGet, wDIn, wDNotIn, dE, dOwn, sDPutW, sFrzD, sFrz, sAsgN, sParN, sParN3, nE, nO, nDict, nDisp1, wFzD, NV.sv, iEnumW, wInS, wIndexS, wCatO, dInI, iKeysW, wMaxV, wCntT, lTupX]
    exact ⟨fun z => absurd z (by omega), fun _ => h⟩
  | t + 1, i, e, h => by
    have h2 := hl.1 i (by omega)
    have ih := iter_units A (c := c) (d := d) hk j hj hl t (i + 1) (by omega) h
    rw [sIter]
    simp [lb_units_up_to_1, wVar, wC, w2, w1, wNil, wCons, wTup, wLstO, wFz, wLk, wOwn, wAnd, wOr, wNot, wB, wYes, wIf, wFldC, wCB, wCBL, wCall0, wMeth0, wMethN0, wMakeK0, wMake0, sSeq, sNext, sNever, sRet, sRetN, sRetO, sIf, sAsg, sAsgO, sPar, sParO, sPar3, sParO3, sAsgG, gTupD, setAll, sAug, sApp, sFldI, tyAnd, tyOr, tyNot, iRg1, iRg2, iLst, iTupW, sFor, dAdd, dSub, dMul, dMulT, dDiv, dMod, dPow, dNeg, dLt, dLe, dGt, dGe, dIsN, DL.isNon, dNotN, dEq, dNe, dIx, dLen, dInt, dAbs, dMax2, dMin2, lLen, lTup, isA, envOf, envI, putD, gVar, wRev, wRevT, wIxL, wSl, wSlO, wNoP, wPart, wBag, okD_int, okD_bl, okD_non, eqD_int, eqD_bl, wipeE, wChain, wCallI0, wCallIK0, iSt, dLenO, wLRg1, wJoin, sDrop, wDGet, wDIn, wDNotIn, dE, dOwn, sDPutW, sFrzD, sFrz, sAsgN, sParN, sParN3, nE, nO, nDict, nDisp1, wFzD, NV.sv, iEnumW, wInS, wIndexS, wCatO, dInI, iKeysW, wMaxV, wCntT, lTupX, unL_len]
    refine ⟨fun _ => ⟨by show i < sizeLine; have : (200 : Nat) < sizeLine := by decide
                         omega, .inl (k3_mul hk), ?_⟩, fun z => absurd z (by omega)⟩
    rw [unL_s, List.map_append, pr_1, un_s] at ih
    exact ih
theorem hw_units_up_to (A : Ad) : ∀ ds er q, ds.length = 2 → S_units_up_to A ds er q → w_units_up_to A { nx := fun _ => q .non, rt := q, er := er } (envOf 5 ds) := by
  intro ds er q hlen h
  unfold S_units_up_to at h
  split at h
  · rename_i k m
    obtain ⟨hk, j, hl, hj, hq⟩ := h
    simp [w_units_up_to, wVar, wC, w2, w1, wNil, wCons, wTup, wLstO, wFz, wLk, wOwn, wAnd, wOr, wNot, wB, wYes, wIf, wFldC, wCB, wCBL, wCall0, wMeth0, wMethN0, wMakeK0, wMake0, sSeq, sNext, sNever, sRet, sRetN, sRetO, sIf, sAsg, sAsgO, sPar, sParO, sPar3, sParO3, sAsgG, gTupD, setAll, sAug, sApp, sFldI, tyAnd, tyOr, tyNot, iRg1, iRg2, iLst, iTupW, sFor, dAdd, dSub, dMul, dMulT, dDiv, dMod, dPow, dNeg, dLt, dLe, dGt, dGe, dIsN, DL.isNon, dNotN, dEq, dNe, dIx, dLen, dInt, dAbs, dMax2, dMin2, lLen, lTup, isA, envOf, envI, putD, gVar, wRev, wRevT, wIxL, wSl, wSlO, wNoP, wPart, wBag, okD_int, okD_bl, okD_non, eqD_int, eqD_bl, wipeE, wChain, wCallI0, wCallIK0, iSt, dLenO, wLRg1, wJoin, sDrop, wDGet, wDIn, wDNotIn, dE, dOwn, sDPutW, sFrzD, sFrz, sAsgN, sParN, sParN3, nE, nO, nDict, nDisp1, wFzD, NV.sv, iEnumW, wInS, wIndexS, wCatO, dInI, iKeysW, wMaxV, wCntT, lTupX]
    refine ⟨j + 1, iter_units A (c := .un) (d := .un) hk j hj hl j 0 (by omega) ?_⟩
    simp [wVar, wC, w2, w1, wNil, wCons, wTup, wLstO, wFz, wLk, wOwn, wAnd, wOr, wNot, wB, wYes, wIf, wFldC, wCB, wCBL, wCall0, wMeth0, wMethN0, wMakeK0, wMake0, sSeq, sNext, sNever, sRet, sRetN, sRetO, sIf, sAsg, sAsgO, sPar, sParO, sPar3, sParO3, sAsgG, gTupD, setAll, sAug, sApp, sFldI, tyAnd, tyOr, tyNot, iRg1, iRg2, iLst, iTupW, sFor, dAdd, dSub, dMul, dMulT, dDiv, dMod, dPow, dNeg, dLt, dLe, dGt, dGe, dIsN, DL.isNon, dNotN, dEq, dNe, dIx, dLen, dInt, dAbs, dMax2, dMin2, lLen, lTup, isA, envOf, envI, putD, gVar, wRev, wRevT, wIxL, wSl, wSlO, wNoP, wPart, wBag, okD_int, okD_bl, okD_non, eqD_int, eqD_bl, wipeE, wChain, wCallI0, wCallIK0, iSt, dLenO, wLRg1, wJoin, sDrop, wDGet, wDIn, wDNotIn, dE, dOwn, sDPutW, sFrzD, sFrz, sAsgN, sParN, sParN3, nE, nO, nDict, nDisp1, wFzD, NV.sv, iEnumW, wInS, wIndexS, wCatO, dInI, iKeysW, wMaxV, wCntT, lTupX]
    exact hq
  · exact h.elim
theorem loop_digits (A : Ad) {k m : Int} {n : DN} : ∀ (us acc : List Int) (r : Int) (c : SV), (∀ u ∈ us, 0 < u ∧ u ≤ 10 ^ 41) → acc.length + us.length ≤ 1000 →
    (∀ r' c', n.nx [.d (.int k), .d (.int m), .own ((acc ++ gd us r).map .int), .d (.int r'), c']) → sLoop (lb_digits_of_1 A) (gVar 4) n (us.map .int) [.d (.int k), .d (.int m), .own (acc.map .int), .d (.int r), c]
  | [], acc, r, c, _, _, h => by
    have h := h r c
    rw [gd, List.append_nil] at h
    exact h
  | u :: us, acc, r, c, hu, hl, h => by
    obtain ⟨h1, h2⟩ := hu u (by simp)
    have hl2 : (u :: us).length = us.length + 1 := rfl
    have ih := loop_digits A (k := k) (m := m) (n := n) us (acc ++ [r / u]) (r % u) (.d (.int u)) (fun x hx => hu x (by simp [hx])) (by rw [List.length_append]; show acc.length + 1 + us.length ≤ 1000; omega) (fun r' c' => by
      rw [List.append_assoc]
      exact h r' c')
    rw [List.map_cons, sLoop]
    simp [lb_digits_of_1, wVar, wC, w2, w1, wNil, wCons, wTup, wLstO, wFz, wLk, wOwn, wAnd, wOr, wNot, wB, wYes, wIf, wFldC, wCB, wCBL, wCall0, wMeth0, wMethN0, wMakeK0, wMake0, sSeq, sNext, sNever, sRet, sRetN, sRetO, sIf, sAsg, sAsgO, sPar, sParO, sPar3, sParO3, sAsgG, gTupD, setAll, sAug, sApp, sFldI, tyAnd, tyOr, tyNot, iRg1, iRg2, iLst, iTupW, sFor, dAdd, dSub, dMul, dMulT, dDiv, dMod, dPow, dNeg, dLt, dLe, dGt, dGe, dIsN, DL.isNon, dNotN, dEq, dNe, dIx, dLen, dInt, dAbs, dMax2, dMin2, lLen, lTup, isA, envOf, envI, putD, gVar, wRev, wRevT, wIxL, wSl, wSlO, wNoP, wPart, wBag, okD_int, okD_bl, okD_non, eqD_int, eqD_bl, wipeE, wChain, wCallI0, wCallIK0, iSt, dLenO, wLRg1, wJoin, sDrop, wDGet, wDIn, wDNotIn, dE, dOwn, sDPutW, sFrzD, sFrz, sAsgN, sParN, sParN3, nE, nO, nDict, nDisp1, wFzD, NV.sv, iEnumW, wInS, wIndexS, wCatO, dInI, iKeysW, wMaxV, wCntT, lTupX]
    refine ⟨⟨h1, ?_⟩, by have : (1000 : Nat) < sizeLine := by decide
                         omega, h1, ?_⟩
    · have : u.natAbs < 2 ^ 200 := by omega
      have := (Nat.log2_lt (by omega)).mpr this
      omega
    · rw [List.map_append] at ih
      exact ih
theorem unL_le {k m : Int} {j : Nat} (hk : K3 k) (hl : Lim k m j) (hm : m ≤ 10 ^ 41) : ∀ u ∈ (unL k j).reverse, 0 < u ∧ u ≤ 10 ^ 41 := fun u hu => by
  rw [List.mem_reverse] at hu
  unfold unL at hu
  obtain ⟨i, hi, rfl⟩ := List.mem_map.mp hu
  have := hl.1 i (List.mem_range.mp hi)
  have := un_pos hk i
  omega
theorem hw_digits_of (A : Ad) : ∀ ds er q, ds.length = 2 → S_digits_of A ds er q → w_digits_of A { nx := fun _ => q .non, rt := q, er := er } (envOf 5 ds) := by
  intro ds er q hlen h
  unfold S_digits_of at h
  split at h
  · rename_i k m
    obtain ⟨hk, hm, j, hl, hj, hq⟩ := h
    simp [w_digits_of, wVar, wC, w2, w1, wNil, wCons, wTup, wLstO, wFz, wLk, wOwn, wAnd, wOr, wNot, wB, wYes, wIf, wFldC, wCB, wCBL, wCall0, wMeth0, wMethN0, wMakeK0, wMake0, sSeq, sNext, sNever, sRet, sRetN, sRetO, sIf, sAsg, sAsgO, sPar, sParO, sPar3, sParO3, sAsgG, gTupD, setAll, sAug, sApp, sFldI, tyAnd, tyOr, tyNot, iRg1, iRg2, iLst, iTupW, sFor, dAdd, dSub, dMul, dMulT, dDiv, dMod, dPow, dNeg, dLt, dLe, dGt, dGe, dIsN, DL.isNon, dNotN, dEq, dNe, dIx, dLen, dInt, dAbs, dMax2, dMin2, lLen, lTup, isA, envOf, envI, putD, gVar, wRev, wRevT, wIxL, wSl, wSlO, wNoP, wPart, wBag, okD_int, okD_bl, okD_non, eqD_int, eqD_bl, wipeE, wChain, wCallI0, wCallIK0, iSt, dLenO, wLRg1, wJoin, sDrop, wDGet, wDIn, wDNotIn, dE, dOwn, sDPutW, sFrzD, sFrz, sAsgN, sParN, sParN3, nE, nO, nDict, nDisp1, wFzD, NV.sv, iEnumW, wInS, wIndexS, wCatO, dInI, iKeysW, wMaxV, wCntT, lTupX, S_units_up_to]
    refine ⟨hk, j, hl, hj, ?_⟩
    rw [← List.map_reverse]
    refine loop_digits A (unL k j).reverse [] m .un (unL_le hk hl hm) (by rw [List.length_reverse, unL_len]; show 0 + j ≤ 1000; omega) (fun r' c' => ?_)
    simp
    exact hq
  · exact h.elim
theorem un_r (k : Int) (n : Nat) : (pr k n).2 = un k n := rfl
theorem hw_System_eq (A : Ad) : ∀ ds er q, ds.length = 2 → S_System_eq A ds er q → w_System_eq A { nx := fun _ => q .non, rt := q, er := er } (envOf 2 ds) := by
  intro ds er q hlen h
  unfold S_System_eq at h
  split at h
  · rename_i x y
    cases x with
    | ins C fs =>
      obtain ⟨rfl, k, rfl, h⟩ := h
      cases y with
      | ins C fs =>
        obtain ⟨rfl, j, rfl, h⟩ := h
        simp [w_System_eq, wVar, wC, w2, w1, wNil, wCons, wTup, wLstO, wFz, wLk, wOwn, wAnd, wOr, wNot, wB, wYes, wIf, wFldC, wCB, wCBL, wCall0, wMeth0, wMethN0, wMakeK0, wMake0, sSeq, sNext, sNever, sRet, sRetN, sRetO, sIf, sAsg, sAsgO, sPar, sParO, sPar3, sParO3, sAsgG, gTupD, setAll, sAug, sApp, sFldI, tyAnd, tyOr, tyNot, iRg1, iRg2, iLst, iTupW, sFor, dAdd, dSub, dMul, dMulT, dDiv, dMod, dPow, dNeg, dLt, dLe, dGt, dGe, dIsN, DL.isNon, dNotN, dEq, dNe, dIx, dLen, dInt, dAbs, dMax2, dMin2, lLen, lTup, isA, envOf, envI, putD, gVar, wRev, wRevT, wIxL, wSl, wSlO, wNoP, wPart, wBag, okD_int, okD_bl, okD_non, eqD_int, eqD_bl, wipeE, wChain, wCallI0, wCallIK0, iSt, dLenO, wLRg1, wJoin, sDrop, wDGet, wDIn, wDNotIn, dE, dOwn, sDPutW, sFrzD, sFrz, sAsgN, sParN, sParN3, nE, nO, nDict, nDisp1, wFzD, NV.sv, iEnumW, wInS, wIndexS, wCatO, dInI, iKeysW, wMaxV, wCntT, lTupX, isO, su_System_System, step_look]
        simpa using h
      | _ =>
        obtain ⟨h1, h2⟩ := h
        simp [w_System_eq, wVar, wC, w2, w1, wNil, wCons, wTup, wLstO, wFz, wLk, wOwn, wAnd, wOr, wNot, wB, wYes, wIf, wFldC, wCB, wCBL, wCall0, wMeth0, wMethN0, wMakeK0, wMake0, sSeq, sNext, sNever, sRet, sRetN, sRetO, sIf, sAsg, sAsgO, sPar, sParO, sPar3, sParO3, sAsgG, gTupD, setAll, sAug, sApp, sFldI, tyAnd, tyOr, tyNot, iRg1, iRg2, iLst, iTupW, sFor, dAdd, dSub, dMul, dMulT, dDiv, dMod, dPow, dNeg, dLt, dLe, dGt, dGe, dIsN, DL.isNon, dNotN, dEq, dNe, dIx, dLen, dInt, dAbs, dMax2, dMin2, lLen, lTup, isA, envOf, envI, putD, gVar, wRev, wRevT, wIxL, wSl, wSlO, wNoP, wPart, wBag, okD_int, okD_bl, okD_non, eqD_int, eqD_bl, wipeE, wChain, wCallI0, wCallIK0, iSt, dLenO, wLRg1, wJoin, sDrop, wDGet, wDIn, wDNotIn, dE, dOwn, sDPutW, sFrzD, sFrz, sAsgN, sParN, sParN3, nE, nO, nDict, nDisp1, wFzD, NV.sv, iEnumW, wInS, wIndexS, wCatO, dInI, iKeysW, wMaxV, wCntT, lTupX, h1]
        exact h2
    | _ => exact h.elim
  · exact h.elim
theorem eqO_sys (A : Ad) (k j : Int) {q : D → Prop} (h : q (.bl (k == j))) : eqO (cd A) A.c_System (S_System_eq A) (sysD A k) (sysD A j) q := by
  exact ⟨rfl, .inr ⟨_, rfl, ow_System A⟩, rfl, k, rfl, rfl, j, rfl, h⟩
theorem neO_sys (A : Ad) (k j : Int) {q : D → Prop} (h : q (.bl (!(k == j)))) : neO (cd A) A.c_System (S_System_eq A) (sysD A k) (sysD A j) q := by
  exact ⟨rfl, .inr ⟨_, rfl, ow_System A⟩, rfl, k, rfl, rfl, j, rfl, h⟩
theorem neO_int (A : Ad) (k j : Int) {q : D → Prop} (h : q (.bl true)) : neO (cd A) A.c_System (S_System_eq A) (sysD A k) (.int j) q := by
  have e : isO (cd A) (.int j) A.c_System = some false := by simp [isO, ow_System]
  exact ⟨rfl, .inl e, rfl, k, rfl, e, h⟩
theorem unL_s2 (k : Int) (n : Nat) : unL k (n + 2) = unL k n ++ [un k n, un k (n + 1)] := by
  rw [unL_s, unL_s, List.append_assoc]
  rfl
theorem loop_lunits (A : Ad) {k : Int} {x : SV} {n : DN} {N : Nat} (hk : K3 k) (hN : N ≤ 1000) : ∀ (t i : Nat) (c : SV), i + t = N →
    (∀ c', n.nx [.d (.int k), x, .own ((unL k (N + 2)).map .int), c']) →
    sLoop (lb_law_units_1 A) (gVar 3) n ((List.range' i t).map fun (y : Nat) => D.int (0 + y)) [.d (.int k), x, .own ((unL k (i + 2)).map .int), c]
  | 0, i, c, e, h => by
    have : i = N := by omega
    subst this
    exact h c
  | t + 1, i, c, e, h => by
    have ih := loop_lunits A (x := x) (n := n) hk hN t (i + 1) (.d (.int (0 + i))) (by omega) h
    rw [List.range'_succ, List.map_cons, sLoop]
    have e1 : ∀ k : Int, (unL k (i + 2)).map D.int = (unL k i).map D.int ++ [.int (un k i), .int (un k (i + 1))] := fun k => by
      rw [unL_s2, List.map_append]
      rfl
    have e2 : atD ((unL k (i + 2)).map D.int) (-1) = some (.int (un k (i + 1))) := by
      rw [e1, show ∀ (l : List D) (a b : D), l ++ [a, b] = (l ++ [a]) ++ [b] from fun l a b => by simp]
      exact atD_last
    have e3 : atD ((unL k (i + 2)).map D.int) (-2) = some (.int (un k i)) := by
      rw [e1]
      exact atD_last2
    simp [lb_law_units_1, wVar, wC, w2, w1, wNil, wCons, wTup, wLstO, wFz, wLk, wOwn, wAnd, wOr, wNot, wB, wYes, wIf, wFldC, wCB, wCBL, wCall0, wMeth0, wMethN0, wMakeK0, wMake0, sSeq, sNext, sNever, sRet, sRetN, sRetO, sIf, sAsg, sAsgO, sPar, sParO, sPar3, sParO3, sAsgG, gTupD, setAll, sAug, sApp, sFldI, tyAnd, tyOr, tyNot, iRg1, iRg2, iLst, iTupW, sFor, dAdd, dSub, dMul, dMulT, dDiv, dMod, dPow, dNeg, dLt, dLe, dGt, dGe, dIsN, DL.isNon, dNotN, dEq, dNe, dIx, dLen, dInt, dAbs, dMax2, dMin2, lLen, lTup, isA, envOf, envI, putD, gVar, wRev, wRevT, wIxL, wSl, wSlO, wNoP, wPart, wBag, okD_int, okD_bl, okD_non, eqD_int, eqD_bl, wipeE, wChain, wCallI0, wCallIK0, iSt, dLenO, wLRg1, wJoin, sDrop, wDGet, wDIn, wDNotIn, dE, dOwn, sDPutW, sFrzD, sFrz, sAsgN, sParN, sParN3, nE, nO, nDict, nDisp1, wFzD, NV.sv, iEnumW, wInS, wIndexS, wCatO, dInI, iKeysW, wMaxV, wCntT, lTupX, unL_len, e2, e3]
    refine ⟨.inl (k3_mul hk), by rw [show sizeLine = 16777216 from rfl]; omega, ?_⟩
    rw [show i + 1 + 2 = (i + 2) + 1 from rfl, unL_s, List.map_append, un_2] at ih
    simp at ih
    exact ih
theorem hw_law_units (A : Ad) : ∀ ds er q, ds.length = 2 → S_law_units A ds er q → w_law_units A { nx := fun _ => q .non, rt := q, er := er } (envOf 4 ds) := by
  intro ds er q hlen h
  unfold S_law_units at h
  split at h
  · rename_i k n
    obtain ⟨hk, h0, hn, hq⟩ := h
    simp [w_law_units, wVar, wC, w2, w1, wNil, wCons, wTup, wLstO, wFz, wLk, wOwn, wAnd, wOr, wNot, wB, wYes, wIf, wFldC, wCB, wCBL, wCall0, wMeth0, wMethN0, wMakeK0, wMake0, sSeq, sNext, sNever, sRet, sRetN, sRetO, sIf, sAsg, sAsgO, sPar, sParO, sPar3, sParO3, sAsgG, gTupD, setAll, sAug, sApp, sFldI, tyAnd, tyOr, tyNot, iRg1, iRg2, iLst, iTupW, sFor, dAdd, dSub, dMul, dMulT, dDiv, dMod, dPow, dNeg, dLt, dLe, dGt, dGe, dIsN, DL.isNon, dNotN, dEq, dNe, dIx, dLen, dInt, dAbs, dMax2, dMin2, lLen, lTup, isA, envOf, envI, putD, gVar, wRev, wRevT, wIxL, wSl, wSlO, wNoP, wPart, wBag, okD_int, okD_bl, okD_non, eqD_int, eqD_bl, wipeE, wChain, wCallI0, wCallIK0, iSt, dLenO, wLRg1, wJoin, sDrop, wDGet, wDIn, wDNotIn, dE, dOwn, sDPutW, sFrzD, sFrz, sAsgN, sParN, sParN3, nE, nO, nDict, nDisp1, wFzD, NV.sv, iEnumW, wInS, wIndexS, wCatO, dInI, iKeysW, wMaxV, wCntT, lTupX]
    obtain ⟨m, rfl⟩ := Int.eq_ofNat_of_zero_le h0
    refine ⟨by decide, by omega, by omega, ?_⟩
    rw [rngD_eq]
    have e : [D.int 1, D.int (k + 1)] = (unL k (0 + 2)).map D.int := by
      rw [unL_s2]
      simp [unL, un_0, un_1]
    rw [e]
    refine loop_lunits A (N := m) hk (by omega) m 0 .un (by omega) fun c' => ?_
    simp [wVar, wC, w2, w1, wNil, wCons, wTup, wLstO, wFz, wLk, wOwn, wAnd, wOr, wNot, wB, wYes, wIf, wFldC, wCB, wCBL, wCall0, wMeth0, wMethN0, wMakeK0, wMake0, sSeq, sNext, sNever, sRet, sRetN, sRetO, sIf, sAsg, sAsgO, sPar, sParO, sPar3, sParO3, sAsgG, gTupD, setAll, sAug, sApp, sFldI, tyAnd, tyOr, tyNot, iRg1, iRg2, iLst, iTupW, sFor, dAdd, dSub, dMul, dMulT, dDiv, dMod, dPow, dNeg, dLt, dLe, dGt, dGe, dIsN, DL.isNon, dNotN, dEq, dNe, dIx, dLen, dInt, dAbs, dMax2, dMin2, lLen, lTup, isA, envOf, envI, putD, gVar, wRev, wRevT, wIxL, wSl, wSlO, wNoP, wPart, wBag, okD_int, okD_bl, okD_non, eqD_int, eqD_bl, wipeE, wChain, wCallI0, wCallIK0, iSt, dLenO, wLRg1, wJoin, sDrop, wDGet, wDIn, wDNotIn, dE, dOwn, sDPutW, sFrzD, sFrz, sAsgN, sParN, sParN3, nE, nO, nDict, nDisp1, wFzD, NV.sv, iEnumW, wInS, wIndexS, wCatO, dInI, iKeysW, wMaxV, wCntT, lTupX, cutD_to]
    have e2 : (unL k (m + 2)).take m = unL k m := by
      rw [unL_s2]
      have := unL_len k m
      rw [List.take_append_of_le_length (by omega), List.take_of_length_le (by omega)]
    rw [← List.map_take, e2]
    exact hq
  · exact h.elim
theorem loop_bag (A : Ad) {x y cell : SV} {k : Int} {n : DN} : ∀ (l : List Int) (seed : Int) (c : SV), (∀ seed c, n.nx [x, .d (.int k), cell, .d (.int seed), c, .un]) →
    sLoop (lb_law_bag_1 A) (gVar 4) n (l.map .int) [x, .d (.int k), cell, .d (.int seed), c, .un]
  | [], seed, c, h => h seed c
  | d :: l, seed, c, h => by
    have ih := fun seed c => loop_bag A (x := x) (y := y) (cell := cell) (k := k) (n := n) l seed c h
    rw [List.map_cons, sLoop]
    simp [lb_law_bag_1, wVar, wC, w2, w1, wNil, wCons, wTup, wLstO, wFz, wLk, wOwn, wAnd, wOr, wNot, wB, wYes, wIf, wFldC, wCB, wCBL, wCall0, wMeth0, wMethN0, wMakeK0, wMake0, sSeq, sNext, sNever, sRet, sRetN, sRetO, sIf, sAsg, sAsgO, sPar, sParO, sPar3, sParO3, sAsgG, gTupD, setAll, sAug, sApp, sFldI, tyAnd, tyOr, tyNot, iRg1, iRg2, iLst, iTupW, sFor, dAdd, dSub, dMul, dMulT, dDiv, dMod, dPow, dNeg, dLt, dLe, dGt, dGe, dIsN, DL.isNon, dNotN, dEq, dNe, dIx, dLen, dInt, dAbs, dMax2, dMin2, lLen, lTup, isA, envOf, envI, putD, gVar, wRev, wRevT, wIxL, wSl, wSlO, wNoP, wPart, wBag, okD_int, okD_bl, okD_non, eqD_int, eqD_bl, wipeE, wChain, wCallI0, wCallIK0, iSt, dLenO, wLRg1, wJoin, sDrop, wDGet, wDIn, wDNotIn, dE, dOwn, sDPutW, sFrzD, sFrz, sAsgN, sParN, sParN3, nE, nO, nDict, nDisp1, wFzD, NV.sv, iEnumW, wInS, wIndexS, wCatO, dInI, iKeysW, wMaxV, wCntT, lTupX]
    exact ⟨.inl (.inr (by decide)), .inl (.inl (by decide)), ih _ _⟩
theorem hw_law_bag (A : Ad) : ∀ ds er q, ds.length = 2 → S_law_bag A ds er q → w_law_bag A { nx := fun _ => q .non, rt := q, er := er } (envOf 6 ds) := by
  intro ds er q hlen h
  unfold S_law_bag at h
  split at h
  · rename_i ns k
    obtain ⟨h0, hq⟩ := h
    simp [w_law_bag, wVar, wC, w2, w1, wNil, wCons, wTup, wLstO, wFz, wLk, wOwn, wAnd, wOr, wNot, wB, wYes, wIf, wFldC, wCB, wCBL, wCall0, wMeth0, wMethN0, wMakeK0, wMake0, sSeq, sNext, sNever, sRet, sRetN, sRetO, sIf, sAsg, sAsgO, sPar, sParO, sPar3, sParO3, sAsgG, gTupD, setAll, sAug, sApp, sFldI, tyAnd, tyOr, tyNot, iRg1, iRg2, iLst, iTupW, sFor, dAdd, dSub, dMul, dMulT, dDiv, dMod, dPow, dNeg, dLt, dLe, dGt, dGe, dIsN, DL.isNon, dNotN, dEq, dNe, dIx, dLen, dInt, dAbs, dMax2, dMin2, lLen, lTup, isA, envOf, envI, putD, gVar, wRev, wRevT, wIxL, wSl, wSlO, wNoP, wPart, wBag, okD_int, okD_bl, okD_non, eqD_int, eqD_bl, wipeE, wChain, wCallI0, wCallIK0, iSt, dLenO, wLRg1, wJoin, sDrop, wDGet, wDIn, wDNotIn, dE, dOwn, sDPutW, sFrzD, sFrz, sAsgN, sParN, sParN3, nE, nO, nDict, nDisp1, wFzD, NV.sv, iEnumW, wInS, wIndexS, wCatO, dInI, iKeysW, wMaxV, wCntT, lTupX]
    have e7 : cutD ns none (some 7) = ns.take 7 := cutD_to (n := 7)
    have fin : ∀ cell seed : Int, 0 ≤ (seed + 40487 * (cell % 999961)) % 2147483587 := fun cell seed => Int.emod_nonneg _ (by decide)
    refine ⟨fun h => ?_, fun h => ?_⟩
    · obtain ⟨k, rfl⟩ := Int.eq_ofNat_of_zero_le h0
      rw [atD_nat, List.getElem?_eq_getElem (by omega)]
      refine ⟨.inl (.inl (by decide)), ?_⟩
      simp only [dSl]
      rw [e7]
      refine loop_bag A (y := .un) _ _ _ fun seed c => ?_
      simp [wVar, wC, w2, w1, wNil, wCons, wTup, wLstO, wFz, wLk, wOwn, wAnd, wOr, wNot, wB, wYes, wIf, wFldC, wCB, wCBL, wCall0, wMeth0, wMethN0, wMakeK0, wMake0, sSeq, sNext, sNever, sRet, sRetN, sRetO, sIf, sAsg, sAsgO, sPar, sParO, sPar3, sParO3, sAsgG, gTupD, setAll, sAug, sApp, sFldI, tyAnd, tyOr, tyNot, iRg1, iRg2, iLst, iTupW, sFor, dAdd, dSub, dMul, dMulT, dDiv, dMod, dPow, dNeg, dLt, dLe, dGt, dGe, dIsN, DL.isNon, dNotN, dEq, dNe, dIx, dLen, dInt, dAbs, dMax2, dMin2, lLen, lTup, isA, envOf, envI, putD, gVar, wRev, wRevT, wIxL, wSl, wSlO, wNoP, wPart, wBag, okD_int, okD_bl, okD_non, eqD_int, eqD_bl, wipeE, wChain, wCallI0, wCallIK0, iSt, dLenO, wLRg1, wJoin, sDrop, wDGet, wDIn, wDNotIn, dE, dOwn, sDPutW, sFrzD, sFrz, sAsgN, sParN, sParN3, nE, nO, nDict, nDisp1, wFzD, NV.sv, iEnumW, wInS, wIndexS, wCatO, dInI, iKeysW, wMaxV, wCntT, lTupX]
      generalize ns[k] = cell
      exact ⟨fun hc => ⟨.inl (.inl (by decide)), by decide, ⟨by split <;> omega, fin _ _⟩, hq⟩, fun hc => ⟨⟨by decide, by decide, by decide⟩, fun _ => ⟨.inl (.inl (by decide)), by decide, ⟨by split <;> omega, fin _ _⟩, hq⟩, fun _ => ⟨.inl (.inl (by decide)), by decide, fin _ _, hq⟩⟩⟩
    · refine ⟨.inl (.inl (by decide)), ?_⟩
      simp only [dSl]
      rw [e7]
      refine loop_bag A (y := .un) _ _ _ fun seed c => ?_
      simp [wVar, wC, w2, w1, wNil, wCons, wTup, wLstO, wFz, wLk, wOwn, wAnd, wOr, wNot, wB, wYes, wIf, wFldC, wCB, wCBL, wCall0, wMeth0, wMethN0, wMakeK0, wMake0, sSeq, sNext, sNever, sRet, sRetN, sRetO, sIf, sAsg, sAsgO, sPar, sParO, sPar3, sParO3, sAsgG, gTupD, setAll, sAug, sApp, sFldI, tyAnd, tyOr, tyNot, iRg1, iRg2, iLst, iTupW, sFor, dAdd, dSub, dMul, dMulT, dDiv, dMod, dPow, dNeg, dLt, dLe, dGt, dGe, dIsN, DL.isNon, dNotN, dEq, dNe, dIx, dLen, dInt, dAbs, dMax2, dMin2, lLen, lTup, isA, envOf, envI, putD, gVar, wRev, wRevT, wIxL, wSl, wSlO, wNoP, wPart, wBag, okD_int, okD_bl, okD_non, eqD_int, eqD_bl, wipeE, wChain, wCallI0, wCallIK0, iSt, dLenO, wLRg1, wJoin, sDrop, wDGet, wDIn, wDNotIn, dE, dOwn, sDPutW, sFrzD, sFrz, sAsgN, sParN, sParN3, nE, nO, nDict, nDisp1, wFzD, NV.sv, iEnumW, wInS, wIndexS, wCatO, dInI, iKeysW, wMaxV, wCntT, lTupX]
      exact ⟨⟨by decide, by decide, by decide⟩, .inl (.inl (by decide)), by decide, Int.emod_nonneg _ (by decide), hq⟩
  · exact h.elim
/-! ### digits tell the number -/
theorem dg_s (k m : Int) (j : Nat) : dg k m (j + 1) = (m / un k j) :: dg k (m % un k j) j := by
  unfold dg
  rw [unL_s, List.reverse_append]
  rfl
theorem dg_len (k : Int) : ∀ (j : Nat) (m : Int), (dg k m j).length = j
  | 0, _ => rfl
  | j + 1, m => by
    rw [dg_s, List.length_cons, dg_len k j]
theorem dg_in {k : Int} (hk : K3 k) : ∀ (j : Nat) (m : Int), 0 ≤ m → m < un k j → ∀ d ∈ dg k m j, 0 ≤ d ∧ d ≤ k
  | 0, _, _, _, d, hd => by
    cases hd
  | j + 1, m, h0, h1, d, hd => by
    have hp := un_pos hk j
    rw [dg_s] at hd
    rcases List.mem_cons.mp hd with rfl | hd
    · have h2 := un_le hk j
      have h3 : m / un k j < k + 1 := Int.ediv_lt_of_lt_mul (by omega) (by omega)
      exact ⟨Int.ediv_nonneg h0 (by omega), by omega⟩
    · exact dg_in hk j _ (Int.emod_nonneg _ (by omega)) (Int.emod_lt_of_pos _ (by omega)) d hd
theorem nv_app (k : Int) (d : Int) : ∀ (l : List Int) (f : Int) (i : Nat), nv k f (pr k i).1 (pr k i).2 (l ++ [d]) = nv k f (pr k i).1 (pr k i).2 l + d * un k (i + l.length)
  | [], f, i => rfl
  | x :: l, f, i => by
    have ih := nv_app k d l (f + x * (pr k i).2) (i + 1)
    rw [List.cons_append, nv, nv, List.length_cons, show i + (l.length + 1) = i + 1 + l.length by omega]
    exact ih
theorem nv_dg {k : Int} (hk : K3 k) : ∀ (j : Nat) (m : Int), 0 ≤ m → m < un k j → nv k 0 1 1 (dg k m j).reverse = m
  | 0, m, h0, h1 => by
    have : m = 0 := by
      have : un k 0 = 1 := rfl
      omega
    subst this
    rfl
  | j + 1, m, h0, h1 => by
    have hp := un_pos hk j
    have ih := nv_dg hk j (m % un k j) (Int.emod_nonneg _ (by omega)) (Int.emod_lt_of_pos _ (by omega))
    have h2 := nv_app k (m / un k j) (dg k (m % un k j) j).reverse 0 0
    rw [dg_s, List.reverse_cons]
    have h2 : nv k 0 1 1 ((dg k (m % un k j) j).reverse ++ [m / un k j]) = nv k 0 1 1 (dg k (m % un k j) j).reverse + (m / un k j) * un k (0 + (dg k (m % un k j) j).reverse.length) := h2
    rw [h2, ih, List.length_reverse, dg_len, Nat.zero_add]
    have := Int.emod_add_mul_ediv m (un k j)
    rw [Int.mul_comm] at this
    exact this
theorem nv_0 (k : Int) : ∀ (z : Nat) (f b u : Int), nv k f b u (List.replicate z 0) = f
  | 0, _, _, _ => rfl
  | z + 1, f, b, u => by
    rw [List.replicate_succ, nv, nv_0]
    omega
theorem nv_zeros (k : Int) (z : Nat) : ∀ (l : List Int) (f b u : Int), nv k f b u (l ++ List.replicate z 0) = nv k f b u l
  | [], f, b, u => nv_0 k z f b u
  | x :: l, f, b, u => by
    rw [List.cons_append, nv, nv]
    exact nv_zeros k z l _ _ _
def adj (k : Int) : List Int → Prop
  | [] => True
  | [_] => True
  | a :: b :: r => (a < k ∨ b = 0) ∧ adj k (b :: r)
theorem adj_get {k : Int} : ∀ {l : List Int} {i : Nat} {a b : Int}, adj k l → l[i]? = some a → l[i + 1]? = some b → a < k ∨ b = 0
  | [], _, _, _, _, h, _ => by simp at h
  | [_], i, _, _, _, _, h => by simp at h
  | x :: y :: r, 0, a, b, h, h1, h2 => by
    simp at h1 h2
    subst h1
    subst h2
    exact h.1
  | x :: y :: r, i + 1, a, b, h, h1, h2 => adj_get (l := y :: r) (i := i) h.2 (by simpa using h1) (by simpa using h2)
theorem isDg_of {k : Int} {l : List Int} (h1 : ∀ d ∈ l, 0 ≤ d ∧ d ≤ k) (h2 : adj k l) : isDg k l = true := by
  unfold isDg
  rw [Bool.and_eq_true, List.all_eq_true, List.all_eq_true]
  refine ⟨fun d hd => ?_, fun i hi => ?_⟩
  · have := h1 d hd
    simp [this.1, this.2]
  · have hi := List.mem_range.mp hi
    have e1 : i < l.length := by omega
    have e2 : i + 1 < l.length := by omega
    unfold pairOk
    rw [List.getElem?_eq_getElem e1, List.getElem?_eq_getElem e2]
    have := adj_get h2 (List.getElem?_eq_getElem e1) (List.getElem?_eq_getElem e2)
    simpa using this
theorem adj_0 {k : Int} (hk : K3 k) {l : List Int} (h : adj k l) : adj k (0 :: l) := by
  cases l with
  | nil => trivial
  | cons a l => exact ⟨.inl (by have := hk.1; omega), h⟩
theorem adj_zeros {k : Int} (hk : K3 k) {l : List Int} (h : adj k l) : ∀ z : Nat, adj k (List.replicate z 0 ++ l)
  | 0 => h
  | z + 1 => by
    rw [List.replicate_succ, List.cons_append]
    exact adj_0 hk (adj_zeros hk h z)
theorem adj_dg {k : Int} (hk : K3 k) : ∀ (j : Nat) (m : Int), 0 ≤ m → m < un k j → adj k (dg k m j)
  | 0, _, _, _ => trivial
  | 1, m, h0, h1 => by
    rw [dg_s]
    trivial
  | j + 2, m, h0, h1 => by
    have hp := un_pos hk (j + 1)
    have hp0 := un_pos hk j
    have h2 := Int.emod_nonneg m (b := un k (j + 1)) (by omega)
    have h3 := Int.emod_lt_of_pos m (b := un k (j + 1)) (by omega)
    have ih := adj_dg hk (j + 1) (m % un k (j + 1)) h2 h3
    rw [dg_s]
    rw [dg_s] at ih ⊢
    refine ⟨?_, ih⟩
    by_cases z : m / un k (j + 1) < k
    · exact .inl z
    · refine .inr ?_
      have h4 := Int.emod_add_mul_ediv m (un k (j + 1))
      have h5 : un k (j + 1) * k ≤ un k (j + 1) * (m / un k (j + 1)) := Int.mul_le_mul_of_nonneg_left (by omega) (by omega)
      rw [un_2, Int.mul_comm] at h1
      exact Int.ediv_eq_zero_of_lt h2 (by omega)
/-! ### the law's own digits -/
theorem filter_units {k m : Int} {j : Nat} (hk : K3 k) (hl : Lim k m j) : ∀ N, j ≤ N → (unL k N).filter (fun u => decide (u ≤ m)) = unL k j
  | 0, h => by
    have : j = 0 := by omega
    subst this
    rfl
  | N + 1, h => by
    by_cases z : j = N + 1
    · subst z
      refine List.filter_eq_self.mpr fun u hu => ?_
      unfold unL at hu
      obtain ⟨i, hi, rfl⟩ := List.mem_map.mp hu
      exact decide_eq_true (hl.1 i (List.mem_range.mp hi))
    · rw [unL_s, List.filter_append, filter_units hk hl N (by omega)]
      have := un_mono hk (show j ≤ N by omega)
      have h2 := hl.2
      have e : decide (un k N ≤ m) = false := decide_eq_false (by omega)
      rw [List.filter_cons, e]
      simp
def cnt (k u r : Int) : Nat := ((List.range k.toNat).filter fun (i : Nat) => decide ((1 + (i : Int)) * u ≤ r)).length
theorem cnt_eq {k u r : Int} (hk : K3 k) (hu : 0 < u) (h0 : 0 ≤ r) (h1 : r < (k + 1) * u) : (cnt k u r : Int) = r / u := by
  have a1 := Int.emod_add_mul_ediv r u
  have a2 := Int.emod_nonneg r (b := u) (by omega)
  have a3 := Int.emod_lt_of_pos r hu
  have a4 : r / u < k + 1 := Int.ediv_lt_of_lt_mul hu h1
  have a5 : 0 ≤ r / u := Int.ediv_nonneg h0 (by omega)
  generalize r / u = d at *
  have c : ∀ x : Int, (x * u ≤ r) ↔ x ≤ d := fun x => by
    constructor
    · intro h
      by_cases z : x ≤ d
      · exact z
      · have : (d + 1) * u ≤ x * u := Int.mul_le_mul_of_nonneg_right (by omega) (by omega)
        rw [Int.add_mul, Int.one_mul, Int.mul_comm d u] at this
        omega
    · intro h
      have : x * u ≤ d * u := Int.mul_le_mul_of_nonneg_right h (by omega)
      rw [Int.mul_comm d u] at this
      omega
  unfold cnt
  simp only [c]
  have hd : d = 0 ∨ d = 1 ∨ d = 2 ∨ d = 3 := by
    have := hk.2
    omega
  rcases k3_cases hk with rfl | rfl | rfl <;> rcases hd with rfl | rfl | rfl | rfl <;> first | decide | omega
theorem loop_great (A : Ad) {b : PySem.Addr} {y z : SV} {n : DN} : ∀ (t i : Nat) (f : Int) (c : SV), i + t ≤ 40 → 0 ≤ f → f < 10 ^ i → (∀ f c, 0 ≤ f → f < 10 ^ 40 → n.nx [.d (.bag b), y, z, .d (.int f), c]) →
    sLoop (lb_law_great_1 A) (gVar 4) n ((List.range' i t).map fun (y : Nat) => D.int (0 + y)) [.d (.bag b), y, z, .d (.int f), c]
  | 0, i, f, c, e, h0, h1, h => by
    refine h f c h0 (Int.lt_of_lt_of_le h1 ?_)
    have := Nat.pow_le_pow_right (n := 10) (by decide) (show i ≤ 40 by omega)
    exact_mod_cast this
  | t + 1, i, f, c, e, h0, h1, h => by
    rw [List.range'_succ, List.map_cons, sLoop]
    simp [lb_law_great_1, wVar, wC, w2, w1, wNil, wCons, wTup, wLstO, wFz, wLk, wOwn, wAnd, wOr, wNot, wB, wYes, wIf, wFldC, wCB, wCBL, wCall0, wMeth0, wMethN0, wMakeK0, wMake0, sSeq, sNext, sNever, sRet, sRetN, sRetO, sIf, sAsg, sAsgO, sPar, sParO, sPar3, sParO3, sAsgG, gTupD, setAll, sAug, sApp, sFldI, tyAnd, tyOr, tyNot, iRg1, iRg2, iLst, iTupW, sFor, dAdd, dSub, dMul, dMulT, dDiv, dMod, dPow, dNeg, dLt, dLe, dGt, dGe, dIsN, DL.isNon, dNotN, dEq, dNe, dIx, dLen, dInt, dAbs, dMax2, dMin2, lLen, lTup, isA, envOf, envI, putD, gVar, wRev, wRevT, wIxL, wSl, wSlO, wNoP, wPart, wBag, okD_int, okD_bl, okD_non, eqD_int, eqD_bl, wipeE, wChain, wCallI0, wCallIK0, iSt, dLenO, wLRg1, wJoin, sDrop, wDGet, wDIn, wDNotIn, dE, dOwn, sDPutW, sFrzD, sFrz, sAsgN, sParN, sParN3, nE, nO, nDict, nDisp1, wFzD, NV.sv, iEnumW, wInS, wIndexS, wCatO, dInI, iKeysW, wMaxV, wCntT, lTupX, S_law_draw, sDraw]
    refine ⟨.inl (.inr (by decide)), fun r hr0 hr1 => ?_⟩
    have ih := loop_great A (b := b) (y := y) (z := z) (n := n) t (i + 1) (f * 10 + r) (.d (.int (0 + i))) (by omega) (by omega) (by rw [Int.pow_succ]; omega) h
    simp at ih
    exact ih
theorem hw_law_great (A : Ad) : ∀ ds er q, ds.length = 2 → S_law_great A ds er q → w_law_great A { nx := fun _ => q .non, rt := q, er := er } (envOf 5 ds) := by
  intro ds er q hlen h
  unfold S_law_great at h
  split at h
  · rename_i b k
    obtain ⟨hk, hq⟩ := h
    simp [w_law_great, wVar, wC, w2, w1, wNil, wCons, wTup, wLstO, wFz, wLk, wOwn, wAnd, wOr, wNot, wB, wYes, wIf, wFldC, wCB, wCBL, wCall0, wMeth0, wMethN0, wMakeK0, wMake0, sSeq, sNext, sNever, sRet, sRetN, sRetO, sIf, sAsg, sAsgO, sPar, sParO, sPar3, sParO3, sAsgG, gTupD, setAll, sAug, sApp, sFldI, tyAnd, tyOr, tyNot, iRg1, iRg2, iLst, iTupW, sFor, dAdd, dSub, dMul, dMulT, dDiv, dMod, dPow, dNeg, dLt, dLe, dGt, dGe, dIsN, DL.isNon, dNotN, dEq, dNe, dIx, dLen, dInt, dAbs, dMax2, dMin2, lLen, lTup, isA, envOf, envI, putD, gVar, wRev, wRevT, wIxL, wSl, wSlO, wNoP, wPart, wBag, okD_int, okD_bl, okD_non, eqD_int, eqD_bl, wipeE, wChain, wCallI0, wCallIK0, iSt, dLenO, wLRg1, wJoin, sDrop, wDGet, wDIn, wDNotIn, dE, dOwn, sDPutW, sFrzD, sFrz, sAsgN, sParN, sParN3, nE, nO, nDict, nDisp1, wFzD, NV.sv, iEnumW, wInS, wIndexS, wCatO, dInI, iKeysW, wMaxV, wCntT, lTupX, S_law_units, S_law_draw, sDraw]
    intro r h1 h2
    refine ⟨fun h3 r h4 h5 => hq r h4 (by omega), fun h3 => ⟨fun h3 r h4 h5 => ⟨hk, by omega, by omega, ?_⟩, fun h3 r2 h4 h5 => ⟨by omega, by omega, ?_⟩⟩⟩
    · obtain ⟨r, rfl⟩ := Int.eq_ofNat_of_zero_le h4
      have e : (4 + (r : Int)).toNat = (r + 3) + 1 := by omega
      have e2 : atD ((unL k (4 + (r : Int)).toNat).map D.int) (-1) = some (.int (un k (r + 3))) := by
        rw [e, unL_s, List.map_append]
        exact atD_last
      rw [e2]
      intro r3 h6 h7
      have g1 := un_mono hk (show 1 ≤ r + 3 by omega)
      have g2 := un_mono hk (show r + 3 ≤ 62 by omega)
      have g3 := un_4 hk 62
      have g4 : (4 : Int) ^ 62 + 10 ≤ 10 ^ 40 := by decide
      rw [un_1] at g1
      have := hk.1
      exact hq _ (by omega) (by omega)
    · rw [rngD_eq]
      refine loop_great A _ 0 0 .un (by omega) (by decide) (by decide) fun f c h6 h7 => ?_
      simp [wVar, wC, w2, w1, wNil, wCons, wTup, wLstO, wFz, wLk, wOwn, wAnd, wOr, wNot, wB, wYes, wIf, wFldC, wCB, wCBL, wCall0, wMeth0, wMethN0, wMakeK0, wMake0, sSeq, sNext, sNever, sRet, sRetN, sRetO, sIf, sAsg, sAsgO, sPar, sParO, sPar3, sParO3, sAsgG, gTupD, setAll, sAug, sApp, sFldI, tyAnd, tyOr, tyNot, iRg1, iRg2, iLst, iTupW, sFor, dAdd, dSub, dMul, dMulT, dDiv, dMod, dPow, dNeg, dLt, dLe, dGt, dGe, dIsN, DL.isNon, dNotN, dEq, dNe, dIx, dLen, dInt, dAbs, dMax2, dMin2, lLen, lTup, isA, envOf, envI, putD, gVar, wRev, wRevT, wIxL, wSl, wSlO, wNoP, wPart, wBag, okD_int, okD_bl, okD_non, eqD_int, eqD_bl, wipeE, wChain, wCallI0, wCallIK0, iSt, dLenO, wLRg1, wJoin, sDrop, wDGet, wDIn, wDNotIn, dE, dOwn, sDPutW, sFrzD, sFrz, sAsgN, sParN, sParN3, nE, nO, nDict, nDisp1, wFzD, NV.sv, iEnumW, wInS, wIndexS, wCatO, dInI, iKeysW, wMaxV, wCntT, lTupX]
      exact hq f h6 (Int.le_of_lt h7)
  · exact h.elim
theorem okL_2 {l : List (List Int)} : okL 2 (.lst (l.map fun x => .tup (x.map .int))) := okL_lst fun x hx => by
  obtain ⟨y, _, rfl⟩ := List.mem_map.mp hx
  exact okL_ints y
/-! ### rows -/
theorem mv_at {mv : List (List Int)} {s : Int} (h0 : 0 ≤ s) (h1 : s < mv.length) : atD (mv.map fun l => D.tup (l.map .int)) s = some (.tup ((mv[s.toNat]?.getD []).map .int)) := by
  obtain ⟨s, rfl⟩ := Int.eq_ofNat_of_zero_le h0
  have h : s < mv.length := by omega
  rw [atD_nat, List.getElem?_map, List.getElem?_eq_getElem h]
  simp [h]
theorem ints_at {l : List Int} {s : Int} (h0 : 0 ≤ s) (h1 : s < l.length) : atD (l.map D.int) s = some (.int (l[s.toNat]?.getD 0)) := by
  obtain ⟨s, rfl⟩ := Int.eq_ofNat_of_zero_le h0
  have h : s < l.length := by omega
  rw [atD_nat, List.getElem?_map, List.getElem?_eq_getElem h]
  simp [h]
theorem nats_at {l : List Nat} {s : Int} (h0 : 0 ≤ s) (h1 : s < l.length) : atD l s = some (l[s.toNat]?.getD 0) := by
  obtain ⟨s, rfl⟩ := Int.eq_ofNat_of_zero_le h0
  have h : s < l.length := by omega
  rw [atD_nat, List.getElem?_eq_getElem h]
  simp [h]
theorem d_at {l : List D} {s : Int} (h0 : 0 ≤ s) (h1 : s < l.length) : atD l s = some (l[s.toNat]?.getD .non) := by
  obtain ⟨n, rfl⟩ := Int.eq_ofNat_of_zero_le h0
  have h : n < l.length := by omega
  rw [atD_nat, List.getElem?_eq_getElem h]
  simp [h]
theorem getD_in {α : Type} {l : List α} {n : Nat} {a : α} (h : n < l.length) : l[n]?.getD a ∈ l := by
  rw [List.getElem?_eq_getElem h]
  exact List.getElem_mem h
theorem stp_in {k : Int} {mv : List (List Int)} (ok : OkMv k mv) {s d : Int} (h0 : 0 ≤ s) (h1 : s < mv.length) (h2 : 0 ≤ d) (h3 : d ≤ k) : 0 ≤ stp mv s d ∧ stp mv s d < mv.length := by
  have hl : mv[s.toNat]?.getD [] ∈ mv := getD_in (by omega)
  have hw := ok.wd _ hl
  have := ok.st _ hl _ (getD_in (l := mv[s.toNat]?.getD []) (n := d.toNat) (a := 0) (by omega))
  unfold stp
  omega
theorem walk_in {k : Int} {mv : List (List Int)} (ok : OkMv k mv) : ∀ (l : List Int) (s : Int), 0 ≤ s → s < mv.length → (∀ d ∈ l, 0 ≤ d ∧ d ≤ k) → 0 ≤ walk mv s l ∧ walk mv s l < mv.length
  | [], s, h0, h1, _ => ⟨h0, h1⟩
  | d :: l, s, h0, h1, h => by
    obtain ⟨h2, h3⟩ := h d (by simp)
    obtain ⟨h4, h5⟩ := stp_in ok h0 h1 h2 h3
    exact walk_in ok l _ h4 h5 fun y hy => h y (by simp [hy])
theorem str_len {x : PySem.Str} : x.cps.toList.length = x.length := by
  show x.cps.toList.length = x.cps.size
  rw [Array.length_toList]
theorem sys_look (a b c : D) : List.lookup ("system" : PySem.Str) [(("system" : PySem.Str), a), (("moves" : PySem.Str), b), (("signs" : PySem.Str), c)] = some a := by rfl
theorem moves_look (a b c : D) : List.lookup ("moves" : PySem.Str) [(("system" : PySem.Str), a), (("moves" : PySem.Str), b), (("signs" : PySem.Str), c)] = some b := by rfl
theorem signs_look (a b c : D) : List.lookup ("signs" : PySem.Str) [(("system" : PySem.Str), a), (("moves" : PySem.Str), b), (("signs" : PySem.Str), c)] = some c := by rfl
theorem n_sm : ¬ (PySem.Str.ofString "system" = PySem.Str.ofString "moves") := by decide
theorem n_ss : ¬ (PySem.Str.ofString "system" = PySem.Str.ofString "signs") := by decide
theorem n_ms : ¬ (PySem.Str.ofString "moves" = PySem.Str.ofString "signs") := by decide
theorem okL_str {x : PySem.Str} (h : ∀ c ∈ x.cps.toList, c < 1114112) : okL 0 (.str x) := by
  refine ⟨_, rfl, ?_, Nat.le_refl _⟩
  show x.cps.all (fun c => decide (c < 0x110000)) = true
  rw [← Array.all_toList, List.all_eq_true]
  exact fun c hc => decide_eq_true (h c hc)
theorem okL_mv (mv : List (List Int)) : okL 2 (mvD mv) := okL_tup fun x hx => by
  obtain ⟨y, _, rfl⟩ := List.mem_map.mp hx
  exact okL_ints y
theorem cps_ok {mv : List (List Int)} {x : PySem.Str} (sg : OkSg mv x) : ∀ c ∈ x.cps.toList, c < 1114112 := fun c hc => by
  have := sg.2 c hc
  omega
theorem sg_str {mv : List (List Int)} {x : PySem.Str} (sg : OkSg mv x) : eqD (.str x) (.str x) = true := eqD_refl (okL_str (cps_ok sg))
theorem bl_of {b : Bool} {p q : Prop} (e : b = true) (h : q) : (b = false → p) ∧ (b = true → q) := ⟨fun z => absurd (z.symm.trans e) (by decide), fun _ => h⟩
theorem bl_no {b : Bool} {p q : Prop} (e : b = false) (h : q) : (b = true → p) ∧ (b = false → q) := ⟨fun z => absurd (z.symm.trans e) (by decide), fun _ => h⟩
theorem jm_ok {k m : Int} (hk : K3 k) (hm : m ≤ 10 ^ 41) : jm k m ≤ 197 ∧ Lim k m (jm k m) := by
  obtain ⟨j, h⟩ := lim_ex 197 (show m < un k 197 by have := un_big hk; omega)
  exact Classical.epsilon_spec (p := fun j => j ≤ 197 ∧ Lim k m j) ⟨j, h⟩
theorem okL_sgn {mv : List (List Int)} {x : PySem.Str} (sg : OkSg mv x) (k m : Int) (j : Nat) : okL 0 (sgn k mv x m j) := okL_str fun c hc => by
  have hc : c = x.cps.toList[(walk mv 0 (dg k m j)).toNat]?.getD 0 := by simpa using hc
  rw [hc]
  by_cases h : (walk mv 0 (dg k m j)).toNat < x.cps.toList.length
  · exact cps_ok sg _ (getD_in h)
  · rw [List.getElem?_eq_none (by omega)]
    decide
theorem dIx_last {P : List Int} {m : Int} {q : D → Prop} (h : q (.int m)) : dIx (.lst ((P ++ [m]).map .int)) (.int (-1)) q := by
  show (match atD ((P ++ [m]).map D.int) (-1) with | some d => q d | none => False)
  rw [List.map_append, show [m].map D.int = [D.int m] from rfl, atD_last]
  exact h
theorem join_ch {α : Type} (f : α → Nat) (l : List α) (hl : l.length ≤ 16777216) :
    ∃ ys, strsD (l.map fun x => ch (f x)) = some ys ∧ (ys.map (·.length)).sum + ys.length * (PySem.Str.ofString "").length ≤ 16777216 ∧ Txt.join (PySem.Str.ofString "") ys = ⟨(l.map f).toArray⟩ := by
  have e : (l.map fun x => (⟨#[f x]⟩ : PySem.Str)) = (l.map f).map fun c => (⟨#[c]⟩ : PySem.Str) := by rw [List.map_map]; rfl
  refine ⟨_, strsD_map (fun i => (⟨#[f i]⟩ : PySem.Str)) l, ?_, ?_⟩
  · rw [e, sum_chars, show (PySem.Str.ofString "").length = 0 from by decide, Nat.mul_zero, Nat.add_zero, List.length_map]
    exact hl
  · rw [e, join_chars]
theorem last_of {α : Type} {l : List α} (h : 0 < l.length) : ∃ r a, l = r ++ [a] := ⟨l.dropLast, l.getLast (List.ne_nil_of_length_pos h), (List.dropLast_concat_getLast _).symm⟩
theorem hw_check_system (A : Ad) : ∀ ds er q, ds.length = 1 → S_check_system A ds er q → w_check_system A { nx := fun _ => q .non, rt := q, er := er } (envOf 1 ds) := by
  intro ds er q hlen h
  unfold S_check_system at h
  split at h
  · rename_i x
    cases x with
    | ins C fs =>
      obtain ⟨rfl, k, rfl, hq⟩ := h
      simp [w_check_system, wVar, wC, w2, w1, wNil, wCons, wTup, wLstO, wFz, wLk, wOwn, wAnd, wOr, wNot, wB, wYes, wIf, wFldC, wCB, wCBL, wCall0, wMeth0, wMethN0, wMakeK0, wMake0, sSeq, sNext, sNever, sRet, sRetN, sRetO, sIf, sAsg, sAsgO, sPar, sParO, sPar3, sParO3, sAsgG, gTupD, setAll, sAug, sApp, sFldI, tyAnd, tyOr, tyNot, iRg1, iRg2, iLst, iTupW, sFor, dAdd, dSub, dMul, dMulT, dDiv, dMod, dPow, dNeg, dLt, dLe, dGt, dGe, dIsN, DL.isNon, dNotN, dEq, dNe, dIx, dLen, dInt, dAbs, dMax2, dMin2, lLen, lTup, isA, envOf, envI, putD, gVar, wRev, wRevT, wIxL, wSl, wSlO, wNoP, wPart, wBag, okD_int, okD_bl, okD_non, eqD_int, eqD_bl, wipeE, wChain, wCallI0, wCallIK0, iSt, dLenO, wLRg1, wJoin, sDrop, wDGet, wDIn, wDNotIn, dE, dOwn, sDPutW, sFrzD, sFrz, sAsgN, sParN, sParN3, nE, nO, nDict, nDisp1, wFzD, NV.sv, iEnumW, wInS, wIndexS, wCatO, dInI, iKeysW, wMaxV, wCntT, lTupX, isO, su_System_System]
      exact hq
    | _ => exact h.elim
  · exact h.elim
theorem loop_moves (A : Ad) {k : Int} {mv : List (List Int)} {n : DN} (hk : K3 k) (ok : OkMv k mv) : ∀ (l : List (List Int)) (c e : SV), (∀ x ∈ l, x ∈ mv) → (∀ c, n.nx [.d (.int k), .d (mvD mv), c, .un]) →
    sLoop (lb_are_moves_1 A) (gVar 2) n (l.map fun l => D.tup (l.map .int)) [.d (.int k), .d (mvD mv), c, .un]
  | [], c, _, _, h => h c
  | x :: l, c, e, hx, h => by
    have ih := loop_moves A (n := n) hk ok l (.d (.tup (x.map .int))) e (fun y hy => hx y (by simp [hy])) h
    have hm := hx x (by simp)
    have hw := ok.wd x hm
    rw [List.map_cons, sLoop]
    simp [lb_are_moves_1, wVar, wC, w2, w1, wNil, wCons, wTup, wLstO, wFz, wLk, wOwn, wAnd, wOr, wNot, wB, wYes, wIf, wFldC, wCB, wCBL, wCall0, wMeth0, wMethN0, wMakeK0, wMake0, sSeq, sNext, sNever, sRet, sRetN, sRetO, sIf, sAsg, sAsgO, sPar, sParO, sPar3, sParO3, sAsgG, gTupD, setAll, sAug, sApp, sFldI, tyAnd, tyOr, tyNot, iRg1, iRg2, iLst, iTupW, sFor, dAdd, dSub, dMul, dMulT, dDiv, dMod, dPow, dNeg, dLt, dLe, dGt, dGe, dIsN, DL.isNon, dNotN, dEq, dNe, dIx, dLen, dInt, dAbs, dMax2, dMin2, lLen, lTup, isA, envOf, envI, putD, gVar, wRev, wRevT, wIxL, wSl, wSlO, wNoP, wPart, wBag, okD_int, okD_bl, okD_non, eqD_int, eqD_bl, wipeE, wChain, wCallI0, wCallIK0, iSt, dLenO, wLRg1, wJoin, sDrop, wDGet, wDIn, wDNotIn, dE, dOwn, sDPutW, sFrzD, sFrz, sAsgN, sParN, sParN3, nE, nO, nDict, nDisp1, wFzD, NV.sv, iEnumW, wInS, wIndexS, wCatO, dInI, iKeysW, wMaxV, wCntT, lTupX, isT, bts, wLc, mvD, hw]
    refine DL.comp_map (c := D.int) (l := x) (ev := fun d => [.d (.int k), .d (mvD mv), .d (.tup (x.map .int)), .d (.int d)]) (f := fun d => .bl (decide (0 ≤ d) && decide (d ≤ (mv.length : Int) - 1))) (fun d _ Q h => ?_) (fun d _ Q h => ?_) ?_ ?_
    · simpa [gVar, mvD] using h
    · simp [wVar, wC, w2, w1, wNil, wCons, wTup, wLstO, wFz, wLk, wOwn, wAnd, wOr, wNot, wB, wYes, wIf, wFldC, wCB, wCBL, wCall0, wMeth0, wMethN0, wMakeK0, wMake0, sSeq, sNext, sNever, sRet, sRetN, sRetO, sIf, sAsg, sAsgO, sPar, sParO, sPar3, sParO3, sAsgG, gTupD, setAll, sAug, sApp, sFldI, tyAnd, tyOr, tyNot, iRg1, iRg2, iLst, iTupW, sFor, dAdd, dSub, dMul, dMulT, dDiv, dMod, dPow, dNeg, dLt, dLe, dGt, dGe, dIsN, DL.isNon, dNotN, dEq, dNe, dIx, dLen, dInt, dAbs, dMax2, dMin2, lLen, lTup, isA, envOf, envI, putD, gVar, wRev, wRevT, wIxL, wSl, wSlO, wNoP, wPart, wBag, okD_int, okD_bl, okD_non, eqD_int, eqD_bl, wipeE, wChain, wCallI0, wCallIK0, iSt, dLenO, wLRg1, wJoin, sDrop, wDGet, wDIn, wDNotIn, dE, dOwn, sDPutW, sFrzD, sFrz, sAsgN, sParN, sParN3, nE, nO, nDict, nDisp1, wFzD, NV.sv, iEnumW, wInS, wIndexS, wCatO, dInI, iKeysW, wMaxV, wCntT, lTupX, S_is_number, mvD]
      simpa using h
    · rw [show sizeLine = 16777216 from rfl]
      have := hk.2
      omega
    · refine all_map _ _ _ ?_
      rw [List.all_eq_true.mpr fun d hd => by have := ok.st x hm d hd; simp; omega]
      exact ⟨(fun z => nomatch z), fun _ => ih⟩
theorem hw_are_moves (A : Ad) : ∀ ds er q, ds.length = 2 → S_are_moves A ds er q → w_are_moves A { nx := fun _ => q .non, rt := q, er := er } (envOf 4 ds) := by
  intro ds er q hlen h
  unfold S_are_moves at h
  split at h
  · rename_i k d
    cases d with
    | tup t =>
      obtain ⟨mv, rfl, hk, ok, hq⟩ := h
      simp [w_are_moves, wVar, wC, w2, w1, wNil, wCons, wTup, wLstO, wFz, wLk, wOwn, wAnd, wOr, wNot, wB, wYes, wIf, wFldC, wCB, wCBL, wCall0, wMeth0, wMethN0, wMakeK0, wMake0, sSeq, sNext, sNever, sRet, sRetN, sRetO, sIf, sAsg, sAsgO, sPar, sParO, sPar3, sParO3, sAsgG, gTupD, setAll, sAug, sApp, sFldI, tyAnd, tyOr, tyNot, iRg1, iRg2, iLst, iTupW, sFor, dAdd, dSub, dMul, dMulT, dDiv, dMod, dPow, dNeg, dLt, dLe, dGt, dGe, dIsN, DL.isNon, dNotN, dEq, dNe, dIx, dLen, dInt, dAbs, dMax2, dMin2, lLen, lTup, isA, envOf, envI, putD, gVar, wRev, wRevT, wIxL, wSl, wSlO, wNoP, wPart, wBag, okD_int, okD_bl, okD_non, eqD_int, eqD_bl, wipeE, wChain, wCallI0, wCallIK0, iSt, dLenO, wLRg1, wJoin, sDrop, wDGet, wDIn, wDNotIn, dE, dOwn, sDPutW, sFrzD, sFrz, sAsgN, sParN, sParN3, nE, nO, nDict, nDisp1, wFzD, NV.sv, iEnumW, wInS, wIndexS, wCatO, dInI, iKeysW, wMaxV, wCntT, lTupX, isT, bts]
      have h1 := ok.lo
      have h2 := ok.hi
      rw [decide_eq_true (show (1 : Int) ≤ mv.length by omega)]
      refine ⟨fun z => absurd z (by omega), fun _ => ?_⟩
      refine loop_moves A hk ok mv .un .un (fun _ h => h) fun c => ?_
      obtain ⟨l, r, e⟩ := ok.z0
      simp [wVar, wC, w2, w1, wNil, wCons, wTup, wLstO, wFz, wLk, wOwn, wAnd, wOr, wNot, wB, wYes, wIf, wFldC, wCB, wCBL, wCall0, wMeth0, wMethN0, wMakeK0, wMake0, sSeq, sNext, sNever, sRet, sRetN, sRetO, sIf, sAsg, sAsgO, sPar, sParO, sPar3, sParO3, sAsgG, gTupD, setAll, sAug, sApp, sFldI, tyAnd, tyOr, tyNot, iRg1, iRg2, iLst, iTupW, sFor, dAdd, dSub, dMul, dMulT, dDiv, dMod, dPow, dNeg, dLt, dLe, dGt, dGe, dIsN, DL.isNon, dNotN, dEq, dNe, dIx, dLen, dInt, dAbs, dMax2, dMin2, lLen, lTup, isA, envOf, envI, putD, gVar, wRev, wRevT, wIxL, wSl, wSlO, wNoP, wPart, wBag, okD_int, okD_bl, okD_non, eqD_int, eqD_bl, wipeE, wChain, wCallI0, wCallIK0, iSt, dLenO, wLRg1, wJoin, sDrop, wDGet, wDIn, wDNotIn, dE, dOwn, sDPutW, sFrzD, sFrz, sAsgN, sParN, sParN3, nE, nO, nDict, nDisp1, wFzD, NV.sv, iEnumW, wInS, wIndexS, wCatO, dInI, iKeysW, wMaxV, wCntT, lTupX, mvD, e, atD_0]
      exact hq
    | _ => exact h.elim
  · exact h.elim
theorem hw_are_small (A : Ad) : ∀ ds er q, ds.length = 3 → S_are_small A ds er q → w_are_small A { nx := fun _ => q .non, rt := q, er := er } (envOf 4 ds) := by
  intro ds er q hlen h
  unfold S_are_small at h
  split at h
  · rename_i x a b
    obtain ⟨⟨hx, h1, h2, h3⟩, hq⟩ := h
    simp [w_are_small, wVar, wC, w2, w1, wNil, wCons, wTup, wLstO, wFz, wLk, wOwn, wAnd, wOr, wNot, wB, wYes, wIf, wFldC, wCB, wCBL, wCall0, wMeth0, wMethN0, wMakeK0, wMake0, sSeq, sNext, sNever, sRet, sRetN, sRetO, sIf, sAsg, sAsgO, sPar, sParO, sPar3, sParO3, sAsgG, gTupD, setAll, sAug, sApp, sFldI, tyAnd, tyOr, tyNot, iRg1, iRg2, iLst, iTupW, sFor, dAdd, dSub, dMul, dMulT, dDiv, dMod, dPow, dNeg, dLt, dLe, dGt, dGe, dIsN, DL.isNon, dNotN, dEq, dNe, dIx, dLen, dInt, dAbs, dMax2, dMin2, lLen, lTup, isA, envOf, envI, putD, gVar, wRev, wRevT, wIxL, wSl, wSlO, wNoP, wPart, wBag, okD_int, okD_bl, okD_non, eqD_int, eqD_bl, wipeE, wChain, wCallI0, wCallIK0, iSt, dLenO, wLRg1, wJoin, sDrop, wDGet, wDIn, wDNotIn, dE, dOwn, sDPutW, sFrzD, sFrz, sAsgN, sParN, sParN3, nE, nO, nDict, nDisp1, wFzD, NV.sv, iEnumW, wInS, wIndexS, wCatO, dInI, iKeysW, wMaxV, wCntT, lTupX, isT, bts, wLc]
    refine ⟨by rw [show sizeLine = 16777216 from rfl]; omega, ?_⟩
    rw [decide_eq_true h1]
    refine ⟨fun z => absurd z (by omega), fun _ => ?_⟩
    refine DL.comp_map (c := fun (c : Nat) => D.str ⟨#[c]⟩) (l := x.cps.toList) (ev := fun c => [.d (.str x), .d (.int a), .d (.int b), .d (.str ⟨#[c]⟩)]) (f := fun _ => .bl true) (fun c _ Q h => ?_) (fun c hc Q h => ?_) ?_ ?_
    · simpa [gVar] using h
    · obtain ⟨e1, e2⟩ := h3 c hc
      have a1 : (PySem.Str.ofString "a").cps.toList = [97] := by decide
      have a2 : (PySem.Str.ofString "z").cps.toList = [122] := by decide
      simp [wVar, wC, w2, w1, wNil, wCons, wTup, wLstO, wFz, wLk, wOwn, wAnd, wOr, wNot, wB, wYes, wIf, wFldC, wCB, wCBL, wCall0, wMeth0, wMethN0, wMakeK0, wMake0, sSeq, sNext, sNever, sRet, sRetN, sRetO, sIf, sAsg, sAsgO, sPar, sParO, sPar3, sParO3, sAsgG, gTupD, setAll, sAug, sApp, sFldI, tyAnd, tyOr, tyNot, iRg1, iRg2, iLst, iTupW, sFor, dAdd, dSub, dMul, dMulT, dDiv, dMod, dPow, dNeg, dLt, dLe, dGt, dGe, dIsN, DL.isNon, dNotN, dEq, dNe, dIx, dLen, dInt, dAbs, dMax2, dMin2, lLen, lTup, isA, envOf, envI, putD, gVar, wRev, wRevT, wIxL, wSl, wSlO, wNoP, wPart, wBag, okD_int, okD_bl, okD_non, eqD_int, eqD_bl, wipeE, wChain, wCallI0, wCallIK0, iSt, dLenO, wLRg1, wJoin, sDrop, wDGet, wDIn, wDNotIn, dE, dOwn, sDPutW, sFrzD, sFrz, sAsgN, sParN, sParN3, nE, nO, nDict, nDisp1, wFzD, NV.sv, iEnumW, wInS, wIndexS, wCatO, dInI, iKeysW, wMaxV, wCntT, lTupX, a1, a2]
      have g1 : decide ([c] < [97]) = false := decide_eq_false (by rw [List.cons_lt_cons_iff]; simp; omega)
      have g2 : decide ([122] < [c]) = false := decide_eq_false (by rw [List.cons_lt_cons_iff]; simp; omega)
      rw [g1, g2]
      exact h
    · rw [str_len, show sizeLine = 16777216 from rfl]
      omega
    · refine all_map (fun _ => true) _ _ ?_
      rw [all_yes]
      exact hq
  · exact h.elim
theorem hw_Row_init (A : Ad) : ∀ x ds er q, ds.length = 3 → S_Row_init A ds er q → w_Row_init A { nx := fun env => ∃ fs, env[0]? = some (.me x A.c_Row fs) ∧ q fs, rt := fun _ => False, er := er } (envI 4 x A.c_Row ds) := by
  intro x ds er q hlen h
  unfold S_Row_init at h
  split at h
  · rename_i s m y
    cases s with
    | ins C fs =>
      obtain ⟨rfl, k, rfl, h⟩ := h
      cases m with
      | tup t =>
        obtain ⟨mv, rfl, hk, ok, sg, hq⟩ := h
        simp [w_Row_init, wVar, wC, w2, w1, wNil, wCons, wTup, wLstO, wFz, wLk, wOwn, wAnd, wOr, wNot, wB, wYes, wIf, wFldC, wCB, wCBL, wCall0, wMeth0, wMethN0, wMakeK0, wMake0, sSeq, sNext, sNever, sRet, sRetN, sRetO, sIf, sAsg, sAsgO, sPar, sParO, sPar3, sParO3, sAsgG, gTupD, setAll, sAug, sApp, sFldI, tyAnd, tyOr, tyNot, iRg1, iRg2, iLst, iTupW, sFor, dAdd, dSub, dMul, dMulT, dDiv, dMod, dPow, dNeg, dLt, dLe, dGt, dGe, dIsN, DL.isNon, dNotN, dEq, dNe, dIx, dLen, dInt, dAbs, dMax2, dMin2, lLen, lTup, isA, envOf, envI, putD, gVar, wRev, wRevT, wIxL, wSl, wSlO, wNoP, wPart, wBag, okD_int, okD_bl, okD_non, eqD_int, eqD_bl, wipeE, wChain, wCallI0, wCallIK0, iSt, dLenO, wLRg1, wJoin, sDrop, wDGet, wDIn, wDNotIn, dE, dOwn, sDPutW, sFrzD, sFrz, sAsgN, sParN, sParN3, nE, nO, nDict, nDisp1, wFzD, NV.sv, iEnumW, wInS, wIndexS, wCatO, dInI, iKeysW, wMaxV, wCntT, lTupX, S_check_system, isSys, S_are_moves, isMv, S_are_small, step_look, n_sm, n_ss, n_ms]
        have h1 := sg.1
        have h2 := ok.hi
        refine ⟨mv, rfl, hk, ok, ⟨by omega, by omega, by omega, fun c hc => sg.2 c (by simpa using hc)⟩, hq⟩
      | _ => exact h.elim
    | _ => exact h.elim
  · exact h.elim
theorem row_init (A : Ad) {k : Int} {mv : List (List Int)} {x : PySem.Str} {er : ER} {q : List (PySem.Str × D) → Prop} (hk : K3 k) (ok : OkMv k mv) (sg : OkSg mv x) (hq : q [("system", sysD A k), ("moves", mvD mv), ("signs", .str x)]) : S_Row_init A [sysD A k, mvD mv, .str x] er q := ⟨rfl, k, rfl, mv, rfl, hk, ok, sg, hq⟩
theorem loop_sign (A : Ad) {k : Int} {mv : List (List Int)} {x : PySem.Str} {m : SV} {n : DN} (ok : OkMv k mv) : ∀ (l : List Int) (s : Int) (c : SV), 0 ≤ s → s < mv.length → (∀ d ∈ l, 0 ≤ d ∧ d ≤ k) → (∀ c, n.nx [.d (rowD A k mv x), m, .d (.int (walk mv s l)), c]) →
    sLoop (lb_sign_at_1 A) (gVar 3) n (l.map .int) [.d (rowD A k mv x), m, .d (.int s), c]
  | [], s, c, _, _, _, h => h c
  | d :: l, s, c, h0, h1, hd, h => by
    obtain ⟨h2, h3⟩ := hd d (by simp)
    obtain ⟨h4, h5⟩ := stp_in ok h0 h1 h2 h3
    have ih := loop_sign A (x := x) (m := m) (n := n) ok l (stp mv s d) (.d (.int d)) h4 h5 (fun y hy => hd y (by simp [hy])) h
    have hw := ok.wd _ (getD_in (l := mv) (n := s.toNat) (a := []) (by omega))
    rw [List.map_cons, sLoop]
    simp [lb_sign_at_1, wVar, wC, w2, w1, wNil, wCons, wTup, wLstO, wFz, wLk, wOwn, wAnd, wOr, wNot, wB, wYes, wIf, wFldC, wCB, wCBL, wCall0, wMeth0, wMethN0, wMakeK0, wMake0, sSeq, sNext, sNever, sRet, sRetN, sRetO, sIf, sAsg, sAsgO, sPar, sParO, sPar3, sParO3, sAsgG, gTupD, setAll, sAug, sApp, sFldI, tyAnd, tyOr, tyNot, iRg1, iRg2, iLst, iTupW, sFor, dAdd, dSub, dMul, dMulT, dDiv, dMod, dPow, dNeg, dLt, dLe, dGt, dGe, dIsN, DL.isNon, dNotN, dEq, dNe, dIx, dLen, dInt, dAbs, dMax2, dMin2, lLen, lTup, isA, envOf, envI, putD, gVar, wRev, wRevT, wIxL, wSl, wSlO, wNoP, wPart, wBag, okD_int, okD_bl, okD_non, eqD_int, eqD_bl, wipeE, wChain, wCallI0, wCallIK0, iSt, dLenO, wLRg1, wJoin, sDrop, wDGet, wDIn, wDNotIn, dE, dOwn, sDPutW, sFrzD, sFrz, sAsgN, sParN, sParN3, nE, nO, nDict, nDisp1, wFzD, NV.sv, iEnumW, wInS, wIndexS, wCatO, dInI, iKeysW, wMaxV, wCntT, lTupX, rowD, moves_look, mvD]
    rw [mv_at h0 h1]
    simp only [dIx]
    rw [ints_at h2 (by omega)]
    exact ih
theorem hw_sign_at (A : Ad) : ∀ ds er q, ds.length = 2 → S_sign_at A ds er q → w_sign_at A { nx := fun _ => q .non, rt := q, er := er } (envOf 4 ds) := by
  intro ds er q hlen h
  unfold S_sign_at at h
  split at h
  · rename_i r m
    cases r with
    | ins C fs =>
      obtain ⟨rfl, k, mv, x, rfl, hk, ok, sg, h0, hm, j, hl, hj, hq⟩ := h
      simp [w_sign_at, wVar, wC, w2, w1, wNil, wCons, wTup, wLstO, wFz, wLk, wOwn, wAnd, wOr, wNot, wB, wYes, wIf, wFldC, wCB, wCBL, wCall0, wMeth0, wMethN0, wMakeK0, wMake0, sSeq, sNext, sNever, sRet, sRetN, sRetO, sIf, sAsg, sAsgO, sPar, sParO, sPar3, sParO3, sAsgG, gTupD, setAll, sAug, sApp, sFldI, tyAnd, tyOr, tyNot, iRg1, iRg2, iLst, iTupW, sFor, dAdd, dSub, dMul, dMulT, dDiv, dMod, dPow, dNeg, dLt, dLe, dGt, dGe, dIsN, DL.isNon, dNotN, dEq, dNe, dIx, dLen, dInt, dAbs, dMax2, dMin2, lLen, lTup, isA, envOf, envI, putD, gVar, wRev, wRevT, wIxL, wSl, wSlO, wNoP, wPart, wBag, okD_int, okD_bl, okD_non, eqD_int, eqD_bl, wipeE, wChain, wCallI0, wCallIK0, iSt, dLenO, wLRg1, wJoin, sDrop, wDGet, wDIn, wDNotIn, dE, dOwn, sDPutW, sFrzD, sFrz, sAsgN, sParN, sParN3, nE, nO, nDict, nDisp1, wFzD, NV.sv, iEnumW, wInS, wIndexS, wCatO, dInI, iKeysW, wMaxV, wCntT, lTupX, sys_look, sysD, step_look, S_digits_of]
      have hd := dg_in hk j m h0 hl.2
      have h1 := ok.lo
      refine ⟨hk, by omega, j, hl, hj, loop_sign A ok (dg k m j) 0 .un (by decide) (by omega) hd fun c => ?_⟩
      have hw := walk_in ok (dg k m j) 0 (by decide) (by omega) hd
      have h2 := ok.hi
      simp [wVar, wC, w2, w1, wNil, wCons, wTup, wLstO, wFz, wLk, wOwn, wAnd, wOr, wNot, wB, wYes, wIf, wFldC, wCB, wCBL, wCall0, wMeth0, wMethN0, wMakeK0, wMake0, sSeq, sNext, sNever, sRet, sRetN, sRetO, sIf, sAsg, sAsgO, sPar, sParO, sPar3, sParO3, sAsgG, gTupD, setAll, sAug, sApp, sFldI, tyAnd, tyOr, tyNot, iRg1, iRg2, iLst, iTupW, sFor, dAdd, dSub, dMul, dMulT, dDiv, dMod, dPow, dNeg, dLt, dLe, dGt, dGe, dIsN, DL.isNon, dNotN, dEq, dNe, dIx, dLen, dInt, dAbs, dMax2, dMin2, lLen, lTup, isA, envOf, envI, putD, gVar, wRev, wRevT, wIxL, wSl, wSlO, wNoP, wPart, wBag, okD_int, okD_bl, okD_non, eqD_int, eqD_bl, wipeE, wChain, wCallI0, wCallIK0, iSt, dLenO, wLRg1, wJoin, sDrop, wDGet, wDIn, wDNotIn, dE, dOwn, sDPutW, sFrzD, sFrz, sAsgN, sParN, sParN3, nE, nO, nDict, nDisp1, wFzD, NV.sv, iEnumW, wInS, wIndexS, wCatO, dInI, iKeysW, wMaxV, wCntT, lTupX, rowD, signs_look]
      rw [nats_at hw.1 (by rw [str_len, sg.1]; exact hw.2)]
      exact ⟨by rw [sg.1, show sizeLine = 16777216 from rfl]; omega, hq⟩
    | _ => exact h.elim
  · exact h.elim
theorem hw_Row_call (A : Ad) : ∀ ds er q, ds.length = 2 → S_Row_call A ds er q → w_Row_call A { nx := fun _ => q .non, rt := q, er := er } (envOf 2 ds) := by
  intro ds er q hlen h
  unfold S_Row_call at h
  split at h
  · rename_i r m
    cases r with
    | ins C fs =>
      obtain ⟨rfl, k, mv, x, rfl, hk, ok, sg, h0, hm, j, hl, hj, hq⟩ := h
      have hm' : m ≤ 10000000000000000000000000000000000000000 := by omega
      simp [w_Row_call, wVar, wC, w2, w1, wNil, wCons, wTup, wLstO, wFz, wLk, wOwn, wAnd, wOr, wNot, wB, wYes, wIf, wFldC, wCB, wCBL, wCall0, wMeth0, wMethN0, wMakeK0, wMake0, sSeq, sNext, sNever, sRet, sRetN, sRetO, sIf, sAsg, sAsgO, sPar, sParO, sPar3, sParO3, sAsgG, gTupD, setAll, sAug, sApp, sFldI, tyAnd, tyOr, tyNot, iRg1, iRg2, iLst, iTupW, sFor, dAdd, dSub, dMul, dMulT, dDiv, dMod, dPow, dNeg, dLt, dLe, dGt, dGe, dIsN, DL.isNon, dNotN, dEq, dNe, dIx, dLen, dInt, dAbs, dMax2, dMin2, lLen, lTup, isA, envOf, envI, putD, gVar, wRev, wRevT, wIxL, wSl, wSlO, wNoP, wPart, wBag, okD_int, okD_bl, okD_non, eqD_int, eqD_bl, wipeE, wChain, wCallI0, wCallIK0, iSt, dLenO, wLRg1, wJoin, sDrop, wDGet, wDIn, wDNotIn, dE, dOwn, sDPutW, sFrzD, sFrz, sAsgN, sParN, sParN3, nE, nO, nDict, nDisp1, wFzD, NV.sv, iEnumW, wInS, wIndexS, wCatO, dInI, iKeysW, wMaxV, wCntT, lTupX, S_is_number, S_sign_at, isRow]
      exact ⟨⟨h0, hm'⟩, fun _ _ => ⟨k, mv, x, ⟨⟨rfl, rfl, rfl⟩, hk, ok, sg, h0, by omega, j, hl, hj, hq⟩⟩⟩
    | _ => exact h.elim
  · exact h.elim
theorem isO_row (A : Ad) (fs : List (PySem.Str × D)) : isO (cd A) (.ins A.c_Row fs) A.c_Row = some true := by
  simp [isO, su_Row_Row, ow_Row]
theorem okEq_row (A : Ad) (fs : List (PySem.Str × D)) : okEq (cd A) A.c_Row (.ins A.c_Row fs) := .inr ⟨_, rfl, ow_Row A⟩
theorem isO_seq (A : Ad) (l : List D) : isO (cd A) (.tup l) A.c_Row = some false := by
  simp [isO, su_Row_Row, ow_Row]
theorem hw_Row_eq (A : Ad) : ∀ ds er q, ds.length = 2 → S_Row_eq A ds er q → w_Row_eq A { nx := fun _ => q .non, rt := q, er := er } (envOf 2 ds) := by
  intro ds er q hlen h
  unfold S_Row_eq at h
  split at h
  · rename_i r y
    cases r with
    | ins C fs =>
      obtain ⟨rfl, k, mv, x, rfl, h⟩ := h
      cases y with
      | ins C fs =>
        obtain ⟨rfl, k2, mv2, x2, rfl, h1, h2, h⟩ := h
        simp [w_Row_eq, wVar, wC, w2, w1, wNil, wCons, wTup, wLstO, wFz, wLk, wOwn, wAnd, wOr, wNot, wB, wYes, wIf, wFldC, wCB, wCBL, wCall0, wMeth0, wMethN0, wMakeK0, wMake0, sSeq, sNext, sNever, sRet, sRetN, sRetO, sIf, sAsg, sAsgO, sPar, sParO, sPar3, sParO3, sAsgG, gTupD, setAll, sAug, sApp, sFldI, tyAnd, tyOr, tyNot, iRg1, iRg2, iLst, iTupW, sFor, dAdd, dSub, dMul, dMulT, dDiv, dMod, dPow, dNeg, dLt, dLe, dGt, dGe, dIsN, DL.isNon, dNotN, dEq, dNe, dIx, dLen, dInt, dAbs, dMax2, dMin2, lLen, lTup, isA, envOf, envI, putD, gVar, wRev, wRevT, wIxL, wSl, wSlO, wNoP, wPart, wBag, okD_int, okD_bl, okD_non, eqD_int, eqD_bl, wipeE, wChain, wCallI0, wCallIK0, iSt, dLenO, wLRg1, wJoin, sDrop, wDGet, wDIn, wDNotIn, dE, dOwn, sDPutW, sFrzD, sFrz, sAsgN, sParN, sParN3, nE, nO, nDict, nDisp1, wFzD, NV.sv, iEnumW, wInS, wIndexS, wCatO, dInI, iKeysW, wMaxV, wCntT, lTupX, isO_row, sys_look, moves_look, signs_look]
        refine eqO_sys A k k2 ?_
        cases e1 : k == k2 with
        | false =>
          rw [e1] at h
          exact h
        | true =>
          rw [e1] at h
          refine ⟨okD_of (okL_mv _) (by decide), okD_of (okL_mv _) (by decide), ?_⟩
          cases e2 : eqD (mvD mv) (mvD mv2) with
          | false =>
            rw [e2] at h
            exact h
          | true =>
            rw [e2] at h
            exact ⟨okD_of (okL_str h1) (by decide), okD_of (okL_str h2) (by decide), h⟩
      | _ =>
        obtain ⟨h1, h2⟩ := h
        simp [w_Row_eq, wVar, wC, w2, w1, wNil, wCons, wTup, wLstO, wFz, wLk, wOwn, wAnd, wOr, wNot, wB, wYes, wIf, wFldC, wCB, wCBL, wCall0, wMeth0, wMethN0, wMakeK0, wMake0, sSeq, sNext, sNever, sRet, sRetN, sRetO, sIf, sAsg, sAsgO, sPar, sParO, sPar3, sParO3, sAsgG, gTupD, setAll, sAug, sApp, sFldI, tyAnd, tyOr, tyNot, iRg1, iRg2, iLst, iTupW, sFor, dAdd, dSub, dMul, dMulT, dDiv, dMod, dPow, dNeg, dLt, dLe, dGt, dGe, dIsN, DL.isNon, dNotN, dEq, dNe, dIx, dLen, dInt, dAbs, dMax2, dMin2, lLen, lTup, isA, envOf, envI, putD, gVar, wRev, wRevT, wIxL, wSl, wSlO, wNoP, wPart, wBag, okD_int, okD_bl, okD_non, eqD_int, eqD_bl, wipeE, wChain, wCallI0, wCallIK0, iSt, dLenO, wLRg1, wJoin, sDrop, wDGet, wDIn, wDNotIn, dE, dOwn, sDPutW, sFrzD, sFrz, sAsgN, sParN, sParN3, nE, nO, nDict, nDisp1, wFzD, NV.sv, iEnumW, wInS, wIndexS, wCatO, dInI, iKeysW, wMaxV, wCntT, lTupX, h1]
        exact h2
    | _ => exact h.elim
  · exact h.elim
theorem eqO_row (A : Ad) {k1 k2 : Int} {m1 m2 : List (List Int)} {x1 x2 : PySem.Str} {q : D → Prop} (s1 : ∀ c ∈ x1.cps.toList, c < 1114112) (s2 : ∀ c ∈ x2.cps.toList, c < 1114112) (h : q (.bl ((k1 == k2) && ((eqD (mvD m1) (mvD m2)) && (eqD (.str x1) (.str x2)))))) : eqO (cd A) A.c_Row (S_Row_eq A) (rowD A k1 m1 x1) (rowD A k2 m2 x2) q :=
  ⟨rfl, okEq_row A _, rfl, k1, m1, x1, rfl, rfl, k2, m2, x2, rfl, s1, s2, h⟩
theorem neO_row (A : Ad) {k1 k2 : Int} {m1 m2 : List (List Int)} {x1 x2 : PySem.Str} {q : D → Prop} (s1 : ∀ c ∈ x1.cps.toList, c < 1114112) (s2 : ∀ c ∈ x2.cps.toList, c < 1114112) (h : q (.bl (!((k1 == k2) && ((eqD (mvD m1) (mvD m2)) && (eqD (.str x1) (.str x2))))))) : neO (cd A) A.c_Row (S_Row_eq A) (rowD A k1 m1 x1) (rowD A k2 m2 x2) q :=
  ⟨rfl, okEq_row A _, rfl, k1, m1, x1, rfl, rfl, k2, m2, x2, rfl, s1, s2, h⟩
theorem eqO_rowT (A : Ad) {k1 : Int} {m1 : List (List Int)} {x1 : PySem.Str} {l : List D} {q : D → Prop} (h : q (.bl false)) : eqO (cd A) A.c_Row (S_Row_eq A) (rowD A k1 m1 x1) (.tup l) q :=
  ⟨rfl, .inl (isO_seq A l), rfl, k1, m1, x1, rfl, isO_seq A l, h⟩
theorem eqO_rowS (A : Ad) {k : Int} {mv : List (List Int)} {x : PySem.Str} {q : D → Prop} (sg : OkSg mv x) (h : q (.bl true)) : eqO (cd A) A.c_Row (S_Row_eq A) (rowD A k mv x) (rowD A k mv x) q := by
  refine eqO_row A (cps_ok sg) (cps_ok sg) ?_
  rw [eqD_refl (okL_mv mv), sg_str sg, beq_self_eq_true]
  exact h
theorem neO_rowS (A : Ad) {k : Int} {mv : List (List Int)} {x : PySem.Str} {q : D → Prop} (sg : OkSg mv x) (h : q (.bl false)) : neO (cd A) A.c_Row (S_Row_eq A) (rowD A k mv x) (rowD A k mv x) q := by
  refine neO_row A (cps_ok sg) (cps_ok sg) ?_
  rw [eqD_refl (okL_mv mv), sg_str sg, beq_self_eq_true]
  exact h
theorem eqD_pair (m1 m2 : List (List Int)) (x1 x2 : PySem.Str) : eqD (.tup [mvD m1, .str x1]) (.tup [mvD m2, .str x2]) = (eqD (mvD m1) (mvD m2) && eqD (.str x1) (.str x2)) := by
  obtain ⟨p1, a1, _⟩ := okL_mv m1
  obtain ⟨p2, a2, _⟩ := okL_mv m2
  unfold eqD
  simp only [pd, pdA, a1, a2]
  simp [PyData.eqv, PyData.eqvAll]
theorem hw_Row_stretch (A : Ad) : ∀ ds er q, ds.length = 3 → S_Row_stretch A ds er q → w_Row_stretch A { nx := fun _ => q .non, rt := q, er := er } (envOf 4 ds) := by
  intro ds er q hlen h
  unfold S_Row_stretch at h
  split at h
  · rename_i r m n
    cases r with
    | ins C fs =>
      obtain ⟨rfl, k, mv, x, rfl, hk, ok, sg, h0, hm, h1, hn, hq⟩ := h
      simp [w_Row_stretch, wVar, wC, w2, w1, wNil, wCons, wTup, wLstO, wFz, wLk, wOwn, wAnd, wOr, wNot, wB, wYes, wIf, wFldC, wCB, wCBL, wCall0, wMeth0, wMethN0, wMakeK0, wMake0, sSeq, sNext, sNever, sRet, sRetN, sRetO, sIf, sAsg, sAsgO, sPar, sParO, sPar3, sParO3, sAsgG, gTupD, setAll, sAug, sApp, sFldI, tyAnd, tyOr, tyNot, iRg1, iRg2, iLst, iTupW, sFor, dAdd, dSub, dMul, dMulT, dDiv, dMod, dPow, dNeg, dLt, dLe, dGt, dGe, dIsN, DL.isNon, dNotN, dEq, dNe, dIx, dLen, dInt, dAbs, dMax2, dMin2, lLen, lTup, isA, envOf, envI, putD, gVar, wRev, wRevT, wIxL, wSl, wSlO, wNoP, wPart, wBag, okD_int, okD_bl, okD_non, eqD_int, eqD_bl, wipeE, wChain, wCallI0, wCallIK0, iSt, dLenO, wLRg1, wJoin, sDrop, wDGet, wDIn, wDNotIn, dE, dOwn, sDPutW, sFrzD, sFrz, sAsgN, sParN, sParN3, nE, nO, nDict, nDisp1, wFzD, NV.sv, iEnumW, wInS, wIndexS, wCatO, dInI, iKeysW, wMaxV, wCntT, lTupX, S_is_number, wLc]
      refine ⟨⟨h0, by omega⟩, fun _ _ => ⟨⟨h1, hn⟩, fun _ _ => ⟨by omega, by omega, ?_⟩⟩⟩
      unfold rngD
      refine DL.comp_map (c := fun (i : Nat) => D.int (0 + i)) (l := List.range n.toNat) (ev := fun i => [.d (rowD A k mv x), .d (.int m), .d (.int n), .d (.int (0 + (i : Nat)))]) (f := fun i => ch (sgc k mv x (m + (i : Nat)))) (fun _ _ _ h => h) (fun i hi Q h => ?_) ?_ ?_
      · have hi := List.mem_range.mp hi
        rw [← Int.zero_add ((i : Nat) : Int)] at h
        obtain ⟨j1, j2⟩ := jm_ok (m := m + (0 + (i : Nat))) hk (by omega)
        exact ⟨rfl, rfl, k, mv, x, rfl, hk, ok, sg, by omega, by omega, jm k (m + (0 + (i : Nat))), j2, by omega, h⟩
      · rw [List.length_range, show sizeLine = 16777216 from rfl]
        omega
      · obtain ⟨ys, e1, e2, e3⟩ := join_ch (fun (i : Nat) => sgc k mv x (m + (i : Nat))) (List.range n.toNat) (by simp; omega)
        refine ⟨ys, e1, e2, ?_⟩
        rw [e3]
        exact hq
    | _ => exact h.elim
  · exact h.elim
/-! ### turns, digits -/
theorem flat_at {g : Nat → List Nat} {n : Nat} : ∀ (ls : List Nat), (∀ l ∈ ls, (g l).length = n) → ∀ (i r : Nat) (l : Nat), r < n → ls[i]? = some l → (ls.flatMap g)[i * n + r]? = (g l)[r]?
  | [], _, i, r, l, _, h => by simp at h
  | x :: ls, hg, 0, r, l, hr, h => by
    simp at h
    subst h
    rw [List.flatMap_cons, Nat.zero_mul, Nat.zero_add, List.getElem?_append_left (by rw [hg _ (by simp)]; exact hr)]
  | x :: ls, hg, i + 1, r, l, hr, h => by
    have hx := hg x (by simp)
    rw [List.flatMap_cons, List.getElem?_append_right (by rw [hx, Nat.add_mul]; omega), hx, show (i + 1) * n + r - n = i * n + r by rw [Nat.add_mul]; omega]
    exact flat_at ls (fun l hl => hg l (by simp [hl])) i r l hr (by simpa using h)
theorem flat_len {g : Nat → List Nat} {n : Nat} : ∀ (ls : List Nat), (∀ l ∈ ls, (g l).length = n) → (ls.flatMap g).length = ls.length * n
  | [], _ => by simp
  | x :: ls, hg => by
    rw [List.flatMap_cons, List.length_append, hg x (by simp), flat_len ls (fun l hl => hg l (by simp [hl])), List.length_cons, Nat.add_mul]
    omega
structure SubOk (k : Int) (f : Nat → List Nat) (L S : Nat → Prop) : Prop where
  lg : ∀ c, L c → ∃ ls s, f c = ls ++ [s] ∧ (ls.length : Int) = k ∧ (∀ l ∈ ls, L l) ∧ S s
  sh : ∀ c, S c → ∃ l, f c = [l] ∧ L l
section
variable {k : Int} {f : Nat → List Nat} {L S : Nat → Prop}
theorem W_s (s j : Nat) : W f (j + 1) s = (f s).flatMap (W f j) := rfl
theorem W_len (hk : K3 k) (h : SubOk k f L S) : ∀ j, (∀ s, L s → ((W f j s).length : Int) = un k j) ∧ (∀ s, S s → ((W f j s).length : Int) = (pr k j).1)
  | 0 => ⟨fun _ _ => rfl, fun _ _ => rfl⟩
  | j + 1 => by
    obtain ⟨h1, h2⟩ := W_len hk h j
    refine ⟨fun s hs => ?_, fun s hs => ?_⟩
    · obtain ⟨ls, t, e, hl, hL, hS⟩ := h.lg s hs
      have hp := un_pos hk j
      rw [W_s, e, List.flatMap_append, List.length_append, flat_len (n := (un k j).toNat) ls (fun l hl => by have := h1 l (hL l hl); omega), List.flatMap_cons, List.flatMap_nil, List.append_nil, un_s]
      have := h2 t hS
      rw [Int.natCast_add, this, Int.natCast_mul, hl, Int.toNat_of_nonneg (by omega)]
    · obtain ⟨l, e, hL⟩ := h.sh s hs
      rw [W_s, e, List.flatMap_cons, List.flatMap_nil, List.append_nil, pr_1]
      exact h1 l hL
/-- a way down that there is -/
def Val (f : Nat → List Nat) : Nat → List Int → Prop
  | _, [] => True
  | s, d :: r => 0 ≤ d ∧ ∃ c, (f s)[d.toNat]? = some c ∧ Val f c r
theorem desc_s {s c : Nat} {d : Int} {r : List Int} (h : (f s)[d.toNat]? = some c) : desc f s (d :: r) = desc f c r := by
  rw [desc, h]
  rfl
theorem pr_le {k : Int} (hk : K3 k) (j : Nat) : (pr k j).1 ≤ un k j := (pr_pos hk j).2
theorem W_at (hk : K3 k) (h : SubOk k f L S) : ∀ j, (∀ s, L s → ∀ m : Int, 0 ≤ m → m < un k j → (W f j s)[m.toNat]? = some (desc f s (dg k m j)) ∧ Val f s (dg k m j)) ∧
    (∀ s, S s → ∀ m : Int, 0 ≤ m → m < (pr k j).1 → (W f j s)[m.toNat]? = some (desc f s (dg k m j)) ∧ Val f s (dg k m j))
  | 0 => by
    refine ⟨fun s _ m h0 h1 => ?_, fun s _ m h0 h1 => ?_⟩
    · rw [un_0] at h1
      obtain rfl : m = 0 := by omega
      exact ⟨rfl, trivial⟩
    · have : (pr k 0).1 = 1 := rfl
      rw [this] at h1
      obtain rfl : m = 0 := by omega
      exact ⟨rfl, trivial⟩
  | j + 1 => by
    obtain ⟨h1, h2⟩ := W_at hk h j
    obtain ⟨l1, l2⟩ := W_len hk h j
    have hp := un_pos hk j
    refine ⟨fun s hs m h0 hm => ?_, fun s hs m h0 hm => ?_⟩
    · obtain ⟨ls, t, e, hl, hL, hS⟩ := h.lg s hs
      have hr0 := Int.emod_nonneg m (b := un k j) (by omega)
      have hr1 := Int.emod_lt_of_pos m (b := un k j) (by omega)
      have hd0 : 0 ≤ m / un k j := Int.ediv_nonneg h0 (by omega)
      have hdm := Int.mul_ediv_add_emod m (un k j)
      rw [dg_s]
      generalize hd : m / un k j = d at *
      generalize hr : m % un k j = r at *
      have blk : ∀ l ∈ ls, (W f j l).length = (un k j).toNat := fun l hl => by have := l1 l (hL l hl); omega
      have em : m.toNat = d.toNat * (un k j).toNat + r.toNat := by
        have : m = d * un k j + r := by rw [← hdm, Int.mul_comm]
        have e1 : ((d.toNat * (un k j).toNat + r.toNat : Nat) : Int) = d * un k j + r := by
          rw [Int.natCast_add, Int.natCast_mul, Int.toNat_of_nonneg hd0, Int.toNat_of_nonneg (by omega), Int.toNat_of_nonneg hr0]
        omega
      have hdk : d ≤ k := by
        have := un_le hk j
        have hlt : m < (k + 1) * un k j := by omega
        rw [← hd]
        have := Int.ediv_lt_of_lt_mul (a := m) (b := k + 1) (c := un k j) (by omega) hlt
        omega
      by_cases hlt : d < k
      · obtain ⟨l, hx⟩ : ∃ l, ls[d.toNat]? = some l := ⟨_, List.getElem?_eq_getElem (by omega)⟩
        have hfl : (f s)[d.toNat]? = some l := by rw [e, List.getElem?_append_left (by omega), hx]
        have hlm : l ∈ ls := List.mem_of_getElem? hx
        obtain ⟨g1, g2⟩ := h1 l (hL l hlm) r hr0 hr1
        refine ⟨?_, hd0, l, hfl, g2⟩
        rw [desc_s hfl, W_s, e, List.flatMap_append, em, List.getElem?_append_left ?_, flat_at ls blk _ _ _ (by omega) hx, g1]
        rw [flat_len ls blk]
        have : d.toNat + 1 ≤ ls.length := by omega
        calc d.toNat * (un k j).toNat + r.toNat < (d.toNat + 1) * (un k j).toNat := by rw [Nat.add_mul]; omega
          _ ≤ ls.length * (un k j).toNat := Nat.mul_le_mul_right _ this
      · have hdk' : d = k := by omega
        have hfl : (f s)[d.toNat]? = some t := by rw [e, List.getElem?_append_right (by omega), show d.toNat - ls.length = 0 by omega]; rfl
        have hr2 : r < (pr k j).1 := by
          rw [un_s] at hm
          rw [hdk', Int.mul_comm] at hdm
          omega
        obtain ⟨g1, g2⟩ := h2 t hS r hr0 hr2
        refine ⟨?_, hd0, t, hfl, g2⟩
        rw [desc_s hfl, W_s, e, List.flatMap_append, em, List.getElem?_append_right ?_, flat_len ls blk]
        · rw [show d.toNat * (un k j).toNat + r.toNat - ls.length * (un k j).toNat = r.toNat by rw [show d.toNat = ls.length by omega]; omega]
          rw [List.flatMap_cons, List.flatMap_nil, List.append_nil]
          exact g1
        · rw [flat_len ls blk, show d.toNat = ls.length by omega]
          omega
    · obtain ⟨l, e, hL⟩ := h.sh s hs
      rw [pr_1] at hm
      have hd : m / un k j = 0 := Int.ediv_eq_zero_of_lt h0 hm
      have hr : m % un k j = m := Int.emod_eq_of_lt h0 hm
      rw [dg_s, hd, hr]
      have hfl : (f s)[(0 : Int).toNat]? = some l := by rw [e]; rfl
      obtain ⟨g1, g2⟩ := h1 l hL m h0 hm
      refine ⟨?_, Int.le_refl _, l, hfl, g2⟩
      rw [desc_s hfl, W_s, e, List.flatMap_cons, List.flatMap_nil, List.append_nil]
      exact g1
theorem W_sub (s : Nat) : ∀ j, W f (j + 1) s = (W f j s).flatMap f
  | 0 => by
    rw [W_s]
    show (f s).flatMap (fun c => [c]) = [s].flatMap f
    simp
  | j + 1 => by
    rw [W_s, W_s (j := j), List.flatMap_assoc]
    congr 1
    funext c
    exact W_sub c j
theorem W_pre {c : Nat} {r : List Nat} (e : f c = c :: r) (j : Nat) : ∃ t, W f (j + 1) c = W f j c ++ t := ⟨r.flatMap (W f j), by rw [W_s, e, List.flatMap_cons]⟩
theorem W_preL {c : Nat} {r : List Nat} (e : f c = c :: r) (j : Nat) : ∀ d, ∃ t, W f (j + d) c = W f j c ++ t
  | 0 => ⟨[], by simp⟩
  | d + 1 => by
    obtain ⟨t, h⟩ := W_preL e j d
    obtain ⟨u, g⟩ := W_pre e (j + d)
    exact ⟨t ++ u, by rw [show j + (d + 1) = j + d + 1 from rfl, g, h, List.append_assoc]⟩
/-- both begin alike -/
theorem W_same {c : Nat} {r : List Nat} (e : f c = c :: r) {i j n : Nat} (hi : n < (W f i c).length) (hj : n < (W f j c).length) : (W f i c)[n]? = (W f j c)[n]? := by
  rcases Nat.le_total i j with h | h
  · obtain ⟨t, g⟩ := W_preL e i (j - i)
    rw [show i + (j - i) = j by omega] at g
    rw [g, List.getElem?_append_left hi]
  · obtain ⟨t, g⟩ := W_preL e j (i - j)
    rw [show j + (i - j) = i by omega] at g
    rw [g, List.getElem?_append_left hj]
theorem W_take {c : Nat} {r : List Nat} (e : f c = c :: r) {i j n : Nat} (hi : n ≤ (W f i c).length) (hj : n ≤ (W f j c).length) : (W f i c).take n = (W f j c).take n := by
  apply List.ext_getElem?
  intro m
  rw [List.getElem?_take, List.getElem?_take]
  split
  · exact W_same e (by omega) (by omega)
  · rfl
end
/-! ### stands as they are come to -/
theorem add1_in (st : List Nat) (c : Nat) : c ∈ add1 st c := by
  unfold add1
  split
  · assumption
  · simp
theorem add1_pre (st : List Nat) (c : Nat) : ∃ t, add1 st c = st ++ t := by
  unfold add1
  split
  · exact ⟨[], by simp⟩
  · exact ⟨[c], rfl⟩
theorem addL_pre : ∀ (w st : List Nat), ∃ t, addL st w = st ++ t
  | [], st => ⟨[], by simp [addL]⟩
  | c :: w, st => by
    obtain ⟨t, h⟩ := add1_pre st c
    obtain ⟨u, g⟩ := addL_pre w (add1 st c)
    exact ⟨t ++ u, by rw [addL, g, h, List.append_assoc]⟩
theorem addL_in : ∀ (w st : List Nat), ∀ c ∈ w, c ∈ addL st w
  | [], _, c, h => by cases h
  | x :: w, st, c, h => by
    rw [addL]
    rcases List.mem_cons.mp h with rfl | h
    · obtain ⟨t, g⟩ := addL_pre w (add1 st c)
      rw [g]
      exact List.mem_append_left _ (add1_in st c)
    · exact addL_in w _ c h
theorem addL_nd : ∀ (w st : List Nat), st.Nodup → (addL st w).Nodup
  | [], _, h => h
  | c :: w, st, h => by
    rw [addL]
    refine addL_nd w _ ?_
    unfold add1
    split
    · exact h
    · rename_i hc
      rw [List.nodup_append]
      exact ⟨h, by simp, fun a ha b hb => by rw [List.mem_singleton.mp hb]; exact fun z => hc (z ▸ ha)⟩
theorem addL_sub {P : Nat → Prop} : ∀ (w st : List Nat), (∀ c ∈ st, P c) → (∀ c ∈ w, P c) → ∀ c ∈ addL st w, P c
  | [], _, h, _ => h
  | c :: w, st, h, g => by
    rw [addL]
    refine addL_sub w _ (fun x hx => ?_) fun x hx => g x (by simp [hx])
    unfold add1 at hx
    split at hx
    · exact h x hx
    · rcases List.mem_append.mp hx with hx | hx
      · exact h x hx
      · rw [List.mem_singleton.mp hx]
        exact g c (by simp)
theorem idx_app {st t : List Nat} {c : Nat} (h : c ∈ st) : (st ++ t).idxOf c = st.idxOf c := by
  rw [List.idxOf_append, if_pos h]
/-- the numbers told while the word is gone through -/
def lnL : List Nat → List Nat → List Int
  | _, [] => []
  | st, c :: w => (((add1 st c).idxOf c : Nat) : Int) :: lnL (add1 st c) w
theorem lnL_eq : ∀ (w st : List Nat), lnL st w = w.map fun c => (((addL st w).idxOf c : Nat) : Int)
  | [], _ => rfl
  | c :: w, st => by
    rw [lnL, lnL_eq w, addL, List.map_cons]
    obtain ⟨t, g⟩ := addL_pre w (add1 st c)
    rw [g, idx_app (add1_in st c)]
/-- the stands so far: all of the first i are closed -/
structure BfsOk (P : Nat → Prop) (f : Nat → List Nat) (st : List Nat) (i : Nat) : Prop where
  nd : st.Nodup
  sub : ∀ c ∈ st, P c
  cl : ∀ j c, j < i → st[j]? = some c → ∀ d ∈ f c, d ∈ st
  le : i ≤ st.length
theorem BfsOk.next {P : Nat → Prop} {f : Nat → List Nat} {st : List Nat} {i : Nat} (h : BfsOk P f st i) (hf : ∀ c, P c → ∀ d ∈ f c, P d) (hi : i < st.length) : BfsOk P f (addL st (f st[i])) (i + 1) := by
  obtain ⟨t, g⟩ := addL_pre (f st[i]) st
  refine ⟨addL_nd _ _ h.nd, addL_sub _ _ h.sub (hf _ (h.sub _ (List.getElem_mem hi))), fun j c hj e d hd => ?_, ?_⟩
  · rw [g, List.getElem?_append_left (by omega)] at e
    by_cases z : j < i
    · rw [g]
      exact List.mem_append_left _ (h.cl j c z e d hd)
    · obtain rfl : j = i := by omega
      rw [List.getElem?_eq_getElem hi] at e
      cases e
      exact addL_in _ _ d hd
  · rw [g, List.length_append]
    omega
theorem nd_le {st : List Nat} {xs : List Nat} (h : st.Nodup) (g : ∀ c ∈ st, c ∈ xs) : st.length ≤ xs.length := by
  induction st generalizing xs with
  | nil => simp
  | cons c st ih =>
    have h' := List.nodup_cons.mp h
    have hc : c ∈ xs := g c (by simp)
    have := ih (xs := xs.erase c) h'.2 fun d hd => by
      have : d ≠ c := fun z => h'.1 (z ▸ hd)
      exact (List.mem_erase_of_ne this).mpr (g d (by simp [hd]))
    rw [List.length_erase_of_mem hc] at this
    have : 0 < xs.length := List.length_pos_of_mem hc
    rw [List.length_cons]
    omega
theorem bfs_ok {xs : List Nat} {f : Nat → List Nat} (hf : ∀ c, c ∈ xs → ∀ d ∈ f c, d ∈ xs) (hx : xs.length ≤ 8) : ∀ t st i, i + t = 8 → BfsOk (· ∈ xs) f st i → (bfs f t st i).length ≤ 8 ∧ BfsOk (· ∈ xs) f (bfs f t st i) (bfs f t st i).length ∧ ∃ u, bfs f t st i = st ++ u
  | 0, st, i, e, h => by
    have hl := nd_le h.nd h.sub
    have : i = st.length := by have := h.le; omega
    rw [bfs]
    exact ⟨by omega, this ▸ h, [], by simp⟩
  | t + 1, st, i, e, h => by
    rw [bfs]
    split
    · rename_i hi
      obtain ⟨a, b, u, c⟩ := bfs_ok hf hx t _ (i + 1) (by omega) (h.next hf hi)
      obtain ⟨v, g⟩ := addL_pre (f st[i]) st
      exact ⟨a, b, v ++ u, by rw [c, g, List.append_assoc]⟩
    · rename_i hi
      have hl := nd_le h.nd h.sub
      have : i = st.length := by have := h.le; omega
      exact ⟨by omega, this ▸ h, [], by simp⟩
/-! ### rules -/
theorem look_of {rl : RL} (h : (rl.map (·.1)).Nodup) {c : Nat} {w : List Nat} (m : (c, w) ∈ rl) : rl.lookup c = some w := by
  induction rl with
  | nil => cases m
  | cons p r ih =>
    obtain ⟨d, v⟩ := p
    rw [List.map_cons, List.nodup_cons] at h
    rw [List.lookup_cons]
    rcases List.mem_cons.mp m with z | m
    · cases z
      simp
    · have : c ≠ d := fun z => h.1 (z ▸ List.mem_map.mpr ⟨_, m, rfl⟩)
      rw [beq_eq_false_iff_ne.mpr this]
      exact ih h.2 m
theorem wf_of {rl : RL} (h : (rl.map (·.1)).Nodup) {c : Nat} {w : List Nat} (m : (c, w) ∈ rl) : wf rl c = w := by
  unfold wf
  rw [look_of h m]
  rfl
theorem OkRl.sub {k : Int} {rl : RL} (hk : K3 k) (h : OkRl k rl) : SubOk k (wf rl) (Lg rl) (Sh rl) where
  lg := fun c ⟨w, m, l⟩ => by
    rw [wf_of h.nd m]
    rcases h.wd _ m with ⟨l', e, _⟩ | ⟨ls, s, e, r⟩
    · rw [show w = [l'] from e] at l
      simp at l
    · exact ⟨ls, s, e, r⟩
  sh := fun c ⟨w, m, l⟩ => by
    rw [wf_of h.nd m]
    rcases h.wd _ m with ⟨l', e, g⟩ | ⟨ls, s, e, r1, _⟩
    · exact ⟨l', e, g⟩
    · rw [show w = ls ++ [s] from e, List.length_append] at l
      have := hk.1
      simp at l
      subst l
      simp at r1
      omega
theorem OkRl.first {k : Int} {rl : RL} (h : OkRl k rl) : Lg rl (frst rl) ∧ ∃ r, wf rl (frst rl) = frst rl :: r := by
  obtain ⟨c, e, w, r, z⟩ := h.hd
  have hf : frst rl = c := by rw [z]; rfl
  have m : (c, c :: e :: w) ∈ rl := by rw [z]; simp
  rw [hf, wf_of h.nd m]
  exact ⟨⟨_, m, by simp⟩, _, rfl⟩
def sgs (rl : RL) : List Nat := rl.map (·.1)
theorem lg_sg {rl : RL} {c : Nat} (h : Lg rl c) : c ∈ sgs rl := let ⟨_, m, _⟩ := h; List.mem_map.mpr ⟨_, m, rfl⟩
theorem sh_sg {rl : RL} {c : Nat} (h : Sh rl c) : c ∈ sgs rl := let ⟨_, m, _⟩ := h; List.mem_map.mpr ⟨_, m, rfl⟩
theorem wd_sg {k : Int} {rl : RL} {w : List Nat} (h : WdOk k rl w) : ∀ c ∈ w, c ∈ sgs rl := fun c hc => by
  rcases h with ⟨l, rfl, g⟩ | ⟨ls, s, rfl, _, g1, g2⟩
  · rw [List.mem_singleton.mp hc]
    exact lg_sg g
  · rcases List.mem_append.mp hc with hc | hc
    · exact lg_sg (g1 c hc)
    · rw [List.mem_singleton.mp hc]
      exact sh_sg g2
theorem OkRl.cl {k : Int} {rl : RL} (h : OkRl k rl) : ∀ c, c ∈ sgs rl → ∀ d ∈ wf rl c, d ∈ sgs rl := fun c hc d hd => by
  obtain ⟨⟨c', w⟩, m, rfl⟩ := List.mem_map.mp hc
  rw [wf_of h.nd m] at hd
  exact wd_sg (h.wd _ m) d hd
theorem OkRl.st {k : Int} {rl : RL} (h : OkRl k rl) : (stOf rl).length ≤ 8 ∧ BfsOk (· ∈ sgs rl) (wf rl) (stOf rl) (stOf rl).length ∧ ∃ u, stOf rl = frst rl :: u := by
  have h0 : BfsOk (· ∈ sgs rl) (wf rl) [frst rl] 0 := ⟨by simp, fun c hc => by rw [List.mem_singleton.mp hc]; exact lg_sg h.first.1, fun j c hj => by omega, by simp⟩
  obtain ⟨a, b, u, c⟩ := bfs_ok h.cl (by unfold sgs; rw [List.length_map]; exact h.n8) 8 _ 0 rfl h0
  exact ⟨a, b, u, c⟩
theorem wd_len {k : Int} {rl : RL} {w : List Nat} (hk : K3 k) (h : WdOk k rl w) : 1 ≤ w.length ∧ (w.length : Int) ≤ k + 1 ∧ (w.length = 1 ∨ (w.length : Int) = k + 1) := by
  have := hk.1
  rcases h with ⟨l, rfl, g⟩ | ⟨ls, s, rfl, e, _⟩
  · exact ⟨by simp, by simp; omega, .inl rfl⟩
  · rw [List.length_append, List.length_cons, List.length_nil]
    omega
theorem wf_len {k : Int} {rl : RL} (hk : K3 k) (h : OkRl k rl) {c : Nat} (hc : c ∈ sgs rl) : 1 ≤ (wf rl c).length ∧ ((wf rl c).length : Int) ≤ k + 1 := by
  obtain ⟨⟨c', w⟩, m, rfl⟩ := List.mem_map.mp hc
  rw [wf_of h.nd m]
  have := wd_len hk (h.wd _ m)
  exact ⟨this.1, this.2.1⟩
theorem line_len {k : Int} {f : Nat → List Nat} {S : List Nat} {s : Nat} (h : ((f s).length : Int) ≤ k + 1) : ((lineOf k f S s).length : Int) = k + 1 := by
  unfold lineOf
  rw [List.length_append, List.length_map, List.length_replicate]
  omega
theorem line_at {k : Int} {f : Nat → List Nat} {S : List Nat} {s c i : Nat} (h : (f s)[i]? = some c) : (lineOf k f S s)[i]? = some ((S.idxOf c : Nat) : Int) := by
  unfold lineOf
  rw [List.getElem?_append_left (by rw [List.length_map]; exact (List.getElem?_eq_some_iff.mp h).1), List.getElem?_map, h]
  rfl
theorem OkRl.mv {k : Int} {rl : RL} (hk : K3 k) (h : OkRl k rl) : OkMv k (mvOf k rl) := by
  obtain ⟨a, b, u, e⟩ := h.st
  have hl : (mvOf k rl).length = (stOf rl).length := by unfold mvOf; rw [List.length_map]
  have ln : ∀ l ∈ mvOf k rl, ∃ s ∈ stOf rl, l = lineOf k (wf rl) (stOf rl) s := fun l hl => by
    obtain ⟨s, hs, z⟩ := List.mem_map.mp hl
    exact ⟨s, hs, z.symm⟩
  refine ⟨by rw [hl, e]; simp, by omega, fun l hl => ?_, fun l hl2 s hs => ?_, ?_⟩
  · obtain ⟨s, hs, rfl⟩ := ln l hl
    exact line_len (wf_len hk h (b.sub s hs)).2
  · obtain ⟨t, ht, rfl⟩ := ln l hl2
    unfold lineOf at hs
    rw [hl]
    have : 1 ≤ (stOf rl).length := by rw [e]; simp
    rcases List.mem_append.mp hs with hs | hs
    · obtain ⟨c, hc, rfl⟩ := List.mem_map.mp hs
      obtain ⟨j, hj, z⟩ := List.getElem_of_mem ht
      have := b.cl j t hj (by rw [List.getElem?_eq_getElem hj, z]) c hc
      have := List.idxOf_lt_length_of_mem this
      omega
    · rw [List.eq_of_mem_replicate hs]
      omega
  · obtain ⟨_, r, g⟩ := h.first
    refine ⟨(lineOf k (wf rl) (stOf rl) (frst rl)).tail, u.map (lineOf k (wf rl) (stOf rl)), ?_⟩
    have e0 : lineOf k (wf rl) (stOf rl) (frst rl) = 0 :: (lineOf k (wf rl) (stOf rl) (frst rl)).tail := by
      have : (stOf rl).idxOf (frst rl) = 0 := by rw [e]; simp
      unfold lineOf
      rw [g, List.map_cons, this]
      rfl
    unfold mvOf
    rw [← e0]
    have key : ∀ g : Nat → List Int, (stOf rl).map g = g (frst rl) :: u.map g := fun g => by rw [e]; rfl
    exact key _
theorem mk_in {k : Int} {rl : RL} {v : Option (List Nat)} (h : OkRl k rl) (hv : OkSh rl v) {c : Nat} (hc : c ∈ sgs rl) : 97 ≤ mkF rl v c ∧ mkF rl v c ≤ 122 := by
  cases v with
  | none =>
    obtain ⟨p, m, rfl⟩ := List.mem_map.mp hc
    exact h.lt p m
  | some v =>
    refine hv.2 _ ?_
    unfold mkF
    have : (rl.map (·.1)).idxOf c < v.length := by
      rw [hv.1]
      have := List.idxOf_lt_length_of_mem hc
      unfold sgs at this
      rw [List.length_map] at this
      exact this
    exact getD_in this
theorem OkRl.sg {k : Int} {rl : RL} {v : Option (List Nat)} (h : OkRl k rl) (hv : OkSh rl v) : OkSg (mvOf k rl) (sgOf rl v) := by
  obtain ⟨a, b, u, e⟩ := h.st
  refine ⟨?_, fun c hc => ?_⟩
  · show ((stOf rl).map (mkF rl v)).toArray.size = _
    unfold mvOf
    simp
  · have hc : c ∈ (stOf rl).map (mkF rl v) := hc
    obtain ⟨d, hd, rfl⟩ := List.mem_map.mp hc
    exact mk_in h hv (b.sub d hd)
/-- the stands are led to as the signs are -/
theorem walk_desc {k : Int} {rl : RL} (hk : K3 k) (h : OkRl k rl) : ∀ (l : List Int) (s : Nat), s ∈ stOf rl → Val (wf rl) s l → desc (wf rl) s l ∈ stOf rl ∧ walk (mvOf k rl) (((stOf rl).idxOf s : Nat) : Int) l = (((stOf rl).idxOf (desc (wf rl) s l) : Nat) : Int)
  | [], s, hs, _ => ⟨hs, rfl⟩
  | d :: r, s, hs, ⟨h0, c, hc, hv⟩ => by
    obtain ⟨a, b, u, e⟩ := h.st
    have hi := List.idxOf_lt_length_of_mem hs
    have gi : (stOf rl)[(stOf rl).idxOf s]? = some s := by rw [List.getElem?_eq_getElem hi, List.getElem_idxOf]
    have hcs : c ∈ stOf rl := b.cl _ s hi gi c (List.mem_of_getElem? hc)
    obtain ⟨g1, g2⟩ := walk_desc hk h r c hcs hv
    rw [desc_s hc, walk]
    refine ⟨g1, ?_⟩
    have : stp (mvOf k rl) (((stOf rl).idxOf s : Nat) : Int) d = (((stOf rl).idxOf c : Nat) : Int) := by
      unfold stp mvOf
      rw [Int.toNat_natCast, List.getElem?_map, gi]
      simp only [Option.map_some, Option.getD_some]
      rw [line_at hc]
      rfl
    rw [this]
    exact g2
/-- the sign at a place is that of the turns -/
theorem sgc_rule {k : Int} {rl : RL} {v : Option (List Nat)} (hk : K3 k) (h : OkRl k rl) {m : Int} (h0 : 0 ≤ m) {i j : Nat} (hi : m < un k i) (hj : m < un k j) :
    ∃ c, (W (wf rl) j (frst rl))[m.toNat]? = some c ∧ c ∈ sgs rl ∧ (sgOf rl v).cps.toList[(walk (mvOf k rl) 0 (dg k m i)).toNat]?.getD 0 = mkF rl v c := by
  obtain ⟨a, b, u, e⟩ := h.st
  obtain ⟨hl, r, g⟩ := h.first
  have hs : frst rl ∈ stOf rl := by rw [e]; simp
  have hz : (stOf rl).idxOf (frst rl) = 0 := by rw [e]; simp
  obtain ⟨w1, w2⟩ := (W_at hk (h.sub hk) i).1 _ hl m h0 hi
  obtain ⟨d1, d2⟩ := walk_desc hk h _ _ hs w2
  rw [hz] at d2
  have l1 := (W_len hk (h.sub hk) i).1 _ hl
  have l2 := (W_len hk (h.sub hk) j).1 _ hl
  refine ⟨_, (W_same g (by omega) (by omega)).trans w1, b.sub _ d1, ?_⟩
  rw [show (0 : Int) = ((0 : Nat) : Int) from rfl, d2, Int.toNat_natCast]
  have hi := List.idxOf_lt_length_of_mem d1
  show ((stOf rl).map (mkF rl v))[_]?.getD 0 = _
  rw [List.getElem?_map, List.getElem?_eq_getElem hi, List.getElem_idxOf]
  rfl
theorem ch_eq (c : Nat) : ch c = .str (chS c) := rfl
theorem chS_inj {a b : Nat} (h : chS a = chS b) : a = b := by
  have : (chS a).cps.toList = (chS b).cps.toList := by rw [h]
  simpa [chS] using this
theorem wd_look {rl : RL} (h : (rl.map (·.1)).Nodup) {c : Nat} {w : List Nat} (m : (c, w) ∈ rl) : (wdD rl).lookup (chS c) = some (ws w) := by
  induction rl with
  | nil => cases m
  | cons p r ih =>
    obtain ⟨d, v⟩ := p
    rw [List.map_cons, List.nodup_cons] at h
    show List.lookup (chS c) ((chS d, ws v) :: wdD r) = _
    rw [List.lookup_cons]
    rcases List.mem_cons.mp m with z | m
    · cases z
      simp
    · have : c ≠ d := fun z => h.1 (z ▸ List.mem_map.mpr ⟨_, m, rfl⟩)
      rw [beq_eq_false_iff_ne.mpr fun z => this (chS_inj z)]
      exact ih h.2 m
theorem wd_lookf {k : Int} {rl : RL} (h : OkRl k rl) {c : Nat} (hc : c ∈ sgs rl) : (wdD rl).lookup (chS c) = some (ws (wf rl c)) := by
  obtain ⟨⟨d, w⟩, m, rfl⟩ := List.mem_map.mp hc
  rw [wf_of h.nd m]
  exact wd_look h.nd m
theorem wd_none {rl : RL} {c : Nat} (h : c ∉ rl.map (·.1)) : (wdD rl).lookup (chS c) = none := by
  induction rl with
  | nil => rfl
  | cons p r ih =>
    obtain ⟨d, v⟩ := p
    rw [List.map_cons, List.mem_cons, not_or] at h
    show List.lookup (chS c) ((chS d, ws v) :: wdD r) = _
    rw [List.lookup_cons, beq_eq_false_iff_ne.mpr fun z => h.1 (chS_inj z)]
    exact ih h.2
theorem mk_look {rl : RL} {v : Option (List Nat)} {c : Nat} (hc : c ∈ sgs rl) : (mkD rl v).lookup (chS c) = some (ch (mkF rl v c)) := by
  have key : ∀ (g : Nat → D) (r : RL), c ∈ sgs r → (r.map fun p => (chS p.1, g p.1)).lookup (chS c) = some (g c) := by
    intro g r
    induction r with
    | nil => intro h; cases h
    | cons p r ih =>
      intro h
      rw [List.map_cons, List.lookup_cons]
      by_cases e : c = p.1
      · subst e
        simp
      · rw [beq_eq_false_iff_ne.mpr fun z => e (chS_inj z)]
        exact ih ((List.mem_cons.mp (show c ∈ p.1 :: sgs r from h)).resolve_left e)
  exact key (fun c => ch (mkF rl v c)) rl hc
theorem sput_new {α : Type} {xs : List (PySem.Str × α)} {k : PySem.Str} {v : α} (h : xs.lookup k = none) : sput xs k v = xs ++ [(k, v)] := by
  unfold sput
  rw [if_neg]
  intro z
  obtain ⟨p, hp, e⟩ := List.any_eq_true.mp z
  have e := of_decide_eq_true e
  induction xs with
  | nil => cases hp
  | cons a r ih =>
    rw [List.lookup_cons] at h
    cases hb : k == a.1 with
    | true =>
      rw [hb] at h
      cases h
    | false =>
      rw [hb] at h
      rcases List.mem_cons.mp hp with rfl | hp
      · rw [← e, beq_self_eq_true] at hb
        cases hb
      · exact ih h (by simpa [List.any_cons, beq_eq_false_iff_ne.mp hb, Ne.symm (beq_eq_false_iff_ne.mp hb)] using z) hp
theorem ws_len (w : List Nat) : (⟨w.toArray⟩ : PySem.Str).length = w.length := by
  show w.toArray.size = _
  simp
theorem sz_eq : sizeLine = 16777216 := rfl
theorem pr_at0 (p : Nat × List Nat) : atD [ch p.1, ws p.2] 0 = some (ch p.1) := atD_0
theorem pr_at1 (p : Nat × List Nat) : atD [ch p.1, ws p.2] 1 = some (ws p.2) := atD_1
theorem wd_mono {k : Int} {rl : RL} {w : List Nat} (h : WdOk k rl w) : ∀ c ∈ w, c ∈ sgs rl := wd_sg h
theorem wd_let {k : Int} {rl : RL} (h : OkRl k rl) {w : List Nat} (g : WdOk k rl w) : ∀ c ∈ w, 97 ≤ c ∧ c ≤ 122 := fun c hc => by
  obtain ⟨p, m, rfl⟩ := List.mem_map.mp (wd_sg g c hc)
  exact h.lt p m
theorem hw_is_pair (A : Ad) : ∀ ds er q, ds.length = 2 → S_is_pair A ds er q → w_is_pair A { nx := fun _ => q .non, rt := q, er := er } (envOf 2 ds) := by
  intro ds er q hlen h
  unfold S_is_pair at h
  split at h
  · rename_i k d
    obtain ⟨⟨c, w⟩, rfl, hk, hc, hl, hw, hq⟩ := h
    have h1 := hk.1
    have h2 := hk.2
    simp [w_is_pair, wVar, wC, w2, w1, wNil, wCons, wTup, wLstO, wFz, wLk, wOwn, wAnd, wOr, wNot, wB, wYes, wIf, wFldC, wCB, wCBL, wCall0, wMeth0, wMethN0, wMakeK0, wMake0, sSeq, sNext, sNever, sRet, sRetN, sRetO, sIf, sAsg, sAsgO, sPar, sParO, sPar3, sParO3, sAsgG, gTupD, setAll, sAug, sApp, sFldI, tyAnd, tyOr, tyNot, iRg1, iRg2, iLst, iTupW, sFor, dAdd, dSub, dMul, dMulT, dDiv, dMod, dPow, dNeg, dLt, dLe, dGt, dGe, dIsN, DL.isNon, dNotN, dEq, dNe, dIx, dLen, dInt, dAbs, dMax2, dMin2, lLen, lTup, isA, envOf, envI, putD, gVar, wRev, wRevT, wIxL, wSl, wSlO, wNoP, wPart, wBag, okD_int, okD_bl, okD_non, eqD_int, eqD_bl, wipeE, wChain, wCallI0, wCallIK0, iSt, dLenO, wLRg1, wJoin, sDrop, wDGet, wDIn, wDNotIn, dE, dOwn, sDPutW, sFrzD, sFrz, sAsgN, sParN, sParN3, nE, nO, nDict, nDisp1, wFzD, NV.sv, iEnumW, wInS, wIndexS, wCatO, dInI, iKeysW, wMaxV, wCntT, lTupX, isT, bts, prR, atD_0, atD_1, ch, ws, S_are_small, dInI, intsD]
    have e1 : (⟨#[c]⟩ : PySem.Str).length = 1 := rfl
    have e2 : (⟨w.toArray⟩ : PySem.Str).length = w.length := ws_len w
    have hc : 97 ≤ c ∧ c ≤ 122 := hc
    have hl : w.length = 1 ∨ (w.length : Int) = k + 1 := hl
    have hw : ∀ c ∈ w, 97 ≤ c ∧ c ≤ 122 := hw
    rw [e2]
    rw [e1, sz_eq]
    refine ⟨⟨by decide, by decide, by decide, hc⟩, ⟨by omega, by omega, by omega, hw⟩, by omega, by omega, ?_⟩
    rw [← Bool.decide_or, decide_eq_true (show (w.length : Int) = 1 ∨ (w.length : Int) = k + 1 by omega)]
    exact hq
  · exact h.elim
theorem hw_is_well_worded (A : Ad) : ∀ ds er q, ds.length = 2 → S_is_well_worded A ds er q → w_is_well_worded A { nx := fun _ => q .non, rt := q, er := er } (envOf 4 ds) := by
  intro ds er q hlen h
  unfold S_is_well_worded at h
  split at h
  · rename_i fs x
    obtain ⟨k, rl, w, rfl, rfl, hk, ok, hw, hq⟩ := h
    have hl := wd_len hk hw
    have h1 := hk.1
    have h2 := hk.2
    have look : ∀ c ∈ w, (wdD rl).lookup (chS c) = some (ws (wf rl c)) := fun c hc => wd_lookf ok (wd_sg hw c hc)
    have e2 : (⟨w.toArray⟩ : PySem.Str).length = w.length := ws_len w
    simp [w_is_well_worded, wVar, wC, w2, w1, wNil, wCons, wTup, wLstO, wFz, wLk, wOwn, wAnd, wOr, wNot, wB, wYes, wIf, wFldC, wCB, wCBL, wCall0, wMeth0, wMethN0, wMakeK0, wMake0, sSeq, sNext, sNever, sRet, sRetN, sRetO, sIf, sAsg, sAsgO, sPar, sParO, sPar3, sParO3, sAsgG, gTupD, setAll, sAug, sApp, sFldI, tyAnd, tyOr, tyNot, iRg1, iRg2, iLst, iTupW, sFor, dAdd, dSub, dMul, dMulT, dDiv, dMod, dPow, dNeg, dLt, dLe, dGt, dGe, dIsN, DL.isNon, dNotN, dEq, dNe, dIx, dLen, dInt, dAbs, dMax2, dMin2, lLen, lTup, isA, envOf, envI, putD, gVar, wRev, wRevT, wIxL, wSl, wSlO, wNoP, wPart, wBag, okD_int, okD_bl, okD_non, eqD_int, eqD_bl, wipeE, wChain, wCallI0, wCallIK0, iSt, dLenO, wLRg1, wJoin, sDrop, wDGet, wDIn, wDNotIn, dE, dOwn, sDPutW, sFrzD, sFrz, sAsgN, sParN, sParN3, nE, nO, nDict, nDisp1, wFzD, NV.sv, iEnumW, wInS, wIndexS, wCatO, dInI, iKeysW, wMaxV, wCntT, lTupX, wLc, wDIn, dE]
    refine DL.comp_map (c := fun (c : Nat) => D.str ⟨#[c]⟩) (l := w) (ev := fun c => [.d (.dct (wdD rl)), .d (.str ⟨w.toArray⟩), .d (.str ⟨#[c]⟩), .un]) (f := fun _ => .bl true) (fun c _ Q h => ?_) (fun c hc Q h => ?_) ?_ ?_
    · simpa [gVar] using h
    · simp [wVar, wC, w2, w1, wNil, wCons, wTup, wLstO, wFz, wLk, wOwn, wAnd, wOr, wNot, wB, wYes, wIf, wFldC, wCB, wCBL, wCall0, wMeth0, wMethN0, wMakeK0, wMake0, sSeq, sNext, sNever, sRet, sRetN, sRetO, sIf, sAsg, sAsgO, sPar, sParO, sPar3, sParO3, sAsgG, gTupD, setAll, sAug, sApp, sFldI, tyAnd, tyOr, tyNot, iRg1, iRg2, iLst, iTupW, sFor, dAdd, dSub, dMul, dMulT, dDiv, dMod, dPow, dNeg, dLt, dLe, dGt, dGe, dIsN, DL.isNon, dNotN, dEq, dNe, dIx, dLen, dInt, dAbs, dMax2, dMin2, lLen, lTup, isA, envOf, envI, putD, gVar, wRev, wRevT, wIxL, wSl, wSlO, wNoP, wPart, wBag, okD_int, okD_bl, okD_non, eqD_int, eqD_bl, wipeE, wChain, wCallI0, wCallIK0, iSt, dLenO, wLRg1, wJoin, sDrop, wDGet, wDIn, wDNotIn, dE, dOwn, sDPutW, sFrzD, sFrz, sAsgN, sParN, sParN3, nE, nO, nDict, nDisp1, wFzD, NV.sv, iEnumW, wInS, wIndexS, wCatO, dInI, iKeysW, wMaxV, wCntT, lTupX, wDIn, dE]
      have := look c hc
      unfold chS at this
      rw [this]
      exact h
    · rw [sz_eq]
      omega
    · refine all_map (fun _ => true) _ _ ?_
      rw [all_yes]
      refine ⟨fun z => (nomatch z), fun _ => ?_⟩
      refine DL.comp_map (c := fun (c : Nat) => D.str ⟨#[c]⟩) (l := w) (ev := fun c => [.d (.dct (wdD rl)), .d (.str ⟨w.toArray⟩), .d (.str ⟨#[c]⟩), .un]) (f := fun c => .bl (decide (1 < ((wf rl c).length : Int)))) (fun c _ Q h => ?_) (fun c hc Q h => ?_) ?_ ?_
      · simpa [gVar] using h
      · have hwl := wf_len hk ok (wd_sg hw c hc)
        simp [wVar, wC, w2, w1, wNil, wCons, wTup, wLstO, wFz, wLk, wOwn, wAnd, wOr, wNot, wB, wYes, wIf, wFldC, wCB, wCBL, wCall0, wMeth0, wMethN0, wMakeK0, wMake0, sSeq, sNext, sNever, sRet, sRetN, sRetO, sIf, sAsg, sAsgO, sPar, sParO, sPar3, sParO3, sAsgG, gTupD, setAll, sAug, sApp, sFldI, tyAnd, tyOr, tyNot, iRg1, iRg2, iLst, iTupW, sFor, dAdd, dSub, dMul, dMulT, dDiv, dMod, dPow, dNeg, dLt, dLe, dGt, dGe, dIsN, DL.isNon, dNotN, dEq, dNe, dIx, dLen, dInt, dAbs, dMax2, dMin2, lLen, lTup, isA, envOf, envI, putD, gVar, wRev, wRevT, wIxL, wSl, wSlO, wNoP, wPart, wBag, okD_int, okD_bl, okD_non, eqD_int, eqD_bl, wipeE, wChain, wCallI0, wCallIK0, iSt, dLenO, wLRg1, wJoin, sDrop, wDGet, wDIn, wDNotIn, dE, dOwn, sDPutW, sFrzD, sFrz, sAsgN, sParN, sParN3, nE, nO, nDict, nDisp1, wFzD, NV.sv, iEnumW, wInS, wIndexS, wCatO, dInI, iKeysW, wMaxV, wCntT, lTupX, wDGet, dE]
        have := look c hc
        unfold chS at this
        rw [this]
        simp [ws, ws_len]
        refine ⟨by rw [sz_eq]; omega, ?_⟩
        simpa using h
      · rw [sz_eq]
        omega
      · have hf : ∀ c, Lg rl c → decide (1 < ((wf rl c).length : Int)) = true := fun c ⟨v, m, g⟩ => by
          rw [wf_of ok.nd m]
          exact decide_eq_true (by omega)
        have hs : ∀ c, Sh rl c → decide (1 < ((wf rl c).length : Int)) = false := fun c ⟨v, m, g⟩ => by
          rw [wf_of ok.nd m]
          exact decide_eq_false (by omega)
        have okb : ∀ l : List Bool, okL 1 (.lst (l.map D.bl)) := fun l => okL_lst fun x hx => by
          obtain ⟨b, _, rfl⟩ := List.mem_map.mp hx
          exact okL_bl b
        simp [wVar, wC, w2, w1, wNil, wCons, wTup, wLstO, wFz, wLk, wOwn, wAnd, wOr, wNot, wB, wYes, wIf, wFldC, wCB, wCBL, wCall0, wMeth0, wMethN0, wMakeK0, wMake0, sSeq, sNext, sNever, sRet, sRetN, sRetO, sIf, sAsg, sAsgO, sPar, sParO, sPar3, sParO3, sAsgG, gTupD, setAll, sAug, sApp, sFldI, tyAnd, tyOr, tyNot, iRg1, iRg2, iLst, iTupW, sFor, dAdd, dSub, dMul, dMulT, dDiv, dMod, dPow, dNeg, dLt, dLe, dGt, dGe, dIsN, DL.isNon, dNotN, dEq, dNe, dIx, dLen, dInt, dAbs, dMax2, dMin2, lLen, lTup, isA, envOf, envI, putD, gVar, wRev, wRevT, wIxL, wSl, wSlO, wNoP, wPart, wBag, okD_int, okD_bl, okD_non, eqD_int, eqD_bl, wipeE, wChain, wCallI0, wCallIK0, iSt, dLenO, wLRg1, wJoin, sDrop, wDGet, wDIn, wDNotIn, dE, dOwn, sDPutW, sFrzD, sFrz, sAsgN, sParN, sParN3, nE, nO, nDict, nDisp1, wFzD, NV.sv, iEnumW, wInS, wIndexS, wCatO, dInI, iKeysW, wMaxV, wCntT, lTupX, e2]
        refine ⟨by rw [sz_eq]; omega, fun z => ?_, fun z => ?_⟩
        · refine ⟨by decide, ?_⟩
          rcases hw with ⟨l, rfl, g⟩ | ⟨ls, s, rfl, e, g1, g2⟩
          · have hh := hf l g
            simp at hh
            simp [hh]
            have o := okb [true]
            simp at o
            refine ⟨okD_of o (by decide), ?_⟩
            rw [eqD_refl o]
            exact hq
          · rw [List.length_append, List.length_cons, List.length_nil] at z
            omega
        · rcases hw with ⟨l, rfl, g⟩ | ⟨ls, s, rfl, e, g1, g2⟩
          · simp at z
          · have e3 : (((ls ++ [s]).length : Int) - 1).toNat = ls.length := by rw [List.length_append, List.length_cons, List.length_nil]; omega
            have e4 : (ls ++ [s]).length = ls.length + 1 := by simp
            have em : (ls ++ [s]).map (fun c => D.bl (decide (1 < ((wf rl c).length : Int)))) = (List.replicate ls.length true ++ [false]).map D.bl := by
              rw [List.map_append, List.map_append, List.map_replicate]
              congr 1
              · rw [List.map_congr_left (g := fun _ => D.bl true) fun c hc => by rw [hf c (g1 c hc)], List.map_const']
              · rw [List.map_cons, hs s g2]
                rfl
            have er : List.replicate ls.length (D.bl true) ++ [D.bl false] = (List.replicate ls.length true ++ [false]).map D.bl := by
              rw [List.map_append, List.map_replicate]
              rfl
            have o := okb (List.replicate ls.length true ++ [false])
            rw [e4, em, Nat.add_sub_cancel, er, eqD_refl o, sz_eq]
            exact ⟨by omega, by omega, ⟨by omega, by omega, by omega⟩, by omega, by omega, okD_of o (by decide), okD_of o (by decide), hq⟩
  · exact h.elim
theorem wdD_s (r : RL) (p : Nat × List Nat) : wdD (r ++ [p]) = wdD r ++ [(chS p.1, ws p.2)] := by
  unfold wdD
  rw [List.map_append]
  rfl
theorem loop_words1 (A : Ad) {k : Int} {rl : RL} {n : DN} (hk : K3 k) (ok : OkRl k rl) (hn : ∀ c d, n.nx [.d (.int k), .d (rlD rl), .dic (wdD rl), c, d]) : ∀ (t : RL) (done : RL) (i : Nat) (c d : SV), rl = done ++ t →
    sLoop (lb_words_of_1 A) (gTupD [3, 4]) n (enumD i (t.map prR)) [.d (.int k), .d (rlD rl), .dic (wdD done), c, d]
  | [], done, i, c, d, e => by
    rw [List.append_nil] at e
    subst e
    exact hn c d
  | p :: t, done, i, c, d, e => by
    have ih := loop_words1 A (n := n) hk ok hn t (done ++ [p]) (i + 1) (.d (.int i)) (.d (prR p)) (by rw [e, List.append_assoc]; rfl)
    have hp : p ∈ rl := by rw [e]; simp
    have hw := wd_len hk (ok.wd p hp)
    have nd := ok.nd
    have no : p.1 ∉ done.map (·.1) := by
      rw [e, List.map_append, List.nodup_append] at nd
      intro z
      exact nd.2.2 _ z p.1 (by simp) rfl
    have l8 := ok.n8
    rw [e, List.length_append] at l8
    rw [List.map_cons, enumD, sLoop]
    have lk := wd_none no
    simp [lb_words_of_1, wVar, wC, w2, w1, wNil, wCons, wTup, wLstO, wFz, wLk, wOwn, wAnd, wOr, wNot, wB, wYes, wIf, wFldC, wCB, wCBL, wCall0, wMeth0, wMethN0, wMakeK0, wMake0, sSeq, sNext, sNever, sRet, sRetN, sRetO, sIf, sAsg, sAsgO, sPar, sParO, sPar3, sParO3, sAsgG, gTupD, setAll, sAug, sApp, sFldI, tyAnd, tyOr, tyNot, iRg1, iRg2, iLst, iTupW, sFor, dAdd, dSub, dMul, dMulT, dDiv, dMod, dPow, dNeg, dLt, dLe, dGt, dGe, dIsN, DL.isNon, dNotN, dEq, dNe, dIx, dLen, dInt, dAbs, dMax2, dMin2, lLen, lTup, isA, envOf, envI, putD, gVar, wRev, wRevT, wIxL, wSl, wSlO, wNoP, wPart, wBag, okD_int, okD_bl, okD_non, eqD_int, eqD_bl, wipeE, wChain, wCallI0, wCallIK0, iSt, dLenO, wLRg1, wJoin, sDrop, wDGet, wDIn, wDNotIn, dE, dOwn, sDPutW, sFrzD, sFrz, sAsgN, sParN, sParN3, nE, nO, nDict, nDisp1, wFzD, NV.sv, iEnumW, wInS, wIndexS, wCatO, dInI, iKeysW, wMaxV, wCntT, lTupX, prR, atD_0, atD_1, ch_eq, lk]
    refine ⟨p, rfl, hk, ok.lt p hp, hw.2.2, wd_let ok (ok.wd p hp), rfl, fun _ => ⟨by unfold wdD; rw [List.length_map, sz_eq]; omega, ?_⟩⟩
    rw [sput_new lk, ← wdD_s]
    exact ih
theorem loop_words2 (A : Ad) {k : Int} {rl : RL} {n : DN} (hk : K3 k) (ok : OkRl k rl) (hn : ∀ c d, n.nx [.d (.int k), .d (rlD rl), .d (.dct (wdD rl)), c, d]) : ∀ (t : RL) (i : Nat) (c d : SV), (∀ p ∈ t, p ∈ rl) →
    sLoop (lb_words_of_2 A) (gTupD [3, 4]) n (enumD i (t.map prR)) [.d (.int k), .d (rlD rl), .d (.dct (wdD rl)), c, d]
  | [], i, c, d, e => hn c d
  | p :: t, i, c, d, e => by
    have ih := loop_words2 A (n := n) hk ok hn t (i + 1) (.d (.int i)) (.d (prR p)) (fun q hq => e q (by simp [hq]))
    rw [List.map_cons, enumD, sLoop]
    simp [lb_words_of_2, wVar, wC, w2, w1, wNil, wCons, wTup, wLstO, wFz, wLk, wOwn, wAnd, wOr, wNot, wB, wYes, wIf, wFldC, wCB, wCBL, wCall0, wMeth0, wMethN0, wMakeK0, wMake0, sSeq, sNext, sNever, sRet, sRetN, sRetO, sIf, sAsg, sAsgO, sPar, sParO, sPar3, sParO3, sAsgG, gTupD, setAll, sAug, sApp, sFldI, tyAnd, tyOr, tyNot, iRg1, iRg2, iLst, iTupW, sFor, dAdd, dSub, dMul, dMulT, dDiv, dMod, dPow, dNeg, dLt, dLe, dGt, dGe, dIsN, DL.isNon, dNotN, dEq, dNe, dIx, dLen, dInt, dAbs, dMax2, dMin2, lLen, lTup, isA, envOf, envI, putD, gVar, wRev, wRevT, wIxL, wSl, wSlO, wNoP, wPart, wBag, okD_int, okD_bl, okD_non, eqD_int, eqD_bl, wipeE, wChain, wCallI0, wCallIK0, iSt, dLenO, wLRg1, wJoin, sDrop, wDGet, wDIn, wDNotIn, dE, dOwn, sDPutW, sFrzD, sFrz, sAsgN, sParN, sParN3, nE, nO, nDict, nDisp1, wFzD, NV.sv, iEnumW, wInS, wIndexS, wCatO, dInI, iKeysW, wMaxV, wCntT, lTupX, prR, atD_1]
    exact ⟨k, rl, p.2, rfl, rfl, hk, ok, ok.wd p (e p (by simp)), rfl, fun _ => ih⟩
theorem hw_words_of (A : Ad) : ∀ ds er q, ds.length = 2 → S_words_of A ds er q → w_words_of A { nx := fun _ => q .non, rt := q, er := er } (envOf 5 ds) := by
  intro ds er q hlen h
  unfold S_words_of at h
  split at h
  · rename_i k d
    cases d with
    | tup t =>
      obtain ⟨rl, rfl, hk, ok, hq⟩ := h
      have h2 := ok.n2
      have h8 := ok.n8
      simp [w_words_of, wVar, wC, w2, w1, wNil, wCons, wTup, wLstO, wFz, wLk, wOwn, wAnd, wOr, wNot, wB, wYes, wIf, wFldC, wCB, wCBL, wCall0, wMeth0, wMethN0, wMakeK0, wMake0, sSeq, sNext, sNever, sRet, sRetN, sRetO, sIf, sAsg, sAsgO, sPar, sParO, sPar3, sParO3, sAsgG, gTupD, setAll, sAug, sApp, sFldI, tyAnd, tyOr, tyNot, iRg1, iRg2, iLst, iTupW, sFor, dAdd, dSub, dMul, dMulT, dDiv, dMod, dPow, dNeg, dLt, dLe, dGt, dGe, dIsN, DL.isNon, dNotN, dEq, dNe, dIx, dLen, dInt, dAbs, dMax2, dMin2, lLen, lTup, isA, envOf, envI, putD, gVar, wRev, wRevT, wIxL, wSl, wSlO, wNoP, wPart, wBag, okD_int, okD_bl, okD_non, eqD_int, eqD_bl, wipeE, wChain, wCallI0, wCallIK0, iSt, dLenO, wLRg1, wJoin, sDrop, wDGet, wDIn, wDNotIn, dE, dOwn, sDPutW, sFrzD, sFrz, sAsgN, sParN, sParN3, nE, nO, nDict, nDisp1, wFzD, NV.sv, iEnumW, wInS, wIndexS, wCatO, dInI, iKeysW, wMaxV, wCntT, lTupX, isT, bts]
      rw [decide_eq_true (show (2 : Int) ≤ rl.length by omega)]
      refine ⟨by omega, fun _ => ?_⟩
      refine loop_words1 A hk ok (fun c d => ?_) rl [] 0 .un .un rfl
      simp [wVar, wC, w2, w1, wNil, wCons, wTup, wLstO, wFz, wLk, wOwn, wAnd, wOr, wNot, wB, wYes, wIf, wFldC, wCB, wCBL, wCall0, wMeth0, wMethN0, wMakeK0, wMake0, sSeq, sNext, sNever, sRet, sRetN, sRetO, sIf, sAsg, sAsgO, sPar, sParO, sPar3, sParO3, sAsgG, gTupD, setAll, sAug, sApp, sFldI, tyAnd, tyOr, tyNot, iRg1, iRg2, iLst, iTupW, sFor, dAdd, dSub, dMul, dMulT, dDiv, dMod, dPow, dNeg, dLt, dLe, dGt, dGe, dIsN, DL.isNon, dNotN, dEq, dNe, dIx, dLen, dInt, dAbs, dMax2, dMin2, lLen, lTup, isA, envOf, envI, putD, gVar, wRev, wRevT, wIxL, wSl, wSlO, wNoP, wPart, wBag, okD_int, okD_bl, okD_non, eqD_int, eqD_bl, wipeE, wChain, wCallI0, wCallIK0, iSt, dLenO, wLRg1, wJoin, sDrop, wDGet, wDIn, wDNotIn, dE, dOwn, sDPutW, sFrzD, sFrz, sAsgN, sParN, sParN3, nE, nO, nDict, nDisp1, wFzD, NV.sv, iEnumW, wInS, wIndexS, wCatO, dInI, iKeysW, wMaxV, wCntT, lTupX, rlD]
      refine loop_words2 A hk ok (fun c d => ?_) rl 0 c d (fun p h => h)
      obtain ⟨c0, e0, w0, r0, hz⟩ := ok.hd
      have hm : (c0, c0 :: e0 :: w0) ∈ rl := by rw [hz]; simp
      have hwl := wd_len hk (ok.wd _ hm)
      have hle : (c0 :: e0 :: w0).length = w0.length + 2 := rfl
      simp only [hle] at hwl
      have hk2 := hk.2
      have l1 : (⟨(c0 :: e0 :: w0).toArray⟩ : PySem.Str).length = w0.length + 2 := by rw [ws_len]; rfl
      have o1 : okL 0 (ch c0) := okL_str fun c hc => by
        have hc : c = c0 := by simpa using hc
        have := ok.lt _ hm
        have := this.2
        rw [hc]
        show c0 < 1114112
        omega
      simp [wVar, wC, w2, w1, wNil, wCons, wTup, wLstO, wFz, wLk, wOwn, wAnd, wOr, wNot, wB, wYes, wIf, wFldC, wCB, wCBL, wCall0, wMeth0, wMethN0, wMakeK0, wMake0, sSeq, sNext, sNever, sRet, sRetN, sRetO, sIf, sAsg, sAsgO, sPar, sParO, sPar3, sParO3, sAsgG, gTupD, setAll, sAug, sApp, sFldI, tyAnd, tyOr, tyNot, iRg1, iRg2, iLst, iTupW, sFor, dAdd, dSub, dMul, dMulT, dDiv, dMod, dPow, dNeg, dLt, dLe, dGt, dGe, dIsN, DL.isNon, dNotN, dEq, dNe, dIx, dLen, dInt, dAbs, dMax2, dMin2, lLen, lTup, isA, envOf, envI, putD, gVar, wRev, wRevT, wIxL, wSl, wSlO, wNoP, wPart, wBag, okD_int, okD_bl, okD_non, eqD_int, eqD_bl, wipeE, wChain, wCallI0, wCallIK0, iSt, dLenO, wLRg1, wJoin, sDrop, wDGet, wDIn, wDNotIn, dE, dOwn, sDPutW, sFrzD, sFrz, sAsgN, sParN, sParN3, nE, nO, nDict, nDisp1, wFzD, NV.sv, iEnumW, wInS, wIndexS, wCatO, dInI, iKeysW, wMaxV, wCntT, lTupX, rlD, hz, prR, atD_0, atD_1, ws]
      rw [l1, sz_eq]
      exact ⟨by omega, by omega, fun _ => ⟨by omega, okD_of o1 (by decide), okD_of o1 (by decide), eqD_refl o1, fun _ => hz ▸ hq⟩⟩
    | _ => exact h.elim
  · exact h.elim
def plD : Nat → List Nat → List (PySem.Str × D)
  | _, [] => []
  | i, c :: r => (chS c, .int (i : Nat)) :: plD (i + 1) r
theorem plD_none {c : Nat} : ∀ {st : List Nat} {i : Nat}, c ∉ st → (plD i st).lookup (chS c) = none
  | [], _, _ => rfl
  | d :: r, i, h => by
    rw [List.mem_cons, not_or] at h
    rw [plD, List.lookup_cons, beq_eq_false_iff_ne.mpr fun z => h.1 (chS_inj z)]
    exact plD_none h.2
theorem plD_look {c : Nat} : ∀ {st : List Nat} {i : Nat}, c ∈ st → (plD i st).lookup (chS c) = some (.int ((i + st.idxOf c : Nat)))
  | [], _, h => by cases h
  | d :: r, i, h => by
    rw [plD, List.lookup_cons, List.idxOf_cons]
    by_cases e : c = d
    · subst e
      simp
    · rw [beq_eq_false_iff_ne.mpr fun z => e (chS_inj z), beq_eq_false_iff_ne.mpr fun z => e z.symm]
      simp only [cond_false]
      rw [plD_look ((List.mem_cons.mp h).resolve_left e), show i + 1 + r.idxOf c = i + (r.idxOf c + 1) by omega]
theorem plD_s {c : Nat} : ∀ {st : List Nat} {i : Nat}, plD i (st ++ [c]) = plD i st ++ [(chS c, .int ((i + st.length : Nat)))]
  | [], i => rfl
  | d :: r, i => by
    show (chS d, D.int (i : Nat)) :: plD (i + 1) (r ++ [c]) = _
    rw [plD_s, List.length_cons, show i + 1 + r.length = i + (r.length + 1) by omega]
    rfl
theorem plD_len : ∀ (st : List Nat) (i : Nat), (plD i st).length = st.length
  | [], _ => rfl
  | _ :: r, i => congrArg Nat.succ (plD_len r (i + 1))
theorem iSt_ws (w : List Nat) : ((⟨w.toArray⟩ : PySem.Str).cps.toList.map fun c => D.str ⟨#[c]⟩) = w.map ch := by
  simp [ch]
theorem loop_rule1 (A : Ad) {c0 c1 c2 c3 c4 c5 c6 c9 : SV} {n : DN} : ∀ (w st : List Nat) (l : List Int) (c : SV), st.length + w.length ≤ 1000 → l.length + w.length ≤ 1000 →
    (∀ c, n.nx [c0, c1, c2, c3, c4, c5, c6, .own ((addL st w).map ch), .dic (plD 0 (addL st w)), c9, .own ((l ++ lnL st w).map .int), c]) →
    sLoop (lb_row_by_rule_1 A) (gVar 11) n (w.map ch) [c0, c1, c2, c3, c4, c5, c6, .own (st.map ch), .dic (plD 0 st), c9, .own (l.map .int), c]
  | [], st, l, c, _, _, h => by
    have h := h c
    rw [lnL, addL, List.append_nil] at h
    exact h
  | x :: w, st, l, c, h1, h2, h => by
    have ih := loop_rule1 A (c0 := c0) (c1 := c1) (c2 := c2) (c3 := c3) (c4 := c4) (c5 := c5) (c6 := c6) (c9 := c9) (n := n) w (add1 st x) (l ++ [(((add1 st x).idxOf x : Nat) : Int)]) (.d (ch x)) (by
      unfold add1
      split
      · rw [List.length_cons] at h1; omega
      · rw [List.length_append, List.length_cons, List.length_nil]; rw [List.length_cons] at h1; omega) (by rw [List.length_append, List.length_cons, List.length_nil]; rw [List.length_cons] at h2; omega) (fun c => by
        rw [List.append_assoc]
        exact h c)
    rw [List.length_cons] at h1 h2
    rw [List.map_cons, sLoop]
    by_cases hx : x ∈ st
    · have e : add1 st x = st := if_pos hx
      have lk := plD_look (i := 0) hx
      rw [Nat.zero_add] at lk
      rw [e] at ih
      simp [lb_row_by_rule_1, wVar, wC, w2, w1, wNil, wCons, wTup, wLstO, wFz, wLk, wOwn, wAnd, wOr, wNot, wB, wYes, wIf, wFldC, wCB, wCBL, wCall0, wMeth0, wMethN0, wMakeK0, wMake0, sSeq, sNext, sNever, sRet, sRetN, sRetO, sIf, sAsg, sAsgO, sPar, sParO, sPar3, sParO3, sAsgG, gTupD, setAll, sAug, sApp, sFldI, tyAnd, tyOr, tyNot, iRg1, iRg2, iLst, iTupW, sFor, dAdd, dSub, dMul, dMulT, dDiv, dMod, dPow, dNeg, dLt, dLe, dGt, dGe, dIsN, DL.isNon, dNotN, dEq, dNe, dIx, dLen, dInt, dAbs, dMax2, dMin2, lLen, lTup, isA, envOf, envI, putD, gVar, wRev, wRevT, wIxL, wSl, wSlO, wNoP, wPart, wBag, okD_int, okD_bl, okD_non, eqD_int, eqD_bl, wipeE, wChain, wCallI0, wCallIK0, iSt, dLenO, wLRg1, wJoin, sDrop, wDGet, wDIn, wDNotIn, dE, dOwn, sDPutW, sFrzD, sFrz, sAsgN, sParN, sParN3, nE, nO, nDict, nDisp1, wFzD, NV.sv, iEnumW, wInS, wIndexS, wCatO, dInI, iKeysW, wMaxV, wCntT, lTupX, ch_eq, lk]
      refine ⟨by rw [sz_eq]; omega, ?_⟩
      rw [List.map_append] at ih
      exact ih
    · have e : add1 st x = st ++ [x] := if_neg hx
      have lk := plD_none (i := 0) hx
      have lk2 : (sput (plD 0 st) (chS x) (D.int (st.length : Nat))).lookup (chS x) = some (.int (((st ++ [x]).idxOf x : Nat) : Int)) := by
        have := plD_look (i := 0) (show x ∈ st ++ [x] by simp)
        rw [Nat.zero_add] at this
        rw [sput_new lk, ← this, plD_s, Nat.zero_add]
      rw [e] at ih
      simp [lb_row_by_rule_1, wVar, wC, w2, w1, wNil, wCons, wTup, wLstO, wFz, wLk, wOwn, wAnd, wOr, wNot, wB, wYes, wIf, wFldC, wCB, wCBL, wCall0, wMeth0, wMethN0, wMakeK0, wMake0, sSeq, sNext, sNever, sRet, sRetN, sRetO, sIf, sAsg, sAsgO, sPar, sParO, sPar3, sParO3, sAsgG, gTupD, setAll, sAug, sApp, sFldI, tyAnd, tyOr, tyNot, iRg1, iRg2, iLst, iTupW, sFor, dAdd, dSub, dMul, dMulT, dDiv, dMod, dPow, dNeg, dLt, dLe, dGt, dGe, dIsN, DL.isNon, dNotN, dEq, dNe, dIx, dLen, dInt, dAbs, dMax2, dMin2, lLen, lTup, isA, envOf, envI, putD, gVar, wRev, wRevT, wIxL, wSl, wSlO, wNoP, wPart, wBag, okD_int, okD_bl, okD_non, eqD_int, eqD_bl, wipeE, wChain, wCallI0, wCallIK0, iSt, dLenO, wLRg1, wJoin, sDrop, wDGet, wDIn, wDNotIn, dE, dOwn, sDPutW, sFrzD, sFrz, sAsgN, sParN, sParN3, nE, nO, nDict, nDisp1, wFzD, NV.sv, iEnumW, wInS, wIndexS, wCatO, dInI, iKeysW, wMaxV, wCntT, lTupX, ch_eq, lk, lk2]
      refine ⟨by rw [sz_eq, plD_len]; omega, by rw [sz_eq]; omega, by rw [sz_eq]; omega, ?_⟩
      rw [List.map_append, List.map_append, plD_s, Nat.zero_add] at ih
      rw [sput_new lk]
      exact ih
theorem line_same {k : Int} {f : Nat → List Nat} {st u : List Nat} {s : Nat} (h : ∀ c ∈ f s, c ∈ st) : lineOf k f (st ++ u) s = lineOf k f st s := by
  unfold lineOf
  congr 1
  exact List.map_congr_left fun c hc => by rw [idx_app (h c hc)]
theorem lines_next {P : Nat → Prop} {k : Int} {f : Nat → List Nat} {st : List Nat} {i : Nat} (h : BfsOk P f st i) (hi : i < st.length) :
    ((addL st (f st[i])).take (i + 1)).map (lineOf k f (addL st (f st[i]))) = (st.take i).map (lineOf k f st) ++ [lineOf k f (addL st (f st[i])) st[i]] := by
  obtain ⟨u, g⟩ := addL_pre (f st[i]) st
  rw [g, List.take_append_of_le_length (by omega), List.take_succ, List.getElem?_eq_getElem hi, List.map_append]
  congr 1
  refine List.map_congr_left fun s hs => ?_
  obtain ⟨j, hj⟩ := List.getElem?_of_mem hs
  rw [List.getElem?_take] at hj
  split at hj
  · exact line_same (h.cl j s (by assumption) hj)
  · cases hj
def lineD (l : List Int) : D := .tup (l.map .int)
theorem rep_flat (n : Nat) (x : D) : (List.replicate n [x]).flatten = List.replicate n x := by
  induction n with
  | zero => rfl
  | succ n ih => rw [List.replicate_succ, List.flatten_cons, ih]; rfl
theorem iter_rule (A : Ad) {k : Int} {rl : RL} {v : Option (List Nat)} {c5 c6 : SV} {n : DN} (hk : K3 k) (ok : OkRl k rl)
    (hn : ∀ c10 c11, n.nx [.d (sysD A k), .d (rlD rl), .d (shD v), .d (.dct (wdD rl)), .d (.dct (mkD rl v)), c5, c6, .own ((stOf rl).map ch), .dic (plD 0 (stOf rl)), .own ((mvOf k rl).map lineD), c10, c11]) :
    ∀ (t i : Nat) (st : List Nat) (c10 c11 : SV), i + t = 8 → BfsOk (· ∈ sgs rl) (wf rl) st i → bfs (wf rl) t st i = stOf rl →
    sIter (wB (w2 dLt (wCBL lLen (wOwn 9)) (wCBL lLen (wOwn 7)))) (lb_row_by_rule_2 A) n (t + 1) [.d (sysD A k), .d (rlD rl), .d (shD v), .d (.dct (wdD rl)), .d (.dct (mkD rl v)), c5, c6, .own (st.map ch), .dic (plD 0 st), .own (((st.take i).map (lineOf k (wf rl) st)).map lineD), c10, c11] := by
  have out : ∀ (i : Nat) (st : List Nat) (t : Nat) (c10 c11 : SV), i = st.length → st = stOf rl →
      sIter (wB (w2 dLt (wCBL lLen (wOwn 9)) (wCBL lLen (wOwn 7)))) (lb_row_by_rule_2 A) n (t + 1) [.d (sysD A k), .d (rlD rl), .d (shD v), .d (.dct (wdD rl)), .d (.dct (mkD rl v)), c5, c6, .own (st.map ch), .dic (plD 0 st), .own (((st.take i).map (lineOf k (wf rl) st)).map lineD), c10, c11] := by
    intro i st t c10 c11 e1 e2
    subst e1 e2
    have h := hn c10 c11
    rw [List.take_length, sIter]
    simp only [wVar, wC, w2, w1, wNil, wCons, wTup, wLstO, wFz, wLk, wOwn, wAnd, wOr, wNot, wB, wYes, wIf, wFldC, wCB, wCBL, wCall0, wMeth0, wMethN0, wMakeK0, wMake0, sSeq, sNext, sNever, sRet, sRetN, sRetO, sIf, sAsg, sAsgO, sPar, sParO, sPar3, sParO3, sAsgG, gTupD, setAll, sAug, sApp, sFldI, tyAnd, tyOr, tyNot, iRg1, iRg2, iLst, iTupW, sFor, dAdd, dSub, dMul, dMulT, dDiv, dMod, dPow, dNeg, dLt, dLe, dGt, dGe, dIsN, DL.isNon, dNotN, dEq, dNe, dIx, dLen, dInt, dAbs, dMax2, dMin2, lLen, lTup, isA, envOf, envI, putD, gVar, wRev, wRevT, wIxL, wSl, wSlO, wNoP, wPart, wBag, okD_int, okD_bl, okD_non, eqD_int, eqD_bl, wipeE, wChain, wCallI0, wCallIK0, iSt, dLenO, wLRg1, wJoin, sDrop, wDGet, wDIn, wDNotIn, dE, dOwn, sDPutW, sFrzD, sFrz, sAsgN, sParN, sParN3, nE, nO, nDict, nDisp1, wFzD, NV.sv, iEnumW, wInS, wIndexS, wCatO, dInI, iKeysW, wMaxV, wCntT, lTupX, List.getElem?_cons_succ, List.getElem?_cons_zero, List.length_map]
    rw [decide_eq_false (by omega)]
    exact ⟨fun z => (nomatch z), fun _ => h⟩
  intro t
  induction t with
  | zero =>
    intro i st c10 c11 e h hS
    have hl := nd_le h.nd h.sub
    unfold sgs at hl
    rw [List.length_map] at hl
    have := ok.n8
    have := h.le
    exact out i st 0 c10 c11 (by omega) hS
  | succ t ih =>
    intro i st c10 c11 e h hS
    rw [bfs] at hS
    split at hS
    · rename_i hi
      have hl := nd_le h.nd h.sub
      unfold sgs at hl
      rw [List.length_map] at hl
      have h8 := ok.n8
      have hsg := h.sub _ (List.getElem_mem hi)
      have hwl := wf_len hk ok hsg
      have hk1 := hk.1
      have hk2 := hk.2
      have nx := h.next ok.cl hi
      have ih := fun c10 c11 => ih (i + 1) (addL st (wf rl st[i])) c10 c11 (by omega) nx hS
      rw [lines_next h hi] at ih
      have lk := wd_lookf ok hsg
      have hlt : (st.take i).length = i := by rw [List.length_take]; omega
      rw [sIter]
      simp only [wVar, wC, w2, w1, wNil, wCons, wTup, wLstO, wFz, wLk, wOwn, wAnd, wOr, wNot, wB, wYes, wIf, wFldC, wCB, wCBL, wCall0, wMeth0, wMethN0, wMakeK0, wMake0, sSeq, sNext, sNever, sRet, sRetN, sRetO, sIf, sAsg, sAsgO, sPar, sParO, sPar3, sParO3, sAsgG, gTupD, setAll, sAug, sApp, sFldI, tyAnd, tyOr, tyNot, iRg1, iRg2, iLst, iTupW, sFor, dAdd, dSub, dMul, dMulT, dDiv, dMod, dPow, dNeg, dLt, dLe, dGt, dGe, dIsN, DL.isNon, dNotN, dEq, dNe, dIx, dLen, dInt, dAbs, dMax2, dMin2, lLen, lTup, isA, envOf, envI, putD, gVar, wRev, wRevT, wIxL, wSl, wSlO, wNoP, wPart, wBag, okD_int, okD_bl, okD_non, eqD_int, eqD_bl, wipeE, wChain, wCallI0, wCallIK0, iSt, dLenO, wLRg1, wJoin, sDrop, wDGet, wDIn, wDNotIn, dE, dOwn, sDPutW, sFrzD, sFrz, sAsgN, sParN, sParN3, nE, nO, nDict, nDisp1, wFzD, NV.sv, iEnumW, wInS, wIndexS, wCatO, dInI, iKeysW, wMaxV, wCntT, lTupX, List.getElem?_cons_succ, List.getElem?_cons_zero, List.length_map, hlt]
      rw [decide_eq_true (by omega)]
      refine ⟨fun _ => ?_, fun z => (nomatch z)⟩
      have at1 : atD (st.map ch) (i : Int) = some (.str (chS st[i])) := by
        rw [atD_nat, List.getElem?_map, List.getElem?_eq_getElem hi]
        rfl
      generalize hN : sIter (wB (w2 dLt (wCBL lLen (wOwn 9)) (wCBL lLen (wOwn 7)))) (lb_row_by_rule_2 A) n (t + 1) = N at ih ⊢
      unfold lb_row_by_rule_2
      simp only [wVar, wC, w2, w1, wNil, wCons, wTup, wLstO, wFz, wLk, wOwn, wAnd, wOr, wNot, wB, wYes, wIf, wFldC, wCB, wCBL, wCall0, wMeth0, wMethN0, wMakeK0, wMake0, sSeq, sNext, sNever, sRet, sRetN, sRetO, sIf, sAsg, sAsgO, sPar, sParO, sPar3, sParO3, sAsgG, gTupD, setAll, sAug, sApp, sFldI, tyAnd, tyOr, tyNot, iRg1, iRg2, iLst, iTupW, sFor, dAdd, dSub, dMul, dMulT, dDiv, dMod, dPow, dNeg, dLt, dLe, dGt, dGe, dIsN, DL.isNon, dNotN, dEq, dNe, dIx, dLen, dInt, dAbs, dMax2, dMin2, lLen, lTup, isA, envOf, envI, putD, gVar, wRev, wRevT, wIxL, wSl, wSlO, wNoP, wPart, wBag, okD_int, okD_bl, okD_non, eqD_int, eqD_bl, wipeE, wChain, wCallI0, wCallIK0, iSt, dLenO, wLRg1, wJoin, sDrop, wDGet, wDIn, wDNotIn, dE, dOwn, sDPutW, sFrzD, sFrz, sAsgN, sParN, sParN3, nE, nO, nDict, nDisp1, wFzD, NV.sv, iEnumW, wInS, wIndexS, wCatO, dInI, iKeysW, wMaxV, wCntT, lTupX, iSt, List.getElem?_cons_succ, List.getElem?_cons_zero, List.length_map, hlt, at1, lk, ws, List.set_cons_succ, List.set_cons_zero, List.length_nil]
      refine ⟨by decide, ?_⟩
      rw [iSt_ws]
      refine loop_rule1 A (wf rl st[i]) st [] _ (by omega) (by show 0 + _ ≤ _; omega) fun c => ?_
      have hln : (lnL st (wf rl st[i])).length = (wf rl st[i]).length := by rw [lnL_eq, List.length_map]
      simp only [wVar, wC, w2, w1, wNil, wCons, wTup, wLstO, wFz, wLk, wOwn, wAnd, wOr, wNot, wB, wYes, wIf, wFldC, wCB, wCBL, wCall0, wMeth0, wMethN0, wMakeK0, wMake0, sSeq, sNext, sNever, sRet, sRetN, sRetO, sIf, sAsg, sAsgO, sPar, sParO, sPar3, sParO3, sAsgG, gTupD, setAll, sAug, sApp, sFldI, tyAnd, tyOr, tyNot, iRg1, iRg2, iLst, iTupW, sFor, dAdd, dSub, dMul, dMulT, dDiv, dMod, dPow, dNeg, dLt, dLe, dGt, dGe, dIsN, DL.isNon, dNotN, dEq, dNe, dIx, dLen, dInt, dAbs, dMax2, dMin2, lLen, lTup, isA, envOf, envI, putD, gVar, wRev, wRevT, wIxL, wSl, wSlO, wNoP, wPart, wBag, okD_int, okD_bl, okD_non, eqD_int, eqD_bl, wipeE, wChain, wCallI0, wCallIK0, iSt, dLenO, wLRg1, wJoin, sDrop, wDGet, wDIn, wDNotIn, dE, dOwn, sDPutW, sFrzD, sFrz, sAsgN, sParN, sParN3, nE, nO, nDict, nDisp1, wFzD, NV.sv, iEnumW, wInS, wIndexS, wCatO, dInI, iKeysW, wMaxV, wCntT, lTupX, List.nil_append, sysD, step_look, hln, List.getElem?_cons_succ, List.getElem?_cons_zero, List.set_cons_succ, List.set_cons_zero, List.length_map, List.length_append, hlt, List.length_cons, List.length_nil, rep_flat, List.length_replicate, if_true]
      have hline : D.tup ((lnL st (wf rl st[i])).map D.int ++ List.replicate (k + 1 - ((wf rl st[i]).length : Int)).toNat (D.int 0)) = lineD (lineOf k (wf rl) (addL st (wf rl st[i])) st[i]) := by
        unfold lineD lineOf
        rw [List.map_append, lnL_eq, List.map_replicate]
      rw [hline, sz_eq]
      have ih := ih (.d (.lst ((lnL st (wf rl st[i])).map D.int))) c
      rw [List.map_append] at ih
      exact ⟨by omega, trivial, ⟨by omega, by omega, by omega⟩, by omega, by omega, ih⟩
    · rename_i hi
      have := h.le
      exact out i st (t + 1) c10 c11 (by omega) hS
theorem idx_mid : ∀ {a b : List Nat} {c : Nat}, c ∉ a → (a ++ c :: b).idxOf c = a.length
  | [], b, c, _ => by simp
  | x :: a, b, c, h => by
    rw [List.mem_cons, not_or] at h
    rw [List.cons_append, List.idxOf_cons, beq_eq_false_iff_ne.mpr fun z => h.1 z.symm, idx_mid h.2]
    rfl
theorem nd_mid {rl done t : RL} {p : Nat × List Nat} (nd : (rl.map (·.1)).Nodup) (e : rl = done ++ p :: t) : p.1 ∉ done.map (·.1) := by
  rw [e, List.map_append, List.nodup_append] at nd
  intro z
  exact nd.2.2 _ z p.1 (by simp) rfl
def mkP (rl : RL) (v : Option (List Nat)) (done : RL) : List (PySem.Str × D) := done.map fun p => (chS p.1, ch (mkF rl v p.1))
theorem mkP_none {rl : RL} {v : Option (List Nat)} {c : Nat} : ∀ {done : RL}, c ∉ done.map (·.1) → (mkP rl v done).lookup (chS c) = none
  | [], _ => rfl
  | p :: r, h => by
    rw [List.map_cons, List.mem_cons, not_or] at h
    show List.lookup (chS c) ((chS p.1, _) :: mkP rl v r) = _
    rw [List.lookup_cons, beq_eq_false_iff_ne.mpr fun z => h.1 (chS_inj z)]
    exact mkP_none h.2
theorem mkP_s (rl : RL) (v : Option (List Nat)) (r : RL) (p : Nat × List Nat) : mkP rl v (r ++ [p]) = mkP rl v r ++ [(chS p.1, ch (mkF rl v p.1))] := by
  unfold mkP
  rw [List.map_append]
  rfl
theorem shown_at {rl done t : RL} {v : List Nat} {p : Nat × List Nat} (nd : (rl.map (·.1)).Nodup) (hv : v.length = rl.length) (e : rl = done ++ p :: t) : atD v (done.length : Int) = some (mkF rl (some v) p.1) := by
  have no := nd_mid nd e
  have : (rl.map (·.1)).idxOf p.1 = done.length := by
    rw [e, List.map_append, List.map_cons, idx_mid no, List.length_map]
  have hl : done.length < v.length := by rw [hv, e, List.length_append, List.length_cons]; omega
  rw [atD_nat]
  show v[done.length]? = some (v[(rl.map (·.1)).idxOf p.1]?.getD 0)
  rw [this, List.getElem?_eq_getElem hl]
  rfl
theorem comp_masks {k : Int} {rl : RL} {v : Option (List Nat)} {c0 c1 c3 c4 c7 c8 c9 c10 c11 : SV} {er : ER} {q : List (PySem.Str × D) → Prop} (ok : OkRl k rl) (hv : OkSh rl v) (hq : q (mkD rl v)) : ∀ (t done : RL), rl = done ++ t →
    wCompD (gTupD [5, 6]) wYes (w2 dIx (wVar 6) (wC (.int 0))) (wIf (wB (w2 dIsN (wVar 2) (wC .non))) (w2 dIx (wVar 6) (wC (.int 0))) (w2 dIx (wVar 2) (wVar 5))) [c0, c1, .d (shD v), c3, c4, .un, .un, c7, c8, c9, c10, c11] er q (enumD done.length (t.map prR)) (mkP rl v done)
  | [], done, e => by
    rw [List.append_nil] at e
    subst e
    exact hq
  | p :: t, done, e => by
    have ih := comp_masks (c0 := c0) (c1 := c1) (c3 := c3) (c4 := c4) (c7 := c7) (c8 := c8) (c9 := c9) (c10 := c10) (c11 := c11) (er := er) (q := q) ok hv hq t (done ++ [p]) (by rw [e, List.append_assoc]; rfl)
    have no := nd_mid ok.nd e
    have l8 := ok.n8
    have l8' : done.length + 1 ≤ 8 := by
      rw [e, List.length_append, List.length_cons] at l8
      omega
    have lk := mkP_none (rl := rl) (v := v) no
    rw [List.length_append, List.length_cons, List.length_nil, mkP_s, ← sput_new lk] at ih
    have hlm : (mkP rl v done).length = done.length := by unfold mkP; rw [List.length_map]
    rw [List.map_cons, enumD, wCompD]
    cases v with
    | none =>
      simp only [wVar, wC, w2, w1, wNil, wCons, wTup, wLstO, wFz, wLk, wOwn, wAnd, wOr, wNot, wB, wYes, wIf, wFldC, wCB, wCBL, wCall0, wMeth0, wMethN0, wMakeK0, wMake0, sSeq, sNext, sNever, sRet, sRetN, sRetO, sIf, sAsg, sAsgO, sPar, sParO, sPar3, sParO3, sAsgG, gTupD, setAll, sAug, sApp, sFldI, tyAnd, tyOr, tyNot, iRg1, iRg2, iLst, iTupW, sFor, dAdd, dSub, dMul, dMulT, dDiv, dMod, dPow, dNeg, dLt, dLe, dGt, dGe, dIsN, DL.isNon, dNotN, dEq, dNe, dIx, dLen, dInt, dAbs, dMax2, dMin2, lLen, lTup, isA, envOf, envI, putD, gVar, wRev, wRevT, wIxL, wSl, wSlO, wNoP, wPart, wBag, okD_int, okD_bl, okD_non, eqD_int, eqD_bl, wipeE, wChain, wCallI0, wCallIK0, iSt, dLenO, wLRg1, wJoin, sDrop, wDGet, wDIn, wDNotIn, dE, dOwn, sDPutW, sFrzD, sFrz, sAsgN, sParN, sParN3, nE, nO, nDict, nDisp1, wFzD, NV.sv, iEnumW, wInS, wIndexS, wCatO, dInI, iKeysW, wMaxV, wCntT, lTupX, prR, atD_0, List.getElem?_cons_succ, List.getElem?_cons_zero, List.set_cons_succ, List.set_cons_zero, shD, ch_eq, hlm]
      refine ⟨fun _ => ⟨fun _ => ⟨by rw [sz_eq]; omega, ih⟩, fun z => (nomatch z)⟩, fun z => (nomatch z)⟩
    | some v =>
      have at1 := shown_at ok.nd hv.1 e
      have hl := hv.1
      have hwl : (⟨v.toArray⟩ : PySem.Str).length = v.length := ws_len v
      simp only [wVar, wC, w2, w1, wNil, wCons, wTup, wLstO, wFz, wLk, wOwn, wAnd, wOr, wNot, wB, wYes, wIf, wFldC, wCB, wCBL, wCall0, wMeth0, wMethN0, wMakeK0, wMake0, sSeq, sNext, sNever, sRet, sRetN, sRetO, sIf, sAsg, sAsgO, sPar, sParO, sPar3, sParO3, sAsgG, gTupD, setAll, sAug, sApp, sFldI, tyAnd, tyOr, tyNot, iRg1, iRg2, iLst, iTupW, sFor, dAdd, dSub, dMul, dMulT, dDiv, dMod, dPow, dNeg, dLt, dLe, dGt, dGe, dIsN, DL.isNon, dNotN, dEq, dNe, dIx, dLen, dInt, dAbs, dMax2, dMin2, lLen, lTup, isA, envOf, envI, putD, gVar, wRev, wRevT, wIxL, wSl, wSlO, wNoP, wPart, wBag, okD_int, okD_bl, okD_non, eqD_int, eqD_bl, wipeE, wChain, wCallI0, wCallIK0, iSt, dLenO, wLRg1, wJoin, sDrop, wDGet, wDIn, wDNotIn, dE, dOwn, sDPutW, sFrzD, sFrz, sAsgN, sParN, sParN3, nE, nO, nDict, nDisp1, wFzD, NV.sv, iEnumW, wInS, wIndexS, wCatO, dInI, iKeysW, wMaxV, wCntT, lTupX, prR, atD_0, List.getElem?_cons_succ, List.getElem?_cons_zero, List.set_cons_succ, List.set_cons_zero, shD, ws, ch_eq, hlm, hwl, at1]
      refine ⟨fun _ => ⟨fun z => (nomatch z), fun _ => ⟨by rw [sz_eq]; omega, by rw [sz_eq]; omega, ih⟩⟩, fun z => (nomatch z)⟩
theorem hw_row_by_rule (A : Ad) : ∀ ds er q, ds.length = 3 → S_row_by_rule A ds er q → w_row_by_rule A { nx := fun _ => q .non, rt := q, er := er } (envOf 12 ds) := by
  intro ds er q hlen h
  unfold S_row_by_rule at h
  split at h
  · rename_i s d hh
    cases s with
    | ins C fs =>
      obtain ⟨rfl, k, rfl, h⟩ := h
      cases d with
      | tup t =>
        obtain ⟨rl, rfl, v, rfl, hk, ok, hv, hq⟩ := h
        have h8 := ok.n8
        have h2 := ok.n2
        obtain ⟨hl8, hb, u, hu⟩ := ok.st
        unfold w_row_by_rule
        refine seqI fun N hN => ?_
        simp only [wVar, wC, w2, w1, wNil, wCons, wTup, wLstO, wFz, wLk, wOwn, wAnd, wOr, wNot, wB, wYes, wIf, wFldC, wCB, wCBL, wCall0, wMeth0, wMethN0, wMakeK0, wMake0, sSeq, sNext, sNever, sRet, sRetN, sRetO, sIf, sAsg, sAsgO, sPar, sParO, sPar3, sParO3, sAsgG, gTupD, setAll, sAug, sApp, sFldI, tyAnd, tyOr, tyNot, iRg1, iRg2, iLst, iTupW, sFor, dAdd, dSub, dMul, dMulT, dDiv, dMod, dPow, dNeg, dLt, dLe, dGt, dGe, dIsN, DL.isNon, dNotN, dEq, dNe, dIx, dLen, dInt, dAbs, dMax2, dMin2, lLen, lTup, isA, envOf, envI, putD, gVar, wRev, wRevT, wIxL, wSl, wSlO, wNoP, wPart, wBag, okD_int, okD_bl, okD_non, eqD_int, eqD_bl, wipeE, wChain, wCallI0, wCallIK0, iSt, dLenO, wLRg1, wJoin, sDrop, wDGet, wDIn, wDNotIn, dE, dOwn, sDPutW, sFrzD, sFrz, sAsgN, sParN, sParN3, nE, nO, nDict, nDisp1, wFzD, NV.sv, iEnumW, wInS, wIndexS, wCatO, dInI, iKeysW, wMaxV, wCntT, lTupX, sDrop, S_check_system, isSys, List.getElem?_cons_succ, List.getElem?_cons_zero, envOf, List.map_cons, List.map_nil, List.length_cons, List.length_nil, List.cons_append, List.nil_append, List.replicate]
        refine ⟨trivial, trivial, k, rfl, hN _ ?_⟩
        refine seqI fun N hN => ?_
        simp only [wVar, wC, w2, w1, wNil, wCons, wTup, wLstO, wFz, wLk, wOwn, wAnd, wOr, wNot, wB, wYes, wIf, wFldC, wCB, wCBL, wCall0, wMeth0, wMethN0, wMakeK0, wMake0, sSeq, sNext, sNever, sRet, sRetN, sRetO, sIf, sAsg, sAsgO, sPar, sParO, sPar3, sParO3, sAsgG, gTupD, setAll, sAug, sApp, sFldI, tyAnd, tyOr, tyNot, iRg1, iRg2, iLst, iTupW, sFor, dAdd, dSub, dMul, dMulT, dDiv, dMod, dPow, dNeg, dLt, dLe, dGt, dGe, dIsN, DL.isNon, dNotN, dEq, dNe, dIx, dLen, dInt, dAbs, dMax2, dMin2, lLen, lTup, isA, envOf, envI, putD, gVar, wRev, wRevT, wIxL, wSl, wSlO, wNoP, wPart, wBag, okD_int, okD_bl, okD_non, eqD_int, eqD_bl, wipeE, wChain, wCallI0, wCallIK0, iSt, dLenO, wLRg1, wJoin, sDrop, wDGet, wDIn, wDNotIn, dE, dOwn, sDPutW, sFrzD, sFrz, sAsgN, sParN, sParN3, nE, nO, nDict, nDisp1, wFzD, NV.sv, iEnumW, wInS, wIndexS, wCatO, dInI, iKeysW, wMaxV, wCntT, lTupX, List.getElem?_cons_succ, List.getElem?_cons_zero, step_look, List.cons_append, List.nil_append, List.set_cons_succ, List.set_cons_zero]
        refine ⟨trivial, rfl, rl, rfl, hk, ok, hN _ ?_⟩
        refine seqI fun N hN => ?_
        suffices key : N [.d (sysD A k), .d (rlD rl), .d (shD v), .d (.dct (wdD rl)), .un, .un, .un, .un, .un, .un, .un, .un] by
          cases v with
          | none =>
            simp only [wVar, wC, w2, w1, wNil, wCons, wTup, wLstO, wFz, wLk, wOwn, wAnd, wOr, wNot, wB, wYes, wIf, wFldC, wCB, wCBL, wCall0, wMeth0, wMethN0, wMakeK0, wMake0, sSeq, sNext, sNever, sRet, sRetN, sRetO, sIf, sAsg, sAsgO, sPar, sParO, sPar3, sParO3, sAsgG, gTupD, setAll, sAug, sApp, sFldI, tyAnd, tyOr, tyNot, iRg1, iRg2, iLst, iTupW, sFor, dAdd, dSub, dMul, dMulT, dDiv, dMod, dPow, dNeg, dLt, dLe, dGt, dGe, dIsN, DL.isNon, dNotN, dEq, dNe, dIx, dLen, dInt, dAbs, dMax2, dMin2, lLen, lTup, isA, envOf, envI, putD, gVar, wRev, wRevT, wIxL, wSl, wSlO, wNoP, wPart, wBag, okD_int, okD_bl, okD_non, eqD_int, eqD_bl, wipeE, wChain, wCallI0, wCallIK0, iSt, dLenO, wLRg1, wJoin, sDrop, wDGet, wDIn, wDNotIn, dE, dOwn, sDPutW, sFrzD, sFrz, sAsgN, sParN, sParN3, nE, nO, nDict, nDisp1, wFzD, NV.sv, iEnumW, wInS, wIndexS, wCatO, dInI, iKeysW, wMaxV, wCntT, lTupX, List.getElem?_cons_succ, List.getElem?_cons_zero, List.set_cons_succ, List.set_cons_zero, List.cons_append, List.nil_append, List.append_nil, List.length_cons, List.length_nil, List.length_map, List.map_cons, List.map_nil, List.replicate, shD]
            exact ⟨fun z => (nomatch z), fun _ => ⟨fun z => (nomatch z), fun _ => key⟩⟩
          | some v =>
            simp only [wVar, wC, w2, w1, wNil, wCons, wTup, wLstO, wFz, wLk, wOwn, wAnd, wOr, wNot, wB, wYes, wIf, wFldC, wCB, wCBL, wCall0, wMeth0, wMethN0, wMakeK0, wMake0, sSeq, sNext, sNever, sRet, sRetN, sRetO, sIf, sAsg, sAsgO, sPar, sParO, sPar3, sParO3, sAsgG, gTupD, setAll, sAug, sApp, sFldI, tyAnd, tyOr, tyNot, iRg1, iRg2, iLst, iTupW, sFor, dAdd, dSub, dMul, dMulT, dDiv, dMod, dPow, dNeg, dLt, dLe, dGt, dGe, dIsN, DL.isNon, dNotN, dEq, dNe, dIx, dLen, dInt, dAbs, dMax2, dMin2, lLen, lTup, isA, envOf, envI, putD, gVar, wRev, wRevT, wIxL, wSl, wSlO, wNoP, wPart, wBag, okD_int, okD_bl, okD_non, eqD_int, eqD_bl, wipeE, wChain, wCallI0, wCallIK0, iSt, dLenO, wLRg1, wJoin, sDrop, wDGet, wDIn, wDNotIn, dE, dOwn, sDPutW, sFrzD, sFrz, sAsgN, sParN, sParN3, nE, nO, nDict, nDisp1, wFzD, NV.sv, iEnumW, wInS, wIndexS, wCatO, dInI, iKeysW, wMaxV, wCntT, lTupX, List.getElem?_cons_succ, List.getElem?_cons_zero, List.set_cons_succ, List.set_cons_zero, List.cons_append, List.nil_append, List.append_nil, List.length_cons, List.length_nil, List.length_map, List.map_cons, List.map_nil, List.replicate, shD, ws, S_are_small]
            have e := hv.1
            have e2 : (⟨v.toArray⟩ : PySem.Str).length = v.length := ws_len v
            rw [e2]
            exact ⟨fun _ => ⟨trivial, ⟨by omega, by omega, by omega, fun c hc => hv.2 c (by simpa using hc)⟩, fun z => (nomatch z), fun _ => key⟩, fun z => (nomatch z)⟩
        refine hN _ ?_
        refine seqI fun N hN => ?_
        simp only [wVar, wC, w2, w1, wNil, wCons, wTup, wLstO, wFz, wLk, wOwn, wAnd, wOr, wNot, wB, wYes, wIf, wFldC, wCB, wCBL, wCall0, wMeth0, wMethN0, wMakeK0, wMake0, sSeq, sNext, sNever, sRet, sRetN, sRetO, sIf, sAsg, sAsgO, sPar, sParO, sPar3, sParO3, sAsgG, gTupD, setAll, sAug, sApp, sFldI, tyAnd, tyOr, tyNot, iRg1, iRg2, iLst, iTupW, sFor, dAdd, dSub, dMul, dMulT, dDiv, dMod, dPow, dNeg, dLt, dLe, dGt, dGe, dIsN, DL.isNon, dNotN, dEq, dNe, dIx, dLen, dInt, dAbs, dMax2, dMin2, lLen, lTup, isA, envOf, envI, putD, gVar, wRev, wRevT, wIxL, wSl, wSlO, wNoP, wPart, wBag, okD_int, okD_bl, okD_non, eqD_int, eqD_bl, wipeE, wChain, wCallI0, wCallIK0, iSt, dLenO, wLRg1, wJoin, sDrop, wDGet, wDIn, wDNotIn, dE, dOwn, sDPutW, sFrzD, sFrz, sAsgN, sParN, sParN3, nE, nO, nDict, nDisp1, wFzD, NV.sv, iEnumW, wInS, wIndexS, wCatO, dInI, iKeysW, wMaxV, wCntT, lTupX, List.getElem?_cons_succ, List.getElem?_cons_zero, List.set_cons_succ, List.set_cons_zero, List.cons_append, List.nil_append, List.append_nil, List.length_cons, List.length_nil, List.length_map, List.map_cons, List.map_nil, List.replicate, nDc]
        refine comp_masks (c0 := .d (sysD A k)) (c1 := .d (rlD rl)) (c3 := .d (.dct (wdD rl))) (c4 := .un) (c7 := .un) (c8 := .un) (c9 := .un) (c10 := .un) (c11 := .un) ok hv (hN _ ?_) rl [] rfl
        obtain ⟨p0, r0, hz⟩ : ∃ p0 r0, rl = p0 :: r0 := by
          obtain ⟨c0, e0, w0, r0, hz⟩ := ok.hd
          exact ⟨_, _, hz⟩
        have hf : frst rl = p0.1 := by rw [hz]; rfl
        have at0 : atD (rl.map prR) 0 = some (prR p0) := by rw [hz]; exact atD_0
        refine seqI fun N hN => ?_
        simp only [wVar, wC, w2, w1, wNil, wCons, wTup, wLstO, wFz, wLk, wOwn, wAnd, wOr, wNot, wB, wYes, wIf, wFldC, wCB, wCBL, wCall0, wMeth0, wMethN0, wMakeK0, wMake0, sSeq, sNext, sNever, sRet, sRetN, sRetO, sIf, sAsg, sAsgO, sPar, sParO, sPar3, sParO3, sAsgG, gTupD, setAll, sAug, sApp, sFldI, tyAnd, tyOr, tyNot, iRg1, iRg2, iLst, iTupW, sFor, dAdd, dSub, dMul, dMulT, dDiv, dMod, dPow, dNeg, dLt, dLe, dGt, dGe, dIsN, DL.isNon, dNotN, dEq, dNe, dIx, dLen, dInt, dAbs, dMax2, dMin2, lLen, lTup, isA, envOf, envI, putD, gVar, wRev, wRevT, wIxL, wSl, wSlO, wNoP, wPart, wBag, okD_int, okD_bl, okD_non, eqD_int, eqD_bl, wipeE, wChain, wCallI0, wCallIK0, iSt, dLenO, wLRg1, wJoin, sDrop, wDGet, wDIn, wDNotIn, dE, dOwn, sDPutW, sFrzD, sFrz, sAsgN, sParN, sParN3, nE, nO, nDict, nDisp1, wFzD, NV.sv, iEnumW, wInS, wIndexS, wCatO, dInI, iKeysW, wMaxV, wCntT, lTupX, List.getElem?_cons_succ, List.getElem?_cons_zero, List.set_cons_succ, List.set_cons_zero, List.cons_append, List.nil_append, List.append_nil, List.length_cons, List.length_nil, List.length_map, List.map_cons, List.map_nil, List.replicate, rlD, at0, prR, atD_0, ch_eq]
        refine ⟨by decide, by decide, hN _ ?_⟩
        have go := iter_rule A (v := v) (c5 := .un) (c6 := .un) (n := { nx := sFrz 7 (sRet (wMake0 A.c_Row 3 (S_Row_init A) [] (wCons (wVar 0) (wCons (wCBL lTup (wOwn 9)) (wCons (wJoin (wC (.str "")) (wLc (iLst (wVar 7)) (gVar 11) wYes (wDGet (dE (wVar 4)) (wVar 11)) [11])) wNil))))) { nx := fun _ => q .non, rt := q, er := er }, rt := q, er := er }) hk ok (fun c10 c11 => ?_) 8 0 [frst rl] .un .un rfl ⟨by simp, fun c hc => by rw [List.mem_singleton.mp hc]; exact lg_sg ok.first.1, fun j c hj => by omega, by simp⟩ rfl
        · rw [hf] at go
          exact ⟨9, go⟩
        · simp only [wVar, wC, w2, w1, wNil, wCons, wTup, wLstO, wFz, wLk, wOwn, wAnd, wOr, wNot, wB, wYes, wIf, wFldC, wCB, wCBL, wCall0, wMeth0, wMethN0, wMakeK0, wMake0, sSeq, sNext, sNever, sRet, sRetN, sRetO, sIf, sAsg, sAsgO, sPar, sParO, sPar3, sParO3, sAsgG, gTupD, setAll, sAug, sApp, sFldI, tyAnd, tyOr, tyNot, iRg1, iRg2, iLst, iTupW, sFor, dAdd, dSub, dMul, dMulT, dDiv, dMod, dPow, dNeg, dLt, dLe, dGt, dGe, dIsN, DL.isNon, dNotN, dEq, dNe, dIx, dLen, dInt, dAbs, dMax2, dMin2, lLen, lTup, isA, envOf, envI, putD, gVar, wRev, wRevT, wIxL, wSl, wSlO, wNoP, wPart, wBag, okD_int, okD_bl, okD_non, eqD_int, eqD_bl, wipeE, wChain, wCallI0, wCallIK0, iSt, dLenO, wLRg1, wJoin, sDrop, wDGet, wDIn, wDNotIn, dE, dOwn, sDPutW, sFrzD, sFrz, sAsgN, sParN, sParN3, nE, nO, nDict, nDisp1, wFzD, NV.sv, iEnumW, wInS, wIndexS, wCatO, dInI, iKeysW, wMaxV, wCntT, lTupX, List.getElem?_cons_succ, List.getElem?_cons_zero, List.set_cons_succ, List.set_cons_zero, List.cons_append, List.nil_append, List.append_nil, List.length_cons, List.length_nil, List.length_map, List.map_cons, List.map_nil, List.replicate, wLc]
          refine DL.comp_map (c := ch) (l := stOf rl) (ev := fun c => [.d (sysD A k), .d (rlD rl), .d (shD v), .d (.dct (wdD rl)), .d (.dct (mkD rl v)), .un, .un, .d (.lst ((stOf rl).map ch)), .dic (plD 0 (stOf rl)), .own ((mvOf k rl).map lineD), c10, .d (ch c)]) (f := fun c => ch (mkF rl v c)) (fun c _ Q h => ?_) (fun c hc Q h => ?_) ?_ ?_
          · simpa [gVar] using h
          · simp only [wVar, wC, w2, w1, wNil, wCons, wTup, wLstO, wFz, wLk, wOwn, wAnd, wOr, wNot, wB, wYes, wIf, wFldC, wCB, wCBL, wCall0, wMeth0, wMethN0, wMakeK0, wMake0, sSeq, sNext, sNever, sRet, sRetN, sRetO, sIf, sAsg, sAsgO, sPar, sParO, sPar3, sParO3, sAsgG, gTupD, setAll, sAug, sApp, sFldI, tyAnd, tyOr, tyNot, iRg1, iRg2, iLst, iTupW, sFor, dAdd, dSub, dMul, dMulT, dDiv, dMod, dPow, dNeg, dLt, dLe, dGt, dGe, dIsN, DL.isNon, dNotN, dEq, dNe, dIx, dLen, dInt, dAbs, dMax2, dMin2, lLen, lTup, isA, envOf, envI, putD, gVar, wRev, wRevT, wIxL, wSl, wSlO, wNoP, wPart, wBag, okD_int, okD_bl, okD_non, eqD_int, eqD_bl, wipeE, wChain, wCallI0, wCallIK0, iSt, dLenO, wLRg1, wJoin, sDrop, wDGet, wDIn, wDNotIn, dE, dOwn, sDPutW, sFrzD, sFrz, sAsgN, sParN, sParN3, nE, nO, nDict, nDisp1, wFzD, NV.sv, iEnumW, wInS, wIndexS, wCatO, dInI, iKeysW, wMaxV, wCntT, lTupX, List.getElem?_cons_succ, List.getElem?_cons_zero, List.set_cons_succ, List.set_cons_zero, List.cons_append, List.nil_append, List.append_nil, List.length_cons, List.length_nil, List.length_map, List.map_cons, List.map_nil, List.replicate, ch_eq, mk_look (hb.sub c hc)]
            exact h
          · rw [sz_eq]
            omega
          · obtain ⟨ys, e1, e2, e3⟩ := join_ch (mkF rl v) (stOf rl) (by omega)
            refine ⟨ys, e1, e2, by decide, ?_⟩
            rw [e3]
            exact row_init A (q := fun fs => q (.ins A.c_Row fs)) hk (ok.mv hk) (ok.sg hv) hq
      | _ => exact h.elim
    | _ => exact h.elim
  · exact h.elim
theorem hw_Row_by_rule (A : Ad) : ∀ ds er q, ds.length = 3 → S_Row_by_rule A ds er q → w_Row_by_rule A { nx := fun _ => q .non, rt := q, er := er } (envOf 3 ds) := by
  intro ds er q hlen h
  match ds, hlen with
  | [a, b, c], _ => exact ⟨rfl, h⟩
theorem join_ws (g : Nat → List Nat) : ∀ l : List Nat, Txt.join (PySem.Str.ofString "") (l.map fun c => (⟨(g c).toArray⟩ : PySem.Str)) = ⟨(l.flatMap g).toArray⟩ := fun l => by
  have e0 : PySem.Str.ofString "" = (⟨#[]⟩ : PySem.Str) := by decide
  have h : ∀ l : List Nat, PySem.Str.join (⟨#[]⟩ : PySem.Str) (l.map fun c => (⟨(g c).toArray⟩ : PySem.Str)) = ⟨(l.flatMap g).toArray⟩ := fun l => by
    induction l with
    | nil => rfl
    | cons c r ih =>
      cases r with
      | nil =>
        show (⟨(g c).toArray⟩ : PySem.Str) = _
        simp
      | cons d r =>
        show (⟨(g c).toArray⟩ : PySem.Str) ++ ⟨#[]⟩ ++ PySem.Str.join ⟨#[]⟩ ((d :: r).map fun c => (⟨(g c).toArray⟩ : PySem.Str)) = _
        rw [ih]
        show (⟨((g c).toArray ++ #[]) ++ ((d :: r).flatMap g).toArray⟩ : PySem.Str) = _
        simp
  rw [TL.join_eq, e0]
  exact h l
theorem sum_ws (g : Nat → List Nat) (l : List Nat) : ((l.map fun c => (⟨(g c).toArray⟩ : PySem.Str)).map (·.length)).sum = (l.flatMap g).length := by
  induction l with
  | nil => rfl
  | cons c r ih =>
    rw [List.map_cons, List.map_cons, List.sum_cons, ih, List.flatMap_cons, List.length_append, ws_len]
/-- words put together -/
theorem join_wds (g : Nat → List Nat) (l : List Nat) (hl : (l.flatMap g).length ≤ 16777216) :
    ∃ ys, strsD (l.map fun x => ws (g x)) = some ys ∧ (ys.map (·.length)).sum + ys.length * (PySem.Str.ofString "").length ≤ 16777216 ∧ Txt.join (PySem.Str.ofString "") ys = ⟨(l.flatMap g).toArray⟩ := by
  refine ⟨_, strsD_map (fun c => (⟨(g c).toArray⟩ : PySem.Str)) l, ?_, join_ws g l⟩
  rw [sum_ws, show (PySem.Str.ofString "").length = 0 from by decide, Nat.mul_zero, Nat.add_zero]
  exact hl
theorem strs_ch (st : List Nat) : strsD (st.map ch) = some (st.map chS) := strsD_map chS st
theorem mem_ch {x : Nat} {st : List Nat} : chS x ∈ st.map chS ↔ x ∈ st := ⟨fun h => by
  obtain ⟨y, hy, e⟩ := List.mem_map.mp h
  rw [← chS_inj e]
  exact hy, fun h => List.mem_map.mpr ⟨x, h, rfl⟩⟩
theorem idx_ch (x : Nat) : ∀ st : List Nat, (st.map chS).idxOf (chS x) = st.idxOf x
  | [] => rfl
  | y :: r => by
    rw [List.map_cons, List.idxOf_cons, List.idxOf_cons, idx_ch x r]
    by_cases e : y = x
    · subst e
      simp
    · rw [beq_eq_false_iff_ne.mpr fun z => e (chS_inj z), beq_eq_false_iff_ne.mpr e]
theorem big12 {k : Int} (hk : K3 k) : 300 ≤ un k 12 := by
  rcases k3_cases hk with rfl | rfl | rfl <;> decide
theorem wdD_take {rl : RL} {i : Nat} (hi : i < rl.length) : wdD (rl.take (i + 1)) = wdD (rl.take i) ++ [(chS rl[i].1, ws rl[i].2)] := by
  rw [List.take_succ, List.getElem?_eq_getElem hi]
  exact wdD_s _ _
theorem mkP_take {rl : RL} {v : Option (List Nat)} {i : Nat} (hi : i < rl.length) : mkP rl v (rl.take (i + 1)) = mkP rl v (rl.take i) ++ [(chS rl[i].1, ch (mkF rl v rl[i].1))] := by
  rw [List.take_succ, List.getElem?_eq_getElem hi]
  exact mkP_s _ _ _ _
theorem take_split {rl : RL} {i : Nat} (hi : i < rl.length) : rl = rl.take i ++ rl[i] :: rl.drop (i + 1) := by
  rw [← List.drop_eq_getElem_cons hi, List.take_append_drop]
theorem str_ext {a b : List Nat} (h : a = b) : (⟨a.toArray⟩ : PySem.Str) = ⟨b.toArray⟩ := by rw [h]
theorem strX_rule {k : Int} {rl : RL} {v : Option (List Nat)} (hk : K3 k) (ok : OkRl k rl) {n j : Nat} (hn : n ≤ 2000) (hj : (n : Int) ≤ un k j) :
    strX k (mvOf k rl) (sgOf rl v) 0 n = ⟨(((W (wf rl) j (frst rl)).take n).map (mkF rl v)).toArray⟩ := by
  unfold strX
  refine str_ext ?_
  have hl := (W_len hk (ok.sub hk) j).1 _ ok.first.1
  apply List.ext_getElem?
  intro m
  rw [List.getElem?_map, List.getElem?_map, List.getElem?_take]
  by_cases hm : m < n
  · rw [if_pos hm, List.getElem?_range hm]
    have hj2 := (jm_ok hk (m := (m : Int)) (by omega)).2
    obtain ⟨c, e1, e2, e3⟩ := sgc_rule (v := v) hk ok (m := (m : Int)) (by omega) hj2.2 (j := j) (by omega)
    rw [Int.toNat_natCast] at e1
    rw [e1]
    show some (sgc k (mvOf k rl) (sgOf rl v) (0 + (m : Nat))) = some (mkF rl v c)
    rw [← e3, Int.zero_add]
    rfl
  · rw [if_neg hm, List.getElem?_eq_none (by rw [List.length_range]; omega)]
    rfl
theorem W_sgs {k : Int} {rl : RL} (ok : OkRl k rl) : ∀ j s, s ∈ sgs rl → ∀ x ∈ W (wf rl) j s, x ∈ sgs rl
  | 0, s, hs, x, hx => by
    rw [List.mem_singleton.mp hx]
    exact hs
  | j + 1, s, hs, x, hx => by
    obtain ⟨y, hy, hx⟩ := List.mem_flatMap.mp hx
    exact W_sgs ok j y (ok.cl s hs y hy) x hx
theorem by_rule (A : Ad) {k : Int} {rl : RL} {v : Option (List Nat)} {er : ER} {q : D → Prop} (hk : K3 k) (ok : OkRl k rl) (hv : OkSh rl v) (hq : q (rowD A k (mvOf k rl) (sgOf rl v))) : S_Row_by_rule A [sysD A k, rlD rl, shD v] er q := ⟨rfl, k, rfl, rl, rfl, v, rfl, hk, ok, hv, hq⟩
theorem rule_letters {k : Int} {rl : RL} {v : Option (List Nat)} (ok : OkRl k rl) (hv : OkSh rl v) {l : List Nat} (hl : ∀ c ∈ l, c ∈ sgs rl) : ∀ c ∈ (⟨(l.map (mkF rl v)).toArray⟩ : PySem.Str).cps.toList, c < 1114112 := fun c hc => by
  have hc : c ∈ l.map (mkF rl v) := hc
  obtain ⟨d, hd, rfl⟩ := List.mem_map.mp hc
  have := mk_in ok hv (hl d hd)
  omega
end Lw
namespace Lw
open PySem L2 DL
variable [Tbl]
/-! ### Beatty -/
def Qf (k x y : Int) : Int := x * x - k * x * y - y * y
theorem qf_turn (k x y : Int) : Qf k (k * x + y) x = - Qf k x y := by
  unfold Qf
  grind
/-- less in the first -/
theorem qf_le {k x t y : Int} (h : 0 ≤ x) (h2 : x ≤ t) (hy : 0 < y) (q : Qf k t y < 0) : Qf k x y < 0 := by
  unfold Qf at *
  have h3 : x * x ≤ x * t := Int.mul_le_mul_of_nonneg_left h2 h
  rcases Int.le_total x (k * y) with h1 | h1
  · have h4 : x * x ≤ x * (k * y) := Int.mul_le_mul_of_nonneg_left h1 h
    have h5 : 0 < y * y := Int.mul_pos hy hy
    grind
  · have h4 : x * (x - k * y) ≤ t * (t - k * y) := Int.mul_le_mul h2 (by omega) (by omega) (by omega)
    grind
theorem qf_le0 {k x t y : Int} (h : 0 ≤ x) (h2 : x ≤ t) (q : Qf k t y ≤ 0) : Qf k x y ≤ 0 := by
  unfold Qf at *
  have h3 : x * x ≤ x * t := Int.mul_le_mul_of_nonneg_left h2 h
  rcases Int.le_total x (k * y) with h1 | h1
  · have h4 : x * x ≤ x * (k * y) := Int.mul_le_mul_of_nonneg_left h1 h
    have h5 : 0 ≤ y * y := by
      rcases Int.le_total 0 y with h | h
      · exact Int.mul_nonneg h h
      · exact Int.mul_nonneg_of_nonpos_of_nonpos h h
    grind
  · have h4 : x * (x - k * y) ≤ t * (t - k * y) := Int.mul_le_mul h2 (by omega) (by omega) (by omega)
    grind
/-- more in the first -/
theorem qf_ge {k x t y : Int} (h : 0 ≤ x) (h2 : x ≤ t) (q : 0 < Qf k x y) : 0 < Qf k t y := by
  rcases Int.lt_or_le 0 (Qf k t y) with h3 | h3
  · exact h3
  · have := qf_le0 h h2 h3
    omega
/-- more in the second -/
theorem qf_down {k x y z : Int} (hk : 0 ≤ k) (h : 0 ≤ x) (hy : 0 ≤ y) (h2 : y ≤ z) : Qf k x z ≤ Qf k x y := by
  unfold Qf
  have h3 : y * y ≤ z * z := Int.mul_le_mul h2 h2 hy (by omega)
  have h4 : k * x * y ≤ k * x * z := Int.mul_le_mul_of_nonneg_left h2 (Int.mul_nonneg hk h)
  omega
/-- what is known of a row of digits: A - B of its letters, and whether the last digit is the step -/
structure Beat (k A B : Int) (b : Bool) : Prop where
  a0 : 0 ≤ A
  b0 : 0 ≤ B
  hi : Qf k A (B + 1) < 0
  lo : 0 < Qf k (A + 1) B
  no : b = false → Qf k (A + 1) (B + 1) < 0
  yes : b = true → 0 < Qf k (A + 1) (B + 1)
theorem beat0 {k : Int} (hk : 1 ≤ k) : Beat k 0 0 false where
  a0 := Int.le_refl _
  b0 := Int.le_refl _
  hi := by unfold Qf; simp
  lo := by unfold Qf; simp
  no := fun _ => by unfold Qf; simp; omega
  yes := fun h => by cases h
theorem beat_s {k A B t : Int} {b : Bool} (hk : 1 ≤ k) (h : Beat k A B b) (t0 : 0 ≤ t) (tk : t ≤ k) (tb : b = true → t = 0) : Beat k (k * A + B + t) A (t == k) := by
  have h1 := h.a0
  have h2 := h.b0
  have hA : 0 ≤ k * A := Int.mul_nonneg (by omega) h1
  have e1 := qf_turn k (A + 1) B
  have e2 := qf_turn k A (B + 1)
  have e3 := qf_turn k (A + 1) (B + 1)
  have hlo := h.lo
  have hhi := h.hi
  have x1 : k * (A + 1) + B = k * A + B + k := by grind
  have x2 : k * A + (B + 1) = k * A + B + 1 := by omega
  have x3 : k * (A + 1) + (B + 1) = k * A + B + k + 1 := by grind
  rw [x1] at e1
  rw [x2] at e2
  rw [x3] at e3
  refine ⟨by omega, h1, qf_le (t := k * A + B + k) (by omega) (by omega) (by omega) (by omega), qf_ge (x := k * A + B + 1) (by omega) (by omega) (by omega), fun hb => ?_, fun hb => ?_⟩
  · have : t ≠ k := by simpa using hb
    exact qf_le (t := k * A + B + k) (by omega) (by omega) (by omega) (by omega)
  · have : t = k := by simpa using hb
    subst this
    cases hb2 : b with
    | true =>
      have := tb hb2
      omega
    | false =>
      have := h.no hb2
      omega
/-- so many steps on at once -/
theorem qf_both (k a n : Int) : Qf k a n = Qf k (a + 1) (n + 1) + ((k - 2) * a + (k + 2) * (n + 1) - 2) := by
  unfold Qf
  grind
structure Root (k n a : Int) : Prop where
  k1 : 1 ≤ k
  n1 : 1 ≤ n
  a1 : k * n ≤ a
  le : Qf k a n ≤ 0
  gt : 0 < Qf k (a + 1) n
theorem sq_lt {x y : Int} (hy : 0 ≤ y) (h : x * x < y * y) : x < y := by
  rcases Int.lt_or_le x y with h1 | h1
  · exact h1
  · have := Int.mul_le_mul h1 h1 hy (by omega)
    omega
theorem root_ok {k n r : Int} (hk : 1 ≤ k) (hn : 1 ≤ n) (h0 : 0 ≤ r) (h1 : r * r ≤ (k * k + 4) * n * n) (h2 : (k * k + 4) * n * n < (r + 1) * (r + 1)) : Root k n ((k * n + r) / 2) := by
  have hkn : 0 ≤ k * n := Int.mul_nonneg (by omega) (by omega)
  have hr : k * n < r + 1 := sq_lt (by omega) (by
    have : 0 ≤ n * n := Int.mul_nonneg (by omega) (by omega)
    grind)
  obtain ⟨a, ha⟩ : ∃ a, a = (k * n + r) / 2 := ⟨_, rfl⟩
  rw [← ha]
  have b1 : 2 * a ≤ k * n + r := by omega
  have b2 : k * n + r < 2 * a + 2 := by omega
  refine ⟨hk, hn, by omega, ?_, ?_⟩
  · have h3 : (2 * a - k * n) * (2 * a - k * n) ≤ r * r := Int.mul_le_mul (by omega) (by omega) (by omega) h0
    have h4 : 4 * Qf k a n = (2 * a - k * n) * (2 * a - k * n) - (k * k + 4) * n * n := by
      unfold Qf
      grind
    omega
  · have h3 : (r + 1) * (r + 1) ≤ (2 * (a + 1) - k * n) * (2 * (a + 1) - k * n) := Int.mul_le_mul (by omega) (by omega) (by omega) (by omega)
    have h4 : 4 * Qf k (a + 1) n = (2 * (a + 1) - k * n) * (2 * (a + 1) - k * n) - (k * k + 4) * n * n := by
      unfold Qf
      grind
    omega
theorem root_more {k n a : Int} (h : Root k n a) : 0 ≤ (k - 2) * a + (k + 2) * n - 2 := by
  have h1 := h.k1
  have h2 := h.n1
  have h3 := h.le
  rcases Int.lt_or_le 1 k with hk | hk
  · have e1 : 0 ≤ (k - 2) * a := Int.mul_nonneg (by omega) (by
      have := h.a1
      have : 0 ≤ k * n := Int.mul_nonneg (by omega) (by omega)
      omega)
    have e2 : 3 * n ≤ (k + 2) * n := Int.mul_le_mul_of_nonneg_right (by omega) (by omega)
    omega
  · have : k = 1 := by omega
    subst this
    have h4 : a ≤ 2 * n - 1 := by
      rcases Int.lt_or_le a (2 * n) with h4 | h4
      · omega
      · have := qf_le0 (k := 1) (x := 2 * n) (t := a) (y := n) (by omega) h4 h3
        unfold Qf at this
        have : 0 < n * n := Int.mul_pos (by omega) (by omega)
        grind
    omega
theorem beat_at {k n a A B : Int} {b : Bool} (r : Root k n a) (h : Beat k A B b) (e : A + B = n + a - 1) : b = true := by
  have h1 := h.a0
  have h2 := h.b0
  have h3 := r.k1
  have h4 := r.n1
  have h5 := r.a1
  have h6 : 0 ≤ k * n := Int.mul_nonneg (by omega) (by omega)
  have hB : B = n - 1 := by
    rcases Int.lt_trichotomy B (n - 1) with c | c | c
    · have d1 := qf_ge (k := k) (x := a + 1) (t := A) (y := n) (by omega) (by omega) r.gt
      have d2 := qf_down (k := k) (x := A) (y := B + 1) (z := n) (by omega) (by omega) (by omega) (by omega)
      have := h.hi
      omega
    · exact c
    · have d1 := qf_le0 (k := k) (x := A + 1) (t := a) (y := n) (by omega) (by omega) r.le
      have d2 := qf_down (k := k) (x := A + 1) (y := n) (z := B) (by omega) (by omega) (by omega) (by omega)
      have := h.lo
      omega
  have hA : A = a := by omega
  subst hA
  cases b with
  | true => rfl
  | false =>
    have d1 := h.no rfl
    have d2 := r.gt
    rw [show B + 1 = n by omega] at d1
    omega
theorem beat_before {k n a A B : Int} {b : Bool} (r : Root k n a) (h : Beat k A B b) (e : A + B = n + a - 2) : b = false := by
  have h1 := h.a0
  have h2 := h.b0
  have h3 := r.k1
  have h4 := r.n1
  have h5 := r.a1
  have h6 : 0 ≤ k * n := Int.mul_nonneg (by omega) (by omega)
  cases b with
  | false => rfl
  | true =>
    exfalso
    have y := h.yes rfl
    have z := h.hi
    rcases Int.lt_or_le (B + 1) n with c | c
    · have m1 := qf_both k a (n - 1)
      rw [show n - 1 + 1 = n by omega] at m1
      have m2 := root_more r
      have m3 := r.gt
      have d1 := qf_ge (k := k) (x := a) (t := A) (y := n - 1) (by omega) (by omega) (by omega)
      have d2 := qf_down (k := k) (x := A) (y := B + 1) (z := n - 1) (by omega) (by omega) (by omega) (by omega)
      omega
    · have d1 := qf_le0 (k := k) (x := A + 1) (t := a) (y := n) (by omega) (by omega) r.le
      have d2 := qf_down (k := k) (x := A + 1) (y := n) (z := B + 1) (by omega) (by omega) (by omega) (by omega)
      omega
theorem beat_behind {k n a A B : Int} {b : Bool} (r : Root k n a) (h : Beat k A B b) (e : A + B = n + a) : b = false := by
  have h1 := h.a0
  have h2 := h.b0
  have h3 := r.k1
  have h4 := r.n1
  have h5 := r.a1
  have h6 : 0 ≤ k * n := Int.mul_nonneg (by omega) (by omega)
  cases b with
  | false => rfl
  | true =>
    exfalso
    have y := h.yes rfl
    have z := h.hi
    rcases Int.lt_or_le n (B + 1) with c | c
    · have m1 := qf_both k a n
      have m2 := root_more r
      have m3 := r.le
      have m4 : (k + 2) * n ≤ (k + 2) * (n + 1) := Int.mul_le_mul_of_nonneg_left (by omega) (by omega)
      have d1 := qf_le0 (k := k) (x := A + 1) (t := a + 1) (y := n + 1) (by omega) (by omega) (by omega)
      have d2 := qf_down (k := k) (x := A + 1) (y := n + 1) (z := B + 1) (by omega) (by omega) (by omega) (by omega)
      omega
    · have d1 := qf_ge (k := k) (x := a + 1) (t := A) (y := n) (by omega) (by omega) r.gt
      have d2 := qf_down (k := k) (x := A) (y := B + 1) (z := n) (by omega) (by omega) (by omega) (by omega)
      omega

/-- the letters told by digits: long ones, short ones -/
def ab (k : Int) : Int → Int → List Int → Int × Int
  | a, b, [] => (a, b)
  | a, b, d :: r => ab k (k * a + b + d) a r
def lastK (k : Int) : Bool → List Int → Bool
  | b, [] => b
  | _, d :: r => lastK k (d == k) r
def vd (k : Int) : Bool → List Int → Prop
  | _, [] => True
  | b, d :: r => (0 ≤ d ∧ d ≤ k ∧ (b = true → d = 0)) ∧ vd k (d == k) r
theorem beat_l {k : Int} (hk : 1 ≤ k) : ∀ (l : List Int) (a b : Int) (c : Bool), Beat k a b c → vd k c l → Beat k (ab k a b l).1 (ab k a b l).2 (lastK k c l)
  | [], _, _, _, h, _ => h
  | d :: r, _, _, _, h, v => beat_l hk r _ _ _ (beat_s hk h v.1.1 v.1.2.1 v.1.2.2) v.2
theorem ab_sum {k : Int} (hk : K3 k) : ∀ (j : Nat) (m a b : Int), 0 ≤ m → m < un k j → (ab k a b (dg k m j)).1 + (ab k a b (dg k m j)).2 = a * un k j + b * (pr k j).1 + m
  | 0, m, a, b, h0, h1 => by
    rw [un_0] at h1
    have : m = 0 := by omega
    subst this
    show a + b = a * 1 + b * 1 + 0
    omega
  | j + 1, m, a, b, h0, h1 => by
    have hp := un_pos hk j
    have ih := ab_sum hk j (m % un k j) (k * a + b + m / un k j) a (Int.emod_nonneg _ (by omega)) (Int.emod_lt_of_pos _ (by omega))
    have hm := Int.emod_add_mul_ediv m (un k j)
    rw [dg_s, ab, ih, un_s, pr_1]
    generalize un k j = u at *
    generalize (pr k j).1 = p at *
    generalize m / u = d at *
    generalize m % u = r at *
    grind
theorem vd_dg {k : Int} (hk : K3 k) : ∀ (j : Nat) (m : Int) (c : Bool), 0 ≤ m → m < un k j → (c = true → m < (pr k j).1) → vd k c (dg k m j)
  | 0, _, _, _, _, _ => trivial
  | j + 1, m, c, h0, h1, h2 => by
    have hp := un_pos hk j
    have hu := un_le hk j
    have hm := Int.emod_add_mul_ediv m (un k j)
    have hr0 : 0 ≤ m % un k j := Int.emod_nonneg _ (by omega)
    have hr1 : m % un k j < un k j := Int.emod_lt_of_pos _ (by omega)
    have hd0 : 0 ≤ m / un k j := Int.ediv_nonneg h0 (by omega)
    have hd1 : m / un k j < k + 1 := Int.ediv_lt_of_lt_mul (by omega) (by omega)
    rw [dg_s]
    refine ⟨⟨hd0, by omega, fun hc => ?_⟩, vd_dg hk j _ _ hr0 hr1 fun e => ?_⟩
    · have := h2 hc
      rw [pr_1] at this
      exact Int.ediv_eq_zero_of_lt h0 this
    · have e : m / un k j = k := by simpa using e
      rw [un_s] at h1
      rw [e, Int.mul_comm] at hm
      omega
theorem stp_b {k d : Int} (hk : K3 k) (h0 : 0 ≤ d) (h1 : d ≤ k) : stp (bM k) 0 d = if d == k then 1 else 0 := by
  have hd : d = 0 ∨ d = 1 ∨ d = 2 ∨ d = 3 := by
    have := hk.2
    omega
  rcases k3_cases hk with rfl | rfl | rfl <;> rcases hd with rfl | rfl | rfl | rfl <;> first | decide | (exfalso; omega)
theorem stp_b1 {k : Int} (hk : K3 k) : stp (bM k) 1 0 = 0 := by
  rcases k3_cases hk with rfl | rfl | rfl <;> decide
theorem walk_b {k : Int} (hk : K3 k) : ∀ (l : List Int) (c : Bool), vd k c l → walk (bM k) (if c then 1 else 0) l = if lastK k c l then 1 else 0
  | [], _, _ => rfl
  | d :: r, c, h => by
    have ih := walk_b hk r (d == k) h.2
    rw [walk, lastK, ← ih]
    congr 1
    cases c with
    | false => exact stp_b hk h.1.1 h.1.2.1
    | true =>
      have hd := h.1.2.2 rfl
      subst hd
      have h1 := hk.1
      have e : ((0 : Int) == k) = false := beq_eq_false_iff_ne.mpr (by omega)
      rw [e]
      exact stp_b1 hk
theorem sgn_b {k m : Int} {j : Nat} (hk : K3 k) (h0 : 0 ≤ m) (hj : m < un k j) : ∃ a b c, Beat k a b c ∧ a + b = m ∧ sgn k (bM k) "ab" m j = ch (if c then 98 else 97) := by
  have v := vd_dg hk j m false h0 hj (fun z => nomatch z)
  have b := beat_l hk.1 _ _ _ _ (beat0 hk.1) v
  have s := ab_sum hk j m 0 0 h0 hj
  have w := walk_b hk _ _ v
  refine ⟨_, _, _, b, by omega, ?_⟩
  unfold sgn
  rw [show (if false = true then (1 : Int) else 0) = 0 from rfl] at w
  rw [w]
  cases lastK k false (dg k m j) <;> rfl
/-! ### the sample rows -/
def rl1 (k : Int) : RL := [(97, List.replicate k.toNat 97 ++ [98]), (98, [97])]
theorem rl1_ok {k : Int} (hk : K3 k) : OkRl k (rl1 k) where
  n2 := by show 2 ≤ 2; decide
  n8 := by show 2 ≤ 8; decide
  nd := by show [97, 98].Nodup; decide
  lt := fun p hp => by
    unfold rl1 at hp
    simp only [List.mem_cons, List.not_mem_nil, or_false] at hp
    rcases hp with rfl | rfl
    · exact ⟨show 97 ≤ 97 by decide, show 97 ≤ 122 by decide⟩
    · exact ⟨show 97 ≤ 98 by decide, show 98 ≤ 122 by decide⟩
  wd := fun p hp => by
    have h1 := hk.1
    have L : Lg (rl1 k) 97 := ⟨List.replicate k.toNat 97 ++ [98], by unfold rl1; simp, by rw [List.length_append, List.length_replicate]; show 1 < k.toNat + 1; omega⟩
    have S : Sh (rl1 k) 98 := ⟨[97], by unfold rl1; simp, rfl⟩
    unfold rl1 at hp
    simp only [List.mem_cons, List.not_mem_nil, or_false] at hp
    rcases hp with rfl | rfl
    · exact .inr ⟨List.replicate k.toNat 97, 98, rfl, by rw [List.length_replicate]; omega, fun l hl => by rw [List.eq_of_mem_replicate hl]; exact L, S⟩
    · exact .inl ⟨97, rfl, L⟩
  hd := by
    rcases k3_cases hk with rfl | rfl | rfl
    · exact ⟨97, 98, [], _, rfl⟩
    · exact ⟨97, 97, [98], _, rfl⟩
    · exact ⟨97, 97, [97, 98], _, rfl⟩
theorem mv_rl1 {k : Int} (hk : K3 k) : mvOf k (rl1 k) = bM k := by
  rcases k3_cases hk with rfl | rfl | rfl <;> decide
theorem sg_rl1 {k : Int} (hk : K3 k) : sgOf (rl1 k) none = ("ab" : PySem.Str) := by
  rcases k3_cases hk with rfl | rfl | rfl <;> decide
theorem bM_ok {k : Int} (hk : K3 k) : OkMv k (bM k) := by
  have := (rl1_ok hk).mv hk
  rw [mv_rl1 hk] at this
  exact this
theorem ab_sg {k : Int} (hk : K3 k) : OkSg (bM k) "ab" := ⟨rfl, by decide⟩
theorem hw_golden_row (A : Ad) : ∀ ds er q, ds.length = 0 → S_golden_row A ds er q → w_golden_row A { nx := fun _ => q .non, rt := q, er := er } (envOf 0 ds) := by
  intro ds er q hlen h
  unfold S_golden_row at h
  split at h
  · have hk : K3 1 := ⟨by decide, by decide⟩
    simp only [w_golden_row, wVar, wC, w2, w1, wNil, wCons, wTup, wLstO, wFz, wLk, wOwn, wAnd, wOr, wNot, wB, wYes, wIf, wFldC, wCB, wCBL, wCall0, wMeth0, wMethN0, wMakeK0, wMake0, sSeq, sNext, sNever, sRet, sRetN, sRetO, sIf, sAsg, sAsgO, sPar, sParO, sPar3, sParO3, sAsgG, gTupD, setAll, sAug, sApp, sFldI, tyAnd, tyOr, tyNot, iRg1, iRg2, iLst, iTupW, sFor, dAdd, dSub, dMul, dMulT, dDiv, dMod, dPow, dNeg, dLt, dLe, dGt, dGe, dIsN, DL.isNon, dNotN, dEq, dNe, dIx, dLen, dInt, dAbs, dMax2, dMin2, lLen, lTup, isA, envOf, envI, putD, gVar, wRev, wRevT, wIxL, wSl, wSlO, wNoP, wPart, wBag, okD_int, okD_bl, okD_non, eqD_int, eqD_bl, wipeE, wChain, wCallI0, wCallIK0, iSt, dLenO, wLRg1, wJoin, sDrop, wDGet, wDIn, wDNotIn, dE, dOwn, sDPutW, sFrzD, sFrz, sAsgN, sParN, sParN3, nE, nO, nDict, nDisp1, wFzD, NV.sv, iEnumW, wInS, wIndexS, wCatO, dInI, iKeysW, wMaxV, wCntT, lTupX, List.getElem?_cons_succ, List.getElem?_cons_zero, List.set_cons_succ, List.set_cons_zero, List.cons_append, List.nil_append, List.append_nil, List.length_cons, List.length_nil, List.length_map, List.map_cons, List.map_nil, List.replicate, S_System_init]
    refine ⟨trivial, hk, by decide, by decide, by decide, trivial, by_rule A (rl := rl1 1) (v := none) hk (rl1_ok hk) trivial ?_⟩
    rw [mv_rl1 hk, sg_rl1 hk]
    exact h
  · exact h.elim
theorem hw_silver_row (A : Ad) : ∀ ds er q, ds.length = 0 → S_silver_row A ds er q → w_silver_row A { nx := fun _ => q .non, rt := q, er := er } (envOf 0 ds) := by
  intro ds er q hlen h
  unfold S_silver_row at h
  split at h
  · have hk : K3 2 := ⟨by decide, by decide⟩
    simp only [w_silver_row, wVar, wC, w2, w1, wNil, wCons, wTup, wLstO, wFz, wLk, wOwn, wAnd, wOr, wNot, wB, wYes, wIf, wFldC, wCB, wCBL, wCall0, wMeth0, wMethN0, wMakeK0, wMake0, sSeq, sNext, sNever, sRet, sRetN, sRetO, sIf, sAsg, sAsgO, sPar, sParO, sPar3, sParO3, sAsgG, gTupD, setAll, sAug, sApp, sFldI, tyAnd, tyOr, tyNot, iRg1, iRg2, iLst, iTupW, sFor, dAdd, dSub, dMul, dMulT, dDiv, dMod, dPow, dNeg, dLt, dLe, dGt, dGe, dIsN, DL.isNon, dNotN, dEq, dNe, dIx, dLen, dInt, dAbs, dMax2, dMin2, lLen, lTup, isA, envOf, envI, putD, gVar, wRev, wRevT, wIxL, wSl, wSlO, wNoP, wPart, wBag, okD_int, okD_bl, okD_non, eqD_int, eqD_bl, wipeE, wChain, wCallI0, wCallIK0, iSt, dLenO, wLRg1, wJoin, sDrop, wDGet, wDIn, wDNotIn, dE, dOwn, sDPutW, sFrzD, sFrz, sAsgN, sParN, sParN3, nE, nO, nDict, nDisp1, wFzD, NV.sv, iEnumW, wInS, wIndexS, wCatO, dInI, iKeysW, wMaxV, wCntT, lTupX, List.getElem?_cons_succ, List.getElem?_cons_zero, List.set_cons_succ, List.set_cons_zero, List.cons_append, List.nil_append, List.append_nil, List.length_cons, List.length_nil, List.length_map, List.map_cons, List.map_nil, List.replicate, S_System_init]
    refine ⟨trivial, hk, by decide, by decide, by decide, trivial, by_rule A (rl := rl1 2) (v := none) hk (rl1_ok hk) trivial ?_⟩
    rw [mv_rl1 hk, sg_rl1 hk]
    exact h
  · exact h.elim
theorem hw_bronze_row (A : Ad) : ∀ ds er q, ds.length = 0 → S_bronze_row A ds er q → w_bronze_row A { nx := fun _ => q .non, rt := q, er := er } (envOf 0 ds) := by
  intro ds er q hlen h
  unfold S_bronze_row at h
  split at h
  · have hk : K3 3 := ⟨by decide, by decide⟩
    simp only [w_bronze_row, wVar, wC, w2, w1, wNil, wCons, wTup, wLstO, wFz, wLk, wOwn, wAnd, wOr, wNot, wB, wYes, wIf, wFldC, wCB, wCBL, wCall0, wMeth0, wMethN0, wMakeK0, wMake0, sSeq, sNext, sNever, sRet, sRetN, sRetO, sIf, sAsg, sAsgO, sPar, sParO, sPar3, sParO3, sAsgG, gTupD, setAll, sAug, sApp, sFldI, tyAnd, tyOr, tyNot, iRg1, iRg2, iLst, iTupW, sFor, dAdd, dSub, dMul, dMulT, dDiv, dMod, dPow, dNeg, dLt, dLe, dGt, dGe, dIsN, DL.isNon, dNotN, dEq, dNe, dIx, dLen, dInt, dAbs, dMax2, dMin2, lLen, lTup, isA, envOf, envI, putD, gVar, wRev, wRevT, wIxL, wSl, wSlO, wNoP, wPart, wBag, okD_int, okD_bl, okD_non, eqD_int, eqD_bl, wipeE, wChain, wCallI0, wCallIK0, iSt, dLenO, wLRg1, wJoin, sDrop, wDGet, wDIn, wDNotIn, dE, dOwn, sDPutW, sFrzD, sFrz, sAsgN, sParN, sParN3, nE, nO, nDict, nDisp1, wFzD, NV.sv, iEnumW, wInS, wIndexS, wCatO, dInI, iKeysW, wMaxV, wCntT, lTupX, List.getElem?_cons_succ, List.getElem?_cons_zero, List.set_cons_succ, List.set_cons_zero, List.cons_append, List.nil_append, List.append_nil, List.length_cons, List.length_nil, List.length_map, List.map_cons, List.map_nil, List.replicate, S_System_init]
    refine ⟨trivial, hk, by decide, by decide, by decide, trivial, by_rule A (rl := rl1 3) (v := none) hk (rl1_ok hk) trivial ?_⟩
    rw [mv_rl1 hk, sg_rl1 hk]
    exact h
  · exact h.elim
theorem oddM_ok : OkMv 1 oddM := ⟨by decide, by decide, by decide, by decide, ⟨[1], [[1, 0]], rfl⟩⟩
theorem odd_sg : OkSg oddM "ab" := ⟨by decide, by decide⟩
theorem hw_odd_row (A : Ad) : ∀ ds er q, ds.length = 0 → S_odd_row A ds er q → w_odd_row A { nx := fun _ => q .non, rt := q, er := er } (envOf 0 ds) := by
  intro ds er q hlen h
  unfold S_odd_row at h
  split at h
  · simp only [w_odd_row, wVar, wC, w2, w1, wNil, wCons, wTup, wLstO, wFz, wLk, wOwn, wAnd, wOr, wNot, wB, wYes, wIf, wFldC, wCB, wCBL, wCall0, wMeth0, wMethN0, wMakeK0, wMake0, sSeq, sNext, sNever, sRet, sRetN, sRetO, sIf, sAsg, sAsgO, sPar, sParO, sPar3, sParO3, sAsgG, gTupD, setAll, sAug, sApp, sFldI, tyAnd, tyOr, tyNot, iRg1, iRg2, iLst, iTupW, sFor, dAdd, dSub, dMul, dMulT, dDiv, dMod, dPow, dNeg, dLt, dLe, dGt, dGe, dIsN, DL.isNon, dNotN, dEq, dNe, dIx, dLen, dInt, dAbs, dMax2, dMin2, lLen, lTup, isA, envOf, envI, putD, gVar, wRev, wRevT, wIxL, wSl, wSlO, wNoP, wPart, wBag, okD_int, okD_bl, okD_non, eqD_int, eqD_bl, wipeE, wChain, wCallI0, wCallIK0, iSt, dLenO, wLRg1, wJoin, sDrop, wDGet, wDIn, wDNotIn, dE, dOwn, sDPutW, sFrzD, sFrz, sAsgN, sParN, sParN3, nE, nO, nDict, nDisp1, wFzD, NV.sv, iEnumW, wInS, wIndexS, wCatO, dInI, iKeysW, wMaxV, wCntT, lTupX, List.getElem?_cons_succ, List.getElem?_cons_zero, List.set_cons_succ, List.set_cons_zero, List.cons_append, List.nil_append, List.append_nil, List.length_cons, List.length_nil, List.length_map, List.map_cons, List.map_nil, List.replicate, S_System_init]
    refine ⟨trivial, ⟨by decide, by decide⟩, by decide, by decide, by decide, trivial, ?_⟩
    exact row_init A (q := fun fs => q (.ins A.c_Row fs)) ⟨by decide, by decide⟩ oddM_ok odd_sg h
  · exact h.elim
theorem loop_ldigits (A : Ad) {k : Int} {x : SV} {n : DN} (hk : K3 k) : ∀ (j : Nat) (acc : List Int) (r : Int) (c1 c2 : SV), 0 ≤ r → r < un k j → acc.length + j ≤ 1000 →
    (∀ r' c1 c2, n.nx [.d (.int k), x, .own ((acc ++ dg k r j).map .int), .d (.int r'), c1, c2, .un]) →
    sLoop (lb_law_digits_1 A) (gVar 4) n ((unL k j).reverse.map .int) [.d (.int k), x, .own (acc.map .int), .d (.int r), c1, c2, .un]
  | 0, acc, r, c1, c2, _, _, _, h => by
    have h := h r c1 c2
    rw [show dg k r 0 = [] from rfl, List.append_nil] at h
    exact h
  | j + 1, acc, r, c1, c2, h0, h1, hl, h => by
    have hp := un_pos hk j
    have ih := loop_ldigits A (x := x) (n := n) hk j (acc ++ [r / un k j]) (r % un k j) (.d (.int (un k j))) (.d (.int (r / un k j))) (Int.emod_nonneg _ (by omega)) (Int.emod_lt_of_pos _ (by omega)) (by rw [List.length_append]; show acc.length + 1 + j ≤ 1000; omega) (fun r' c1 c2 => by
      rw [List.append_assoc]
      have := h r' c1 c2
      rw [dg_s] at this
      exact this)
    have hc := cnt_eq hk (u := un k j) (r := r) (by omega) h0 (by have := un_le hk j; omega)
    have h3 := hk.1
    have h4 := hk.2
    rw [unL_s, List.reverse_append, List.reverse_singleton, List.singleton_append, List.map_cons, sLoop]
    simp [lb_law_digits_1, wVar, wC, w2, w1, wNil, wCons, wTup, wLstO, wFz, wLk, wOwn, wAnd, wOr, wNot, wB, wYes, wIf, wFldC, wCB, wCBL, wCall0, wMeth0, wMethN0, wMakeK0, wMake0, sSeq, sNext, sNever, sRet, sRetN, sRetO, sIf, sAsg, sAsgO, sPar, sParO, sPar3, sParO3, sAsgG, gTupD, setAll, sAug, sApp, sFldI, tyAnd, tyOr, tyNot, iRg1, iRg2, iLst, iTupW, sFor, dAdd, dSub, dMul, dMulT, dDiv, dMod, dPow, dNeg, dLt, dLe, dGt, dGe, dIsN, DL.isNon, dNotN, dEq, dNe, dIx, dLen, dInt, dAbs, dMax2, dMin2, lLen, lTup, isA, envOf, envI, putD, gVar, wRev, wRevT, wIxL, wSl, wSlO, wNoP, wPart, wBag, okD_int, okD_bl, okD_non, eqD_int, eqD_bl, wipeE, wChain, wCallI0, wCallIK0, iSt, dLenO, wLRg1, wJoin, sDrop, wDGet, wDIn, wDNotIn, dE, dOwn, sDPutW, sFrzD, sFrz, sAsgN, sParN, sParN3, nE, nO, nDict, nDisp1, wFzD, NV.sv, iEnumW, wInS, wIndexS, wCatO, dInI, iKeysW, wMaxV, wCntT, lTupX, wLc, rngD]
    have hc' : (((List.range k.toNat).filter fun (i : Nat) => decide ((1 + (i : Int)) * un k j ≤ r)).length : Int) = r / un k j := hc
    refine ⟨⟨by omega, by omega⟩, ?_⟩
    refine comp_ok (c := fun (i : Nat) => D.int (1 + i)) (l := List.range k.toNat) (acc := []) (ev := fun i => [.d (.int k), x, .own (acc.map .int), .d (.int r), .d (.int (un k j)), c2, .d (.int (1 + i))]) (p := fun (i : Nat) => decide ((1 + (i : Int)) * un k j ≤ r)) (f := fun (i : Nat) => .int (1 + i)) ?_ ?_ ?_ ?_ ?_
    · intro i _ Q h
      simpa [gVar] using h
    · intro i hi Q h
      have := List.mem_range.mp hi
      simp [wVar, wC, w2, w1, wNil, wCons, wTup, wLstO, wFz, wLk, wOwn, wAnd, wOr, wNot, wB, wYes, wIf, wFldC, wCB, wCBL, wCall0, wMeth0, wMethN0, wMakeK0, wMake0, sSeq, sNext, sNever, sRet, sRetN, sRetO, sIf, sAsg, sAsgO, sPar, sParO, sPar3, sParO3, sAsgG, gTupD, setAll, sAug, sApp, sFldI, tyAnd, tyOr, tyNot, iRg1, iRg2, iLst, iTupW, sFor, dAdd, dSub, dMul, dMulT, dDiv, dMod, dPow, dNeg, dLt, dLe, dGt, dGe, dIsN, DL.isNon, dNotN, dEq, dNe, dIx, dLen, dInt, dAbs, dMax2, dMin2, lLen, lTup, isA, envOf, envI, putD, gVar, wRev, wRevT, wIxL, wSl, wSlO, wNoP, wPart, wBag, okD_int, okD_bl, okD_non, eqD_int, eqD_bl, wipeE, wChain, wCallI0, wCallIK0, iSt, dLenO, wLRg1, wJoin, sDrop, wDGet, wDIn, wDNotIn, dE, dOwn, sDPutW, sFrzD, sFrz, sAsgN, sParN, sParN3, nE, nO, nDict, nDisp1, wFzD, NV.sv, iEnumW, wInS, wIndexS, wCatO, dInI, iKeysW, wMaxV, wCntT, lTupX]
      exact ⟨.inl (.inl ⟨by omega, by omega⟩), h⟩
    · intro i _ _ Q h
      simp [wVar, wC, w2, w1, wNil, wCons, wTup, wLstO, wFz, wLk, wOwn, wAnd, wOr, wNot, wB, wYes, wIf, wFldC, wCB, wCBL, wCall0, wMeth0, wMethN0, wMakeK0, wMake0, sSeq, sNext, sNever, sRet, sRetN, sRetO, sIf, sAsg, sAsgO, sPar, sParO, sPar3, sParO3, sAsgG, gTupD, setAll, sAug, sApp, sFldI, tyAnd, tyOr, tyNot, iRg1, iRg2, iLst, iTupW, sFor, dAdd, dSub, dMul, dMulT, dDiv, dMod, dPow, dNeg, dLt, dLe, dGt, dGe, dIsN, DL.isNon, dNotN, dEq, dNe, dIx, dLen, dInt, dAbs, dMax2, dMin2, lLen, lTup, isA, envOf, envI, putD, gVar, wRev, wRevT, wIxL, wSl, wSlO, wNoP, wPart, wBag, okD_int, okD_bl, okD_non, eqD_int, eqD_bl, wipeE, wChain, wCallI0, wCallIK0, iSt, dLenO, wLRg1, wJoin, sDrop, wDGet, wDIn, wDNotIn, dE, dOwn, sDPutW, sFrzD, sFrz, sAsgN, sParN, sParN3, nE, nO, nDict, nDisp1, wFzD, NV.sv, iEnumW, wInS, wIndexS, wCatO, dInI, iKeysW, wMaxV, wCntT, lTupX]
      exact h
    · rw [List.length_range, show sizeLine = 16777216 from rfl]
      show 0 + k.toNat ≤ _
      omega
    · rw [List.nil_append, List.length_map, hc']
      have e : r - r / un k j * un k j = r % un k j := by
        have := Int.emod_add_mul_ediv r (un k j)
        rw [Int.mul_comm]
        omega
      rw [e]
      have h5 : r / un k j < k + 1 := Int.ediv_lt_of_lt_mul (by omega) (by have := un_le hk j; omega)
      have h6 : 0 ≤ r / un k j := Int.ediv_nonneg h0 (by omega)
      refine ⟨by rw [show sizeLine = 16777216 from rfl]; omega, .inl (.inl ⟨by omega, by omega⟩), ?_⟩
      rw [List.map_append, List.map_reverse] at ih
      exact ih
theorem hw_law_digits (A : Ad) : ∀ ds er q, ds.length = 2 → S_law_digits A ds er q → w_law_digits A { nx := fun _ => q .non, rt := q, er := er } (envOf 7 ds) := by
  intro ds er q hlen h
  unfold S_law_digits at h
  split at h
  · rename_i k m
    obtain ⟨hk, h0, hm, j, hl, hj, hq⟩ := h
    simp [w_law_digits, wVar, wC, w2, w1, wNil, wCons, wTup, wLstO, wFz, wLk, wOwn, wAnd, wOr, wNot, wB, wYes, wIf, wFldC, wCB, wCBL, wCall0, wMeth0, wMethN0, wMakeK0, wMake0, sSeq, sNext, sNever, sRet, sRetN, sRetO, sIf, sAsg, sAsgO, sPar, sParO, sPar3, sParO3, sAsgG, gTupD, setAll, sAug, sApp, sFldI, tyAnd, tyOr, tyNot, iRg1, iRg2, iLst, iTupW, sFor, dAdd, dSub, dMul, dMulT, dDiv, dMod, dPow, dNeg, dLt, dLe, dGt, dGe, dIsN, DL.isNon, dNotN, dEq, dNe, dIx, dLen, dInt, dAbs, dMax2, dMin2, lLen, lTup, isA, envOf, envI, putD, gVar, wRev, wRevT, wIxL, wSl, wSlO, wNoP, wPart, wBag, okD_int, okD_bl, okD_non, eqD_int, eqD_bl, wipeE, wChain, wCallI0, wCallIK0, iSt, dLenO, wLRg1, wJoin, sDrop, wDGet, wDIn, wDNotIn, dE, dOwn, sDPutW, sFrzD, sFrz, sAsgN, sParN, sParN3, nE, nO, nDict, nDisp1, wFzD, NV.sv, iEnumW, wInS, wIndexS, wCatO, dInI, iKeysW, wMaxV, wCntT, lTupX, S_law_units, wLc]
    refine ⟨hk, comp_ok (c := D.int) (l := unL k 198) (acc := []) (ev := fun u => [.d (.int k), .d (.int m), .own [], .d (.int m), .d (.int u), .un, .un]) (p := fun u => decide (u ≤ m)) (f := D.int) ?_ ?_ ?_ ?_ ?_⟩
    · intro i _ Q h
      simpa [gVar] using h
    · intro i hi Q h
      simp [wVar, wC, w2, w1, wNil, wCons, wTup, wLstO, wFz, wLk, wOwn, wAnd, wOr, wNot, wB, wYes, wIf, wFldC, wCB, wCBL, wCall0, wMeth0, wMethN0, wMakeK0, wMake0, sSeq, sNext, sNever, sRet, sRetN, sRetO, sIf, sAsg, sAsgO, sPar, sParO, sPar3, sParO3, sAsgG, gTupD, setAll, sAug, sApp, sFldI, tyAnd, tyOr, tyNot, iRg1, iRg2, iLst, iTupW, sFor, dAdd, dSub, dMul, dMulT, dDiv, dMod, dPow, dNeg, dLt, dLe, dGt, dGe, dIsN, DL.isNon, dNotN, dEq, dNe, dIx, dLen, dInt, dAbs, dMax2, dMin2, lLen, lTup, isA, envOf, envI, putD, gVar, wRev, wRevT, wIxL, wSl, wSlO, wNoP, wPart, wBag, okD_int, okD_bl, okD_non, eqD_int, eqD_bl, wipeE, wChain, wCallI0, wCallIK0, iSt, dLenO, wLRg1, wJoin, sDrop, wDGet, wDIn, wDNotIn, dE, dOwn, sDPutW, sFrzD, sFrz, sAsgN, sParN, sParN3, nE, nO, nDict, nDisp1, wFzD, NV.sv, iEnumW, wInS, wIndexS, wCatO, dInI, iKeysW, wMaxV, wCntT, lTupX]
      exact h
    · intro i _ _ Q h
      simp [wVar, wC, w2, w1, wNil, wCons, wTup, wLstO, wFz, wLk, wOwn, wAnd, wOr, wNot, wB, wYes, wIf, wFldC, wCB, wCBL, wCall0, wMeth0, wMethN0, wMakeK0, wMake0, sSeq, sNext, sNever, sRet, sRetN, sRetO, sIf, sAsg, sAsgO, sPar, sParO, sPar3, sParO3, sAsgG, gTupD, setAll, sAug, sApp, sFldI, tyAnd, tyOr, tyNot, iRg1, iRg2, iLst, iTupW, sFor, dAdd, dSub, dMul, dMulT, dDiv, dMod, dPow, dNeg, dLt, dLe, dGt, dGe, dIsN, DL.isNon, dNotN, dEq, dNe, dIx, dLen, dInt, dAbs, dMax2, dMin2, lLen, lTup, isA, envOf, envI, putD, gVar, wRev, wRevT, wIxL, wSl, wSlO, wNoP, wPart, wBag, okD_int, okD_bl, okD_non, eqD_int, eqD_bl, wipeE, wChain, wCallI0, wCallIK0, iSt, dLenO, wLRg1, wJoin, sDrop, wDGet, wDIn, wDNotIn, dE, dOwn, sDPutW, sFrzD, sFrz, sAsgN, sParN, sParN3, nE, nO, nDict, nDisp1, wFzD, NV.sv, iEnumW, wInS, wIndexS, wCatO, dInI, iKeysW, wMaxV, wCntT, lTupX]
      exact h
    · rw [unL_len, show sizeLine = 16777216 from rfl]
      decide
    · rw [List.nil_append, filter_units hk hl 198 (by omega), ← List.map_reverse]
      refine loop_ldigits A hk j [] m .un .un h0 hl.2 (by show 0 + j ≤ 1000; omega) fun r' c1 c2 => ?_
      simp [wVar, wC, w2, w1, wNil, wCons, wTup, wLstO, wFz, wLk, wOwn, wAnd, wOr, wNot, wB, wYes, wIf, wFldC, wCB, wCBL, wCall0, wMeth0, wMethN0, wMakeK0, wMake0, sSeq, sNext, sNever, sRet, sRetN, sRetO, sIf, sAsg, sAsgO, sPar, sParO, sPar3, sParO3, sAsgG, gTupD, setAll, sAug, sApp, sFldI, tyAnd, tyOr, tyNot, iRg1, iRg2, iLst, iTupW, sFor, dAdd, dSub, dMul, dMulT, dDiv, dMod, dPow, dNeg, dLt, dLe, dGt, dGe, dIsN, DL.isNon, dNotN, dEq, dNe, dIx, dLen, dInt, dAbs, dMax2, dMin2, lLen, lTup, isA, envOf, envI, putD, gVar, wRev, wRevT, wIxL, wSl, wSlO, wNoP, wPart, wBag, okD_int, okD_bl, okD_non, eqD_int, eqD_bl, wipeE, wChain, wCallI0, wCallIK0, iSt, dLenO, wLRg1, wJoin, sDrop, wDGet, wDIn, wDNotIn, dE, dOwn, sDPutW, sFrzD, sFrz, sAsgN, sParN, sParN3, nE, nO, nDict, nDisp1, wFzD, NV.sv, iEnumW, wInS, wIndexS, wCatO, dInI, iKeysW, wMaxV, wCntT, lTupX]
      exact hq
  · exact h.elim
/-! ### whole roots -/
theorem lg250 {x : Int} (h0 : 0 ≤ x) (h1 : x < 2 ^ 250) : x.natAbs.log2 ≤ 250 := by
  by_cases z : x = 0
  · subst z
    decide
  · have h2 : x.natAbs < 2 ^ 250 := by omega
    have := (Nat.log2_lt (by omega)).mpr h2
    omega
theorem mulW {x y : Int} (h0 : 0 ≤ x) (h1 : x < 2 ^ 250) (g0 : 0 ≤ y) (g1 : y < 2 ^ 250) : CMulW x y := by
  have h2 := lg250 h0 h1
  have h3 := lg250 g0 g1
  unfold CMulW
  omega
theorem pow_pos2 (i : Nat) : (1 : Int) ≤ 2 ^ i := by
  have := Int.pow_pos (n := 2) (m := i) (by decide)
  omega
theorem pow_s2 (i : Nat) : (2 : Int) ^ (i + 1) = 2 ^ i * 2 := Int.pow_succ ..
theorem pow_le2 {i j : Nat} (h : i ≤ j) : (2 : Int) ^ i ≤ 2 ^ j := by
  obtain ⟨t, rfl⟩ := Nat.le.dest h
  rw [Int.pow_add]
  have h1 := pow_pos2 i
  have h2 := pow_pos2 t
  have := Int.mul_le_mul_of_nonneg_left h2 (show 0 ≤ (2 : Int) ^ i by omega)
  omega
def c120 : Int := 2 ^ 120
theorem c120_lt : c120 < 2 ^ 250 := by decide
theorem c120_sq {s : Int} (h : s ≤ 10 ^ 70) : s < c120 * c120 := by
  have : (10 : Int) ^ 70 < c120 * c120 := by decide
  omega
theorem iter_root1 (A : Ad) {s : Int} {c2 c3 : SV} {n : DN} (h0 : 0 ≤ s) (hs : s ≤ 10 ^ 70) (hn : ∀ lo hi : Int, 0 ≤ lo → lo < hi → hi ≤ c120 → lo * lo ≤ s → s < hi * hi → hi / 2 = lo → n.nx [.d (.int s), .d (.int hi), c2, c3]) :
    ∀ (t i : Nat) (u lo : Int), i + t = 120 → u = 2 ^ i → 0 ≤ lo → lo < u → lo * lo ≤ s → u / 2 = lo → sIter (wB (w2 dLe (w2 dMulT (wVar 1) (wVar 1)) (wVar 0))) (lb_law_root_1 A) n (t + 1) [.d (.int s), .d (.int u), c2, c3]
  | t, i, u, lo, e, hu, l0, l1, l2, l3 => by
    have hp := pow_pos2 i
    have hm := pow_le2 (show i ≤ 120 by omega)
    have hc := c120_lt
    have hcd : c120 = 2 ^ 120 := rfl
    rw [← hu] at hp hm
    rw [← hcd] at hm
    rw [sIter]
    simp only [wVar, wC, w2, w1, wNil, wCons, wTup, wLstO, wFz, wLk, wOwn, wAnd, wOr, wNot, wB, wYes, wIf, wFldC, wCB, wCBL, wCall0, wMeth0, wMethN0, wMakeK0, wMake0, sSeq, sNext, sNever, sRet, sRetN, sRetO, sIf, sAsg, sAsgO, sPar, sParO, sPar3, sParO3, sAsgG, gTupD, setAll, sAug, sApp, sFldI, tyAnd, tyOr, tyNot, iRg1, iRg2, iLst, iTupW, sFor, dAdd, dSub, dMul, dMulT, dDiv, dMod, dPow, dNeg, dLt, dLe, dGt, dGe, dIsN, DL.isNon, dNotN, dEq, dNe, dIx, dLen, dInt, dAbs, dMax2, dMin2, lLen, lTup, isA, envOf, envI, putD, gVar, wRev, wRevT, wIxL, wSl, wSlO, wNoP, wPart, wBag, okD_int, okD_bl, okD_non, eqD_int, eqD_bl, wipeE, wChain, wCallI0, wCallIK0, iSt, dLenO, wLRg1, wJoin, sDrop, wDGet, wDIn, wDNotIn, dE, dOwn, sDPutW, sFrzD, sFrz, sAsgN, sParN, sParN3, nE, nO, nDict, nDisp1, wFzD, NV.sv, iEnumW, wInS, wIndexS, wCatO, dInI, iKeysW, wMaxV, wCntT, lTupX, List.getElem?_cons_succ, List.getElem?_cons_zero, List.set_cons_succ, List.set_cons_zero, List.cons_append, List.nil_append, List.append_nil, List.length_cons, List.length_nil, List.length_map, List.map_cons, List.map_nil, List.replicate]
    refine ⟨.inr (mulW (by omega) (by omega) (by omega) (by omega)), fun hb => ?_, fun hb => ?_⟩
    · have hb : u * u ≤ s := of_decide_eq_true hb
      cases t with
      | zero =>
        exfalso
        have : i = 120 := by omega
        subst this
        have := c120_sq hs
        rw [hcd, ← hu] at this
        omega
      | succ t =>
        have ih := iter_root1 A (c2 := c2) (c3 := c3) h0 hs hn t (i + 1) (u * 2) u (by omega) (by rw [hu, pow_s2]) (by omega) (by omega) hb (by omega)
        simp only [lb_law_root_1, wVar, wC, w2, w1, wNil, wCons, wTup, wLstO, wFz, wLk, wOwn, wAnd, wOr, wNot, wB, wYes, wIf, wFldC, wCB, wCBL, wCall0, wMeth0, wMethN0, wMakeK0, wMake0, sSeq, sNext, sNever, sRet, sRetN, sRetO, sIf, sAsg, sAsgO, sPar, sParO, sPar3, sParO3, sAsgG, gTupD, setAll, sAug, sApp, sFldI, tyAnd, tyOr, tyNot, iRg1, iRg2, iLst, iTupW, sFor, dAdd, dSub, dMul, dMulT, dDiv, dMod, dPow, dNeg, dLt, dLe, dGt, dGe, dIsN, DL.isNon, dNotN, dEq, dNe, dIx, dLen, dInt, dAbs, dMax2, dMin2, lLen, lTup, isA, envOf, envI, putD, gVar, wRev, wRevT, wIxL, wSl, wSlO, wNoP, wPart, wBag, okD_int, okD_bl, okD_non, eqD_int, eqD_bl, wipeE, wChain, wCallI0, wCallIK0, iSt, dLenO, wLRg1, wJoin, sDrop, wDGet, wDIn, wDNotIn, dE, dOwn, sDPutW, sFrzD, sFrz, sAsgN, sParN, sParN3, nE, nO, nDict, nDisp1, wFzD, NV.sv, iEnumW, wInS, wIndexS, wCatO, dInI, iKeysW, wMaxV, wCntT, lTupX, List.getElem?_cons_succ, List.getElem?_cons_zero, List.set_cons_succ, List.set_cons_zero, List.cons_append, List.nil_append, List.append_nil, List.length_cons, List.length_nil, List.length_map, List.map_cons, List.map_nil, List.replicate]
        exact ⟨.inl (.inr ⟨by decide, by decide⟩), ih⟩
    · have hb : ¬ u * u ≤ s := of_decide_eq_false hb
      exact hn lo u l0 l1 (by omega) l2 (by omega) l3
theorem iter_root2 (A : Ad) {s : Int} {n : DN} (hn : ∀ (lo : Int) (c3 : SV), 0 ≤ lo → lo * lo ≤ s → s < (lo + 1) * (lo + 1) → n.nx [.d (.int s), .d (.int (lo + 1)), .d (.int lo), c3]) :
    ∀ (t : Nat) (lo hi : Int) (c3 : SV), (hi - lo).toNat ≤ t → 0 ≤ lo → lo < hi → hi ≤ c120 → lo * lo ≤ s → s < hi * hi → sIter (wB (w2 dGt (w2 dSub (wVar 1) (wVar 2)) (wC (.int 1)))) (lb_law_root_2 A) n t [.d (.int s), .d (.int hi), .d (.int lo), c3]
  | 0, lo, hi, c3, ht, l0, l1, _, _, _ => by omega
  | t + 1, lo, hi, c3, ht, l0, l1, l2, l3, l4 => by
    have hc := c120_lt
    rw [sIter]
    simp only [wVar, wC, w2, w1, wNil, wCons, wTup, wLstO, wFz, wLk, wOwn, wAnd, wOr, wNot, wB, wYes, wIf, wFldC, wCB, wCBL, wCall0, wMeth0, wMethN0, wMakeK0, wMake0, sSeq, sNext, sNever, sRet, sRetN, sRetO, sIf, sAsg, sAsgO, sPar, sParO, sPar3, sParO3, sAsgG, gTupD, setAll, sAug, sApp, sFldI, tyAnd, tyOr, tyNot, iRg1, iRg2, iLst, iTupW, sFor, dAdd, dSub, dMul, dMulT, dDiv, dMod, dPow, dNeg, dLt, dLe, dGt, dGe, dIsN, DL.isNon, dNotN, dEq, dNe, dIx, dLen, dInt, dAbs, dMax2, dMin2, lLen, lTup, isA, envOf, envI, putD, gVar, wRev, wRevT, wIxL, wSl, wSlO, wNoP, wPart, wBag, okD_int, okD_bl, okD_non, eqD_int, eqD_bl, wipeE, wChain, wCallI0, wCallIK0, iSt, dLenO, wLRg1, wJoin, sDrop, wDGet, wDIn, wDNotIn, dE, dOwn, sDPutW, sFrzD, sFrz, sAsgN, sParN, sParN3, nE, nO, nDict, nDisp1, wFzD, NV.sv, iEnumW, wInS, wIndexS, wCatO, dInI, iKeysW, wMaxV, wCntT, lTupX, List.getElem?_cons_succ, List.getElem?_cons_zero, List.set_cons_succ, List.set_cons_zero, List.cons_append, List.nil_append, List.append_nil, List.length_cons, List.length_nil, List.length_map, List.map_cons, List.map_nil, List.replicate]
    refine ⟨fun hb => ?_, fun hb => ?_⟩
    · have hb : 1 < hi - lo := of_decide_eq_true hb
      unfold lb_law_root_2
      refine seqI fun N hN => ?_
      simp only [wVar, wC, w2, w1, wNil, wCons, wTup, wLstO, wFz, wLk, wOwn, wAnd, wOr, wNot, wB, wYes, wIf, wFldC, wCB, wCBL, wCall0, wMeth0, wMethN0, wMakeK0, wMake0, sSeq, sNext, sNever, sRet, sRetN, sRetO, sIf, sAsg, sAsgO, sPar, sParO, sPar3, sParO3, sAsgG, gTupD, setAll, sAug, sApp, sFldI, tyAnd, tyOr, tyNot, iRg1, iRg2, iLst, iTupW, sFor, dAdd, dSub, dMul, dMulT, dDiv, dMod, dPow, dNeg, dLt, dLe, dGt, dGe, dIsN, DL.isNon, dNotN, dEq, dNe, dIx, dLen, dInt, dAbs, dMax2, dMin2, lLen, lTup, isA, envOf, envI, putD, gVar, wRev, wRevT, wIxL, wSl, wSlO, wNoP, wPart, wBag, okD_int, okD_bl, okD_non, eqD_int, eqD_bl, wipeE, wChain, wCallI0, wCallIK0, iSt, dLenO, wLRg1, wJoin, sDrop, wDGet, wDIn, wDNotIn, dE, dOwn, sDPutW, sFrzD, sFrz, sAsgN, sParN, sParN3, nE, nO, nDict, nDisp1, wFzD, NV.sv, iEnumW, wInS, wIndexS, wCatO, dInI, iKeysW, wMaxV, wCntT, lTupX, List.getElem?_cons_succ, List.getElem?_cons_zero, List.set_cons_succ, List.set_cons_zero, List.cons_append, List.nil_append, List.append_nil, List.length_cons, List.length_nil, List.length_map, List.map_cons, List.map_nil, List.replicate]
      refine ⟨⟨by decide, by decide⟩, hN _ ?_⟩
      obtain ⟨m, hm⟩ : ∃ m, m = (lo + hi) / 2 := ⟨_, rfl⟩
      rw [← hm]
      have m1 : lo < m := by omega
      have m2 : m < hi := by omega
      simp only [wVar, wC, w2, w1, wNil, wCons, wTup, wLstO, wFz, wLk, wOwn, wAnd, wOr, wNot, wB, wYes, wIf, wFldC, wCB, wCBL, wCall0, wMeth0, wMethN0, wMakeK0, wMake0, sSeq, sNext, sNever, sRet, sRetN, sRetO, sIf, sAsg, sAsgO, sPar, sParO, sPar3, sParO3, sAsgG, gTupD, setAll, sAug, sApp, sFldI, tyAnd, tyOr, tyNot, iRg1, iRg2, iLst, iTupW, sFor, dAdd, dSub, dMul, dMulT, dDiv, dMod, dPow, dNeg, dLt, dLe, dGt, dGe, dIsN, DL.isNon, dNotN, dEq, dNe, dIx, dLen, dInt, dAbs, dMax2, dMin2, lLen, lTup, isA, envOf, envI, putD, gVar, wRev, wRevT, wIxL, wSl, wSlO, wNoP, wPart, wBag, okD_int, okD_bl, okD_non, eqD_int, eqD_bl, wipeE, wChain, wCallI0, wCallIK0, iSt, dLenO, wLRg1, wJoin, sDrop, wDGet, wDIn, wDNotIn, dE, dOwn, sDPutW, sFrzD, sFrz, sAsgN, sParN, sParN3, nE, nO, nDict, nDisp1, wFzD, NV.sv, iEnumW, wInS, wIndexS, wCatO, dInI, iKeysW, wMaxV, wCntT, lTupX, List.getElem?_cons_succ, List.getElem?_cons_zero, List.set_cons_succ, List.set_cons_zero, List.cons_append, List.nil_append, List.append_nil, List.length_cons, List.length_nil, List.length_map, List.map_cons, List.map_nil, List.replicate]
      refine ⟨.inr (mulW (by omega) (by omega) (by omega) (by omega)), fun z => ?_, fun z => ?_⟩
      · have z : m * m ≤ s := of_decide_eq_true z
        exact iter_root2 A hn t m hi _ (by omega) (by omega) m2 l2 z l4
      · have z : ¬ m * m ≤ s := of_decide_eq_false z
        exact iter_root2 A hn t lo m _ (by omega) l0 m1 (by omega) l3 (by omega)
    · have hb : ¬ 1 < hi - lo := of_decide_eq_false hb
      have e : hi = lo + 1 := by omega
      subst e
      exact hn lo c3 l0 l3 l4
theorem hw_law_root (A : Ad) : ∀ ds er q, ds.length = 1 → S_law_root A ds er q → w_law_root A { nx := fun _ => q .non, rt := q, er := er } (envOf 4 ds) := by
  intro ds er q hlen h
  unfold S_law_root at h
  split at h
  · rename_i s
    obtain ⟨h0, hs, hq⟩ := h
    unfold w_law_root
    refine seqI fun N hN => ?_
    simp only [wVar, wC, w2, w1, wNil, wCons, wTup, wLstO, wFz, wLk, wOwn, wAnd, wOr, wNot, wB, wYes, wIf, wFldC, wCB, wCBL, wCall0, wMeth0, wMethN0, wMakeK0, wMake0, sSeq, sNext, sNever, sRet, sRetN, sRetO, sIf, sAsg, sAsgO, sPar, sParO, sPar3, sParO3, sAsgG, gTupD, setAll, sAug, sApp, sFldI, tyAnd, tyOr, tyNot, iRg1, iRg2, iLst, iTupW, sFor, dAdd, dSub, dMul, dMulT, dDiv, dMod, dPow, dNeg, dLt, dLe, dGt, dGe, dIsN, DL.isNon, dNotN, dEq, dNe, dIx, dLen, dInt, dAbs, dMax2, dMin2, lLen, lTup, isA, envOf, envI, putD, gVar, wRev, wRevT, wIxL, wSl, wSlO, wNoP, wPart, wBag, okD_int, okD_bl, okD_non, eqD_int, eqD_bl, wipeE, wChain, wCallI0, wCallIK0, iSt, dLenO, wLRg1, wJoin, sDrop, wDGet, wDIn, wDNotIn, dE, dOwn, sDPutW, sFrzD, sFrz, sAsgN, sParN, sParN3, nE, nO, nDict, nDisp1, wFzD, NV.sv, iEnumW, wInS, wIndexS, wCatO, dInI, iKeysW, wMaxV, wCntT, lTupX, List.getElem?_cons_succ, List.getElem?_cons_zero, List.set_cons_succ, List.set_cons_zero, List.cons_append, List.nil_append, List.append_nil, List.length_cons, List.length_nil, List.length_map, List.map_cons, List.map_nil, List.replicate]
    refine hN _ (seqI fun N hN => ?_)
    refine ⟨121, iter_root1 A h0 hs (fun lo hi l0 l1 l2 l3 l4 l5 => hN _ ?_) 120 0 1 0 rfl rfl (by decide) (by decide) h0 rfl⟩
    refine seqI fun N hN => ?_
    simp only [wVar, wC, w2, w1, wNil, wCons, wTup, wLstO, wFz, wLk, wOwn, wAnd, wOr, wNot, wB, wYes, wIf, wFldC, wCB, wCBL, wCall0, wMeth0, wMethN0, wMakeK0, wMake0, sSeq, sNext, sNever, sRet, sRetN, sRetO, sIf, sAsg, sAsgO, sPar, sParO, sPar3, sParO3, sAsgG, gTupD, setAll, sAug, sApp, sFldI, tyAnd, tyOr, tyNot, iRg1, iRg2, iLst, iTupW, sFor, dAdd, dSub, dMul, dMulT, dDiv, dMod, dPow, dNeg, dLt, dLe, dGt, dGe, dIsN, DL.isNon, dNotN, dEq, dNe, dIx, dLen, dInt, dAbs, dMax2, dMin2, lLen, lTup, isA, envOf, envI, putD, gVar, wRev, wRevT, wIxL, wSl, wSlO, wNoP, wPart, wBag, okD_int, okD_bl, okD_non, eqD_int, eqD_bl, wipeE, wChain, wCallI0, wCallIK0, iSt, dLenO, wLRg1, wJoin, sDrop, wDGet, wDIn, wDNotIn, dE, dOwn, sDPutW, sFrzD, sFrz, sAsgN, sParN, sParN3, nE, nO, nDict, nDisp1, wFzD, NV.sv, iEnumW, wInS, wIndexS, wCatO, dInI, iKeysW, wMaxV, wCntT, lTupX, List.getElem?_cons_succ, List.getElem?_cons_zero, List.set_cons_succ, List.set_cons_zero, List.cons_append, List.nil_append, List.append_nil, List.length_cons, List.length_nil, List.length_map, List.map_cons, List.map_nil, List.replicate, l5]
    refine ⟨⟨by decide, by decide⟩, hN _ (seqI fun N hN => ?_)⟩
    refine ⟨(hi - lo).toNat, iter_root2 A (fun r c3 r0 r1 r2 => hN _ ?_) _ lo hi .un (Nat.le_refl _) l0 l1 l2 l3 l4⟩
    simp only [wVar, wC, w2, w1, wNil, wCons, wTup, wLstO, wFz, wLk, wOwn, wAnd, wOr, wNot, wB, wYes, wIf, wFldC, wCB, wCBL, wCall0, wMeth0, wMethN0, wMakeK0, wMake0, sSeq, sNext, sNever, sRet, sRetN, sRetO, sIf, sAsg, sAsgO, sPar, sParO, sPar3, sParO3, sAsgG, gTupD, setAll, sAug, sApp, sFldI, tyAnd, tyOr, tyNot, iRg1, iRg2, iLst, iTupW, sFor, dAdd, dSub, dMul, dMulT, dDiv, dMod, dPow, dNeg, dLt, dLe, dGt, dGe, dIsN, DL.isNon, dNotN, dEq, dNe, dIx, dLen, dInt, dAbs, dMax2, dMin2, lLen, lTup, isA, envOf, envI, putD, gVar, wRev, wRevT, wIxL, wSl, wSlO, wNoP, wPart, wBag, okD_int, okD_bl, okD_non, eqD_int, eqD_bl, wipeE, wChain, wCallI0, wCallIK0, iSt, dLenO, wLRg1, wJoin, sDrop, wDGet, wDIn, wDNotIn, dE, dOwn, sDPutW, sFrzD, sFrz, sAsgN, sParN, sParN3, nE, nO, nDict, nDisp1, wFzD, NV.sv, iEnumW, wInS, wIndexS, wCatO, dInI, iKeysW, wMaxV, wCntT, lTupX, List.getElem?_cons_succ, List.getElem?_cons_zero, List.set_cons_succ, List.set_cons_zero, List.cons_append, List.nil_append, List.append_nil, List.length_cons, List.length_nil, List.length_map, List.map_cons, List.map_nil, List.replicate]
    refine ⟨fun _ => hq r r0 r1 r2, fun z => ?_⟩
    have z : ¬ 0 < s := of_decide_eq_false z
    have : s = 0 := by omega
    subst this
    exact hq 0 (by decide) (by decide) (by decide)
  · exact h.elim
/-! ### the law -/
def rowsD (A : Ad) : D := .lst [rowD A 1 (bM 1) "ab", rowD A 2 (bM 2) "ab", rowD A 3 (bM 3) "ab"]
theorem row_no (A : Ad) {k : Int} (hk : K3 k) : atD [rowD A 1 (bM 1) "ab", rowD A 2 (bM 2) "ab", rowD A 3 (bM 3) "ab"] (k - 1) = some (rowD A k (bM k) "ab") := by
  rcases k3_cases hk with rfl | rfl | rfl
  · exact atD_0
  · exact atD_1
  · exact atD_2
theorem row_at (A : Ad) {k m : Int} {er : ER} {q : D → Prop} (hk : K3 k) (h0 : 0 ≤ m) (h1 : m ≤ 10 ^ 40) (hq : ∀ a b c, Beat k a b c → a + b = m → q (ch (if c then 98 else 97))) : S_Row_call A [rowD A k (bM k) "ab", .int m] er q := by
  have hb := un_big hk
  obtain ⟨j, hj, hl⟩ := lim_ex 197 (show m < un k 197 by omega)
  obtain ⟨a, b, c, h2, h3, h4⟩ := sgn_b hk h0 hl.2
  exact ⟨rfl, k, bM k, "ab", rfl, hk, bM_ok hk, ab_sg hk, h0, h1, j, hl, by omega, by rw [h4]; exact hq a b c h2 h3⟩
theorem fig_in {n : Int} {i : Nat} (h0 : 0 ≤ n) (h1 : n < 10 ^ i) {r : Int} (r0 : 0 ≤ r) (r1 : r < 10) : 0 ≤ n * 10 + r ∧ n * 10 + r < 10 ^ (i + 1) := by
  rw [Int.pow_succ]
  omega
theorem ten_le {i j : Nat} (h : i ≤ j) : (10 : Int) ^ i ≤ 10 ^ j := by
  obtain ⟨t, rfl⟩ := Nat.le.dest h
  rw [Int.pow_add]
  have h1 : 0 < (10 : Int) ^ i := Int.pow_pos (by decide)
  have h2 : 0 < (10 : Int) ^ t := Int.pow_pos (by decide)
  have := Int.mul_le_mul_of_nonneg_left (show 1 ≤ (10 : Int) ^ t by omega) (show 0 ≤ (10 : Int) ^ i by omega)
  omega
theorem loop_fig (A : Ad) {b : PySem.Addr} {c1 c2 c5 c6 c7 c8 c9 c10 : SV} {n : DN} (hn : ∀ (m : Int) (c4 : SV), 0 ≤ m → m < 10 ^ 30 → n.nx [.d (.bag b), c1, c2, .d (.int m), c4, c5, c6, c7, c8, c9, c10]) : ∀ (l : List Nat) (i : Nat) (m : Int) (c4 : SV), i + l.length ≤ 30 → 0 ≤ m → m < 10 ^ i →
    sLoop (lb_law_right_1 A) (gVar 4) n (l.map fun (y : Nat) => D.int (0 + y)) [.d (.bag b), c1, c2, .d (.int m), c4, c5, c6, c7, c8, c9, c10]
  | [], i, m, c4, hl, h0, h1 => hn m c4 h0 (Int.lt_of_lt_of_le h1 (ten_le (by simpa using hl)))
  | y :: l, i, m, c4, hl, h0, h1 => by
    rw [List.map_cons, sLoop]
    simp only [lb_law_right_1, wVar, wC, w2, w1, wNil, wCons, wTup, wLstO, wFz, wLk, wOwn, wAnd, wOr, wNot, wB, wYes, wIf, wFldC, wCB, wCBL, wCall0, wMeth0, wMethN0, wMakeK0, wMake0, sSeq, sNext, sNever, sRet, sRetN, sRetO, sIf, sAsg, sAsgO, sPar, sParO, sPar3, sParO3, sAsgG, gTupD, setAll, sAug, sApp, sFldI, tyAnd, tyOr, tyNot, iRg1, iRg2, iLst, iTupW, sFor, dAdd, dSub, dMul, dMulT, dDiv, dMod, dPow, dNeg, dLt, dLe, dGt, dGe, dIsN, DL.isNon, dNotN, dEq, dNe, dIx, dLen, dInt, dAbs, dMax2, dMin2, lLen, lTup, isA, envOf, envI, putD, gVar, wRev, wRevT, wIxL, wSl, wSlO, wNoP, wPart, wBag, okD_int, okD_bl, okD_non, eqD_int, eqD_bl, wipeE, wChain, wCallI0, wCallIK0, iSt, dLenO, wLRg1, wJoin, sDrop, wDGet, wDIn, wDNotIn, dE, dOwn, sDPutW, sFrzD, sFrz, sAsgN, sParN, sParN3, nE, nO, nDict, nDisp1, wFzD, NV.sv, iEnumW, wInS, wIndexS, wCatO, dInI, iKeysW, wMaxV, wCntT, lTupX, List.getElem?_cons_succ, List.getElem?_cons_zero, List.set_cons_succ, List.set_cons_zero, List.cons_append, List.nil_append, List.append_nil, List.length_cons, List.length_nil, List.length_map, List.map_cons, List.map_nil, List.replicate, S_law_draw, sDraw]
    refine ⟨.inl (.inr ⟨by decide, by decide⟩), trivial, by decide, by decide, fun r r0 r1 => ?_⟩
    obtain ⟨g0, g1⟩ := fig_in h0 h1 r0 r1
    exact loop_fig A hn l (i + 1) _ _ (by rw [List.length_cons] at hl; omega) g0 g1
theorem abaD : (D.lst [ch 97, ch 98, ch 97]) = .lst [.str "a", .str "b", .str "a"] := rfl
theorem okL_ch {c : Nat} (h : c < 1114112) : okL 0 (ch c) := okL_str fun x hx => by
  have : x = c := by simpa using hx
  omega
theorem okL_aba : okL 1 (.lst [.str "a", .str "b", .str "a"]) := okL_lst fun x hx => by
  simp only [List.mem_cons, List.not_mem_nil, or_false] at hx
  rcases hx with rfl | rfl | rfl <;> exact okL_ch (by decide)
theorem lev (A : Ad) {b : PySem.Addr} {k n : Int} {c2 c4 c6 c7 c8 c9 c10 : SV} {N : DN} (hk : K3 k) (hn : 1 ≤ n) (hn2 : n ≤ 10 ^ 30) (hN : ∀ c6 c7 c8, N.nx [.d (.bag b), .d (rowsD A), c2, .d (.int n), c4, .d (.int k), c6, c7, c8, c9, c10]) :
    lb_law_right_2 A N [.d (.bag b), .d (rowsD A), c2, .d (.int n), c4, .d (.int k), c6, c7, c8, c9, c10] := by
  have hk1 := hk.1
  have hk2 := hk.2
  unfold lb_law_right_2
  refine seqI fun M hM => ?_
  simp only [wVar, wC, w2, w1, wNil, wCons, wTup, wLstO, wFz, wLk, wOwn, wAnd, wOr, wNot, wB, wYes, wIf, wFldC, wCB, wCBL, wCall0, wMeth0, wMethN0, wMakeK0, wMake0, sSeq, sNext, sNever, sRet, sRetN, sRetO, sIf, sAsg, sAsgO, sPar, sParO, sPar3, sParO3, sAsgG, gTupD, setAll, sAug, sApp, sFldI, tyAnd, tyOr, tyNot, iRg1, iRg2, iLst, iTupW, sFor, dAdd, dSub, dMul, dMulT, dDiv, dMod, dPow, dNeg, dLt, dLe, dGt, dGe, dIsN, DL.isNon, dNotN, dEq, dNe, dIx, dLen, dInt, dAbs, dMax2, dMin2, lLen, lTup, isA, envOf, envI, putD, gVar, wRev, wRevT, wIxL, wSl, wSlO, wNoP, wPart, wBag, okD_int, okD_bl, okD_non, eqD_int, eqD_bl, wipeE, wChain, wCallI0, wCallIK0, iSt, dLenO, wLRg1, wJoin, sDrop, wDGet, wDIn, wDNotIn, dE, dOwn, sDPutW, sFrzD, sFrz, sAsgN, sParN, sParN3, nE, nO, nDict, nDisp1, wFzD, NV.sv, iEnumW, wInS, wIndexS, wCatO, dInI, iKeysW, wMaxV, wCntT, lTupX, List.getElem?_cons_succ, List.getElem?_cons_zero, List.set_cons_succ, List.set_cons_zero, List.cons_append, List.nil_append, List.append_nil, List.length_cons, List.length_nil, List.length_map, List.map_cons, List.map_nil, List.replicate, S_law_root]
  have kk : 1 ≤ k * k ∧ k * k ≤ 9 := by
    rcases k3_cases hk with rfl | rfl | rfl <;> decide
  have nn : n * n ≤ 10 ^ 30 * 10 ^ 30 := Int.mul_le_mul hn2 hn2 (by omega) (by decide)
  have nn0 : 0 ≤ n * n := Int.mul_nonneg (by omega) (by omega)
  have e1 : (k * k + 4) * n * n = (k * k + 4) * (n * n) := Int.mul_assoc ..
  have s1 : (k * k + 4) * (n * n) ≤ 13 * (n * n) := Int.mul_le_mul_of_nonneg_right (by omega) nn0
  have s2 : (k * k + 4) * n ≤ 13 * n := Int.mul_le_mul_of_nonneg_right (by omega) (by omega)
  have s3 : 0 ≤ (k * k + 4) * n := Int.mul_nonneg (by omega) (by omega)
  have s4 : 0 ≤ (k * k + 4) * (n * n) := Int.mul_nonneg (by omega) nn0
  have big : (13 : Int) * (10 ^ 30 * 10 ^ 30) ≤ 10 ^ 70 := by decide
  have b250 : (13 : Int) * 10 ^ 30 < 2 ^ 250 := by decide
  refine ⟨.inl (k3_mul hk), .inl (.inl ⟨by omega, by omega⟩), .inr (mulW s3 (by omega) (by omega) (by omega)), trivial, by rw [e1]; exact s4, by rw [e1]; omega, fun r r0 r1 r2 => hM _ ?_⟩
  have R := root_ok hk1 hn r0 r1 r2
  have R1 := R.a1
  have kn : n ≤ k * n := by
    have := Int.mul_le_mul_of_nonneg_right hk1 (show 0 ≤ n by omega)
    omega
  have kn3 : k * n ≤ 3 * n := Int.mul_le_mul_of_nonneg_right hk2 (by omega)
  have r3 : r ≤ 4 * 10 ^ 30 := by
    rcases Int.lt_or_le (4 * 10 ^ 30) r with z | z
    · have := Int.mul_le_mul (show (4 : Int) * 10 ^ 30 ≤ r by omega) (show (4 : Int) * 10 ^ 30 ≤ r by omega) (by decide) r0
      have : (13 : Int) * (10 ^ 30 * 10 ^ 30) < 4 * 10 ^ 30 * (4 * 10 ^ 30) := by decide
      omega
    · exact z
  obtain ⟨p, hp⟩ : ∃ p, p = ((k + 2) * n + r) / 2 - 1 := ⟨_, rfl⟩
  have hp2 : p = n + (k * n + r) / 2 - 1 := by
    rw [hp, Int.add_mul]
    omega
  refine seqI fun M hM => ?_
  simp only [wVar, wC, w2, w1, wNil, wCons, wTup, wLstO, wFz, wLk, wOwn, wAnd, wOr, wNot, wB, wYes, wIf, wFldC, wCB, wCBL, wCall0, wMeth0, wMethN0, wMakeK0, wMake0, sSeq, sNext, sNever, sRet, sRetN, sRetO, sIf, sAsg, sAsgO, sPar, sParO, sPar3, sParO3, sAsgG, gTupD, setAll, sAug, sApp, sFldI, tyAnd, tyOr, tyNot, iRg1, iRg2, iLst, iTupW, sFor, dAdd, dSub, dMul, dMulT, dDiv, dMod, dPow, dNeg, dLt, dLe, dGt, dGe, dIsN, DL.isNon, dNotN, dEq, dNe, dIx, dLen, dInt, dAbs, dMax2, dMin2, lLen, lTup, isA, envOf, envI, putD, gVar, wRev, wRevT, wIxL, wSl, wSlO, wNoP, wPart, wBag, okD_int, okD_bl, okD_non, eqD_int, eqD_bl, wipeE, wChain, wCallI0, wCallIK0, iSt, dLenO, wLRg1, wJoin, sDrop, wDGet, wDIn, wDNotIn, dE, dOwn, sDPutW, sFrzD, sFrz, sAsgN, sParN, sParN3, nE, nO, nDict, nDisp1, wFzD, NV.sv, iEnumW, wInS, wIndexS, wCatO, dInI, iKeysW, wMaxV, wCntT, lTupX, List.getElem?_cons_succ, List.getElem?_cons_zero, List.set_cons_succ, List.set_cons_zero, List.cons_append, List.nil_append, List.append_nil, List.length_cons, List.length_nil, List.length_map, List.map_cons, List.map_nil, List.replicate]
  refine ⟨.inl (.inl ⟨by omega, by omega⟩), ⟨by decide, by decide⟩, hM _ ?_⟩
  rw [← hp]
  have t1 : (10 : Int) ^ 30 * 10 ≤ 10 ^ 40 := by decide
  have q1 : 0 ≤ p + -1 := by omega
  have q2 : p + 1 ≤ 10 ^ 40 := by omega
  simp only [wVar, wC, w2, w1, wNil, wCons, wTup, wLstO, wFz, wLk, wOwn, wAnd, wOr, wNot, wB, wYes, wIf, wFldC, wCB, wCBL, wCall0, wMeth0, wMethN0, wMakeK0, wMake0, sSeq, sNext, sNever, sRet, sRetN, sRetO, sIf, sAsg, sAsgO, sPar, sParO, sPar3, sParO3, sAsgG, gTupD, setAll, sAug, sApp, sFldI, tyAnd, tyOr, tyNot, iRg1, iRg2, iLst, iTupW, sFor, dAdd, dSub, dMul, dMulT, dDiv, dMod, dPow, dNeg, dLt, dLe, dGt, dGe, dIsN, DL.isNon, dNotN, dEq, dNe, dIx, dLen, dInt, dAbs, dMax2, dMin2, lLen, lTup, isA, envOf, envI, putD, gVar, wRev, wRevT, wIxL, wSl, wSlO, wNoP, wPart, wBag, okD_int, okD_bl, okD_non, eqD_int, eqD_bl, wipeE, wChain, wCallI0, wCallIK0, iSt, dLenO, wLRg1, wJoin, sDrop, wDGet, wDIn, wDNotIn, dE, dOwn, sDPutW, sFrzD, sFrz, sAsgN, sParN, sParN3, nE, nO, nDict, nDisp1, wFzD, NV.sv, iEnumW, wInS, wIndexS, wCatO, dInI, iKeysW, wMaxV, wCntT, lTupX, List.getElem?_cons_succ, List.getElem?_cons_zero, List.set_cons_succ, List.set_cons_zero, List.cons_append, List.nil_append, List.append_nil, List.length_cons, List.length_nil, List.length_map, List.map_cons, List.map_nil, List.replicate, wLc, wComp, wipeE, rowsD, row_no A hk]
  have ln : ∀ i : Nat, i ≤ 3 → i ≤ sizeLine := fun i hi => by rw [sz_eq]; omega
  refine ⟨ln _ (by decide), fun _ => ⟨rfl, trivial, row_at A hk q1 (by omega) fun a1 b1 d1 B1 S1 => ?_⟩, (by intro z; cases z)⟩
  have z1 : d1 = false := beat_before R B1 (by omega)
  subst z1
  refine ⟨ln 1 (by decide), fun _ => ⟨rfl, trivial, row_at A hk (by omega) (by omega) fun a2 b2 d2 B2 S2 => ?_⟩, (by intro z; cases z)⟩
  have z2 : d2 = true := beat_at R B2 (by omega)
  subst z2
  refine ⟨ln 2 (by decide), fun _ => ⟨rfl, trivial, row_at A hk (by omega) q2 fun a3 b3 d3 B3 S3 => ?_⟩, (by intro z; cases z)⟩
  have z3 : d3 = false := beat_behind R B3 (by omega)
  subst z3
  have e : (D.lst [ch (if false = true then 98 else 97), ch (if true = true then 98 else 97), ch (if false = true then 98 else 97)]) = .lst [.str "a", .str "b", .str "a"] := rfl
  rw [e, eqD_refl okL_aba]
  exact ⟨ln 3 (by decide), ln 3 (by decide), okD_of okL_aba (by decide), okD_of okL_aba (by decide), fun z => (nomatch z), fun _ => hN _ _ _⟩
theorem turn (A : Ad) {b : PySem.Addr} {c2 c3 c4 c5 c6 c7 c8 c9 c10 : SV} {N : DN} (hN : ∀ c3 c4 c5 c6 c7 c8, N.nx [.d (.bag b), .d (rowsD A), c2, c3, c4, c5, c6, c7, c8, c9, c10]) :
    lb_law_right_3 A N [.d (.bag b), .d (rowsD A), c2, c3, c4, c5, c6, c7, c8, c9, c10] := by
  unfold lb_law_right_3
  refine seqI fun M hM => ?_
  simp only [wVar, wC, w2, w1, wNil, wCons, wTup, wLstO, wFz, wLk, wOwn, wAnd, wOr, wNot, wB, wYes, wIf, wFldC, wCB, wCBL, wCall0, wMeth0, wMethN0, wMakeK0, wMake0, sSeq, sNext, sNever, sRet, sRetN, sRetO, sIf, sAsg, sAsgO, sPar, sParO, sPar3, sParO3, sAsgG, gTupD, setAll, sAug, sApp, sFldI, tyAnd, tyOr, tyNot, iRg1, iRg2, iLst, iTupW, sFor, dAdd, dSub, dMul, dMulT, dDiv, dMod, dPow, dNeg, dLt, dLe, dGt, dGe, dIsN, DL.isNon, dNotN, dEq, dNe, dIx, dLen, dInt, dAbs, dMax2, dMin2, lLen, lTup, isA, envOf, envI, putD, gVar, wRev, wRevT, wIxL, wSl, wSlO, wNoP, wPart, wBag, okD_int, okD_bl, okD_non, eqD_int, eqD_bl, wipeE, wChain, wCallI0, wCallIK0, iSt, dLenO, wLRg1, wJoin, sDrop, wDGet, wDIn, wDNotIn, dE, dOwn, sDPutW, sFrzD, sFrz, sAsgN, sParN, sParN3, nE, nO, nDict, nDisp1, wFzD, NV.sv, iEnumW, wInS, wIndexS, wCatO, dInI, iKeysW, wMaxV, wCntT, lTupX, List.getElem?_cons_succ, List.getElem?_cons_zero, List.set_cons_succ, List.set_cons_zero, List.cons_append, List.nil_append, List.append_nil, List.length_cons, List.length_nil, List.length_map, List.map_cons, List.map_nil, List.replicate]
  refine hM _ (seqI fun M hM => ?_)
  simp only [wVar, wC, w2, w1, wNil, wCons, wTup, wLstO, wFz, wLk, wOwn, wAnd, wOr, wNot, wB, wYes, wIf, wFldC, wCB, wCBL, wCall0, wMeth0, wMethN0, wMakeK0, wMake0, sSeq, sNext, sNever, sRet, sRetN, sRetO, sIf, sAsg, sAsgO, sPar, sParO, sPar3, sParO3, sAsgG, gTupD, setAll, sAug, sApp, sFldI, tyAnd, tyOr, tyNot, iRg1, iRg2, iLst, iTupW, sFor, dAdd, dSub, dMul, dMulT, dDiv, dMod, dPow, dNeg, dLt, dLe, dGt, dGe, dIsN, DL.isNon, dNotN, dEq, dNe, dIx, dLen, dInt, dAbs, dMax2, dMin2, lLen, lTup, isA, envOf, envI, putD, gVar, wRev, wRevT, wIxL, wSl, wSlO, wNoP, wPart, wBag, okD_int, okD_bl, okD_non, eqD_int, eqD_bl, wipeE, wChain, wCallI0, wCallIK0, iSt, dLenO, wLRg1, wJoin, sDrop, wDGet, wDIn, wDNotIn, dE, dOwn, sDPutW, sFrzD, sFrz, sAsgN, sParN, sParN3, nE, nO, nDict, nDisp1, wFzD, NV.sv, iEnumW, wInS, wIndexS, wCatO, dInI, iKeysW, wMaxV, wCntT, lTupX, List.getElem?_cons_succ, List.getElem?_cons_zero, List.set_cons_succ, List.set_cons_zero, List.cons_append, List.nil_append, List.append_nil, List.length_cons, List.length_nil, List.length_map, List.map_cons, List.map_nil, List.replicate, S_law_draw, sDraw]
  refine ⟨trivial, by decide, by decide, fun r r0 r1 => ⟨by omega, by omega, ?_⟩⟩
  rw [rngD_eq]
  refine loop_fig A (fun m c4 m0 m1 => hM _ ?_) _ 0 0 c4 (by rw [List.length_range']; omega) (by decide) (by decide)
  refine seqI fun M hM => ?_
  simp only [wVar, wC, w2, w1, wNil, wCons, wTup, wLstO, wFz, wLk, wOwn, wAnd, wOr, wNot, wB, wYes, wIf, wFldC, wCB, wCBL, wCall0, wMeth0, wMethN0, wMakeK0, wMake0, sSeq, sNext, sNever, sRet, sRetN, sRetO, sIf, sAsg, sAsgO, sPar, sParO, sPar3, sParO3, sAsgG, gTupD, setAll, sAug, sApp, sFldI, tyAnd, tyOr, tyNot, iRg1, iRg2, iLst, iTupW, sFor, dAdd, dSub, dMul, dMulT, dDiv, dMod, dPow, dNeg, dLt, dLe, dGt, dGe, dIsN, DL.isNon, dNotN, dEq, dNe, dIx, dLen, dInt, dAbs, dMax2, dMin2, lLen, lTup, isA, envOf, envI, putD, gVar, wRev, wRevT, wIxL, wSl, wSlO, wNoP, wPart, wBag, okD_int, okD_bl, okD_non, eqD_int, eqD_bl, wipeE, wChain, wCallI0, wCallIK0, iSt, dLenO, wLRg1, wJoin, sDrop, wDGet, wDIn, wDNotIn, dE, dOwn, sDPutW, sFrzD, sFrz, sAsgN, sParN, sParN3, nE, nO, nDict, nDisp1, wFzD, NV.sv, iEnumW, wInS, wIndexS, wCatO, dInI, iKeysW, wMaxV, wCntT, lTupX, List.getElem?_cons_succ, List.getElem?_cons_zero, List.set_cons_succ, List.set_cons_zero, List.cons_append, List.nil_append, List.append_nil, List.length_cons, List.length_nil, List.length_map, List.map_cons, List.map_nil, List.replicate]
  refine hM _ ?_
  simp only [wVar, wC, w2, w1, wNil, wCons, wTup, wLstO, wFz, wLk, wOwn, wAnd, wOr, wNot, wB, wYes, wIf, wFldC, wCB, wCBL, wCall0, wMeth0, wMethN0, wMakeK0, wMake0, sSeq, sNext, sNever, sRet, sRetN, sRetO, sIf, sAsg, sAsgO, sPar, sParO, sPar3, sParO3, sAsgG, gTupD, setAll, sAug, sApp, sFldI, tyAnd, tyOr, tyNot, iRg1, iRg2, iLst, iTupW, sFor, dAdd, dSub, dMul, dMulT, dDiv, dMod, dPow, dNeg, dLt, dLe, dGt, dGe, dIsN, DL.isNon, dNotN, dEq, dNe, dIx, dLen, dInt, dAbs, dMax2, dMin2, lLen, lTup, isA, envOf, envI, putD, gVar, wRev, wRevT, wIxL, wSl, wSlO, wNoP, wPart, wBag, okD_int, okD_bl, okD_non, eqD_int, eqD_bl, wipeE, wChain, wCallI0, wCallIK0, iSt, dLenO, wLRg1, wJoin, sDrop, wDGet, wDIn, wDNotIn, dE, dOwn, sDPutW, sFrzD, sFrz, sAsgN, sParN, sParN3, nE, nO, nDict, nDisp1, wFzD, NV.sv, iEnumW, wInS, wIndexS, wCatO, dInI, iKeysW, wMaxV, wCntT, lTupX, List.getElem?_cons_succ, List.getElem?_cons_zero, List.set_cons_succ, List.set_cons_zero, List.cons_append, List.nil_append, List.append_nil, List.length_cons, List.length_nil, List.length_map, List.map_cons, List.map_nil, List.replicate]
  refine ⟨⟨by decide, by decide, by decide, by decide⟩, ?_⟩
  have e : rngD 1 (4 - 1 : Int).toNat = [.int 1, .int 2, .int 3] := by rfl
  rw [e]
  exact lev A (k := 1) ⟨by decide, by decide⟩ (by omega) (by omega) fun _ _ _ => lev A (k := 2) ⟨by decide, by decide⟩ (by omega) (by omega) fun _ _ _ => lev A (k := 3) ⟨by decide, by decide⟩ (by omega) (by omega) fun _ _ _ => hN _ _ _ _ _ _
theorem loop_turn (A : Ad) {b : PySem.Addr} {c9 c10 : SV} {n : DN} (hn : ∀ c2 c3 c4 c5 c6 c7 c8, n.nx [.d (.bag b), .d (rowsD A), c2, c3, c4, c5, c6, c7, c8, c9, c10]) : ∀ (l : List D) (c2 c3 c4 c5 c6 c7 c8 : SV),
    sLoop (lb_law_right_3 A) (gVar 2) n l [.d (.bag b), .d (rowsD A), c2, c3, c4, c5, c6, c7, c8, c9, c10]
  | [], c2, c3, c4, c5, c6, c7, c8 => hn _ _ _ _ _ _ _
  | y :: l, c2, c3, c4, c5, c6, c7, c8 => turn A (N := { n with nx := sLoop (lb_law_right_3 A) (gVar 2) n l, ct := sLoop (lb_law_right_3 A) (gVar 2) n l, bk := n.nx }) fun _ _ _ _ _ _ => loop_turn A hn l _ _ _ _ _ _ _
/-! the row that counts -/
theorem odd_walk : ∀ (l : List Int) (s : Int), (s = 0 ∨ s = 1) → (∀ d ∈ l, 0 ≤ d ∧ d ≤ 1) → walk oddM s l = (s + (l.count 1 : Nat)) % 2
  | [], s, hs, _ => by
    rcases hs with rfl | rfl <;> rfl
  | d :: l, s, hs, hd => by
    obtain ⟨d0, d1⟩ := hd d (by simp)
    have e : d = 0 ∨ d = 1 := by omega
    have ih := odd_walk l
    rw [walk]
    rcases e with rfl | rfl
    · have e1 : stp oddM s 0 = s := by rcases hs with rfl | rfl <;> rfl
      rw [e1, ih s hs fun x hx => hd x (by simp [hx]), List.count_cons_of_ne (by decide)]
    · have e1 : stp oddM s 1 = 1 - s := by rcases hs with rfl | rfl <;> rfl
      rw [e1, ih (1 - s) (by omega) fun x hx => hd x (by simp [hx]), List.count_cons_self]
      omega
theorem ab_at {c : Int} (h : c = 0 ∨ c = 1) : atD (PySem.Str.ofString "ab").cps.toList c = some ([97, 98][c.toNat]?.getD 0) := by
  rcases h with rfl | rfl <;> decide
theorem odd1 (A : Ad) {b : PySem.Addr} {c1 c2 c3 c4 c5 c6 c7 c8 c10 : SV} {N : DN} (hN : ∀ c10, N.nx [.d (.bag b), c1, c2, c3, c4, c5, c6, c7, c8, .d (rowD A 1 oddM "ab"), c10]) :
    lb_law_right_4 A N [.d (.bag b), c1, c2, c3, c4, c5, c6, c7, c8, .d (rowD A 1 oddM "ab"), c10] := by
  have hk : K3 1 := ⟨by decide, by decide⟩
  unfold lb_law_right_4
  refine seqI fun M hM => ?_
  simp only [wVar, wC, w2, w1, wNil, wCons, wTup, wLstO, wFz, wLk, wOwn, wAnd, wOr, wNot, wB, wYes, wIf, wFldC, wCB, wCBL, wCall0, wMeth0, wMethN0, wMakeK0, wMake0, sSeq, sNext, sNever, sRet, sRetN, sRetO, sIf, sAsg, sAsgO, sPar, sParO, sPar3, sParO3, sAsgG, gTupD, setAll, sAug, sApp, sFldI, tyAnd, tyOr, tyNot, iRg1, iRg2, iLst, iTupW, sFor, dAdd, dSub, dMul, dMulT, dDiv, dMod, dPow, dNeg, dLt, dLe, dGt, dGe, dIsN, DL.isNon, dNotN, dEq, dNe, dIx, dLen, dInt, dAbs, dMax2, dMin2, lLen, lTup, isA, envOf, envI, putD, gVar, wRev, wRevT, wIxL, wSl, wSlO, wNoP, wPart, wBag, okD_int, okD_bl, okD_non, eqD_int, eqD_bl, wipeE, wChain, wCallI0, wCallIK0, iSt, dLenO, wLRg1, wJoin, sDrop, wDGet, wDIn, wDNotIn, dE, dOwn, sDPutW, sFrzD, sFrz, sAsgN, sParN, sParN3, nE, nO, nDict, nDisp1, wFzD, NV.sv, iEnumW, wInS, wIndexS, wCatO, dInI, iKeysW, wMaxV, wCntT, lTupX, List.getElem?_cons_succ, List.getElem?_cons_zero, List.set_cons_succ, List.set_cons_zero, List.cons_append, List.nil_append, List.append_nil, List.length_cons, List.length_nil, List.length_map, List.map_cons, List.map_nil, List.replicate, S_law_great]
  refine ⟨trivial, hk, fun m m0 m1 => hM _ ?_⟩
  have hb := un_big hk
  obtain ⟨j, hj, hl⟩ := lim_ex 197 (show m < un 1 197 by omega)
  have hd := dg_in hk j m m0 hl.2
  have hw := odd_walk (dg 1 m j) 0 (.inl rfl) hd
  rw [Int.zero_add] at hw
  have h2 : ((dg 1 m j).count 1 : Int) % 2 = 0 ∨ ((dg 1 m j).count 1 : Int) % 2 = 1 := by omega
  have e : sgn 1 oddM "ab" m j = ch ([97, 98][(((dg 1 m j).count 1 : Int) % 2).toNat]?.getD 0) := by
    unfold sgn
    rw [hw]
    rfl
  have o : okL 0 (ch ([97, 98][(((dg 1 m j).count 1 : Int) % 2).toNat]?.getD 0)) := okL_ch (by rcases h2 with z | z <;> rw [z] <;> decide)
  simp only [wVar, wC, w2, w1, wNil, wCons, wTup, wLstO, wFz, wLk, wOwn, wAnd, wOr, wNot, wB, wYes, wIf, wFldC, wCB, wCBL, wCall0, wMeth0, wMethN0, wMakeK0, wMake0, sSeq, sNext, sNever, sRet, sRetN, sRetO, sIf, sAsg, sAsgO, sPar, sParO, sPar3, sParO3, sAsgG, gTupD, setAll, sAug, sApp, sFldI, tyAnd, tyOr, tyNot, iRg1, iRg2, iLst, iTupW, sFor, dAdd, dSub, dMul, dMulT, dDiv, dMod, dPow, dNeg, dLt, dLe, dGt, dGe, dIsN, DL.isNon, dNotN, dEq, dNe, dIx, dLen, dInt, dAbs, dMax2, dMin2, lLen, lTup, isA, envOf, envI, putD, gVar, wRev, wRevT, wIxL, wSl, wSlO, wNoP, wPart, wBag, okD_int, okD_bl, okD_non, eqD_int, eqD_bl, wipeE, wChain, wCallI0, wCallIK0, iSt, dLenO, wLRg1, wJoin, sDrop, wDGet, wDIn, wDNotIn, dE, dOwn, sDPutW, sFrzD, sFrz, sAsgN, sParN, sParN3, nE, nO, nDict, nDisp1, wFzD, NV.sv, iEnumW, wInS, wIndexS, wCatO, dInI, iKeysW, wMaxV, wCntT, lTupX, List.getElem?_cons_succ, List.getElem?_cons_zero, List.set_cons_succ, List.set_cons_zero, List.cons_append, List.nil_append, List.append_nil, List.length_cons, List.length_nil, List.length_map, List.map_cons, List.map_nil, List.replicate, S_law_digits]
  refine ⟨rfl, trivial, rfl, 1, oddM, "ab", rfl, hk, oddM_ok, odd_sg, m0, m1, j, hl, by omega, ?_⟩
  refine ⟨trivial, hk, m0, by omega, j, hl, hj, _, rfl, by decide, by decide, ?_⟩
  rw [ab_at h2]
  have e2 : D.str ⟨#[[97, 98][(((dg 1 m j).count 1 : Int) % 2).toNat]?.getD 0]⟩ = ch ([97, 98][(((dg 1 m j).count 1 : Int) % 2).toNat]?.getD 0) := rfl
  simp only [e, e2, eqD_refl o]
  exact ⟨okD_of o (by decide), okD_of o (by decide), fun z => (nomatch z), fun _ => hN _⟩
theorem loop_odd (A : Ad) {b : PySem.Addr} {c1 c3 c4 c5 c6 c7 c8 : SV} {n : DN} (hn : ∀ c2 c10, n.nx [.d (.bag b), c1, c2, c3, c4, c5, c6, c7, c8, .d (rowD A 1 oddM "ab"), c10]) : ∀ (l : List D) (c2 c10 : SV),
    sLoop (lb_law_right_4 A) (gVar 2) n l [.d (.bag b), c1, c2, c3, c4, c5, c6, c7, c8, .d (rowD A 1 oddM "ab"), c10]
  | [], c2, c10 => hn _ _
  | y :: l, c2, c10 => odd1 A (N := { n with nx := sLoop (lb_law_right_4 A) (gVar 2) n l, ct := sLoop (lb_law_right_4 A) (gVar 2) n l, bk := n.nx }) fun _ => loop_odd A hn l _ _
theorem hw_law_right (A : Ad) : ∀ ds er q, ds.length = 1 → S_law_right A ds er q → w_law_right A { nx := fun _ => q .non, rt := q, er := er } (envOf 11 ds) := by
  intro ds er q hlen h
  unfold S_law_right at h
  split at h
  · rename_i b
    unfold w_law_right
    refine seqI fun M hM => ?_
    simp only [wVar, wC, w2, w1, wNil, wCons, wTup, wLstO, wFz, wLk, wOwn, wAnd, wOr, wNot, wB, wYes, wIf, wFldC, wCB, wCBL, wCall0, wMeth0, wMethN0, wMakeK0, wMake0, sSeq, sNext, sNever, sRet, sRetN, sRetO, sIf, sAsg, sAsgO, sPar, sParO, sPar3, sParO3, sAsgG, gTupD, setAll, sAug, sApp, sFldI, tyAnd, tyOr, tyNot, iRg1, iRg2, iLst, iTupW, sFor, dAdd, dSub, dMul, dMulT, dDiv, dMod, dPow, dNeg, dLt, dLe, dGt, dGe, dIsN, DL.isNon, dNotN, dEq, dNe, dIx, dLen, dInt, dAbs, dMax2, dMin2, lLen, lTup, isA, envOf, envI, putD, gVar, wRev, wRevT, wIxL, wSl, wSlO, wNoP, wPart, wBag, okD_int, okD_bl, okD_non, eqD_int, eqD_bl, wipeE, wChain, wCallI0, wCallIK0, iSt, dLenO, wLRg1, wJoin, sDrop, wDGet, wDIn, wDNotIn, dE, dOwn, sDPutW, sFrzD, sFrz, sAsgN, sParN, sParN3, nE, nO, nDict, nDisp1, wFzD, NV.sv, iEnumW, wInS, wIndexS, wCatO, dInI, iKeysW, wMaxV, wCntT, lTupX, List.getElem?_cons_succ, List.getElem?_cons_zero, List.set_cons_succ, List.set_cons_zero, List.cons_append, List.nil_append, List.append_nil, List.length_cons, List.length_nil, List.length_map, List.map_cons, List.map_nil, List.replicate, S_golden_row, S_silver_row, S_bronze_row]
    refine ⟨trivial, trivial, trivial, by rw [sz_eq]; decide, hM _ (seqI fun M hM => ?_)⟩
    simp only [wVar, wC, w2, w1, wNil, wCons, wTup, wLstO, wFz, wLk, wOwn, wAnd, wOr, wNot, wB, wYes, wIf, wFldC, wCB, wCBL, wCall0, wMeth0, wMethN0, wMakeK0, wMake0, sSeq, sNext, sNever, sRet, sRetN, sRetO, sIf, sAsg, sAsgO, sPar, sParO, sPar3, sParO3, sAsgG, gTupD, setAll, sAug, sApp, sFldI, tyAnd, tyOr, tyNot, iRg1, iRg2, iLst, iTupW, sFor, dAdd, dSub, dMul, dMulT, dDiv, dMod, dPow, dNeg, dLt, dLe, dGt, dGe, dIsN, DL.isNon, dNotN, dEq, dNe, dIx, dLen, dInt, dAbs, dMax2, dMin2, lLen, lTup, isA, envOf, envI, putD, gVar, wRev, wRevT, wIxL, wSl, wSlO, wNoP, wPart, wBag, okD_int, okD_bl, okD_non, eqD_int, eqD_bl, wipeE, wChain, wCallI0, wCallIK0, iSt, dLenO, wLRg1, wJoin, sDrop, wDGet, wDIn, wDNotIn, dE, dOwn, sDPutW, sFrzD, sFrz, sAsgN, sParN, sParN3, nE, nO, nDict, nDisp1, wFzD, NV.sv, iEnumW, wInS, wIndexS, wCatO, dInI, iKeysW, wMaxV, wCntT, lTupX, List.getElem?_cons_succ, List.getElem?_cons_zero, List.set_cons_succ, List.set_cons_zero, List.cons_append, List.nil_append, List.append_nil, List.length_cons, List.length_nil, List.length_map, List.map_cons, List.map_nil, List.replicate]
    refine ⟨by decide, by decide, loop_turn A (fun _ _ _ _ _ _ _ => hM _ (seqI fun M hM => ?_)) _ _ _ _ _ _ _ _⟩
    simp only [wVar, wC, w2, w1, wNil, wCons, wTup, wLstO, wFz, wLk, wOwn, wAnd, wOr, wNot, wB, wYes, wIf, wFldC, wCB, wCBL, wCall0, wMeth0, wMethN0, wMakeK0, wMake0, sSeq, sNext, sNever, sRet, sRetN, sRetO, sIf, sAsg, sAsgO, sPar, sParO, sPar3, sParO3, sAsgG, gTupD, setAll, sAug, sApp, sFldI, tyAnd, tyOr, tyNot, iRg1, iRg2, iLst, iTupW, sFor, dAdd, dSub, dMul, dMulT, dDiv, dMod, dPow, dNeg, dLt, dLe, dGt, dGe, dIsN, DL.isNon, dNotN, dEq, dNe, dIx, dLen, dInt, dAbs, dMax2, dMin2, lLen, lTup, isA, envOf, envI, putD, gVar, wRev, wRevT, wIxL, wSl, wSlO, wNoP, wPart, wBag, okD_int, okD_bl, okD_non, eqD_int, eqD_bl, wipeE, wChain, wCallI0, wCallIK0, iSt, dLenO, wLRg1, wJoin, sDrop, wDGet, wDIn, wDNotIn, dE, dOwn, sDPutW, sFrzD, sFrz, sAsgN, sParN, sParN3, nE, nO, nDict, nDisp1, wFzD, NV.sv, iEnumW, wInS, wIndexS, wCatO, dInI, iKeysW, wMaxV, wCntT, lTupX, List.getElem?_cons_succ, List.getElem?_cons_zero, List.set_cons_succ, List.set_cons_zero, List.cons_append, List.nil_append, List.append_nil, List.length_cons, List.length_nil, List.length_map, List.map_cons, List.map_nil, List.replicate, S_odd_row]
    refine ⟨trivial, hM _ (seqI fun M hM => ?_)⟩
    simp only [wVar, wC, w2, w1, wNil, wCons, wTup, wLstO, wFz, wLk, wOwn, wAnd, wOr, wNot, wB, wYes, wIf, wFldC, wCB, wCBL, wCall0, wMeth0, wMethN0, wMakeK0, wMake0, sSeq, sNext, sNever, sRet, sRetN, sRetO, sIf, sAsg, sAsgO, sPar, sParO, sPar3, sParO3, sAsgG, gTupD, setAll, sAug, sApp, sFldI, tyAnd, tyOr, tyNot, iRg1, iRg2, iLst, iTupW, sFor, dAdd, dSub, dMul, dMulT, dDiv, dMod, dPow, dNeg, dLt, dLe, dGt, dGe, dIsN, DL.isNon, dNotN, dEq, dNe, dIx, dLen, dInt, dAbs, dMax2, dMin2, lLen, lTup, isA, envOf, envI, putD, gVar, wRev, wRevT, wIxL, wSl, wSlO, wNoP, wPart, wBag, okD_int, okD_bl, okD_non, eqD_int, eqD_bl, wipeE, wChain, wCallI0, wCallIK0, iSt, dLenO, wLRg1, wJoin, sDrop, wDGet, wDIn, wDNotIn, dE, dOwn, sDPutW, sFrzD, sFrz, sAsgN, sParN, sParN3, nE, nO, nDict, nDisp1, wFzD, NV.sv, iEnumW, wInS, wIndexS, wCatO, dInI, iKeysW, wMaxV, wCntT, lTupX, List.getElem?_cons_succ, List.getElem?_cons_zero, List.set_cons_succ, List.set_cons_zero, List.cons_append, List.nil_append, List.append_nil, List.length_cons, List.length_nil, List.length_map, List.map_cons, List.map_nil, List.replicate]
    refine ⟨by decide, by decide, loop_odd A (fun _ _ => hM _ ?_) _ _ _⟩
    simp only [wVar, wC, w2, w1, wNil, wCons, wTup, wLstO, wFz, wLk, wOwn, wAnd, wOr, wNot, wB, wYes, wIf, wFldC, wCB, wCBL, wCall0, wMeth0, wMethN0, wMakeK0, wMake0, sSeq, sNext, sNever, sRet, sRetN, sRetO, sIf, sAsg, sAsgO, sPar, sParO, sPar3, sParO3, sAsgG, gTupD, setAll, sAug, sApp, sFldI, tyAnd, tyOr, tyNot, iRg1, iRg2, iLst, iTupW, sFor, dAdd, dSub, dMul, dMulT, dDiv, dMod, dPow, dNeg, dLt, dLe, dGt, dGe, dIsN, DL.isNon, dNotN, dEq, dNe, dIx, dLen, dInt, dAbs, dMax2, dMin2, lLen, lTup, isA, envOf, envI, putD, gVar, wRev, wRevT, wIxL, wSl, wSlO, wNoP, wPart, wBag, okD_int, okD_bl, okD_non, eqD_int, eqD_bl, wipeE, wChain, wCallI0, wCallIK0, iSt, dLenO, wLRg1, wJoin, sDrop, wDGet, wDIn, wDNotIn, dE, dOwn, sDPutW, sFrzD, sFrz, sAsgN, sParN, sParN3, nE, nO, nDict, nDisp1, wFzD, NV.sv, iEnumW, wInS, wIndexS, wCatO, dInI, iKeysW, wMaxV, wCntT, lTupX, List.getElem?_cons_succ, List.getElem?_cons_zero, List.set_cons_succ, List.set_cons_zero, List.cons_append, List.nil_append, List.append_nil, List.length_cons, List.length_nil, List.length_map, List.map_cons, List.map_nil, List.replicate]
    exact h
  · exact h.elim
theorem mkF_none (rl : RL) (l : List Nat) : l.map (mkF rl none) = l := List.map_id' l
theorem okL_txt (x : PySem.Str) (h : (x.cps.toList.all fun c => decide (c < 1114112)) = true) : okL 0 (.str x) := okL_str fun c hc => of_decide_eq_true (List.all_eq_true.mp h c hc)
theorem st_b (A : Ad) {k : Int} {n : Nat} {x : PySem.Str} {er : ER} {q : D → Prop} (hk : K3 k) (hn : n ≤ 15) (hx : (⟨(((W (wf (rl1 k)) 12 97).take n)).toArray⟩ : PySem.Str) = x) (hq : q (.str x)) : S_Row_stretch A [rowD A k (bM k) "ab", .int 0, .int n] er q := by
  have b12 := big12 hk
  have h := strX_rule (v := none) hk (rl1_ok hk) (n := n) (j := 12) (by omega) (by omega)
  have hf : frst (rl1 k) = 97 := rfl
  rw [mkF_none, mv_rl1 hk, sg_rl1 hk, hf, hx] at h
  refine ⟨rfl, k, bM k, "ab", rfl, hk, bM_ok hk, ab_sg hk, by decide, by decide, by omega, by omega, ?_⟩
  rw [Int.toNat_natCast, h]
  exact hq
theorem dg_pad {k : Int} (hk : K3 k) {m : Int} {j : Nat} (h0 : 0 ≤ m) (h1 : m < un k j) : ∀ t : Nat, dg k m (j + t) = List.replicate t 0 ++ dg k m j
  | 0 => by simp
  | t + 1 => by
    have hm : m < un k (j + t) := Int.lt_of_lt_of_le h1 (un_mono hk (by omega))
    rw [show j + (t + 1) = j + t + 1 from rfl, dg_s, Int.ediv_eq_zero_of_lt h0 hm, Int.emod_eq_of_lt h0 hm, dg_pad hk h0 h1 t]
    rfl
theorem sgc_odd (m : Nat) (hm : m < 8) : sgc 1 oddM "ab" (m : Int) = [97, 98][(((dg 1 (m : Int) 5).count 1 : Nat) : Int) % 2 |>.toNat]?.getD 0 := by
  have hk : K3 1 := ⟨by decide, by decide⟩
  obtain ⟨j1, j2⟩ := jm_ok hk (m := (m : Int)) (by omega)
  unfold sgc
  generalize jm 1 (m : Int) = j at *
  have hj : j ≤ 5 := by
    rcases Nat.lt_or_ge 5 j with z | z
    · have := j2.1 5 z
      have e : un 1 5 = 13 := by decide
      omega
    · exact z
  have hd := dg_pad hk (show (0 : Int) ≤ m by omega) j2.2 (5 - j)
  rw [show j + (5 - j) = 5 by omega] at hd
  have hc : (dg 1 (m : Int) 5).count 1 = (dg 1 (m : Int) j).count 1 := by
    rw [hd, List.count_append, List.count_replicate]
    simp
  have hw := odd_walk (dg 1 (m : Int) j) 0 (.inl rfl) (dg_in hk j m (by omega) j2.2)
  rw [Int.zero_add, ← hc] at hw
  rw [hw]
  rfl
theorem st_odd (A : Ad) {er : ER} {q : D → Prop} (hq : q (.str "abbbabaa")) : S_Row_stretch A [rowD A 1 oddM "ab", .int 0, .int 8] er q := by
  have hk : K3 1 := ⟨by decide, by decide⟩
  have h : strX 1 oddM "ab" 0 8 = ("abbbabaa" : PySem.Str) := by
    unfold strX
    have e : (List.range 8).map (fun i => sgc 1 oddM "ab" (0 + (i : Nat))) = (List.range 8).map fun i => [97, 98][(((dg 1 ((i : Nat) : Int) 5).count 1 : Nat) : Int) % 2 |>.toNat]?.getD 0 := List.map_congr_left fun i hi => by
      rw [Int.zero_add]
      exact sgc_odd i (List.mem_range.mp hi)
    rw [e]
    decide
  refine ⟨rfl, 1, oddM, "ab", rfl, hk, oddM_ok, odd_sg, by decide, by decide, by decide, by decide, ?_⟩
  rw [show (8 : Int).toNat = 8 from rfl, h]
  exact hq
theorem cmp_sys (A : Ad) {q : D → Prop} (h : q (.bl false)) : dCmpG (cd A) (TT A) 3 true (.lst [sysD A 1, sysD A 2, sysD A 3, sysD A 1]) (.lst [sysD A 1, sysD A 2, sysD A 3, sysD A 1]) q := by
  refine ⟨true, ?_, h⟩
  have o1 : ∀ k, okEq (cd A) A.c_System (sysD A k) := fun k => .inr ⟨_, rfl, ow_System A⟩
  have o2 : ∀ k, S_System_eq A [sysD A k, sysD A k] (fun _ => False) (fun z => z = .bl true) := fun k => ⟨rfl, k, rfl, rfl, k, rfl, by simp⟩
  have g : ∀ k, EqG (cd A) (TT A) 3 (sysD A k) (sysD A k) true := fun k => .own (C := A.c_System) (S := S_System_eq A) (e := sysD A k) (by simp [TT]) (o1 k) (o2 k) (.inl rfl)
  exact sq_lst (A := cd A) (T := TT A) (n := 3) (.cons (g 1) (.cons (g 2) (.cons (g 3) (.cons (g 1) .nil))))
def due : D := .lst [.str "abaababaabaabab", .str "aabaabaaabaabaa", .str "aaabaaabaaabaaa"]
theorem okL_due : okL 1 due := okL_lst fun x hx => by
  simp only [List.mem_cons, List.not_mem_nil, or_false] at hx
  rcases hx with rfl | rfl | rfl <;> exact okL_txt _ (by decide)
theorem okL_mvs : okL 3 (.lst [mvD (bM 1), mvD (bM 2), mvD oddM]) := okL_lst fun x hx => by
  simp only [List.mem_cons, List.not_mem_nil, or_false] at hx
  rcases hx with rfl | rfl | rfl <;> exact okL_mv _
theorem hw_law (A : Ad) : ∀ ds er q, ds.length = 1 → S_law A ds er q → w_law A { nx := fun _ => q .non, rt := q, er := er } (envOf 5 ds) := by
  intro ds er q hlen h
  obtain ⟨ns, rfl, hl, hq⟩ := h
  have ln : ∀ i : Nat, i ≤ 5 → i ≤ sizeLine := fun i hi => by rw [sz_eq]; omega
  have k1 : K3 1 := ⟨by decide, by decide⟩
  have k2 : K3 2 := ⟨by decide, by decide⟩
  have k3 : K3 3 := ⟨by decide, by decide⟩
  unfold w_law
  refine seqI fun M hM => ?_
  simp only [wVar, wC, w2, w1, wNil, wCons, wTup, wLstO, wFz, wLk, wOwn, wAnd, wOr, wNot, wB, wYes, wIf, wFldC, wCB, wCBL, wCall0, wMeth0, wMethN0, wMakeK0, wMake0, sSeq, sNext, sNever, sRet, sRetN, sRetO, sIf, sAsg, sAsgO, sPar, sParO, sPar3, sParO3, sAsgG, gTupD, setAll, sAug, sApp, sFldI, tyAnd, tyOr, tyNot, iRg1, iRg2, iLst, iTupW, sFor, dAdd, dSub, dMul, dMulT, dDiv, dMod, dPow, dNeg, dLt, dLe, dGt, dGe, dIsN, DL.isNon, dNotN, dEq, dNe, dIx, dLen, dInt, dAbs, dMax2, dMin2, lLen, lTup, isA, envOf, envI, putD, gVar, wRev, wRevT, wIxL, wSl, wSlO, wNoP, wPart, wBag, okD_int, okD_bl, okD_non, eqD_int, eqD_bl, wipeE, wChain, wCallI0, wCallIK0, iSt, dLenO, wLRg1, wJoin, sDrop, wDGet, wDIn, wDNotIn, dE, dOwn, sDPutW, sFrzD, sFrz, sAsgN, sParN, sParN3, nE, nO, nDict, nDisp1, wFzD, NV.sv, iEnumW, wInS, wIndexS, wCatO, dInI, iKeysW, wMaxV, wCntT, lTupX, List.getElem?_cons_succ, List.getElem?_cons_zero, List.set_cons_succ, List.set_cons_zero, List.cons_append, List.nil_append, List.append_nil, List.length_cons, List.length_nil, List.length_map, List.map_cons, List.map_nil, List.replicate, S_golden_row, S_silver_row, S_bronze_row, S_odd_row]
  refine ⟨trivial, trivial, trivial, trivial, by rw [sz_eq]; decide, hM _ (seqI fun M hM => ?_)⟩
  simp only [wVar, wC, w2, w1, wNil, wCons, wTup, wLstO, wFz, wLk, wOwn, wAnd, wOr, wNot, wB, wYes, wIf, wFldC, wCB, wCBL, wCall0, wMeth0, wMethN0, wMakeK0, wMake0, sSeq, sNext, sNever, sRet, sRetN, sRetO, sIf, sAsg, sAsgO, sPar, sParO, sPar3, sParO3, sAsgG, gTupD, setAll, sAug, sApp, sFldI, tyAnd, tyOr, tyNot, iRg1, iRg2, iLst, iTupW, sFor, dAdd, dSub, dMul, dMulT, dDiv, dMod, dPow, dNeg, dLt, dLe, dGt, dGe, dIsN, DL.isNon, dNotN, dEq, dNe, dIx, dLen, dInt, dAbs, dMax2, dMin2, lLen, lTup, isA, envOf, envI, putD, gVar, wRev, wRevT, wIxL, wSl, wSlO, wNoP, wPart, wBag, okD_int, okD_bl, okD_non, eqD_int, eqD_bl, wipeE, wChain, wCallI0, wCallIK0, iSt, dLenO, wLRg1, wJoin, sDrop, wDGet, wDIn, wDNotIn, dE, dOwn, sDPutW, sFrzD, sFrz, sAsgN, sParN, sParN3, nE, nO, nDict, nDisp1, wFzD, NV.sv, iEnumW, wInS, wIndexS, wCatO, dInI, iKeysW, wMaxV, wCntT, lTupX, List.getElem?_cons_succ, List.getElem?_cons_zero, List.set_cons_succ, List.set_cons_zero, List.cons_append, List.nil_append, List.append_nil, List.length_cons, List.length_nil, List.length_map, List.map_cons, List.map_nil, List.replicate, wLc, wComp, wipeE, S_System_init, rowD, sys_look]
  refine ⟨fun _ => ⟨trivial, ln 1 (by decide), fun _ => ⟨trivial, ln 2 (by decide), fun _ => ⟨trivial, ln 3 (by decide), fun _ => ⟨trivial, ln 4 (by decide), trivial, k1, trivial, k2, trivial, k3, trivial, k1, ln 4 (by decide), cmp_sys A ?_⟩, (by intro z; cases z)⟩, (by intro z; cases z)⟩, (by intro z; cases z)⟩, (by intro z; cases z)⟩
  dsimp only
  refine ⟨(fun z => nomatch z), fun _ => hM _ (seqI fun M hM => ?_)⟩
  simp only [wVar, wC, w2, w1, wNil, wCons, wTup, wLstO, wFz, wLk, wOwn, wAnd, wOr, wNot, wB, wYes, wIf, wFldC, wCB, wCBL, wCall0, wMeth0, wMethN0, wMakeK0, wMake0, sSeq, sNext, sNever, sRet, sRetN, sRetO, sIf, sAsg, sAsgO, sPar, sParO, sPar3, sParO3, sAsgG, gTupD, setAll, sAug, sApp, sFldI, tyAnd, tyOr, tyNot, iRg1, iRg2, iLst, iTupW, sFor, dAdd, dSub, dMul, dMulT, dDiv, dMod, dPow, dNeg, dLt, dLe, dGt, dGe, dIsN, DL.isNon, dNotN, dEq, dNe, dIx, dLen, dInt, dAbs, dMax2, dMin2, lLen, lTup, isA, envOf, envI, putD, gVar, wRev, wRevT, wIxL, wSl, wSlO, wNoP, wPart, wBag, okD_int, okD_bl, okD_non, eqD_int, eqD_bl, wipeE, wChain, wCallI0, wCallIK0, iSt, dLenO, wLRg1, wJoin, sDrop, wDGet, wDIn, wDNotIn, dE, dOwn, sDPutW, sFrzD, sFrz, sAsgN, sParN, sParN3, nE, nO, nDict, nDisp1, wFzD, NV.sv, iEnumW, wInS, wIndexS, wCatO, dInI, iKeysW, wMaxV, wCntT, lTupX, List.getElem?_cons_succ, List.getElem?_cons_zero, List.set_cons_succ, List.set_cons_zero, List.cons_append, List.nil_append, List.append_nil, List.length_cons, List.length_nil, List.length_map, List.map_cons, List.map_nil, List.replicate]
  refine ⟨ln 3 (by decide), hM _ (seqI fun M hM => ?_)⟩
  have st1 : ∀ a b c : D, List.lookup (PySem.Str.ofString "stretch") [((PySem.Str.ofString "system"), a), ((PySem.Str.ofString "moves"), b), ((PySem.Str.ofString "signs"), c)] = none := fun _ _ _ => by rfl
  have c3 : ∀ a b c d : D, cutD [a, b, c, d] none (some 3) = [a, b, c] := fun a b c d => cutD_to (n := 3)
  have a0 : ∀ a b c d : D, atD [a, b, c, d] 0 = some a := fun a b c d => atD_0
  have a1 : ∀ a b c d : D, atD [a, b, c, d] 1 = some b := fun a b c d => atD_1
  have a3 : ∀ a b c d : D, atD [a, b, c, d] 3 = some d := fun a b c d => atD_3
  simp only [wVar, wC, w2, w1, wNil, wCons, wTup, wLstO, wFz, wLk, wOwn, wAnd, wOr, wNot, wB, wYes, wIf, wFldC, wCB, wCBL, wCall0, wMeth0, wMethN0, wMakeK0, wMake0, sSeq, sNext, sNever, sRet, sRetN, sRetO, sIf, sAsg, sAsgO, sPar, sParO, sPar3, sParO3, sAsgG, gTupD, setAll, sAug, sApp, sFldI, tyAnd, tyOr, tyNot, iRg1, iRg2, iLst, iTupW, sFor, dAdd, dSub, dMul, dMulT, dDiv, dMod, dPow, dNeg, dLt, dLe, dGt, dGe, dIsN, DL.isNon, dNotN, dEq, dNe, dIx, dLen, dInt, dAbs, dMax2, dMin2, lLen, lTup, isA, envOf, envI, putD, gVar, wRev, wRevT, wIxL, wSl, wSlO, wNoP, wPart, wBag, okD_int, okD_bl, okD_non, eqD_int, eqD_bl, wipeE, wChain, wCallI0, wCallIK0, iSt, dLenO, wLRg1, wJoin, sDrop, wDGet, wDIn, wDNotIn, dE, dOwn, sDPutW, sFrzD, sFrz, sAsgN, sParN, sParN3, nE, nO, nDict, nDisp1, wFzD, NV.sv, iEnumW, wInS, wIndexS, wCatO, dInI, iKeysW, wMaxV, wCntT, lTupX, List.getElem?_cons_succ, List.getElem?_cons_zero, List.set_cons_succ, List.set_cons_zero, List.cons_append, List.nil_append, List.append_nil, List.length_cons, List.length_nil, List.length_map, List.map_cons, List.map_nil, List.replicate, wLc, wComp, wipeE, dSl, c3, a3, st1]
  refine ⟨fun _ => ⟨trivial, trivial, trivial, st_b A (n := 15) k1 (by decide) (x := "abaababaabaabab") (by decide +kernel) ⟨ln 1 (by decide), fun _ => ⟨trivial, trivial, trivial, st_b A (n := 15) k2 (by decide) (x := "aabaabaaabaabaa") (by decide +kernel) ⟨ln 2 (by decide), fun _ => ⟨trivial, trivial, trivial, st_b A (n := 15) k3 (by decide) (x := "aaabaaabaaabaaa") (by decide +kernel) ⟨ln 3 (by decide), ?_⟩⟩, (by intro z; cases z)⟩⟩, (by intro z; cases z)⟩⟩, (by intro z; cases z)⟩
  have ed := eqD_refl okL_due
  unfold due at ed
  have o8 : okL 0 (.str "abbbabaa") := okL_txt _ (by decide)
  rw [ed]
  refine ⟨okD_of okL_due (by decide), okD_of okL_due (by decide), (fun z => nomatch z), fun _ => ⟨trivial, trivial, trivial, st_odd A ?_⟩⟩
  rw [eqD_refl o8]
  refine ⟨okD_of o8 (by decide), okD_of o8 (by decide), (fun z => nomatch z), fun _ => hM _ (seqI fun M hM => ?_)⟩
  simp only [wVar, wC, w2, w1, wNil, wCons, wTup, wLstO, wFz, wLk, wOwn, wAnd, wOr, wNot, wB, wYes, wIf, wFldC, wCB, wCBL, wCall0, wMeth0, wMethN0, wMakeK0, wMake0, sSeq, sNext, sNever, sRet, sRetN, sRetO, sIf, sAsg, sAsgO, sPar, sParO, sPar3, sParO3, sAsgG, gTupD, setAll, sAug, sApp, sFldI, tyAnd, tyOr, tyNot, iRg1, iRg2, iLst, iTupW, sFor, dAdd, dSub, dMul, dMulT, dDiv, dMod, dPow, dNeg, dLt, dLe, dGt, dGe, dIsN, DL.isNon, dNotN, dEq, dNe, dIx, dLen, dInt, dAbs, dMax2, dMin2, lLen, lTup, isA, envOf, envI, putD, gVar, wRev, wRevT, wIxL, wSl, wSlO, wNoP, wPart, wBag, okD_int, okD_bl, okD_non, eqD_int, eqD_bl, wipeE, wChain, wCallI0, wCallIK0, iSt, dLenO, wLRg1, wJoin, sDrop, wDGet, wDIn, wDNotIn, dE, dOwn, sDPutW, sFrzD, sFrz, sAsgN, sParN, sParN3, nE, nO, nDict, nDisp1, wFzD, NV.sv, iEnumW, wInS, wIndexS, wCatO, dInI, iKeysW, wMaxV, wCntT, lTupX, List.getElem?_cons_succ, List.getElem?_cons_zero, List.set_cons_succ, List.set_cons_zero, List.cons_append, List.nil_append, List.append_nil, List.length_cons, List.length_nil, List.length_map, List.map_cons, List.map_nil, List.replicate, a0, a1, a3, moves_look]
  have em : (D.lst [D.tup [D.tup [D.int 0, D.int 1], D.tup [D.int 0, D.int 0]], D.tup [D.tup [D.int 0, D.int 0, D.int 1], D.tup [D.int 0, D.int 0, D.int 0]], D.tup [D.tup [D.int 0, D.int 1], D.tup [D.int 1, D.int 0]]]) = .lst [mvD (bM 1), mvD (bM 2), mvD oddM] := rfl
  rw [em, eqD_refl okL_mvs]
  have l2 := ln 2 (by decide)
  have l3 := ln 3 (by decide)
  refine ⟨trivial, trivial, trivial, l3, l2, l2, l2, l3, l3, l2, l2, l2, l2, l3, okD_of okL_mvs (by decide), okD_of okL_mvs (by decide), (fun z => nomatch z), fun _ => hM _ ?_⟩
  simp [wVar, wC, w2, w1, wNil, wCons, wTup, wLstO, wFz, wLk, wOwn, wAnd, wOr, wNot, wB, wYes, wIf, wFldC, wCB, wCBL, wCall0, wMeth0, wMethN0, wMakeK0, wMake0, sSeq, sNext, sNever, sRet, sRetN, sRetO, sIf, sAsg, sAsgO, sPar, sParO, sPar3, sParO3, sAsgG, gTupD, setAll, sAug, sApp, sFldI, tyAnd, tyOr, tyNot, iRg1, iRg2, iLst, iTupW, sFor, dAdd, dSub, dMul, dMulT, dDiv, dMod, dPow, dNeg, dLt, dLe, dGt, dGe, dIsN, DL.isNon, dNotN, dEq, dNe, dIx, dLen, dInt, dAbs, dMax2, dMin2, lLen, lTup, isA, envOf, envI, putD, gVar, wRev, wRevT, wIxL, wSl, wSlO, wNoP, wPart, wBag, okD_int, okD_bl, okD_non, eqD_int, eqD_bl, wipeE, wChain, wCallI0, wCallIK0, iSt, dLenO, wLRg1, wJoin, sDrop, wDGet, wDIn, wDNotIn, dE, dOwn, sDPutW, sFrzD, sFrz, sAsgN, sParN, sParN3, nE, nO, nDict, nDisp1, wFzD, NV.sv, iEnumW, wInS, wIndexS, wCatO, dInI, iKeysW, wMaxV, wCntT, lTupX, wLc]
  generalize hN : (if 2 < if 6 < (ns.length : Int) then 6 else (ns.length : Int) then if 6 < (ns.length : Int) then 6 else (ns.length : Int) else 2) = N
  have hN2 : 0 ≤ N ∧ N ≤ 6 := by
    rw [← hN]
    split <;> split <;> omega
  refine ⟨by omega, by omega, ?_⟩
  unfold rngD
  refine DL.comp_map (c := fun (i : Nat) => D.int (0 + i)) (l := List.range N.toNat) (ev := fun i => [.d (.scr ns), .d (.lst [rowD A 1 (bM 1) "ab", rowD A 2 (bM 2) "ab", rowD A 3 (bM 3) "ab", rowD A 1 oddM "ab"]), .un, .d due, .d (.int (0 + (i : Nat)))]) (f := fun _ => .bl true) (fun _ _ _ h => h) (fun i _ Q h => ?_) ?_ ?_
  · exact ⟨rfl, by omega, fun a => ⟨rfl, h⟩⟩
  · rw [List.length_range, show sizeLine = 16777216 from rfl]
    omega
  · refine all_map (fun _ => true) _ _ ?_
    rw [all_yes]
    exact hq
end Lw
namespace Lw
open PySem L2 DL
open PySem.Spec PyProof.Rows
structure Fa where
  a_System_eq : PySem.Addr
  d_System_eq : PySem.FuncData
  a_Row_eq : PySem.Addr
  d_Row_eq : PySem.FuncData
  a_check_system : PySem.Addr
  d_check_system : PySem.FuncData
  a_is_well_worded : PySem.Addr
  d_is_well_worded : PySem.FuncData
  a_are_small : PySem.Addr
  d_are_small : PySem.FuncData
  a_is_pair : PySem.Addr
  d_is_pair : PySem.FuncData
  a_words_of : PySem.Addr
  d_words_of : PySem.FuncData
  a_is_integer : PySem.Addr
  d_is_integer : PySem.FuncData
  a_is_number : PySem.Addr
  d_is_number : PySem.FuncData
  a_are_moves : PySem.Addr
  d_are_moves : PySem.FuncData
  a_Row_init : PySem.Addr
  d_Row_init : PySem.FuncData
  a_row_by_rule : PySem.Addr
  d_row_by_rule : PySem.FuncData
  a_Row_by_rule : PySem.Addr
  d_Row_by_rule : PySem.FuncData
  a_System_init : PySem.Addr
  d_System_init : PySem.FuncData
  a_golden_row : PySem.Addr
  d_golden_row : PySem.FuncData
  a_silver_row : PySem.Addr
  d_silver_row : PySem.FuncData
  a_bronze_row : PySem.Addr
  d_bronze_row : PySem.FuncData
  a_odd_row : PySem.Addr
  d_odd_row : PySem.FuncData
  a_units_up_to : PySem.Addr
  d_units_up_to : PySem.FuncData
  a_digits_of : PySem.Addr
  d_digits_of : PySem.FuncData
  a_sign_at : PySem.Addr
  d_sign_at : PySem.FuncData
  a_Row_stretch : PySem.Addr
  d_Row_stretch : PySem.FuncData
  a_law_draw : PySem.Addr
  d_law_draw : PySem.FuncData
  a_law_units : PySem.Addr
  d_law_units : PySem.FuncData
  a_law_great : PySem.Addr
  d_law_great : PySem.FuncData
  a_law_root : PySem.Addr
  d_law_root : PySem.FuncData
  a_Row_call : PySem.Addr
  d_Row_call : PySem.FuncData
  a_law_digits : PySem.Addr
  d_law_digits : PySem.FuncData
  a_law_right : PySem.Addr
  d_law_right : PySem.FuncData
  a_law_bag : PySem.Addr
  d_law_bag : PySem.FuncData
  a_law : PySem.Addr
  d_law : PySem.FuncData
variable [Tbl]
structure Txt (K : PySem.W.Frag) (mg : PySem.Str → Option PySem.Value) (A : Ad) (F : Fa) : Prop where
  F_System_eq : Fun K "__eq__" "System.__eq__" s_System_eq F.a_System_eq F.d_System_eq
  b_System_eq : Binds K F.d_System_eq ["self", "other"] []
  me_System_eq : Meth K A.c_System "__eq__" F.a_System_eq
  F_Row_eq : Fun K "__eq__" "Row.__eq__" s_Row_eq F.a_Row_eq F.d_Row_eq
  b_Row_eq : Binds K F.d_Row_eq ["self", "other"] []
  me_Row_eq : Meth K A.c_Row "__eq__" F.a_Row_eq
  F_check_system : Fun K "check_system" "check_system" s_check_system F.a_check_system F.d_check_system
  b_check_system : Binds K F.d_check_system ["system"] []
  g_check_system : mg "check_system" = some (.ref F.a_check_system)
  F_is_well_worded : Fun K "is_well_worded" "is_well_worded" s_is_well_worded F.a_is_well_worded F.d_is_well_worded
  b_is_well_worded : Binds K F.d_is_well_worded ["words", "word"] []
  g_is_well_worded : mg "is_well_worded" = some (.ref F.a_is_well_worded)
  F_are_small : Fun K "are_small" "are_small" s_are_small F.a_are_small F.d_are_small
  b_are_small : Binds K F.d_are_small ["value", "least", "most"] []
  g_are_small : mg "are_small" = some (.ref F.a_are_small)
  F_is_pair : Fun K "is_pair" "is_pair" s_is_pair F.a_is_pair F.d_is_pair
  b_is_pair : Binds K F.d_is_pair ["step", "value"] []
  g_is_pair : mg "is_pair" = some (.ref F.a_is_pair)
  F_words_of : Fun K "words_of" "words_of" s_words_of F.a_words_of F.d_words_of
  b_words_of : Binds K F.d_words_of ["step", "rule"] []
  g_words_of : mg "words_of" = some (.ref F.a_words_of)
  F_is_integer : Fun K "is_integer" "is_integer" s_is_integer F.a_is_integer F.d_is_integer
  b_is_integer : Binds K F.d_is_integer ["value"] []
  g_is_integer : mg "is_integer" = some (.ref F.a_is_integer)
  F_is_number : FunD K "is_number" "is_number" (defArgs s_is_number) (defBody s_is_number) (defScope s_is_number) [.non] [] F.a_is_number F.d_is_number
  b_is_number : Binds K F.d_is_number ["value", "most"] []
  g_is_number : mg "is_number" = some (.ref F.a_is_number)
  F_are_moves : Fun K "are_moves" "are_moves" s_are_moves F.a_are_moves F.d_are_moves
  b_are_moves : Binds K F.d_are_moves ["step", "value"] []
  g_are_moves : mg "are_moves" = some (.ref F.a_are_moves)
  F_Row_init : Fun K "__init__" "Row.__init__" s_Row_init F.a_Row_init F.d_Row_init
  b_Row_init : Binds K F.d_Row_init ["self", "system", "moves", "signs"] []
  mk_Row : Mk K A.c_Row F.a_Row_init
  F_row_by_rule : Fun K "row_by_rule" "row_by_rule" s_row_by_rule F.a_row_by_rule F.d_row_by_rule
  b_row_by_rule : Binds K F.d_row_by_rule ["system", "rule", "shown"] []
  g_row_by_rule : mg "row_by_rule" = some (.ref F.a_row_by_rule)
  F_Row_by_rule : FunD K "by_rule" "Row.by_rule" (defArgs s_Row_by_rule) (defBody s_Row_by_rule) (defScope s_Row_by_rule) [.non] [] F.a_Row_by_rule F.d_Row_by_rule
  b_Row_by_rule : Binds K F.d_Row_by_rule ["system", "rule", "shown"] []
  bd1_Row_by_rule : Binds K F.d_Row_by_rule ["system", "rule", "shown"] [.none]
  sm_Row_by_rule : SMet K A.c_Row F.a_Row_by_rule "by_rule"
  F_System_init : Fun K "__init__" "System.__init__" s_System_init F.a_System_init F.d_System_init
  b_System_init : Binds K F.d_System_init ["self", "step"] []
  mk_System : Mk K A.c_System F.a_System_init
  F_golden_row : Fun K "golden_row" "golden_row" s_golden_row F.a_golden_row F.d_golden_row
  b_golden_row : Binds K F.d_golden_row [] []
  g_golden_row : mg "golden_row" = some (.ref F.a_golden_row)
  F_silver_row : Fun K "silver_row" "silver_row" s_silver_row F.a_silver_row F.d_silver_row
  b_silver_row : Binds K F.d_silver_row [] []
  g_silver_row : mg "silver_row" = some (.ref F.a_silver_row)
  F_bronze_row : Fun K "bronze_row" "bronze_row" s_bronze_row F.a_bronze_row F.d_bronze_row
  b_bronze_row : Binds K F.d_bronze_row [] []
  g_bronze_row : mg "bronze_row" = some (.ref F.a_bronze_row)
  F_odd_row : Fun K "odd_row" "odd_row" s_odd_row F.a_odd_row F.d_odd_row
  b_odd_row : Binds K F.d_odd_row [] []
  g_odd_row : mg "odd_row" = some (.ref F.a_odd_row)
  F_units_up_to : Fun K "units_up_to" "units_up_to" s_units_up_to F.a_units_up_to F.d_units_up_to
  b_units_up_to : Binds K F.d_units_up_to ["step", "number"] []
  g_units_up_to : mg "units_up_to" = some (.ref F.a_units_up_to)
  F_digits_of : Fun K "digits_of" "digits_of" s_digits_of F.a_digits_of F.d_digits_of
  b_digits_of : Binds K F.d_digits_of ["step", "number"] []
  g_digits_of : mg "digits_of" = some (.ref F.a_digits_of)
  F_sign_at : Fun K "sign_at" "sign_at" s_sign_at F.a_sign_at F.d_sign_at
  b_sign_at : Binds K F.d_sign_at ["row", "number"] []
  g_sign_at : mg "sign_at" = some (.ref F.a_sign_at)
  F_Row_stretch : Fun K "stretch" "Row.stretch" s_Row_stretch F.a_Row_stretch F.d_Row_stretch
  b_Row_stretch : Binds K F.d_Row_stretch ["self", "number", "length"] []
  me_Row_stretch : Meth K A.c_Row "stretch" F.a_Row_stretch
  F_law_draw : Fun K "_law_draw" "_law_draw" s_law_draw F.a_law_draw F.d_law_draw
  b_law_draw : Binds K F.d_law_draw ["_law_bag_here", "_law_wide"] []
  g_law_draw : mg "_law_draw" = some (.ref F.a_law_draw)
  F_law_units : Fun K "_law_units" "_law_units" s_law_units F.a_law_units F.d_law_units
  b_law_units : Binds K F.d_law_units ["_law_level", "_law_many"] []
  g_law_units : mg "_law_units" = some (.ref F.a_law_units)
  F_law_great : Fun K "_law_great" "_law_great" s_law_great F.a_law_great F.d_law_great
  b_law_great : Binds K F.d_law_great ["_law_bag_here", "_law_level"] []
  g_law_great : mg "_law_great" = some (.ref F.a_law_great)
  F_law_root : Fun K "_law_root" "_law_root" s_law_root F.a_law_root F.d_law_root
  b_law_root : Binds K F.d_law_root ["_law_square"] []
  g_law_root : mg "_law_root" = some (.ref F.a_law_root)
  F_Row_call : Fun K "__call__" "Row.__call__" s_Row_call F.a_Row_call F.d_Row_call
  b_Row_call : Binds K F.d_Row_call ["self", "number"] []
  co_Row : StX.CallO K A.c_Row F.a_Row_call
  me_Row_call : Meth K A.c_Row "__call__" F.a_Row_call
  F_law_digits : Fun K "_law_digits" "_law_digits" s_law_digits F.a_law_digits F.d_law_digits
  b_law_digits : Binds K F.d_law_digits ["_law_level", "_law_amount"] []
  g_law_digits : mg "_law_digits" = some (.ref F.a_law_digits)
  F_law_right : Fun K "_law_right" "_law_right" s_law_right F.a_law_right F.d_law_right
  b_law_right : Binds K F.d_law_right ["_law_bag_here"] []
  g_law_right : mg "_law_right" = some (.ref F.a_law_right)
  F_law_bag : Fun K "_law_bag" "_law_bag" s_law_bag F.a_law_bag F.d_law_bag
  b_law_bag : Binds K F.d_law_bag ["_law_cells", "_law_k"] []
  g_law_bag : mg "_law_bag" = some (.ref F.a_law_bag)
  F_law : Fun K "law" "law" s_law F.a_law F.d_law
  b_law : Binds K F.d_law ["_law_cells"] []
  g_law : mg "law" = some (.ref F.a_law)
  cl_System : Cls K A.c_System
  m_System : mg "System" = some (.ref A.c_System)
  cl_Row : Cls K A.c_Row
  m_Row : mg "Row" = some (.ref A.c_Row)
  na_Row_moves : NoAttr K A.c_Row "moves"
  na_Row_signs : NoAttr K A.c_Row "signs"
  na_Row_system : NoAttr K A.c_Row "system"
  na_System_step : NoAttr K A.c_System "step"
  z_abs : mg "abs" = none
  z_all : mg "all" = none
  z_bool : mg "bool" = none
  z_enumerate : mg "enumerate" = none
  z_int : mg "int" = none
  z_isinstance : mg "isinstance" = none
  z_len : mg "len" = none
  z_max : mg "max" = none
  z_min : mg "min" = none
  z_range : mg "range" = none
  z_str : mg "str" = none
  z_tuple : mg "tuple" = none
  v_MOST_LENGTH : ∃ u, mg "MOST_LENGTH" = some u ∧ RelV (.int 2000) u
  v_MOST_NUMBER : ∃ u, mg "MOST_NUMBER" = some u ∧ RelV (.int 10000000000000000000000000000000000000000) u
  v_MOST_STANDS : ∃ u, mg "MOST_STANDS" = some u ∧ RelV (.int 8) u
  v_MOST_STEP : ∃ u, mg "MOST_STEP" = some u ∧ RelV (.int 3) u
  ty : TyOk K (cd A)
section
variable {P : Program} {w : World} {K : PySem.W.Frag} {mg : Str → Option Value} {base : Heap} {A : Ad} {F : Fa}
theorem ok_System_eq (T : Txt K mg A F) : FnOk P w K mg base (L2.CX P w) 1 F.a_System_eq F.d_System_eq ["self", "other"] (spOf K 2 (S_System_eq A)) := by
  exact ok_def T.F_System_eq sc_System_eq (by decide) (fun cdv Ar outer s H E hr => ⟨_, w_System_eq A,
    (pss_one (ps_ret (pe_and (pe_callB call_isi (by rfl) T.z_isinstance bt_isinstance (pa_cons (pv 1) (pa_cons (pe_glob (v := .ref A.c_System) (by rfl) T.m_System rfl) pa_nil))) (pe_one (pe_cmpR (op_eqD (hu64 hr)) (pe_fld (pv 0) rfl) (pe_fld (pv 1) rfl) (nomark _)))))),
    (sims_ret (sim_andV (sim_cb (sim_isA T.ty) (sim_cons (sim_var (i := 1)) (sim_cons sim_obj sim_nil))) (sim_op sim_eq (sim_fldC T.cl_System T.na_System_step (sim_var (i := 0))) (sim_fldC T.cl_System T.na_System_step (sim_var (i := 1)))))), hw_System_eq A⟩)
theorem ok_Row_eq (T : Txt K mg A F) : FnOk P w K mg base (L2.CX P w) 2 F.a_Row_eq F.d_Row_eq ["self", "other"] (spOf K 2 (S_Row_eq A)) := by
  exact ok_def T.F_Row_eq sc_Row_eq (by decide) (fun cdv Ar outer s H E hr => ⟨_, w_Row_eq A,
    (pss_cons (ps_if (pt_not (pt_val (pe_callB call_isi (by rfl) T.z_isinstance bt_isinstance (pa_cons (pv 1) (pa_cons (pe_glob (v := .ref A.c_Row) (by rfl) T.m_Row rfl) pa_nil))))) (pss_one (ps_ret pe_bl)) pss_nil)
    (pss_one (ps_ret (pe_and (pe_cmpR (op_ownEq (E := E0) T.me_System_eq.at_ T.me_System_eq.fn (ok_System_eq T) T.b_System_eq (hr.mono (by decide)) passN) (pe_fld (pv 0) rfl) (pe_fld (pv 1) rfl) (nomark _)) (pe_and (pe_cmpR (op_eqD (hu64 hr)) (pe_fld (pv 0) rfl) (pe_fld (pv 1) rfl) (nomark _)) (pe_one (pe_cmpR (op_eqD (hu64 hr)) (pe_fld (pv 0) rfl) (pe_fld (pv 1) rfl) (nomark _)))))))),
    (sims_seq (sims_if (simt_not (simt_B (sim_cb (sim_isA T.ty) (sim_cons (sim_var (i := 1)) (sim_cons sim_obj sim_nil))))) (sims_ret sim_bl) sims_next)
    (sims_ret (sim_andV (sim_op (sim_eqO T.ty) (sim_fldC T.cl_Row T.na_Row_system (sim_var (i := 0))) (sim_fldC T.cl_Row T.na_Row_system (sim_var (i := 1)))) (sim_andV (sim_op sim_eq (sim_fldC T.cl_Row T.na_Row_moves (sim_var (i := 0))) (sim_fldC T.cl_Row T.na_Row_moves (sim_var (i := 1)))) (sim_op sim_eq (sim_fldC T.cl_Row T.na_Row_signs (sim_var (i := 0))) (sim_fldC T.cl_Row T.na_Row_signs (sim_var (i := 1)))))))), hw_Row_eq A⟩)
theorem ok_check_system (T : Txt K mg A F) : FnOk P w K mg base (L2.CX P w) 1 F.a_check_system F.d_check_system ["system"] (spOf K 1 (S_check_system A)) := by
  exact ok_def T.F_check_system sc_check_system (by decide) (fun cdv Ar outer s H E hr => ⟨_, w_check_system A,
    (pss_one (ps_if (pt_not (pt_val (pe_callB call_isi (by rfl) T.z_isinstance bt_isinstance (pa_cons (pv 0) (pa_cons (pe_glob (v := .ref A.c_System) (by rfl) T.m_System rfl) pa_nil))))) (pss_one ps_never) pss_nil)),
    (sims_if (simt_not (simt_B (sim_cb (sim_isA T.ty) (sim_cons (sim_var (i := 0)) (sim_cons sim_obj sim_nil))))) sims_never sims_next), hw_check_system A⟩)
theorem ok_is_well_worded (T : Txt K mg A F) : FnOk P w K mg base (L2.CX P w) 1 F.a_is_well_worded F.d_is_well_worded ["words", "word"] (spOf K 2 (S_is_well_worded A)) := by
  exact ok_def T.F_is_well_worded sc_is_well_worded (by decide) (fun cdv Ar outer s H E hr => ⟨_, w_is_well_worded A,
    (pss_cons (ps_if (pt_not (pt_val (pe_callB (cr_all rfl) (by rfl) T.z_all bt_all (pa_cons (pe_lc rfl sc_is_well_worded.nd (pi_str (pv 1)) (own := [("sign", 2)]) (blkOk_by (by kernel_rfl)) (fun _ _ _ _ _ => (pg_name (i := 2) sc_is_well_worded.nd rfl (by first | exact Or.inl rfl | exact Or.inr rfl))) (fun _ _ _ _ _ => pts_nil) (fun _ _ _ _ _ => (pe_cmp (pc_din (huD hr) (pv 2) (pv 0)) rfl))) pa_nil)))) (pss_one (ps_ret pe_bl)) pss_nil)
    (pss_cons (ps_setLc (i := 3) rfl sc_is_well_worded.nd rfl rfl rfl (pi_str (pv 1)) (own := [("sign", 2)]) (blkOk_by (by kernel_rfl)) (fun _ _ _ _ _ => (pg_name (i := 2) sc_is_well_worded.nd rfl (by first | exact Or.inl rfl | exact Or.inr rfl))) (fun _ _ _ _ _ => pts_nil) (fun _ _ _ _ _ => (pe_cmpR op_gtD (pe_callB call_len (by rfl) T.z_len bt_len (pa_cons (pe_dget (huD hr) (pv 0) (pv 2) (fun _ _ => rfl)) pa_nil)) pe_int (nomark _))))
    (pss_one (ps_ret (pe_ifExp (pt_cmpR (op_eqD (hu64 hr)) (pe_callB call_len (by rfl) T.z_len bt_len (pa_cons (pv 1) pa_nil)) pe_int (nomark _)) (pe_cmpR (op_eqD (hu64 hr)) (pv 3) (pe_lst (pa_cons pe_bl pa_nil)) (nomark _)) (pe_cmpR (op_eqD (hu64 hr)) (pv 3) (pe_op op_addD (pe_op op_mulT (pe_lst (pa_cons pe_bl pa_nil)) (pe_op op_subD (pe_callB call_len (by rfl) T.z_len bt_len (pa_cons (pv 1) pa_nil)) pe_int)) (pe_lst (pa_cons pe_bl pa_nil))) (nomark _))))))),
    (sims_seq (sims_if (simt_not (simt_B (sim_cbl sim_allL (siml_O (simo_lc (simi_str (sim_var (i := 1))) (simg_name (i := 2)) simt_yes (sim_din (sim_var (i := 2)) (simd_E (sim_var (i := 0)))) (by decide)))))) (sims_ret sim_bl) sims_next)
    (sims_seq (sims_asg (i := 3) (sim_fz (simo_lc (simi_str (sim_var (i := 1))) (simg_name (i := 2)) simt_yes (sim_op sim_gt (sim_cb sim_len (sim_cons (sim_dget (simd_E (sim_var (i := 0))) (sim_var (i := 2))) sim_nil)) sim_int) (by decide))))
    (sims_ret (sim_if (simt_test (sim_op sim_eq (sim_cb sim_len (sim_cons (sim_var (i := 1)) sim_nil)) sim_int)) (sim_op sim_eq (sim_var (i := 3)) (sim_fz (sim_lstO (sim_cons sim_bl sim_nil)))) (sim_op sim_eq (sim_var (i := 3)) (sim_op sim_add (sim_op sim_mulT (sim_fz (sim_lstO (sim_cons sim_bl sim_nil))) (sim_op sim_sub (sim_cb sim_len (sim_cons (sim_var (i := 1)) sim_nil)) sim_int)) (sim_fz (sim_lstO (sim_cons sim_bl sim_nil))))))))), hw_is_well_worded A⟩)
theorem ok_are_small (T : Txt K mg A F) : FnOk P w K mg base (L2.CX P w) 1 F.a_are_small F.d_are_small ["value", "least", "most"] (spOf K 3 (S_are_small A)) := by
  exact ok_def T.F_are_small sc_are_small (by decide) (fun cdv Ar outer s H E hr => ⟨_, w_are_small A,
    (pss_cons (ps_if (PW.pt (pw_or (pt_not (pt_val (pe_callB call_isi (by rfl) T.z_isinstance bt_isinstance (pa_cons (pv 0) (pa_cons (pe_bltn (v := .ty "str") (by rfl) T.z_str bt_str rfl) pa_nil))))) (pw_or1 (pt_not (pt_chain op_leD op_leD (pv 1) (pe_callB call_len (by rfl) T.z_len bt_len (pa_cons (pv 0) pa_nil)) (pv 2)))))) (pss_one (ps_ret pe_bl)) pss_nil)
    (pss_one (ps_ret (pe_callB (cr_all rfl) (by rfl) T.z_all bt_all (pa_cons (pe_lc rfl sc_are_small.nd (pi_str (pv 0)) (own := [("sign", 3)]) (blkOk_by (by kernel_rfl)) (fun _ _ _ _ _ => (pg_name (i := 3) sc_are_small.nd rfl (by first | exact Or.inl rfl | exact Or.inr rfl))) (fun _ _ _ _ _ => pts_nil) (fun _ _ _ _ _ => (pe_chain op_leD op_leD pe_str (pv 3) pe_str))) pa_nil))))),
    (sims_seq (sims_if (simt_or (simt_not (simt_B (sim_cb (sim_isA T.ty) (sim_cons (sim_var (i := 0)) (sim_cons sim_ty sim_nil))))) (simt_not (simt_test (sim_chain sim_le sim_le (sim_var (i := 1)) (sim_cb sim_len (sim_cons (sim_var (i := 0)) sim_nil)) (sim_var (i := 2)))))) (sims_ret sim_bl) sims_next)
    (sims_ret (sim_cbl sim_allL (siml_O (simo_lc (simi_str (sim_var (i := 0))) (simg_name (i := 3)) simt_yes (sim_chain sim_le sim_le sim_str (sim_var (i := 3)) sim_str) (by decide)))))), hw_are_small A⟩)
theorem ok_is_pair (T : Txt K mg A F) : FnOk P w K mg base (L2.CX P w) 2 F.a_is_pair F.d_is_pair ["step", "value"] (spOf K 2 (S_is_pair A)) := by
  exact ok_def T.F_is_pair sc_is_pair (by decide) (fun cdv Ar outer s H E hr => ⟨_, w_is_pair A,
    (pss_cons (ps_if (PW.pt (pw_or (pt_not (pt_val (pe_callB call_isi (by rfl) T.z_isinstance bt_isinstance (pa_cons (pv 1) (pa_cons (pe_bltn (v := .ty "tuple") (by rfl) T.z_tuple bt_tuple rfl) pa_nil))))) (pw_or (pt_cmpR (op_neD (hu64 hr)) (pe_callB call_len (by rfl) T.z_len bt_len (pa_cons (pv 1) pa_nil)) pe_int (nomark _)) (pw_or1 (pt_not (pt_val (pe_call (E := E0) (ok_are_small T) (hr.mono (by decide)) (by rfl) T.g_are_small T.F_are_small.kp T.b_are_small .nil passN (pa_cons (pe_ix ix_seq (pv 1) pe_int (fun _ _ => rfl)) (pa_cons pe_int (pa_cons pe_int pa_nil)))))))))) (pss_one (ps_ret pe_bl)) pss_nil)
    (pss_one (ps_ret (pe_and (pe_call (E := E0) (ok_are_small T) (hr.mono (by decide)) (by rfl) T.g_are_small T.F_are_small.kp T.b_are_small .nil passN (pa_cons (pe_ix ix_seq (pv 1) pe_int (fun _ _ => rfl)) (pa_cons pe_int (pa_cons (pe_op op_addD (pv 0) pe_int) pa_nil)))) (pe_one (pe_cmpR op_in_seq (pe_callB call_len (by rfl) T.z_len bt_len (pa_cons (pe_ix ix_seq (pv 1) pe_int (fun _ _ => rfl)) pa_nil)) (pe_tup (pa_cons pe_int (pa_cons (pe_op op_addD (pv 0) pe_int) pa_nil))) rfl)))))),
    (sims_seq (sims_if (simt_or (simt_not (simt_B (sim_cb (sim_isA T.ty) (sim_cons (sim_var (i := 1)) (sim_cons sim_ty sim_nil))))) (simt_or (simt_test (sim_op sim_ne (sim_cb sim_len (sim_cons (sim_var (i := 1)) sim_nil)) sim_int)) (simt_not (simt_B (sim_call0 rd0 (sim_cons (sim_op sim_ix (sim_var (i := 1)) sim_int) (sim_cons sim_int (sim_cons sim_int sim_nil)))))))) (sims_ret sim_bl) sims_next)
    (sims_ret (sim_andV (sim_call0 rd0 (sim_cons (sim_op sim_ix (sim_var (i := 1)) sim_int) (sim_cons sim_int (sim_cons (sim_op sim_add (sim_var (i := 0)) sim_int) sim_nil)))) (sim_op sim_inI (sim_cb sim_len (sim_cons (sim_op sim_ix (sim_var (i := 1)) sim_int) sim_nil)) (sim_tup (sim_cons sim_int (sim_cons (sim_op sim_add (sim_var (i := 0)) sim_int) sim_nil))))))), hw_is_pair A⟩)
theorem ok_words_of (T : Txt K mg A F) : FnOk P w K mg base (L2.CX P w) 3 F.a_words_of F.d_words_of ["step", "rule"] (spOf K 2 (S_words_of A)) := by
  obtain ⟨u_MOST_STANDS, m_MOST_STANDS, r_MOST_STANDS⟩ := T.v_MOST_STANDS
  exact ok_def T.F_words_of sc_words_of (by decide) (fun cdv Ar outer s H E hr => ⟨_, w_words_of A,
    (pss_cons (ps_if (PW.pt (pw_or (pt_not (pt_val (pe_callB call_isi (by rfl) T.z_isinstance bt_isinstance (pa_cons (pv 1) (pa_cons (pe_bltn (v := .ty "tuple") (by rfl) T.z_tuple bt_tuple rfl) pa_nil))))) (pw_or1 (pt_not (pt_chain op_leD op_leD pe_int (pe_callB call_len (by rfl) T.z_len bt_len (pa_cons (pv 1) pa_nil)) (pe_glob (by rfl) m_MOST_STANDS r_MOST_STANDS)))))) (pss_one ps_never) pss_nil)
    (pss_cons (ps_set (i := 2) sc_words_of.nd rfl (by first | exact Or.inl rfl | exact Or.inr rfl) pe_dnewK)
    (pss_cons (ps_for PassesOwn.leaving rfl (pi_enumT (by rfl) T.z_enumerate (pa_cons (pv 1) pa_nil)) (pg_tup rfl (pgs_cons (pg_name (i := 3) sc_words_of.nd rfl (by first | exact Or.inl rfl | exact Or.inr rfl)) (pgs_cons (pg_name (i := 4) sc_words_of.nd rfl (by first | exact Or.inl rfl | exact Or.inr rfl)) pgs_nil))) (pss_cons (ps_if (PW.pt (pw_or (pt_not (pt_val (pe_call (E := E0) (ok_is_pair T) (hr.mono (by decide)) (by rfl) T.g_is_pair T.F_is_pair.kp T.b_is_pair .nil passN (pa_cons (pv 0) (pa_cons (pv 4) pa_nil))))) (pw_or1 (pt_cmp (pc_din (huD hr) (pe_ix ix_seq (pv 4) pe_int (fun _ _ => rfl)) (pv 2)) rfl)))) (pss_one ps_never) pss_nil)
    (pss_one (ps_dput (huD hr) (pv 2) (pe_ix ix_seq (pv 4) pe_int (fun _ _ => rfl)) (pe_ix ix_seq (pv 4) pe_int (fun _ _ => rfl)) rfl))))
    (pss_cons (ps_frzD (ps_for PassesOwn.leaving rfl (pi_enumT (by rfl) T.z_enumerate (pa_cons (pv 1) pa_nil)) (pg_tup rfl (pgs_cons (pg_name (i := 3) sc_words_of.nd rfl (by first | exact Or.inl rfl | exact Or.inr rfl)) (pgs_cons (pg_name (i := 4) sc_words_of.nd rfl (by first | exact Or.inl rfl | exact Or.inr rfl)) pgs_nil))) (pss_one (ps_if (pt_not (pt_val (pe_call (E := E0) (ok_is_well_worded T) (hr.mono (by decide)) (by rfl) T.g_is_well_worded T.F_is_well_worded.kp T.b_is_well_worded .nil passN (pa_cons (pv 2) (pa_cons (pe_ix ix_seq (pv 4) pe_int (fun _ _ => rfl)) pa_nil))))) (pss_one ps_never) pss_nil))))
    (pss_cons (ps_if (PW.pt (pw_or (pt_cmpR (op_eqD (hu64 hr)) (pe_callB call_len (by rfl) T.z_len bt_len (pa_cons (pe_ix ix_seq (pe_ix ix_seq (pv 1) pe_int (fun _ _ => rfl)) pe_int (fun _ _ => rfl)) pa_nil)) pe_int (nomark _)) (pw_or1 (pt_cmpR (op_neD (hu64 hr)) (pe_ix ix_seq (pe_ix ix_seq (pe_ix ix_seq (pv 1) pe_int (fun _ _ => rfl)) pe_int (fun _ _ => rfl)) pe_int (fun _ _ => rfl)) (pe_ix ix_seq (pe_ix ix_seq (pv 1) pe_int (fun _ _ => rfl)) pe_int (fun _ _ => rfl)) (nomark _))))) (pss_one ps_never) pss_nil)
    (pss_one (ps_ret (pv 2)))))))),
    (sims_seq (sims_if (simt_or (simt_not (simt_B (sim_cb (sim_isA T.ty) (sim_cons (sim_var (i := 1)) (sim_cons sim_ty sim_nil))))) (simt_not (simt_test (sim_chain sim_le sim_le sim_int (sim_cb sim_len (sim_cons (sim_var (i := 1)) sim_nil)) sim_int)))) sims_never sims_next)
    (sims_seq (sims_asgN (i := 2) simn_dict)
    (sims_seq (sims_for (simi_enumT (sim_cons (sim_var (i := 1)) sim_nil)) (simg_names (js := [3, 4]) (n := 2)) (sims_seq (sims_if (simt_or (simt_not (simt_B (sim_call0 rd0 (sim_cons (sim_var (i := 0)) (sim_cons (sim_var (i := 4)) sim_nil))))) (simt_B (sim_din (sim_op sim_ix (sim_var (i := 4)) sim_int) (simd_own (i := 2))))) sims_never sims_next)
    (sims_dput (i := 2) (sim_op sim_ix (sim_var (i := 4)) sim_int) (sim_op sim_ix (sim_var (i := 4)) sim_int))))
    (sims_seq (sims_frzD (i := 2) (sims_for (simi_enumT (sim_cons (sim_var (i := 1)) sim_nil)) (simg_names (js := [3, 4]) (n := 2)) (sims_if (simt_not (simt_B (sim_call0 rd0 (sim_cons (sim_var (i := 2)) (sim_cons (sim_op sim_ix (sim_var (i := 4)) sim_int) sim_nil))))) sims_never sims_next)))
    (sims_seq (sims_if (simt_or (simt_test (sim_op sim_eq (sim_cb sim_len (sim_cons (sim_op sim_ix (sim_op sim_ix (sim_var (i := 1)) sim_int) sim_int) sim_nil)) sim_int)) (simt_test (sim_op sim_ne (sim_op sim_ix (sim_op sim_ix (sim_op sim_ix (sim_var (i := 1)) sim_int) sim_int) sim_int) (sim_op sim_ix (sim_op sim_ix (sim_var (i := 1)) sim_int) sim_int)))) sims_never sims_next)
    (sims_ret (sim_var (i := 2)))))))), hw_words_of A⟩)
theorem ok_is_integer (T : Txt K mg A F) : FnOk P w K mg base (L2.CX P w) 1 F.a_is_integer F.d_is_integer ["value"] (spOf K 1 (S_is_integer A)) := by
  exact ok_def T.F_is_integer sc_is_integer (by decide) (fun cdv Ar outer s H E hr => ⟨_, w_is_integer A,
    (pss_one (ps_ret (pe_and (pe_callB call_isi (by rfl) T.z_isinstance bt_isinstance (pa_cons (pv 0) (pa_cons (pe_bltn (v := .ty "int") (by rfl) T.z_int bt_int rfl) pa_nil))) (pe_one (pe_not (pe_callB call_isi (by rfl) T.z_isinstance bt_isinstance (pa_cons (pv 0) (pa_cons (pe_bltn (v := .ty "bool") (by rfl) T.z_bool bt_bool rfl) pa_nil)))))))),
    (sims_ret (sim_andV (sim_cb (sim_isA T.ty) (sim_cons (sim_var (i := 0)) (sim_cons sim_ty sim_nil))) (sim_notV (sim_cb (sim_isA T.ty) (sim_cons (sim_var (i := 0)) (sim_cons sim_ty sim_nil)))))), hw_is_integer A⟩)
theorem ok_is_number (T : Txt K mg A F) : FnOk P w K mg base (L2.CX P w) 2 F.a_is_number F.d_is_number ["value", "most"] (spOf K 2 (S_is_number A)) := by
  exact ok_defD T.F_is_number sc_is_number (by decide) (fun cdv Ar outer s H E hr => ⟨_, w_is_number A,
    (pss_one (ps_ret (pe_and (pe_call (E := E0) (ok_is_integer T) (hr.mono (by decide)) (by rfl) T.g_is_integer T.F_is_integer.kp T.b_is_integer .nil passN (pa_cons (pv 0) pa_nil)) (pe_and (pe_cmpR op_geD (pv 0) pe_int (nomark _)) (pe_one (pe_or (pe_cmpR op_isND (pv 1) pe_non (nomark _)) (pe_one (pe_cmpR op_leD (pv 0) (pv 1) (nomark _))))))))),
    (sims_ret (sim_andV (sim_call0 rd0 (sim_cons (sim_var (i := 0)) sim_nil)) (sim_andV (sim_op sim_ge (sim_var (i := 0)) sim_int) (sim_orV (sim_op sim_isN (sim_var (i := 1)) sim_non) (sim_op sim_le (sim_var (i := 0)) (sim_var (i := 1))))))), hw_is_number A⟩)
theorem ok_are_moves (T : Txt K mg A F) : FnOk P w K mg base (L2.CX P w) 3 F.a_are_moves F.d_are_moves ["step", "value"] (spOf K 2 (S_are_moves A)) := by
  obtain ⟨u_MOST_STANDS, m_MOST_STANDS, r_MOST_STANDS⟩ := T.v_MOST_STANDS
  exact ok_def T.F_are_moves sc_are_moves (by decide) (fun cdv Ar outer s H E hr => ⟨_, w_are_moves A,
    (pss_cons (ps_if (PW.pt (pw_or (pt_not (pt_val (pe_callB call_isi (by rfl) T.z_isinstance bt_isinstance (pa_cons (pv 1) (pa_cons (pe_bltn (v := .ty "tuple") (by rfl) T.z_tuple bt_tuple rfl) pa_nil))))) (pw_or1 (pt_not (pt_chain op_leD op_leD pe_int (pe_callB call_len (by rfl) T.z_len bt_len (pa_cons (pv 1) pa_nil)) (pe_glob (by rfl) m_MOST_STANDS r_MOST_STANDS)))))) (pss_one (ps_ret pe_bl)) pss_nil)
    (pss_cons (ps_for PassesOwn.leaving rfl (pi_tup (pv 1)) (pg_name (i := 2) sc_are_moves.nd rfl (by first | exact Or.inl rfl | exact Or.inr rfl)) (pss_cons (ps_if (PW.pt (pw_or (pt_not (pt_val (pe_callB call_isi (by rfl) T.z_isinstance bt_isinstance (pa_cons (pv 2) (pa_cons (pe_bltn (v := .ty "tuple") (by rfl) T.z_tuple bt_tuple rfl) pa_nil))))) (pw_or1 (pt_cmpR (op_neD (hu64 hr)) (pe_callB call_len (by rfl) T.z_len bt_len (pa_cons (pv 2) pa_nil)) (pe_op op_addD (pv 0) pe_int) (nomark _))))) (pss_one (ps_ret pe_bl)) pss_nil)
    (pss_one (ps_if (pt_not (pt_val (pe_callB (cr_all rfl) (by rfl) T.z_all bt_all (pa_cons (pe_lc rfl sc_are_moves.nd (pi_tup (pv 2)) (own := [("stand", 3)]) (blkOk_by (by kernel_rfl)) (fun _ _ _ _ _ => (pg_name (i := 3) sc_are_moves.nd rfl (by first | exact Or.inl rfl | exact Or.inr rfl))) (fun _ _ _ _ _ => pts_nil) (fun _ _ _ _ _ => (pe_call (E := E0) (ok_is_number T) (hr.mono (by decide)) (by rfl) T.g_is_number T.F_is_number.kp T.b_is_number .nil passN (pa_cons (pv 3) (pa_cons (pe_op op_subD (pe_callB call_len (by rfl) T.z_len bt_len (pa_cons (pv 1) pa_nil)) pe_int) pa_nil))))) pa_nil)))) (pss_one (ps_ret pe_bl)) pss_nil))))
    (pss_one (ps_ret (pe_cmpR (op_eqD (hu64 hr)) (pe_ix ix_seq (pe_ix ix_seq (pv 1) pe_int (fun _ _ => rfl)) pe_int (fun _ _ => rfl)) pe_int (nomark _)))))),
    (sims_seq (sims_if (simt_or (simt_not (simt_B (sim_cb (sim_isA T.ty) (sim_cons (sim_var (i := 1)) (sim_cons sim_ty sim_nil))))) (simt_not (simt_test (sim_chain sim_le sim_le sim_int (sim_cb sim_len (sim_cons (sim_var (i := 1)) sim_nil)) sim_int)))) (sims_ret sim_bl) sims_next)
    (sims_seq (sims_for (simi_tup (sim_var (i := 1))) (simg_name (i := 2)) (sims_seq (sims_if (simt_or (simt_not (simt_B (sim_cb (sim_isA T.ty) (sim_cons (sim_var (i := 2)) (sim_cons sim_ty sim_nil))))) (simt_test (sim_op sim_ne (sim_cb sim_len (sim_cons (sim_var (i := 2)) sim_nil)) (sim_op sim_add (sim_var (i := 0)) sim_int)))) (sims_ret sim_bl) sims_next)
    (sims_if (simt_not (simt_B (sim_cbl sim_allL (siml_O (simo_lc (simi_tup (sim_var (i := 2))) (simg_name (i := 3)) simt_yes (sim_call0 rd0 (sim_cons (sim_var (i := 3)) (sim_cons (sim_op sim_sub (sim_cb sim_len (sim_cons (sim_var (i := 1)) sim_nil)) sim_int) sim_nil))) (by decide)))))) (sims_ret sim_bl) sims_next)))
    (sims_ret (sim_op sim_eq (sim_op sim_ix (sim_op sim_ix (sim_var (i := 1)) sim_int) sim_int) sim_int)))), hw_are_moves A⟩)
theorem ok_Row_init (T : Txt K mg A F) : FnOk P w K mg base (L2.CX P w) 4 F.a_Row_init F.d_Row_init ["self", "system", "moves", "signs"] (spInit K A.c_Row 3 (S_Row_init A)) := by
  exact ok_init T.F_Row_init sc_Row_init (by decide) (fun cdv Ar outer s H E hr => ⟨_, w_Row_init A,
    (pss_cons (ps_expr (pe_call (E := E0) (ok_check_system T) (hr.mono (by decide)) (by rfl) T.g_check_system T.F_check_system.kp T.b_check_system .nil passN (pa_cons (pv 1) pa_nil)))
    (pss_cons (ps_if (pt_not (pt_val (pe_call (E := E0) (ok_are_moves T) (hr.mono (by decide)) (by rfl) T.g_are_moves T.F_are_moves.kp T.b_are_moves .nil passN (pa_cons (pe_fld (pv 1) rfl) (pa_cons (pv 2) pa_nil))))) (pss_one ps_never) pss_nil)
    (pss_cons (ps_if (pt_not (pt_val (pe_call (E := E0) (ok_are_small T) (hr.mono (by decide)) (by rfl) T.g_are_small T.F_are_small.kp T.b_are_small .nil passN (pa_cons (pv 3) (pa_cons (pe_callB call_len (by rfl) T.z_len bt_len (pa_cons (pv 2) pa_nil)) (pa_cons (pe_callB call_len (by rfl) T.z_len bt_len (pa_cons (pv 2) pa_nil)) pa_nil)))))) (pss_one ps_never) pss_nil)
    (pss_cons (ps_fld (pv 0) (pv 1) rfl)
    (pss_cons (ps_fld (pv 0) (pv 2) rfl)
    (pss_one (ps_fld (pv 0) (pv 3) rfl))))))),
    (sims_seq (sims_drop (sim_call0 rd0 (sim_cons (sim_var (i := 1)) sim_nil)))
    (sims_seq (sims_if (simt_not (simt_B (sim_call0 rd0 (sim_cons (sim_fldC T.cl_System T.na_System_step (sim_var (i := 1))) (sim_cons (sim_var (i := 2)) sim_nil))))) sims_never sims_next)
    (sims_seq (sims_if (simt_not (simt_B (sim_call0 rd0 (sim_cons (sim_var (i := 3)) (sim_cons (sim_cb sim_len (sim_cons (sim_var (i := 2)) sim_nil)) (sim_cons (sim_cb sim_len (sim_cons (sim_var (i := 2)) sim_nil)) sim_nil)))))) sims_never sims_next)
    (sims_seq (sims_fld (i := 0) T.cl_Row T.na_Row_system (sim_var (i := 1)))
    (sims_seq (sims_fld (i := 0) T.cl_Row T.na_Row_moves (sim_var (i := 2)))
    (sims_fld (i := 0) T.cl_Row T.na_Row_signs (sim_var (i := 3)))))))), hw_Row_init A⟩)
theorem ok_row_by_rule (T : Txt K mg A F) : FnOk P w K mg base (L2.CX P w) 6 F.a_row_by_rule F.d_row_by_rule ["system", "rule", "shown"] (spOf K 3 (S_row_by_rule A)) := by
  exact ok_def T.F_row_by_rule sc_row_by_rule (by decide) (fun cdv Ar outer s H E hr => ⟨_, w_row_by_rule A,
    (pss_cons (ps_expr (pe_call (E := E0) (ok_check_system T) (hr.mono (by decide)) (by rfl) T.g_check_system T.F_check_system.kp T.b_check_system .nil passN (pa_cons (pv 0) pa_nil)))
    (pss_cons (ps_set (i := 3) sc_row_by_rule.nd rfl (by first | exact Or.inl rfl | exact Or.inr rfl) (pe_call (E := E0) (ok_words_of T) (hr.mono (by decide)) (by rfl) T.g_words_of T.F_words_of.kp T.b_words_of .nil passN (pa_cons (pe_fld (pv 0) rfl) (pa_cons (pv 1) pa_nil))))
    (pss_cons (ps_if (PW.pt (pw_and (pt_cmpR op_notND (pv 2) pe_non (nomark _)) (pw_and1 (pt_not (pt_val (pe_call (E := E0) (ok_are_small T) (hr.mono (by decide)) (by rfl) T.g_are_small T.F_are_small.kp T.b_are_small .nil passN (pa_cons (pv 2) (pa_cons (pe_callB call_len (by rfl) T.z_len bt_len (pa_cons (pv 1) pa_nil)) (pa_cons (pe_callB call_len (by rfl) T.z_len bt_len (pa_cons (pv 1) pa_nil)) pa_nil))))))))) (pss_one ps_never) pss_nil)
    (pss_cons (ps_set (i := 4) sc_row_by_rule.nd rfl (by first | exact Or.inl rfl | exact Or.inr rfl) (pe_fzD (pe_dc rfl sc_row_by_rule.nd (pi_enumT (by rfl) T.z_enumerate (pa_cons (pv 1) pa_nil)) (own := [("index", 5), ("pair", 6)]) (blkOk_by (by kernel_rfl)) (fun _ _ _ _ _ => (pg_tup rfl (pgs_cons (pg_name (i := 5) sc_row_by_rule.nd rfl (by first | exact Or.inl rfl | exact Or.inr rfl)) (pgs_cons (pg_name (i := 6) sc_row_by_rule.nd rfl (by first | exact Or.inl rfl | exact Or.inr rfl)) pgs_nil)))) (fun _ _ _ _ _ => pts_nil) (fun _ _ _ _ _ => (pe_ix ix_seq (pv 6) pe_int (fun _ _ => rfl))) (fun _ _ _ _ _ => (pe_ifExp (pt_cmpR op_isND (pv 2) pe_non (nomark _)) (pe_ix ix_seq (pv 6) pe_int (fun _ _ => rfl)) (pe_ix ix_seq (pv 2) (pv 5) (fun _ _ => rfl)))))))
    (pss_cons (ps_par3 (i := 7) (j := 8) (l := 9) rfl sc_row_by_rule.nd rfl rfl rfl (by decide) (by decide) (by decide) rfl rfl rfl (pa_cons (pe_lst (pa_cons (pe_ix ix_seq (pe_ix ix_seq (pv 1) pe_int (fun _ _ => rfl)) pe_int (fun _ _ => rfl)) pa_nil)) (pa_cons (pe_disp (pps_cons (pe_ix ix_seq (pe_ix ix_seq (pv 1) pe_int (fun _ _ => rfl)) pe_int (fun _ _ => rfl)) pe_int pps_nil) rfl rfl (by simp) (by decide)) (pa_cons (pe_lst pa_nil) pa_nil))) rfl)
    (pss_cons (ps_while PassesOwn.leaving (pt_cmpR op_ltD (pe_callB call_len (by rfl) T.z_len bt_len (pa_cons (pv 9) pa_nil)) (pe_callB call_len (by rfl) T.z_len bt_len (pa_cons (pv 7) pa_nil)) (nomark _)) (pss_cons (ps_set (i := 10) sc_row_by_rule.nd rfl (by first | exact Or.inl rfl | exact Or.inr rfl) (pe_lst pa_nil))
    (pss_cons (ps_for PassesOwn.leaving rfl (pi_str (pe_dget (huD hr) (pv 3) (pe_ix ix_seq (pv 7) (pe_callB call_len (by rfl) T.z_len bt_len (pa_cons (pv 9) pa_nil)) (fun _ _ => rfl)) (fun _ _ => rfl))) (pg_name (i := 11) sc_row_by_rule.nd rfl (by first | exact Or.inl rfl | exact Or.inr rfl)) (pss_cons (ps_if (pt_cmp (pc_dnotin (huD hr) (pv 11) (pv 8)) rfl) (pss_cons (ps_dput (huD hr) (pv 8) (pv 11) (pe_callB call_len (by rfl) T.z_len bt_len (pa_cons (pv 7) pa_nil)) rfl)
    (pss_one (ps_expr (pe_bm PySem.F.plainAttrs_list PySem.F.slot_list_append PySem.F.type_list_append mt_append (pv 7) (pa_cons (pv 11) pa_nil))))) pss_nil)
    (pss_one (ps_expr (pe_bm PySem.F.plainAttrs_list PySem.F.slot_list_append PySem.F.type_list_append mt_append (pv 10) (pa_cons (pe_dget (huD hr) (pv 8) (pv 11) (fun _ _ => rfl)) pa_nil))))))
    (pss_one (ps_expr (pe_bm PySem.F.plainAttrs_list PySem.F.slot_list_append PySem.F.type_list_append mt_append (pv 9) (pa_cons (pe_callTy call_tuple_of (by rfl) T.z_tuple bt_tuple (pa_cons (pe_op op_addD (pv 10) (pe_op op_mulT (pe_lst (pa_cons pe_int pa_nil)) (pe_op op_subD (pe_op op_addD (pe_fld (pv 0) rfl) pe_int) (pe_callB call_len (by rfl) T.z_len bt_len (pa_cons (pv 10) pa_nil))))) pa_nil)) pa_nil)))))))
    (pss_one (ps_ret (pe_make (E := E0) T.mk_Row (ok_Row_init T) (hr.mono (by decide)) (by rfl) T.m_Row T.b_Row_init .nil passN (pa_cons (pv 0) (pa_cons (pe_callTy call_tuple_of (by rfl) T.z_tuple bt_tuple (pa_cons (pv 9) pa_nil)) (pa_cons (pe_bm PySem.F.plainAttrs_str PySem.F.slot_str_join PySem.F.type_str_join mt_join pe_str (pa_cons (pe_lc rfl sc_row_by_rule.nd (pi_list (pv 7)) (own := [("sign", 11)]) (blkOk_by (by kernel_rfl)) (fun _ _ _ _ _ => (pg_name (i := 11) sc_row_by_rule.nd rfl (by first | exact Or.inl rfl | exact Or.inr rfl))) (fun _ _ _ _ _ => pts_nil) (fun _ _ _ _ _ => (pe_dget (huD hr) (pv 4) (pv 11) (fun _ _ => rfl)))) pa_nil)) pa_nil)))))))))))),
    (sims_seq (sims_drop (sim_call0 rd0 (sim_cons (sim_var (i := 0)) sim_nil)))
    (sims_seq (sims_asg (i := 3) (sim_call0 rd0 (sim_cons (sim_fldC T.cl_System T.na_System_step (sim_var (i := 0))) (sim_cons (sim_var (i := 1)) sim_nil))))
    (sims_seq (sims_if (simt_and (simt_test (sim_op sim_notN (sim_var (i := 2)) sim_non)) (simt_not (simt_B (sim_call0 rd0 (sim_cons (sim_var (i := 2)) (sim_cons (sim_cb sim_len (sim_cons (sim_var (i := 1)) sim_nil)) (sim_cons (sim_cb sim_len (sim_cons (sim_var (i := 1)) sim_nil)) sim_nil))))))) sims_never sims_next)
    (sims_seq (sims_asg (i := 4) (sim_fzD (simn_dc (simi_enumT (sim_cons (sim_var (i := 1)) sim_nil)) (simg_names (js := [5, 6]) (n := 2)) simt_yes (sim_op sim_ix (sim_var (i := 6)) sim_int) (sim_if (simt_test (sim_op sim_isN (sim_var (i := 2)) sim_non)) (sim_op sim_ix (sim_var (i := 6)) sim_int) (sim_op sim_ix (sim_var (i := 2)) (sim_var (i := 5)))) (by decide))))
    (sims_seq (sims_parN3 (i := 7) (j := 8) (m := 9) (simn_O (sim_lstO (sim_cons (sim_op sim_ix (sim_op sim_ix (sim_var (i := 1)) sim_int) sim_int) sim_nil))) (simn_disp1 (sim_op sim_ix (sim_op sim_ix (sim_var (i := 1)) sim_int) sim_int) sim_int) (simn_O (sim_lstO sim_nil)))
    (sims_seq (sims_while (simt_test (sim_op sim_lt (sim_cbl sim_lenL (siml_own (i := 9))) (sim_cbl sim_lenL (siml_own (i := 7))))) (sims_seq (sims_asgO (i := 10) (sim_lstO sim_nil))
    (sims_seq (sims_for (simi_str (sim_dget (simd_E (sim_var (i := 3))) (sim_ixL (i := 7) (sim_cbl sim_lenL (siml_own (i := 9)))))) (simg_name (i := 11)) (sims_seq (sims_if (simt_B (sim_dnotin (sim_var (i := 11)) (simd_own (i := 8)))) (sims_seq (sims_dput (i := 8) (sim_var (i := 11)) (sim_cbl sim_lenL (siml_own (i := 7))))
    (sims_app (i := 7) (sim_var (i := 11)))) sims_next)
    (sims_app (i := 10) (sim_dget (simd_own (i := 8)) (sim_var (i := 11))))))
    (sims_frz (i := 10) (sims_app (i := 9) (sim_cbl sim_tupL (siml_E (sim_op sim_add (sim_var (i := 10)) (sim_op sim_mulT (sim_fz (sim_lstO (sim_cons sim_int sim_nil))) (sim_op sim_sub (sim_op sim_add (sim_fldC T.cl_System T.na_System_step (sim_var (i := 0))) sim_int) (sim_cb sim_len (sim_cons (sim_var (i := 10)) sim_nil))))))))))))
    (sims_frz (i := 7) (sims_ret (sim_make0 rd0 (sim_cons (sim_var (i := 0)) (sim_cons (sim_cbl sim_tupL (siml_own (i := 9))) (sim_cons (sim_join sim_str (siml_O (simo_lc (simi_list (sim_var (i := 7))) (simg_name (i := 11)) simt_yes (sim_dget (simd_E (sim_var (i := 4))) (sim_var (i := 11))) (by decide)))) sim_nil)))))))))))), hw_row_by_rule A⟩)
theorem ok_Row_by_rule (T : Txt K mg A F) : FnOk P w K mg base (L2.CX P w) 7 F.a_Row_by_rule F.d_Row_by_rule ["system", "rule", "shown"] (spOf K 3 (S_Row_by_rule A)) := by
  exact ok_defD T.F_Row_by_rule sc_Row_by_rule (by decide) (fun cdv Ar outer s H E hr => ⟨_, w_Row_by_rule A,
    (pss_one (ps_ret (pe_call (E := E0) (ok_row_by_rule T) (hr.mono (by decide)) (by rfl) T.g_row_by_rule T.F_row_by_rule.kp T.b_row_by_rule .nil passN (pa_cons (pv 0) (pa_cons (pv 1) (pa_cons (pv 2) pa_nil)))))),
    (sims_ret (sim_call0 rd0 (sim_cons (sim_var (i := 0)) (sim_cons (sim_var (i := 1)) (sim_cons (sim_var (i := 2)) sim_nil))))), hw_Row_by_rule A⟩)
theorem ok_System_init (T : Txt K mg A F) : FnOk P w K mg base (L2.CX P w) 3 F.a_System_init F.d_System_init ["self", "step"] (spInit K A.c_System 1 (S_System_init A)) := by
  obtain ⟨u_MOST_STEP, m_MOST_STEP, r_MOST_STEP⟩ := T.v_MOST_STEP
  exact ok_init T.F_System_init sc_System_init (by decide) (fun cdv Ar outer s H E hr => ⟨_, w_System_init A,
    (pss_cons (ps_if (PW.pt (pw_or (pt_not (pt_val (pe_call (E := E0) (ok_is_number T) (hr.mono (by decide)) (by rfl) T.g_is_number T.F_is_number.kp T.b_is_number .nil passN (pa_cons (pv 1) (pa_cons (pe_glob (by rfl) m_MOST_STEP r_MOST_STEP) pa_nil))))) (pw_or1 (pt_cmpR (op_eqD (hu64 hr)) (pv 1) pe_int (nomark _))))) (pss_one ps_never) pss_nil)
    (pss_one (ps_fld (pv 0) (pv 1) rfl))),
    (sims_seq (sims_if (simt_or (simt_not (simt_B (sim_call0 rd0 (sim_cons (sim_var (i := 1)) (sim_cons sim_int sim_nil))))) (simt_test (sim_op sim_eq (sim_var (i := 1)) sim_int))) sims_never sims_next)
    (sims_fld (i := 0) T.cl_System T.na_System_step (sim_var (i := 1)))), hw_System_init A⟩)
theorem ok_golden_row (T : Txt K mg A F) : FnOk P w K mg base (L2.CX P w) 8 F.a_golden_row F.d_golden_row [] (spOf K 0 (S_golden_row A)) := by
  exact ok_def T.F_golden_row sc_golden_row (by decide) (fun cdv Ar outer s H E hr => ⟨_, w_golden_row A,
    (pss_one (ps_ret (pe_static (E := E0) (pe_glob (v := .ref A.c_Row) (by rfl) T.m_Row rfl) T.sm_Row_by_rule (ok_Row_by_rule T) (hr.mono (by decide)) T.bd1_Row_by_rule (dvs := [.non]) (.cons rfl .nil) passN (pa_cons (pe_make (E := E0) T.mk_System (ok_System_init T) (hr.mono (by decide)) (by rfl) T.m_System T.b_System_init .nil passN (pa_cons pe_int pa_nil)) (pa_cons (pe_tup (pa_cons (pe_tup (pa_cons pe_str (pa_cons pe_str pa_nil))) (pa_cons (pe_tup (pa_cons pe_str (pa_cons pe_str pa_nil))) pa_nil))) pa_nil))))),
    (sims_ret (sim_call0 (dd := [.non]) (fun _ => .cons .non .nil) (sim_cons (sim_make0 rd0 (sim_cons sim_int sim_nil)) (sim_cons (sim_tup (sim_cons (sim_tup (sim_cons sim_str (sim_cons sim_str sim_nil))) (sim_cons (sim_tup (sim_cons sim_str (sim_cons sim_str sim_nil))) sim_nil))) sim_nil)))), hw_golden_row A⟩)
theorem ok_silver_row (T : Txt K mg A F) : FnOk P w K mg base (L2.CX P w) 8 F.a_silver_row F.d_silver_row [] (spOf K 0 (S_silver_row A)) := by
  exact ok_def T.F_silver_row sc_silver_row (by decide) (fun cdv Ar outer s H E hr => ⟨_, w_silver_row A,
    (pss_one (ps_ret (pe_static (E := E0) (pe_glob (v := .ref A.c_Row) (by rfl) T.m_Row rfl) T.sm_Row_by_rule (ok_Row_by_rule T) (hr.mono (by decide)) T.bd1_Row_by_rule (dvs := [.non]) (.cons rfl .nil) passN (pa_cons (pe_make (E := E0) T.mk_System (ok_System_init T) (hr.mono (by decide)) (by rfl) T.m_System T.b_System_init .nil passN (pa_cons pe_int pa_nil)) (pa_cons (pe_tup (pa_cons (pe_tup (pa_cons pe_str (pa_cons pe_str pa_nil))) (pa_cons (pe_tup (pa_cons pe_str (pa_cons pe_str pa_nil))) pa_nil))) pa_nil))))),
    (sims_ret (sim_call0 (dd := [.non]) (fun _ => .cons .non .nil) (sim_cons (sim_make0 rd0 (sim_cons sim_int sim_nil)) (sim_cons (sim_tup (sim_cons (sim_tup (sim_cons sim_str (sim_cons sim_str sim_nil))) (sim_cons (sim_tup (sim_cons sim_str (sim_cons sim_str sim_nil))) sim_nil))) sim_nil)))), hw_silver_row A⟩)
theorem ok_bronze_row (T : Txt K mg A F) : FnOk P w K mg base (L2.CX P w) 8 F.a_bronze_row F.d_bronze_row [] (spOf K 0 (S_bronze_row A)) := by
  exact ok_def T.F_bronze_row sc_bronze_row (by decide) (fun cdv Ar outer s H E hr => ⟨_, w_bronze_row A,
    (pss_one (ps_ret (pe_static (E := E0) (pe_glob (v := .ref A.c_Row) (by rfl) T.m_Row rfl) T.sm_Row_by_rule (ok_Row_by_rule T) (hr.mono (by decide)) T.bd1_Row_by_rule (dvs := [.non]) (.cons rfl .nil) passN (pa_cons (pe_make (E := E0) T.mk_System (ok_System_init T) (hr.mono (by decide)) (by rfl) T.m_System T.b_System_init .nil passN (pa_cons pe_int pa_nil)) (pa_cons (pe_tup (pa_cons (pe_tup (pa_cons pe_str (pa_cons pe_str pa_nil))) (pa_cons (pe_tup (pa_cons pe_str (pa_cons pe_str pa_nil))) pa_nil))) pa_nil))))),
    (sims_ret (sim_call0 (dd := [.non]) (fun _ => .cons .non .nil) (sim_cons (sim_make0 rd0 (sim_cons sim_int sim_nil)) (sim_cons (sim_tup (sim_cons (sim_tup (sim_cons sim_str (sim_cons sim_str sim_nil))) (sim_cons (sim_tup (sim_cons sim_str (sim_cons sim_str sim_nil))) sim_nil))) sim_nil)))), hw_bronze_row A⟩)
theorem ok_odd_row (T : Txt K mg A F) : FnOk P w K mg base (L2.CX P w) 6 F.a_odd_row F.d_odd_row [] (spOf K 0 (S_odd_row A)) := by
  exact ok_def T.F_odd_row sc_odd_row (by decide) (fun cdv Ar outer s H E hr => ⟨_, w_odd_row A,
    (pss_one (ps_ret (pe_make (E := E0) T.mk_Row (ok_Row_init T) (hr.mono (by decide)) (by rfl) T.m_Row T.b_Row_init .nil passN (pa_cons (pe_make (E := E0) T.mk_System (ok_System_init T) (hr.mono (by decide)) (by rfl) T.m_System T.b_System_init .nil passN (pa_cons pe_int pa_nil)) (pa_cons (pe_tup (pa_cons (pe_tup (pa_cons pe_int (pa_cons pe_int pa_nil))) (pa_cons (pe_tup (pa_cons pe_int (pa_cons pe_int pa_nil))) pa_nil))) (pa_cons pe_str pa_nil)))))),
    (sims_ret (sim_make0 rd0 (sim_cons (sim_make0 rd0 (sim_cons sim_int sim_nil)) (sim_cons (sim_tup (sim_cons (sim_tup (sim_cons sim_int (sim_cons sim_int sim_nil))) (sim_cons (sim_tup (sim_cons sim_int (sim_cons sim_int sim_nil))) sim_nil))) (sim_cons sim_str sim_nil))))), hw_odd_row A⟩)
theorem ok_units_up_to (T : Txt K mg A F) : FnOk P w K mg base (L2.CX P w) 1 F.a_units_up_to F.d_units_up_to ["step", "number"] (spOf K 2 (S_units_up_to A)) := by
  exact ok_def T.F_units_up_to sc_units_up_to (by decide) (fun cdv Ar outer s H E hr => ⟨_, w_units_up_to A,
    (pss_cons (ps_par3 (i := 2) (j := 3) (l := 4) rfl sc_units_up_to.nd rfl rfl rfl (by decide) (by decide) (by decide) rfl rfl rfl (pa_cons (pe_lst pa_nil) (pa_cons pe_int (pa_cons pe_int pa_nil))) rfl)
    (pss_cons (ps_while PassesOwn.leaving (pt_cmpR op_leD (pv 4) (pv 1) (nomark _)) (pss_cons (ps_expr (pe_bm PySem.F.plainAttrs_list PySem.F.slot_list_append PySem.F.type_list_append mt_append (pv 2) (pa_cons (pv 4) pa_nil)))
    (pss_one (ps_par (i := 3) (j := 4) rfl sc_units_up_to.nd rfl rfl (by decide) rfl rfl (pa_cons (pv 4) (pa_cons (pe_op op_addD (pe_op op_mulT (pv 0) (pv 4)) (pv 3)) pa_nil)) rfl))))
    (pss_one (ps_ret (pv 2))))),
    (sims_seq (sims_parO3 (i := 2) (j := 3) (l := 4) (sim_lstO sim_nil) sim_int sim_int)
    (sims_seq (sims_while (simt_test (sim_op sim_le (sim_var (i := 4)) (sim_var (i := 1)))) (sims_seq (sims_app (i := 2) (sim_var (i := 4)))
    (sims_par (i := 3) (j := 4) (sim_var (i := 4)) (sim_op sim_add (sim_op sim_mulT (sim_var (i := 0)) (sim_var (i := 4))) (sim_var (i := 3))))))
    (sims_retO (i := 2)))), hw_units_up_to A⟩)
theorem ok_digits_of (T : Txt K mg A F) : FnOk P w K mg base (L2.CX P w) 2 F.a_digits_of F.d_digits_of ["step", "number"] (spOf K 2 (S_digits_of A)) := by
  exact ok_def T.F_digits_of sc_digits_of (by decide) (fun cdv Ar outer s H E hr => ⟨_, w_digits_of A,
    (pss_cons (ps_par (i := 2) (j := 3) rfl sc_digits_of.nd rfl rfl (by decide) rfl rfl (pa_cons (pe_lst pa_nil) (pa_cons (pv 1) pa_nil)) rfl)
    (pss_cons (ps_for PassesOwn.leaving rfl (pi_list (pe_revL (pe_call (E := E0) (ok_units_up_to T) (hr.mono (by decide)) (by rfl) T.g_units_up_to T.F_units_up_to.kp T.b_units_up_to .nil passN (pa_cons (pv 0) (pa_cons (pv 1) pa_nil))))) (pg_name (i := 4) sc_digits_of.nd rfl (by first | exact Or.inl rfl | exact Or.inr rfl)) (pss_cons (ps_expr (pe_bm PySem.F.plainAttrs_list PySem.F.slot_list_append PySem.F.type_list_append mt_append (pv 2) (pa_cons (pe_op op_divD (pv 3) (pv 4)) pa_nil)))
    (pss_one (ps_set (i := 3) sc_digits_of.nd rfl (by first | exact Or.inl rfl | exact Or.inr rfl) (pe_op op_modD (pv 3) (pv 4))))))
    (pss_one (ps_ret (pe_callTy call_tuple_of (by rfl) T.z_tuple bt_tuple (pa_cons (pv 2) pa_nil)))))),
    (sims_seq (sims_parO (i := 2) (j := 3) (sim_lstO sim_nil) (sim_var (i := 1)))
    (sims_seq (sims_for (simi_list (sim_revL (sim_call0 rd0 (sim_cons (sim_var (i := 0)) (sim_cons (sim_var (i := 1)) sim_nil))))) (simg_name (i := 4)) (sims_seq (sims_app (i := 2) (sim_op sim_div (sim_var (i := 3)) (sim_var (i := 4))))
    (sims_asg (i := 3) (sim_op sim_mod (sim_var (i := 3)) (sim_var (i := 4))))))
    (sims_ret (sim_cbl sim_tupL (siml_own (i := 2)))))), hw_digits_of A⟩)
theorem ok_sign_at (T : Txt K mg A F) : FnOk P w K mg base (L2.CX P w) 3 F.a_sign_at F.d_sign_at ["row", "number"] (spOf K 2 (S_sign_at A)) := by
  exact ok_def T.F_sign_at sc_sign_at (by decide) (fun cdv Ar outer s H E hr => ⟨_, w_sign_at A,
    (pss_cons (ps_set (i := 2) sc_sign_at.nd rfl (by first | exact Or.inl rfl | exact Or.inr rfl) pe_int)
    (pss_cons (ps_for PassesOwn.leaving rfl (pi_tup (pe_call (E := E0) (ok_digits_of T) (hr.mono (by decide)) (by rfl) T.g_digits_of T.F_digits_of.kp T.b_digits_of .nil passN (pa_cons (pe_fld (pe_fld (pv 0) rfl) rfl) (pa_cons (pv 1) pa_nil)))) (pg_name (i := 3) sc_sign_at.nd rfl (by first | exact Or.inl rfl | exact Or.inr rfl)) (pss_one (ps_set (i := 2) sc_sign_at.nd rfl (by first | exact Or.inl rfl | exact Or.inr rfl) (pe_ix ix_seq (pe_ix ix_seq (pe_fld (pv 0) rfl) (pv 2) (fun _ _ => rfl)) (pv 3) (fun _ _ => rfl)))))
    (pss_one (ps_ret (pe_ix ix_seq (pe_fld (pv 0) rfl) (pv 2) (fun _ _ => rfl)))))),
    (sims_seq (sims_asg (i := 2) sim_int)
    (sims_seq (sims_for (simi_tup (sim_call0 rd0 (sim_cons (sim_fldC T.cl_System T.na_System_step (sim_fldC T.cl_Row T.na_Row_system (sim_var (i := 0)))) (sim_cons (sim_var (i := 1)) sim_nil)))) (simg_name (i := 3)) (sims_asg (i := 2) (sim_op sim_ix (sim_op sim_ix (sim_fldC T.cl_Row T.na_Row_moves (sim_var (i := 0))) (sim_var (i := 2))) (sim_var (i := 3)))))
    (sims_ret (sim_op sim_ix (sim_fldC T.cl_Row T.na_Row_signs (sim_var (i := 0))) (sim_var (i := 2)))))), hw_sign_at A⟩)
theorem ok_Row_stretch (T : Txt K mg A F) : FnOk P w K mg base (L2.CX P w) 4 F.a_Row_stretch F.d_Row_stretch ["self", "number", "length"] (spOf K 3 (S_Row_stretch A)) := by
  obtain ⟨u_MOST_LENGTH, m_MOST_LENGTH, r_MOST_LENGTH⟩ := T.v_MOST_LENGTH
  obtain ⟨u_MOST_NUMBER, m_MOST_NUMBER, r_MOST_NUMBER⟩ := T.v_MOST_NUMBER
  exact ok_def T.F_Row_stretch sc_Row_stretch (by decide) (fun cdv Ar outer s H E hr => ⟨_, w_Row_stretch A,
    (pss_cons (ps_if (pt_not (pt_val (pe_call (E := E0) (ok_is_number T) (hr.mono (by decide)) (by rfl) T.g_is_number T.F_is_number.kp T.b_is_number .nil passN (pa_cons (pv 1) (pa_cons (pe_glob (by rfl) m_MOST_NUMBER r_MOST_NUMBER) pa_nil))))) (pss_one ps_never) pss_nil)
    (pss_cons (ps_if (pt_not (pt_val (pe_call (E := E0) (ok_is_number T) (hr.mono (by decide)) (by rfl) T.g_is_number T.F_is_number.kp T.b_is_number .nil passN (pa_cons (pv 2) (pa_cons (pe_glob (by rfl) m_MOST_LENGTH r_MOST_LENGTH) pa_nil))))) (pss_one ps_never) pss_nil)
    (pss_one (ps_ret (pe_bm PySem.F.plainAttrs_str PySem.F.slot_str_join PySem.F.type_str_join mt_join pe_str (pa_cons (pe_lc rfl sc_Row_stretch.nd (pi_range1 (by rfl) T.z_range (pa_cons (pv 2) pa_nil)) (own := [("more", 3)]) (blkOk_by (by kernel_rfl)) (fun _ _ _ _ _ => (pg_name (i := 3) sc_Row_stretch.nd rfl (by first | exact Or.inl rfl | exact Or.inr rfl))) (fun _ _ _ _ _ => pts_nil) (fun _ _ _ _ _ => (pe_call (E := E0) (ok_sign_at T) (hr.mono (by decide)) (by rfl) T.g_sign_at T.F_sign_at.kp T.b_sign_at .nil passN (pa_cons (pv 0) (pa_cons (pe_op op_addD (pv 1) (pv 3)) pa_nil))))) pa_nil)))))),
    (sims_seq (sims_if (simt_not (simt_B (sim_call0 rd0 (sim_cons (sim_var (i := 1)) (sim_cons sim_int sim_nil))))) sims_never sims_next)
    (sims_seq (sims_if (simt_not (simt_B (sim_call0 rd0 (sim_cons (sim_var (i := 2)) (sim_cons sim_int sim_nil))))) sims_never sims_next)
    (sims_ret (sim_join sim_str (siml_O (simo_lc (simi_rng1 (sim_cons (sim_var (i := 2)) sim_nil)) (simg_name (i := 3)) simt_yes (sim_call0 rd0 (sim_cons (sim_var (i := 0)) (sim_cons (sim_op sim_add (sim_var (i := 1)) (sim_var (i := 3))) sim_nil))) (by decide))))))), hw_Row_stretch A⟩)
theorem ok_law_draw (T : Txt K mg A F) : FnOk P w K mg base (L2.CX P w) 1 F.a_law_draw F.d_law_draw ["_law_bag_here", "_law_wide"] (spOf K 2 sDraw) :=
  T.F_law_draw.okX sc_law_draw (fun vs H Q E h => spOf_len h) (fun cdv Ar outer s H vs Q E hr h => ⟨tDraw K, (pss_open (i := 0) (pss_cons (ps_asg (pe_op op_addD (pe_ix ix_seq (pv 0) pe_int (fun _ _ => rfl)) pe_int) (pg_sub (pv 0) pe_int set_list)) (pss_cons (ps_if (pt_cmpR op_gtD (pe_ix ix_seq (pv 0) pe_int (fun _ _ => rfl)) pe_int (nomark _)) (pss_cons (ps_set (i := 2) sc_law_draw.nd rfl (Or.inl rfl) (pe_op op_modD (pe_callTy call_int1 (by rfl) T.z_int bt_int (pa_cons (pe_ix ix_seq (pv 0) pe_int (fun _ _ => rfl)) pa_nil)) (pv 1))) (pss_cons (ps_asg (pe_op op_divD (pe_ix ix_seq (pv 0) pe_int (fun _ _ => rfl)) (pv 1)) (pg_sub (pv 0) pe_int set_list)) (pss_one (ps_ret (pe_shut (i := 0) (pv 2)))))) pss_nil) (pss_cons (ps_set (i := 3) sc_law_draw.nd rfl (Or.inl rfl) (pe_op op_addD (pe_callTy call_int1 (by rfl) T.z_int bt_int (pa_cons (pe_ix ix_seq (pv 0) pe_int (fun _ _ => rfl)) pa_nil)) (pe_op op_mulD pe_int (pe_ix ix_seq (pv 0) pe_int (fun _ _ => rfl))))) (pss_cons (ps_asg (pe_op op_modD (pe_callTy call_int1 (by rfl) T.z_int bt_int (pa_cons (pe_op op_addD (pe_op op_addD (pe_op op_mulD (pv 3) (pe_op op_addD (pe_op op_modD (pe_callTy call_int1 (by rfl) T.z_int bt_int (pa_cons (pv 3) pa_nil)) pe_int) pe_int)) (pe_op op_mulD pe_int (pe_ix ix_seq (pv 0) pe_int (fun _ _ => rfl)))) pe_int) pa_nil)) pe_int) (pg_sub (pv 0) pe_int set_list)) (pss_one (ps_ret (pe_shut (i := 0) (pe_op op_modD (pe_op op_divD (pe_callTy call_int1 (by rfl) T.z_int bt_int (pa_cons (pe_ix ix_seq (pv 0) pe_int (fun _ _ => rfl)) pa_nil)) pe_int) (pv 1)))))))))), draw_ok h rfl⟩)
theorem ok_law_units (T : Txt K mg A F) : FnOk P w K mg base (L2.CX P w) 1 F.a_law_units F.d_law_units ["_law_level", "_law_many"] (spOf K 2 (S_law_units A)) := by
  exact ok_def T.F_law_units sc_law_units (by decide) (fun cdv Ar outer s H E hr => ⟨_, w_law_units A,
    (pss_cons (ps_set (i := 2) sc_law_units.nd rfl (by first | exact Or.inl rfl | exact Or.inr rfl) (pe_lst (pa_cons pe_int (pa_cons (pe_op op_addD (pv 0) pe_int) pa_nil))))
    (pss_cons (ps_for PassesOwn.leaving rfl (pi_range1 (by rfl) T.z_range (pa_cons (pv 1) pa_nil)) (pg_name (i := 3) sc_law_units.nd rfl (by first | exact Or.inl rfl | exact Or.inr rfl)) (pss_one (ps_expr (pe_bm PySem.F.plainAttrs_list PySem.F.slot_list_append PySem.F.type_list_append mt_append (pv 2) (pa_cons (pe_op op_addD (pe_op op_mulT (pv 0) (pe_ix ix_seq (pv 2) (pe_un un_negD pe_int) (fun _ _ => rfl))) (pe_ix ix_seq (pv 2) (pe_un un_negD pe_int) (fun _ _ => rfl))) pa_nil)))))
    (pss_one (ps_ret (pe_slice sl_D (pv 2) po_none (po_some (pv 1))))))),
    (sims_seq (sims_asgO (i := 2) (sim_lstO (sim_cons sim_int (sim_cons (sim_op sim_add (sim_var (i := 0)) sim_int) sim_nil))))
    (sims_seq (sims_for (simi_rng1 (sim_cons (sim_var (i := 1)) sim_nil)) (simg_name (i := 3)) (sims_app (i := 2) (sim_op sim_add (sim_op sim_mulT (sim_var (i := 0)) (sim_ixL (i := 2) (sim_un sim_neg sim_int))) (sim_ixL (i := 2) (sim_un sim_neg sim_int)))))
    (sims_ret (sim_fz (simo_slOwn (i := 2) simp_no (simp_part (sim_var (i := 1)))))))), hw_law_units A⟩)
theorem ok_law_great (T : Txt K mg A F) : FnOk P w K mg base (L2.CX P w) 2 F.a_law_great F.d_law_great ["_law_bag_here", "_law_level"] (spOf K 2 (S_law_great A)) := by
  exact ok_def T.F_law_great sc_law_great (by decide) (fun cdv Ar outer s H E hr => ⟨_, w_law_great A,
    (pss_cons (ps_par (i := 2) (j := 3) rfl sc_law_great.nd rfl rfl (by decide) rfl rfl (pa_cons (pe_call (E := E0) (ok_law_draw T) (hr.mono (by decide)) (by rfl) T.g_law_draw T.F_law_draw.kp T.b_law_draw .nil passN (pa_cons (pv 0) (pa_cons pe_int pa_nil))) (pa_cons pe_int pa_nil)) rfl)
    (pss_cons (ps_if (pt_cmpR op_ltD (pv 2) pe_int (nomark _)) (pss_one (ps_ret (pe_call (E := E0) (ok_law_draw T) (hr.mono (by decide)) (by rfl) T.g_law_draw T.F_law_draw.kp T.b_law_draw .nil passN (pa_cons (pv 0) (pa_cons pe_int pa_nil))))) pss_nil)
    (pss_cons (ps_if (pt_cmpR (op_eqD (hu64 hr)) (pv 2) pe_int (nomark _)) (pss_one (ps_ret (pe_op op_subD (pe_op op_addD (pe_ix ix_seq (pe_call (E := E0) (ok_law_units T) (hr.mono (by decide)) (by rfl) T.g_law_units T.F_law_units.kp T.b_law_units .nil passN (pa_cons (pv 1) (pa_cons (pe_op op_addD pe_int (pe_call (E := E0) (ok_law_draw T) (hr.mono (by decide)) (by rfl) T.g_law_draw T.F_law_draw.kp T.b_law_draw .nil passN (pa_cons (pv 0) (pa_cons pe_int pa_nil)))) pa_nil))) (pe_un un_negD pe_int) (fun _ _ => rfl)) (pe_call (E := E0) (ok_law_draw T) (hr.mono (by decide)) (by rfl) T.g_law_draw T.F_law_draw.kp T.b_law_draw .nil passN (pa_cons (pv 0) (pa_cons pe_int pa_nil)))) pe_int))) pss_nil)
    (pss_cons (ps_for PassesOwn.leaving rfl (pi_range1 (by rfl) T.z_range (pa_cons (pe_op op_addD pe_int (pe_call (E := E0) (ok_law_draw T) (hr.mono (by decide)) (by rfl) T.g_law_draw T.F_law_draw.kp T.b_law_draw .nil passN (pa_cons (pv 0) (pa_cons pe_int pa_nil)))) pa_nil)) (pg_name (i := 4) sc_law_great.nd rfl (by first | exact Or.inl rfl | exact Or.inr rfl)) (pss_one (ps_set (i := 3) sc_law_great.nd rfl (by first | exact Or.inl rfl | exact Or.inr rfl) (pe_op op_addD (pe_op op_mulT (pv 3) pe_int) (pe_call (E := E0) (ok_law_draw T) (hr.mono (by decide)) (by rfl) T.g_law_draw T.F_law_draw.kp T.b_law_draw .nil passN (pa_cons (pv 0) (pa_cons pe_int pa_nil)))))))
    (pss_one (ps_ret (pv 3))))))),
    (sims_seq (sims_par (i := 2) (j := 3) (sim_call0 rd0 (sim_cons (sim_var (i := 0)) (sim_cons sim_int sim_nil))) sim_int)
    (sims_seq (sims_if (simt_test (sim_op sim_lt (sim_var (i := 2)) sim_int)) (sims_ret (sim_call0 rd0 (sim_cons (sim_var (i := 0)) (sim_cons sim_int sim_nil)))) sims_next)
    (sims_seq (sims_if (simt_test (sim_op sim_eq (sim_var (i := 2)) sim_int)) (sims_ret (sim_op sim_sub (sim_op sim_add (sim_op sim_ix (sim_call0 rd0 (sim_cons (sim_var (i := 1)) (sim_cons (sim_op sim_add sim_int (sim_call0 rd0 (sim_cons (sim_var (i := 0)) (sim_cons sim_int sim_nil)))) sim_nil))) (sim_un sim_neg sim_int)) (sim_call0 rd0 (sim_cons (sim_var (i := 0)) (sim_cons sim_int sim_nil)))) sim_int)) sims_next)
    (sims_seq (sims_for (simi_rng1 (sim_cons (sim_op sim_add sim_int (sim_call0 rd0 (sim_cons (sim_var (i := 0)) (sim_cons sim_int sim_nil)))) sim_nil)) (simg_name (i := 4)) (sims_asg (i := 3) (sim_op sim_add (sim_op sim_mulT (sim_var (i := 3)) sim_int) (sim_call0 rd0 (sim_cons (sim_var (i := 0)) (sim_cons sim_int sim_nil))))))
    (sims_ret (sim_var (i := 3))))))), hw_law_great A⟩)
theorem ok_law_root (T : Txt K mg A F) : FnOk P w K mg base (L2.CX P w) 1 F.a_law_root F.d_law_root ["_law_square"] (spOf K 1 (S_law_root A)) := by
  exact ok_def T.F_law_root sc_law_root (by decide) (fun cdv Ar outer s H E hr => ⟨_, w_law_root A,
    (pss_cons (ps_set (i := 1) sc_law_root.nd rfl (by first | exact Or.inl rfl | exact Or.inr rfl) pe_int)
    (pss_cons (ps_while PassesOwn.leaving (pt_cmpR op_leD (pe_op op_mulT (pv 1) (pv 1)) (pv 0) (nomark _)) (pss_one (ps_set (i := 1) sc_law_root.nd rfl (by first | exact Or.inl rfl | exact Or.inr rfl) (pe_op op_mulT (pv 1) pe_int))))
    (pss_cons (ps_set (i := 2) sc_law_root.nd rfl (by first | exact Or.inl rfl | exact Or.inr rfl) (pe_op op_divD (pv 1) pe_int))
    (pss_cons (ps_while PassesOwn.leaving (pt_cmpR op_gtD (pe_op op_subD (pv 1) (pv 2)) pe_int (nomark _)) (pss_cons (ps_set (i := 3) sc_law_root.nd rfl (by first | exact Or.inl rfl | exact Or.inr rfl) (pe_op op_divD (pe_callTy call_int1 (by rfl) T.z_int bt_int (pa_cons (pe_op op_addD (pv 2) (pv 1)) pa_nil)) pe_int))
    (pss_one (ps_if (pt_cmpR op_leD (pe_op op_mulT (pv 3) (pv 3)) (pv 0) (nomark _)) (pss_one (ps_set (i := 2) sc_law_root.nd rfl (by first | exact Or.inl rfl | exact Or.inr rfl) (pv 3))) (pss_one (ps_set (i := 1) sc_law_root.nd rfl (by first | exact Or.inl rfl | exact Or.inr rfl) (pv 3)))))))
    (pss_one (ps_ret (pe_ifExp (pt_cmpR op_gtD (pv 0) pe_int (nomark _)) (pv 2) pe_int))))))),
    (sims_seq (sims_asg (i := 1) sim_int)
    (sims_seq (sims_while (simt_test (sim_op sim_le (sim_op sim_mulT (sim_var (i := 1)) (sim_var (i := 1))) (sim_var (i := 0)))) (sims_asg (i := 1) (sim_op sim_mulT (sim_var (i := 1)) sim_int)))
    (sims_seq (sims_asg (i := 2) (sim_op sim_div (sim_var (i := 1)) sim_int))
    (sims_seq (sims_while (simt_test (sim_op sim_gt (sim_op sim_sub (sim_var (i := 1)) (sim_var (i := 2))) sim_int)) (sims_seq (sims_asg (i := 3) (sim_op sim_div (sim_cb sim_toInt (sim_cons (sim_op sim_add (sim_var (i := 2)) (sim_var (i := 1))) sim_nil)) sim_int))
    (sims_if (simt_test (sim_op sim_le (sim_op sim_mulT (sim_var (i := 3)) (sim_var (i := 3))) (sim_var (i := 0)))) (sims_asg (i := 2) (sim_var (i := 3))) (sims_asg (i := 1) (sim_var (i := 3))))))
    (sims_ret (sim_if (simt_test (sim_op sim_gt (sim_var (i := 0)) sim_int)) (sim_var (i := 2)) sim_int)))))), hw_law_root A⟩)
theorem ok_Row_call (T : Txt K mg A F) : FnOk P w K mg base (L2.CX P w) 4 F.a_Row_call F.d_Row_call ["self", "number"] (spOf K 2 (S_Row_call A)) := by
  obtain ⟨u_MOST_NUMBER, m_MOST_NUMBER, r_MOST_NUMBER⟩ := T.v_MOST_NUMBER
  exact ok_def T.F_Row_call sc_Row_call (by decide) (fun cdv Ar outer s H E hr => ⟨_, w_Row_call A,
    (pss_cons (ps_if (pt_not (pt_val (pe_call (E := E0) (ok_is_number T) (hr.mono (by decide)) (by rfl) T.g_is_number T.F_is_number.kp T.b_is_number .nil passN (pa_cons (pv 1) (pa_cons (pe_glob (by rfl) m_MOST_NUMBER r_MOST_NUMBER) pa_nil))))) (pss_one ps_never) pss_nil)
    (pss_one (ps_ret (pe_call (E := E0) (ok_sign_at T) (hr.mono (by decide)) (by rfl) T.g_sign_at T.F_sign_at.kp T.b_sign_at .nil passN (pa_cons (pv 0) (pa_cons (pv 1) pa_nil)))))),
    (sims_seq (sims_if (simt_not (simt_B (sim_call0 rd0 (sim_cons (sim_var (i := 1)) (sim_cons sim_int sim_nil))))) sims_never sims_next)
    (sims_ret (sim_call0 rd0 (sim_cons (sim_var (i := 0)) (sim_cons (sim_var (i := 1)) sim_nil))))), hw_Row_call A⟩)
theorem ok_law_digits (T : Txt K mg A F) : FnOk P w K mg base (L2.CX P w) 2 F.a_law_digits F.d_law_digits ["_law_level", "_law_amount"] (spOf K 2 (S_law_digits A)) := by
  exact ok_def T.F_law_digits sc_law_digits (by decide) (fun cdv Ar outer s H E hr => ⟨_, w_law_digits A,
    (pss_cons (ps_asg (pe_tup (pa_cons (pe_lst pa_nil) (pa_cons (pv 1) pa_nil))) (pg_tup rfl (pgs_cons (pg_name (i := 2) sc_law_digits.nd rfl (by first | exact Or.inl rfl | exact Or.inr rfl)) (pgs_cons (pg_name (i := 3) sc_law_digits.nd rfl (by first | exact Or.inl rfl | exact Or.inr rfl)) pgs_nil))))
    (pss_cons (ps_for PassesOwn.leaving rfl (pi_list (pe_revL (pe_lc rfl sc_law_digits.nd (pi_list (pe_call (E := E0) (ok_law_units T) (hr.mono (by decide)) (by rfl) T.g_law_units T.F_law_units.kp T.b_law_units .nil passN (pa_cons (pv 0) (pa_cons pe_int pa_nil)))) (own := [("_law_unit", 4)]) (blkOk_by (by kernel_rfl)) (fun _ _ _ _ _ => (pg_name (i := 4) sc_law_digits.nd rfl (by first | exact Or.inl rfl | exact Or.inr rfl))) (fun _ _ _ _ _ => (pts_one (pt_cmpR op_leD (pv 4) (pv 1) (nomark _)))) (fun _ _ _ _ _ => (pv 4))))) (pg_name (i := 4) sc_law_digits.nd rfl (by first | exact Or.inl rfl | exact Or.inr rfl)) (pss_cons (ps_set (i := 5) sc_law_digits.nd rfl (by first | exact Or.inl rfl | exact Or.inr rfl) (pe_callB call_len (by rfl) T.z_len bt_len (pa_cons (pe_lc rfl sc_law_digits.nd (pi_range2 (by rfl) T.z_range (pa_cons pe_int (pa_cons (pe_op op_addD (pv 0) pe_int) pa_nil))) (own := [("_law_k", 6)]) (blkOk_by (by kernel_rfl)) (fun _ _ _ _ _ => (pg_name (i := 6) sc_law_digits.nd rfl (by first | exact Or.inl rfl | exact Or.inr rfl))) (fun _ _ _ _ _ => (pts_one (pt_cmpR op_leD (pe_op op_mulT (pv 6) (pv 4)) (pv 3) (nomark _)))) (fun _ _ _ _ _ => (pv 6))) pa_nil)))
    (pss_cons (ps_expr (pe_bm PySem.F.plainAttrs_list PySem.F.slot_list_append PySem.F.type_list_append mt_append (pv 2) (pa_cons (pv 5) pa_nil)))
    (pss_one (ps_set (i := 3) sc_law_digits.nd rfl (by first | exact Or.inl rfl | exact Or.inr rfl) (pe_op op_subD (pv 3) (pe_op op_mulT (pv 5) (pv 4))))))))
    (pss_one (ps_ret (pe_callTy call_tuple_x (by rfl) T.z_tuple bt_tuple (pa_cons (pv 2) pa_nil)))))),
    (sims_seq (sims_tupO (i := 2) (j := 3) (sim_lstO sim_nil) (sim_var (i := 1)))
    (sims_seq (sims_for (simi_list (sim_revL (sim_fz (simo_lc (simi_list (sim_call0 rd0 (sim_cons (sim_var (i := 0)) (sim_cons sim_int sim_nil)))) (simg_name (i := 4)) (simt_test (sim_op sim_le (sim_var (i := 4)) (sim_var (i := 1)))) (sim_var (i := 4)) (by decide))))) (simg_name (i := 4)) (sims_seq (sims_asg (i := 5) (sim_cbl sim_lenL (siml_O (simo_lc (simi_rng2 (sim_cons sim_int (sim_cons (sim_op sim_add (sim_var (i := 0)) sim_int) sim_nil))) (simg_name (i := 6)) (simt_test (sim_op sim_le (sim_op sim_mulT (sim_var (i := 6)) (sim_var (i := 4))) (sim_var (i := 3)))) (sim_var (i := 6)) (by decide)))))
    (sims_seq (sims_app (i := 2) (sim_var (i := 5)))
    (sims_asg (i := 3) (sim_op sim_sub (sim_var (i := 3)) (sim_op sim_mulT (sim_var (i := 5)) (sim_var (i := 4))))))))
    (sims_ret (sim_cbl sim_tupX (siml_own (i := 2)))))), hw_law_digits A⟩)
theorem ok_law_right (T : Txt K mg A F) : FnOk P w K mg base (L2.CX P w) 9 F.a_law_right F.d_law_right ["_law_bag_here"] (spOf K 1 (S_law_right A)) := by
  exact ok_def T.F_law_right sc_law_right (by decide) (fun cdv Ar outer s H E hr => ⟨_, w_law_right A,
    (pss_cons (ps_set (i := 1) sc_law_right.nd rfl (by first | exact Or.inl rfl | exact Or.inr rfl) (pe_lst (pa_cons (pe_call0 (E := E0) (ok_golden_row T) (hr.mono (by decide)) (by rfl) T.g_golden_row T.F_golden_row.kp T.b_golden_row .nil passN) (pa_cons (pe_call0 (E := E0) (ok_silver_row T) (hr.mono (by decide)) (by rfl) T.g_silver_row T.F_silver_row.kp T.b_silver_row .nil passN) (pa_cons (pe_call0 (E := E0) (ok_bronze_row T) (hr.mono (by decide)) (by rfl) T.g_bronze_row T.F_bronze_row.kp T.b_bronze_row .nil passN) pa_nil)))))
    (pss_cons (ps_for PassesOwn.leaving rfl (pi_range1 (by rfl) T.z_range (pa_cons pe_int pa_nil)) (pg_name (i := 2) sc_law_right.nd rfl (by first | exact Or.inl rfl | exact Or.inr rfl)) (pss_cons (ps_set (i := 3) sc_law_right.nd rfl (by first | exact Or.inl rfl | exact Or.inr rfl) pe_int)
    (pss_cons (ps_for PassesOwn.leaving rfl (pi_range1 (by rfl) T.z_range (pa_cons (pe_op op_addD pe_int (pe_call (E := E0) (ok_law_draw T) (hr.mono (by decide)) (by rfl) T.g_law_draw T.F_law_draw.kp T.b_law_draw .nil passN (pa_cons (pv 0) (pa_cons pe_int pa_nil)))) pa_nil)) (pg_name (i := 4) sc_law_right.nd rfl (by first | exact Or.inl rfl | exact Or.inr rfl)) (pss_one (ps_set (i := 3) sc_law_right.nd rfl (by first | exact Or.inl rfl | exact Or.inr rfl) (pe_op op_addD (pe_op op_mulT (pv 3) pe_int) (pe_call (E := E0) (ok_law_draw T) (hr.mono (by decide)) (by rfl) T.g_law_draw T.F_law_draw.kp T.b_law_draw .nil passN (pa_cons (pv 0) (pa_cons pe_int pa_nil)))))))
    (pss_cons (ps_set (i := 3) sc_law_right.nd rfl (by first | exact Or.inl rfl | exact Or.inr rfl) (pe_op op_addD (pv 3) pe_int))
    (pss_one (ps_for PassesOwn.leaving rfl (pi_range2 (by rfl) T.z_range (pa_cons pe_int (pa_cons pe_int pa_nil))) (pg_name (i := 5) sc_law_right.nd rfl (by first | exact Or.inl rfl | exact Or.inr rfl)) (pss_cons (ps_set (i := 6) sc_law_right.nd rfl (by first | exact Or.inl rfl | exact Or.inr rfl) (pe_call (E := E0) (ok_law_root T) (hr.mono (by decide)) (by rfl) T.g_law_root T.F_law_root.kp T.b_law_root .nil passN (pa_cons (pe_op op_mulT (pe_op op_mulT (pe_op op_addD (pe_op op_mulT (pv 5) (pv 5)) pe_int) (pv 3)) (pv 3)) pa_nil)))
    (pss_cons (ps_set (i := 7) sc_law_right.nd rfl (by first | exact Or.inl rfl | exact Or.inr rfl) (pe_op op_subD (pe_op op_divD (pe_callTy call_int1 (by rfl) T.z_int bt_int (pa_cons (pe_op op_addD (pe_op op_mulT (pe_op op_addD (pv 5) pe_int) (pv 3)) (pv 6)) pa_nil)) pe_int) pe_int))
    (pss_one (ps_if (pt_cmpR (op_neD (hu64 hr)) (pe_lc rfl sc_law_right.nd (pi_list (pe_lst (pa_cons (pe_un un_negD pe_int) (pa_cons pe_int (pa_cons pe_int pa_nil))))) (own := [("_law_more", 8)]) (blkOk_by (by kernel_rfl)) (fun _ _ _ _ _ => (pg_name (i := 8) sc_law_right.nd rfl (by first | exact Or.inl rfl | exact Or.inr rfl))) (fun _ _ _ _ _ => pts_nil) (fun _ _ _ _ _ => (pe_callI (E := E0) (pe_ix ix_seq (pv 1) (pe_op op_subD (pv 5) pe_int) (fun _ _ => rfl)) T.co_Row (ok_Row_call T) (hr.mono (by decide)) T.b_Row_call passN (pa_cons (pe_op op_addD (pv 7) (pv 8)) pa_nil)))) (pe_lst (pa_cons pe_str (pa_cons pe_str (pa_cons pe_str pa_nil)))) (nomark _)) (pss_one (ps_ret pe_bl)) pss_nil))))))))))
    (pss_cons (ps_set (i := 9) sc_law_right.nd rfl (by first | exact Or.inl rfl | exact Or.inr rfl) (pe_call0 (E := E0) (ok_odd_row T) (hr.mono (by decide)) (by rfl) T.g_odd_row T.F_odd_row.kp T.b_odd_row .nil passN))
    (pss_cons (ps_for PassesOwn.leaving rfl (pi_range1 (by rfl) T.z_range (pa_cons pe_int pa_nil)) (pg_name (i := 2) sc_law_right.nd rfl (by first | exact Or.inl rfl | exact Or.inr rfl)) (pss_cons (ps_set (i := 10) sc_law_right.nd rfl (by first | exact Or.inl rfl | exact Or.inr rfl) (pe_call (E := E0) (ok_law_great T) (hr.mono (by decide)) (by rfl) T.g_law_great T.F_law_great.kp T.b_law_great .nil passN (pa_cons (pv 0) (pa_cons pe_int pa_nil))))
    (pss_one (ps_if (pt_cmpR (op_neD (hu64 hr)) (pe_callI (E := E0) (pv 9) T.co_Row (ok_Row_call T) (hr.mono (by decide)) T.b_Row_call passN (pa_cons (pv 10) pa_nil)) (pe_ix ix_seq pe_str (pe_op op_modD (pe_callTy call_int1 (by rfl) T.z_int bt_int (pa_cons (pe_mG ty_tup PySem.F.plainAttrs_tuple PySem.F.slot_tuple_count PySem.F.type_tuple_count mt_tcount (pe_call (E := E0) (ok_law_digits T) (hr.mono (by decide)) (by rfl) T.g_law_digits T.F_law_digits.kp T.b_law_digits .nil passN (pa_cons pe_int (pa_cons (pv 10) pa_nil))) (pa_cons pe_int pa_nil)) pa_nil)) pe_int) (fun _ _ => rfl)) (nomark _)) (pss_one (ps_ret pe_bl)) pss_nil))))
    (pss_one (ps_ret pe_bl)))))),
    (sims_seq (sims_asg (i := 1) (sim_fz (sim_lstO (sim_cons (sim_call0 rd0 sim_nil) (sim_cons (sim_call0 rd0 sim_nil) (sim_cons (sim_call0 rd0 sim_nil) sim_nil))))))
    (sims_seq (sims_for (simi_rng1 (sim_cons sim_int sim_nil)) (simg_name (i := 2)) (sims_seq (sims_asg (i := 3) sim_int)
    (sims_seq (sims_for (simi_rng1 (sim_cons (sim_op sim_add sim_int (sim_call0 rd0 (sim_cons (sim_var (i := 0)) (sim_cons sim_int sim_nil)))) sim_nil)) (simg_name (i := 4)) (sims_asg (i := 3) (sim_op sim_add (sim_op sim_mulT (sim_var (i := 3)) sim_int) (sim_call0 rd0 (sim_cons (sim_var (i := 0)) (sim_cons sim_int sim_nil))))))
    (sims_seq (sims_asg (i := 3) (sim_op sim_add (sim_var (i := 3)) sim_int))
    (sims_for (simi_rng2 (sim_cons sim_int (sim_cons sim_int sim_nil))) (simg_name (i := 5)) (sims_seq (sims_asg (i := 6) (sim_call0 rd0 (sim_cons (sim_op sim_mulT (sim_op sim_mulT (sim_op sim_add (sim_op sim_mulT (sim_var (i := 5)) (sim_var (i := 5))) sim_int) (sim_var (i := 3))) (sim_var (i := 3))) sim_nil)))
    (sims_seq (sims_asg (i := 7) (sim_op sim_sub (sim_op sim_div (sim_cb sim_toInt (sim_cons (sim_op sim_add (sim_op sim_mulT (sim_op sim_add (sim_var (i := 5)) sim_int) (sim_var (i := 3))) (sim_var (i := 6))) sim_nil)) sim_int) sim_int))
    (sims_if (simt_test (sim_op sim_ne (sim_fz (simo_lc (simi_list (sim_fz (sim_lstO (sim_cons (sim_un sim_neg sim_int) (sim_cons sim_int (sim_cons sim_int sim_nil)))))) (simg_name (i := 8)) simt_yes (sim_callI0 (sim_op sim_ix (sim_var (i := 1)) (sim_op sim_sub (sim_var (i := 5)) sim_int)) (sim_cons (sim_op sim_add (sim_var (i := 7)) (sim_var (i := 8))) sim_nil)) (by decide))) (sim_fz (sim_lstO (sim_cons sim_str (sim_cons sim_str (sim_cons sim_str sim_nil))))))) (sims_ret sim_bl) sims_next))))))))
    (sims_seq (sims_asg (i := 9) (sim_call0 rd0 sim_nil))
    (sims_seq (sims_for (simi_rng1 (sim_cons sim_int sim_nil)) (simg_name (i := 2)) (sims_seq (sims_asg (i := 10) (sim_call0 rd0 (sim_cons (sim_var (i := 0)) (sim_cons sim_int sim_nil))))
    (sims_if (simt_test (sim_op sim_ne (sim_callI0 (sim_var (i := 9)) (sim_cons (sim_var (i := 10)) sim_nil)) (sim_op sim_ix sim_str (sim_op sim_mod (sim_cb sim_toInt (sim_cons (sim_cntT (k := 1) (sim_call0 rd0 (sim_cons sim_int (sim_cons (sim_var (i := 10)) sim_nil)))) sim_nil)) sim_int)))) (sims_ret sim_bl) sims_next)))
    (sims_ret sim_bl))))), hw_law_right A⟩)
theorem ok_law_bag (T : Txt K mg A F) : FnOk P w K mg base (L2.CX P w) 1 F.a_law_bag F.d_law_bag ["_law_cells", "_law_k"] (spOf K 2 (S_law_bag A)) := by
  exact ok_def T.F_law_bag sc_law_bag (by decide) (fun cdv Ar outer s H E hr => ⟨_, w_law_bag A,
    (pss_cons (ps_par (i := 2) (j := 3) rfl sc_law_bag.nd rfl rfl (by decide) rfl rfl (pa_cons (pe_ifExp (pt_cmpR op_ltD (pv 1) (pe_callB call_len (by rfl) T.z_len bt_len (pa_cons (pv 0) pa_nil)) (nomark _)) (pe_callTy call_int1 (by rfl) T.z_int bt_int (pa_cons (pe_ix ix_seq (pv 0) (pv 1) (fun _ _ => rfl)) pa_nil)) pe_int) (pa_cons (pe_op op_mulT pe_int (pe_op op_addD (pv 1) pe_int)) pa_nil)) rfl)
    (pss_cons (ps_for PassesOwn.leaving rfl (pi_list (pe_slice sl_D (pv 0) po_none (po_some pe_int))) (pg_name (i := 4) sc_law_bag.nd rfl (by first | exact Or.inl rfl | exact Or.inr rfl)) (pss_one (ps_set (i := 3) sc_law_bag.nd rfl (by first | exact Or.inl rfl | exact Or.inr rfl) (pe_op op_modD (pe_callTy call_int1 (by rfl) T.z_int bt_int (pa_cons (pe_op op_addD (pe_op op_addD (pe_op op_mulT (pv 3) pe_int) (pe_op op_modD (pe_callTy call_int1 (by rfl) T.z_int bt_int (pa_cons (pv 4) pa_nil)) pe_int)) (pe_op op_mulT pe_int (pv 1))) pa_nil)) pe_int))))
    (pss_cons (ps_set (i := 5) sc_law_bag.nd rfl (by first | exact Or.inl rfl | exact Or.inr rfl) (pe_ifExp (PW.pt (pw_or (pt_cmpR op_ltD (pv 2) pe_int (nomark _)) (pw_or1 (pt_cmpR op_geD (pv 2) (pe_op op_powD pe_int pe_int) (nomark _))))) (pe_callB call_abs (by rfl) T.z_abs bt_abs (pa_cons (pv 2) pa_nil)) pe_int))
    (pss_one (ps_ret (pe_asBag (pe_lst (pa_cons (pv 5) (pa_cons (pe_op op_modD (pe_callTy call_int1 (by rfl) T.z_int bt_int (pa_cons (pe_op op_addD (pv 3) (pe_op op_mulT pe_int (pe_op op_modD (pe_callTy call_int1 (by rfl) T.z_int bt_int (pa_cons (pv 2) pa_nil)) pe_int))) pa_nil)) pe_int) (pa_cons pe_int pa_nil)))))))))),
    (sims_seq (sims_par (i := 2) (j := 3) (sim_if (simt_test (sim_op sim_lt (sim_var (i := 1)) (sim_cb sim_len (sim_cons (sim_var (i := 0)) sim_nil)))) (sim_cb sim_toInt (sim_cons (sim_op sim_ix (sim_var (i := 0)) (sim_var (i := 1))) sim_nil)) sim_int) (sim_op sim_mulT sim_int (sim_op sim_add (sim_var (i := 1)) sim_int)))
    (sims_seq (sims_for (simi_list (sim_sl (sim_var (i := 0)) simp_no (simp_part sim_int))) (simg_name (i := 4)) (sims_asg (i := 3) (sim_op sim_mod (sim_cb sim_toInt (sim_cons (sim_op sim_add (sim_op sim_add (sim_op sim_mulT (sim_var (i := 3)) sim_int) (sim_op sim_mod (sim_cb sim_toInt (sim_cons (sim_var (i := 4)) sim_nil)) sim_int)) (sim_op sim_mulT sim_int (sim_var (i := 1)))) sim_nil)) sim_int)))
    (sims_seq (sims_asg (i := 5) (sim_if (simt_or (simt_test (sim_op sim_lt (sim_var (i := 2)) sim_int)) (simt_test (sim_op sim_ge (sim_var (i := 2)) (sim_op sim_pow sim_int sim_int)))) (sim_cb sim_abs (sim_cons (sim_var (i := 2)) sim_nil)) sim_int))
    (sims_ret (sim_asBag (sim_lstO (sim_cons (sim_var (i := 5)) (sim_cons (sim_op sim_mod (sim_cb sim_toInt (sim_cons (sim_op sim_add (sim_var (i := 3)) (sim_op sim_mulT sim_int (sim_op sim_mod (sim_cb sim_toInt (sim_cons (sim_var (i := 2)) sim_nil)) sim_int))) sim_nil)) sim_int) (sim_cons sim_int sim_nil))))))))), hw_law_bag A⟩)
theorem eqs_2 {cdv : Value} {N : List Str} {q : Str} {sc : Scope} {f : Addr} {Ar : Around} {outer : List Env} {s : Shared} {H : Hp} {E : XK} (T : Txt K mg A F) : ∀ p ∈ TT A, OwnE (cxOf (L2.CX P w) P w K mg base N q sc f cdv Ar outer s H E) 2 p.1 p.2 := fun p hp => by
  simp only [TT, List.mem_cons, List.not_mem_nil, or_false] at hp
  rcases hp with rfl | rfl
  · exact ⟨_, _, 1, by decide, T.me_System_eq.at_, T.me_System_eq.fn, ok_System_eq T, T.b_System_eq⟩
  · exact ⟨_, _, 2, by decide, T.me_Row_eq.at_, T.me_Row_eq.fn, ok_Row_eq T, T.b_Row_eq⟩
theorem ok_law (T : Txt K mg A F) : FnOk P w K mg base (L2.CX P w) 10 F.a_law F.d_law ["_law_cells"] (spOf K 1 (S_law A)) := by
  exact ok_def T.F_law sc_law (by decide) (fun cdv Ar outer s H E hr => ⟨_, w_law A,
    (pss_cons (ps_set (i := 1) sc_law.nd rfl (by first | exact Or.inl rfl | exact Or.inr rfl) (pe_lst (pa_cons (pe_call0 (E := E0) (ok_golden_row T) (hr.mono (by decide)) (by rfl) T.g_golden_row T.F_golden_row.kp T.b_golden_row .nil passN) (pa_cons (pe_call0 (E := E0) (ok_silver_row T) (hr.mono (by decide)) (by rfl) T.g_silver_row T.F_silver_row.kp T.b_silver_row .nil passN) (pa_cons (pe_call0 (E := E0) (ok_bronze_row T) (hr.mono (by decide)) (by rfl) T.g_bronze_row T.F_bronze_row.kp T.b_bronze_row .nil passN) (pa_cons (pe_call0 (E := E0) (ok_odd_row T) (hr.mono (by decide)) (by rfl) T.g_odd_row T.F_odd_row.kp T.b_odd_row .nil passN) pa_nil))))))
    (pss_cons (ps_if (pt_cmpR (op_neG (k := 2) T.ty (eqs_2 T) 3 (hr.mono (by decide))) (pe_lc rfl sc_law.nd (pi_list (pv 1)) (own := [("_law_rank", 2)]) (blkOk_by (by kernel_rfl)) (fun _ _ _ _ _ => (pg_name (i := 2) sc_law.nd rfl (by first | exact Or.inl rfl | exact Or.inr rfl))) (fun _ _ _ _ _ => pts_nil) (fun _ _ _ _ _ => (pe_fld (pv 2) rfl))) (pe_lst (pa_cons (pe_make (E := E0) T.mk_System (ok_System_init T) (hr.mono (by decide)) (by rfl) T.m_System T.b_System_init .nil passN (pa_cons pe_int pa_nil)) (pa_cons (pe_make (E := E0) T.mk_System (ok_System_init T) (hr.mono (by decide)) (by rfl) T.m_System T.b_System_init .nil passN (pa_cons pe_int pa_nil)) (pa_cons (pe_make (E := E0) T.mk_System (ok_System_init T) (hr.mono (by decide)) (by rfl) T.m_System T.b_System_init .nil passN (pa_cons pe_int pa_nil)) (pa_cons (pe_make (E := E0) T.mk_System (ok_System_init T) (hr.mono (by decide)) (by rfl) T.m_System T.b_System_init .nil passN (pa_cons pe_int pa_nil)) pa_nil))))) (nomark _)) (pss_one (ps_ret pe_bl)) pss_nil)
    (pss_cons (ps_set (i := 3) sc_law.nd rfl (by first | exact Or.inl rfl | exact Or.inr rfl) (pe_lst (pa_cons pe_str (pa_cons pe_str (pa_cons pe_str pa_nil)))))
    (pss_cons (ps_if (PW.pt (pw_or (pt_cmpR (op_neD (hu64 hr)) (pe_lc rfl sc_law.nd (pi_list (pe_slice sl_D (pv 1) po_none (po_some pe_int))) (own := [("_law_rank", 2)]) (blkOk_by (by kernel_rfl)) (fun _ _ _ _ _ => (pg_name (i := 2) sc_law.nd rfl (by first | exact Or.inl rfl | exact Or.inr rfl))) (fun _ _ _ _ _ => pts_nil) (fun _ _ _ _ _ => (pe_meth (E := E0) (pv 2) T.cl_Row T.me_Row_stretch (ok_Row_stretch T) (hr.mono (by decide)) T.b_Row_stretch .nil passN (pa_cons pe_int (pa_cons pe_int pa_nil))))) (pv 3) (nomark _)) (pw_or1 (pt_cmpR (op_neD (hu64 hr)) (pe_meth (E := E0) (pe_ix ix_seq (pv 1) pe_int (fun _ _ => rfl)) T.cl_Row T.me_Row_stretch (ok_Row_stretch T) (hr.mono (by decide)) T.b_Row_stretch .nil passN (pa_cons pe_int (pa_cons pe_int pa_nil))) pe_str (nomark _))))) (pss_one (ps_ret pe_bl)) pss_nil)
    (pss_cons (ps_if (pt_cmpR (op_neD (hu64 hr)) (pe_lst (pa_cons (pe_fld (pe_ix ix_seq (pv 1) pe_int (fun _ _ => rfl)) rfl) (pa_cons (pe_fld (pe_ix ix_seq (pv 1) pe_int (fun _ _ => rfl)) rfl) (pa_cons (pe_fld (pe_ix ix_seq (pv 1) pe_int (fun _ _ => rfl)) rfl) pa_nil)))) (pe_lst (pa_cons (pe_tup (pa_cons (pe_tup (pa_cons pe_int (pa_cons pe_int pa_nil))) (pa_cons (pe_tup (pa_cons pe_int (pa_cons pe_int pa_nil))) pa_nil))) (pa_cons (pe_tup (pa_cons (pe_tup (pa_cons pe_int (pa_cons pe_int (pa_cons pe_int pa_nil)))) (pa_cons (pe_tup (pa_cons pe_int (pa_cons pe_int (pa_cons pe_int pa_nil)))) pa_nil))) (pa_cons (pe_tup (pa_cons (pe_tup (pa_cons pe_int (pa_cons pe_int pa_nil))) (pa_cons (pe_tup (pa_cons pe_int (pa_cons pe_int pa_nil))) pa_nil))) pa_nil)))) (nomark _)) (pss_one (ps_ret pe_bl)) pss_nil)
    (pss_one (ps_ret (pe_callB (cr_all rfl) (by rfl) T.z_all bt_all (pa_cons (pe_lc rfl sc_law.nd (pi_range1 (by rfl) T.z_range (pa_cons (pe_callB (call_max2 rfl) (by rfl) T.z_max bt_max (pa_cons pe_int (pa_cons (pe_callB (call_min2 rfl) (by rfl) T.z_min bt_min (pa_cons (pe_callB call_len (by rfl) T.z_len bt_len (pa_cons (pv 0) pa_nil)) (pa_cons pe_int pa_nil))) pa_nil))) pa_nil)) (own := [("_law_k", 4)]) (blkOk_by (by kernel_rfl)) (fun _ _ _ _ _ => (pg_name (i := 4) sc_law.nd rfl (by first | exact Or.inl rfl | exact Or.inr rfl))) (fun _ _ _ _ _ => pts_nil) (fun _ _ _ _ _ => (pe_call (E := E0) (ok_law_right T) (hr.mono (by decide)) (by rfl) T.g_law_right T.F_law_right.kp T.b_law_right .nil passN (pa_cons (pe_call (E := E0) (ok_law_bag T) (hr.mono (by decide)) (by rfl) T.g_law_bag T.F_law_bag.kp T.b_law_bag .nil passN (pa_cons (pv 0) (pa_cons (pv 4) pa_nil))) pa_nil)))) pa_nil))))))))),
    (sims_seq (sims_asg (i := 1) (sim_fz (sim_lstO (sim_cons (sim_call0 rd0 sim_nil) (sim_cons (sim_call0 rd0 sim_nil) (sim_cons (sim_call0 rd0 sim_nil) (sim_cons (sim_call0 rd0 sim_nil) sim_nil)))))))
    (sims_seq (sims_if (simt_test (sim_op sim_cmpG (sim_fz (simo_lc (simi_list (sim_var (i := 1))) (simg_name (i := 2)) simt_yes (sim_fldC T.cl_Row T.na_Row_system (sim_var (i := 2))) (by decide))) (sim_fz (sim_lstO (sim_cons (sim_make0 rd0 (sim_cons sim_int sim_nil)) (sim_cons (sim_make0 rd0 (sim_cons sim_int sim_nil)) (sim_cons (sim_make0 rd0 (sim_cons sim_int sim_nil)) (sim_cons (sim_make0 rd0 (sim_cons sim_int sim_nil)) sim_nil)))))))) (sims_ret sim_bl) sims_next)
    (sims_seq (sims_asg (i := 3) (sim_fz (sim_lstO (sim_cons sim_str (sim_cons sim_str (sim_cons sim_str sim_nil))))))
    (sims_seq (sims_if (simt_or (simt_test (sim_op sim_ne (sim_fz (simo_lc (simi_list (sim_sl (sim_var (i := 1)) simp_no (simp_part sim_int))) (simg_name (i := 2)) simt_yes (sim_meth0 rd0 (sim_var (i := 2)) (sim_cons sim_int (sim_cons sim_int sim_nil))) (by decide))) (sim_var (i := 3)))) (simt_test (sim_op sim_ne (sim_meth0 rd0 (sim_op sim_ix (sim_var (i := 1)) sim_int) (sim_cons sim_int (sim_cons sim_int sim_nil))) sim_str))) (sims_ret sim_bl) sims_next)
    (sims_seq (sims_if (simt_test (sim_op sim_ne (sim_fz (sim_lstO (sim_cons (sim_fldC T.cl_Row T.na_Row_moves (sim_op sim_ix (sim_var (i := 1)) sim_int)) (sim_cons (sim_fldC T.cl_Row T.na_Row_moves (sim_op sim_ix (sim_var (i := 1)) sim_int)) (sim_cons (sim_fldC T.cl_Row T.na_Row_moves (sim_op sim_ix (sim_var (i := 1)) sim_int)) sim_nil))))) (sim_fz (sim_lstO (sim_cons (sim_tup (sim_cons (sim_tup (sim_cons sim_int (sim_cons sim_int sim_nil))) (sim_cons (sim_tup (sim_cons sim_int (sim_cons sim_int sim_nil))) sim_nil))) (sim_cons (sim_tup (sim_cons (sim_tup (sim_cons sim_int (sim_cons sim_int (sim_cons sim_int sim_nil)))) (sim_cons (sim_tup (sim_cons sim_int (sim_cons sim_int (sim_cons sim_int sim_nil)))) sim_nil))) (sim_cons (sim_tup (sim_cons (sim_tup (sim_cons sim_int (sim_cons sim_int sim_nil))) (sim_cons (sim_tup (sim_cons sim_int (sim_cons sim_int sim_nil))) sim_nil))) sim_nil))))))) (sims_ret sim_bl) sims_next)
    (sims_ret (sim_cbl sim_allL (siml_O (simo_lc (simi_rng1 (sim_cons (sim_cb sim_max2 (sim_cons sim_int (sim_cons (sim_cb sim_min2 (sim_cons (sim_cb sim_len (sim_cons (sim_var (i := 0)) sim_nil)) (sim_cons sim_int sim_nil))) sim_nil))) sim_nil)) (simg_name (i := 4)) simt_yes (sim_call0 rd0 (sim_cons (sim_call0 rd0 (sim_cons (sim_var (i := 0)) (sim_cons (sim_var (i := 4)) sim_nil))) sim_nil)) (by decide)))))))))), hw_law A⟩)
end
end Lw
namespace Lw
open PySem L2 DL
open PySem.Spec PyProof.Rows
theorem all_mk {l : PySem.W.OpenLaw} {w : World} {K : PySem.W.Frag} {h : Heap} {mg : Str → Option Value} {fa c_System c_Row f_System_eq f_Row_eq f_check_system f_is_well_worded f_are_small f_is_pair f_words_of f_is_integer f_is_number f_are_moves f_Row_init f_row_by_rule f_Row_by_rule f_System_init f_golden_row f_silver_row f_bronze_row f_odd_row f_units_up_to f_digits_of f_sign_at f_Row_stretch f_law_draw f_law_units f_law_great f_law_root f_Row_call f_law_digits f_law_right f_law_bag f_law : Addr} {oc_System_eq kV_System_eq dc_System_eq pm_System_eq cd_System_eq ct_System_eq : Value} {od_System_eq an_System_eq : Option Addr} {sl_System_eq : Array (Option Value)}
    {oc_Row_eq kV_Row_eq dc_Row_eq pm_Row_eq cd_Row_eq ct_Row_eq : Value} {od_Row_eq an_Row_eq : Option Addr} {sl_Row_eq : Array (Option Value)}
    {oc_check_system kV_check_system dc_check_system pm_check_system cd_check_system ct_check_system : Value} {od_check_system an_check_system : Option Addr} {sl_check_system : Array (Option Value)}
    {oc_is_well_worded kV_is_well_worded dc_is_well_worded pm_is_well_worded cd_is_well_worded ct_is_well_worded : Value} {od_is_well_worded an_is_well_worded : Option Addr} {sl_is_well_worded : Array (Option Value)}
    {oc_are_small kV_are_small dc_are_small pm_are_small cd_are_small ct_are_small : Value} {od_are_small an_are_small : Option Addr} {sl_are_small : Array (Option Value)}
    {oc_is_pair kV_is_pair dc_is_pair pm_is_pair cd_is_pair ct_is_pair : Value} {od_is_pair an_is_pair : Option Addr} {sl_is_pair : Array (Option Value)}
    {oc_words_of kV_words_of dc_words_of pm_words_of cd_words_of ct_words_of : Value} {od_words_of an_words_of : Option Addr} {sl_words_of : Array (Option Value)}
    {oc_is_integer kV_is_integer dc_is_integer pm_is_integer cd_is_integer ct_is_integer : Value} {od_is_integer an_is_integer : Option Addr} {sl_is_integer : Array (Option Value)}
    {oc_is_number kV_is_number dc_is_number pm_is_number cd_is_number ct_is_number : Value} {od_is_number an_is_number : Option Addr} {sl_is_number : Array (Option Value)}
    {dt_is_number : Addr} {doc_is_number : Value} {dod_is_number : Option Addr} {dsl_is_number : Array (Option Value)} {dn_is_number : Nat}
    {oc_are_moves kV_are_moves dc_are_moves pm_are_moves cd_are_moves ct_are_moves : Value} {od_are_moves an_are_moves : Option Addr} {sl_are_moves : Array (Option Value)}
    {oc_Row_init kV_Row_init dc_Row_init pm_Row_init cd_Row_init ct_Row_init : Value} {od_Row_init an_Row_init : Option Addr} {sl_Row_init : Array (Option Value)}
    {oc_row_by_rule kV_row_by_rule dc_row_by_rule pm_row_by_rule cd_row_by_rule ct_row_by_rule : Value} {od_row_by_rule an_row_by_rule : Option Addr} {sl_row_by_rule : Array (Option Value)}
    {sp_Row_by_rule : Addr} {smc_Row_by_rule : Value} {srs_Row_by_rule : List Value}
    {oc_Row_by_rule kV_Row_by_rule dc_Row_by_rule pm_Row_by_rule cd_Row_by_rule ct_Row_by_rule : Value} {od_Row_by_rule an_Row_by_rule : Option Addr} {sl_Row_by_rule : Array (Option Value)}
    {dt_Row_by_rule : Addr} {doc_Row_by_rule : Value} {dod_Row_by_rule : Option Addr} {dsl_Row_by_rule : Array (Option Value)} {dn_Row_by_rule : Nat}
    {oc_System_init kV_System_init dc_System_init pm_System_init cd_System_init ct_System_init : Value} {od_System_init an_System_init : Option Addr} {sl_System_init : Array (Option Value)}
    {oc_golden_row kV_golden_row dc_golden_row pm_golden_row cd_golden_row ct_golden_row : Value} {od_golden_row an_golden_row : Option Addr} {sl_golden_row : Array (Option Value)}
    {oc_silver_row kV_silver_row dc_silver_row pm_silver_row cd_silver_row ct_silver_row : Value} {od_silver_row an_silver_row : Option Addr} {sl_silver_row : Array (Option Value)}
    {oc_bronze_row kV_bronze_row dc_bronze_row pm_bronze_row cd_bronze_row ct_bronze_row : Value} {od_bronze_row an_bronze_row : Option Addr} {sl_bronze_row : Array (Option Value)}
    {oc_odd_row kV_odd_row dc_odd_row pm_odd_row cd_odd_row ct_odd_row : Value} {od_odd_row an_odd_row : Option Addr} {sl_odd_row : Array (Option Value)}
    {oc_units_up_to kV_units_up_to dc_units_up_to pm_units_up_to cd_units_up_to ct_units_up_to : Value} {od_units_up_to an_units_up_to : Option Addr} {sl_units_up_to : Array (Option Value)}
    {oc_digits_of kV_digits_of dc_digits_of pm_digits_of cd_digits_of ct_digits_of : Value} {od_digits_of an_digits_of : Option Addr} {sl_digits_of : Array (Option Value)}
    {oc_sign_at kV_sign_at dc_sign_at pm_sign_at cd_sign_at ct_sign_at : Value} {od_sign_at an_sign_at : Option Addr} {sl_sign_at : Array (Option Value)}
    {oc_Row_stretch kV_Row_stretch dc_Row_stretch pm_Row_stretch cd_Row_stretch ct_Row_stretch : Value} {od_Row_stretch an_Row_stretch : Option Addr} {sl_Row_stretch : Array (Option Value)}
    {oc_law_draw kV_law_draw dc_law_draw pm_law_draw cd_law_draw ct_law_draw : Value} {od_law_draw an_law_draw : Option Addr} {sl_law_draw : Array (Option Value)}
    {oc_law_units kV_law_units dc_law_units pm_law_units cd_law_units ct_law_units : Value} {od_law_units an_law_units : Option Addr} {sl_law_units : Array (Option Value)}
    {oc_law_great kV_law_great dc_law_great pm_law_great cd_law_great ct_law_great : Value} {od_law_great an_law_great : Option Addr} {sl_law_great : Array (Option Value)}
    {oc_law_root kV_law_root dc_law_root pm_law_root cd_law_root ct_law_root : Value} {od_law_root an_law_root : Option Addr} {sl_law_root : Array (Option Value)}
    {oc_Row_call kV_Row_call dc_Row_call pm_Row_call cd_Row_call ct_Row_call : Value} {od_Row_call an_Row_call : Option Addr} {sl_Row_call : Array (Option Value)}
    {oc_law_digits kV_law_digits dc_law_digits pm_law_digits cd_law_digits ct_law_digits : Value} {od_law_digits an_law_digits : Option Addr} {sl_law_digits : Array (Option Value)}
    {oc_law_right kV_law_right dc_law_right pm_law_right cd_law_right ct_law_right : Value} {od_law_right an_law_right : Option Addr} {sl_law_right : Array (Option Value)}
    {oc_law_bag kV_law_bag dc_law_bag pm_law_bag cd_law_bag ct_law_bag : Value} {od_law_bag an_law_bag : Option Addr} {sl_law_bag : Array (Option Value)}
    {oc_law kV_law dc_law pm_law cd_law ct_law : Value} {od_law an_law : Option Addr} {sl_law : Array (Option Value)}
    {ccd_System : ClassData}
    {ccd_Row : ClassData}
    {t_MOST_LENGTH : Tok}
    {t_MOST_NUMBER : Tok}
    {t_MOST_STANDS : Tok}
    {t_MOST_STEP : Tok} (X : K.In h) (G : h.Ns mainGlobals mg) (hfa : mg "law" = some (.ref fa))
    (g_System : PySem.W.nsIn K mainGlobals "System" = some (some (.ref c_System)))
    (g_Row : PySem.W.nsIn K mainGlobals "Row" = some (some (.ref c_Row)))
    (a_System_eq : PySem.W.findIn K (.ref c_System) "__eq__" = some (some (.ref f_System_eq)))
    (l_System_eq : K.lookup f_System_eq = some ⟨oc_System_eq, od_System_eq, .func (PySem.W.fnOf "__eq__" "System.__eq__" (defArgs s_System_eq) (defBody s_System_eq) (defScope s_System_eq) .none kV_System_eq dc_System_eq pm_System_eq an_System_eq cd_System_eq ct_System_eq), sl_System_eq⟩)
    (c_System_eq : PySem.W.codeIn K cd_System_eq "System.__eq__" = true)
    (k_System_eq : PySem.W.keepIn K (.ref f_System_eq) = true)
    (i_System_eq : PySem.W.isFn K (.ref f_System_eq) = true)
    (a_Row_eq : PySem.W.findIn K (.ref c_Row) "__eq__" = some (some (.ref f_Row_eq)))
    (l_Row_eq : K.lookup f_Row_eq = some ⟨oc_Row_eq, od_Row_eq, .func (PySem.W.fnOf "__eq__" "Row.__eq__" (defArgs s_Row_eq) (defBody s_Row_eq) (defScope s_Row_eq) .none kV_Row_eq dc_Row_eq pm_Row_eq an_Row_eq cd_Row_eq ct_Row_eq), sl_Row_eq⟩)
    (c_Row_eq : PySem.W.codeIn K cd_Row_eq "Row.__eq__" = true)
    (k_Row_eq : PySem.W.keepIn K (.ref f_Row_eq) = true)
    (i_Row_eq : PySem.W.isFn K (.ref f_Row_eq) = true)
    (a_check_system : PySem.W.nsIn K mainGlobals "check_system" = some (some (.ref f_check_system)))
    (l_check_system : K.lookup f_check_system = some ⟨oc_check_system, od_check_system, .func (PySem.W.fnOf "check_system" "check_system" (defArgs s_check_system) (defBody s_check_system) (defScope s_check_system) .none kV_check_system dc_check_system pm_check_system an_check_system cd_check_system ct_check_system), sl_check_system⟩)
    (c_check_system : PySem.W.codeIn K cd_check_system "check_system" = true)
    (k_check_system : PySem.W.keepIn K (.ref f_check_system) = true)
    (a_is_well_worded : PySem.W.nsIn K mainGlobals "is_well_worded" = some (some (.ref f_is_well_worded)))
    (l_is_well_worded : K.lookup f_is_well_worded = some ⟨oc_is_well_worded, od_is_well_worded, .func (PySem.W.fnOf "is_well_worded" "is_well_worded" (defArgs s_is_well_worded) (defBody s_is_well_worded) (defScope s_is_well_worded) .none kV_is_well_worded dc_is_well_worded pm_is_well_worded an_is_well_worded cd_is_well_worded ct_is_well_worded), sl_is_well_worded⟩)
    (c_is_well_worded : PySem.W.codeIn K cd_is_well_worded "is_well_worded" = true)
    (k_is_well_worded : PySem.W.keepIn K (.ref f_is_well_worded) = true)
    (a_are_small : PySem.W.nsIn K mainGlobals "are_small" = some (some (.ref f_are_small)))
    (l_are_small : K.lookup f_are_small = some ⟨oc_are_small, od_are_small, .func (PySem.W.fnOf "are_small" "are_small" (defArgs s_are_small) (defBody s_are_small) (defScope s_are_small) .none kV_are_small dc_are_small pm_are_small an_are_small cd_are_small ct_are_small), sl_are_small⟩)
    (c_are_small : PySem.W.codeIn K cd_are_small "are_small" = true)
    (k_are_small : PySem.W.keepIn K (.ref f_are_small) = true)
    (a_is_pair : PySem.W.nsIn K mainGlobals "is_pair" = some (some (.ref f_is_pair)))
    (l_is_pair : K.lookup f_is_pair = some ⟨oc_is_pair, od_is_pair, .func (PySem.W.fnOf "is_pair" "is_pair" (defArgs s_is_pair) (defBody s_is_pair) (defScope s_is_pair) .none kV_is_pair dc_is_pair pm_is_pair an_is_pair cd_is_pair ct_is_pair), sl_is_pair⟩)
    (c_is_pair : PySem.W.codeIn K cd_is_pair "is_pair" = true)
    (k_is_pair : PySem.W.keepIn K (.ref f_is_pair) = true)
    (a_words_of : PySem.W.nsIn K mainGlobals "words_of" = some (some (.ref f_words_of)))
    (l_words_of : K.lookup f_words_of = some ⟨oc_words_of, od_words_of, .func (PySem.W.fnOf "words_of" "words_of" (defArgs s_words_of) (defBody s_words_of) (defScope s_words_of) .none kV_words_of dc_words_of pm_words_of an_words_of cd_words_of ct_words_of), sl_words_of⟩)
    (c_words_of : PySem.W.codeIn K cd_words_of "words_of" = true)
    (k_words_of : PySem.W.keepIn K (.ref f_words_of) = true)
    (a_is_integer : PySem.W.nsIn K mainGlobals "is_integer" = some (some (.ref f_is_integer)))
    (l_is_integer : K.lookup f_is_integer = some ⟨oc_is_integer, od_is_integer, .func (PySem.W.fnOf "is_integer" "is_integer" (defArgs s_is_integer) (defBody s_is_integer) (defScope s_is_integer) .none kV_is_integer dc_is_integer pm_is_integer an_is_integer cd_is_integer ct_is_integer), sl_is_integer⟩)
    (c_is_integer : PySem.W.codeIn K cd_is_integer "is_integer" = true)
    (k_is_integer : PySem.W.keepIn K (.ref f_is_integer) = true)
    (a_is_number : PySem.W.nsIn K mainGlobals "is_number" = some (some (.ref f_is_number)))
    (l_is_number : K.lookup f_is_number = some ⟨oc_is_number, od_is_number, .func (PySem.W.fnOf "is_number" "is_number" (defArgs s_is_number) (defBody s_is_number) (defScope s_is_number) (.ref dt_is_number) kV_is_number dc_is_number pm_is_number an_is_number cd_is_number ct_is_number), sl_is_number⟩)
    (d_is_number : K.lookup dt_is_number = some ⟨doc_is_number, dod_is_number, .seq #[.none] dn_is_number, dsl_is_number⟩)
    (c_is_number : PySem.W.codeIn K cd_is_number "is_number" = true)
    (k_is_number : PySem.W.keepIn K (.ref f_is_number) = true)
    (a_are_moves : PySem.W.nsIn K mainGlobals "are_moves" = some (some (.ref f_are_moves)))
    (l_are_moves : K.lookup f_are_moves = some ⟨oc_are_moves, od_are_moves, .func (PySem.W.fnOf "are_moves" "are_moves" (defArgs s_are_moves) (defBody s_are_moves) (defScope s_are_moves) .none kV_are_moves dc_are_moves pm_are_moves an_are_moves cd_are_moves ct_are_moves), sl_are_moves⟩)
    (c_are_moves : PySem.W.codeIn K cd_are_moves "are_moves" = true)
    (k_are_moves : PySem.W.keepIn K (.ref f_are_moves) = true)
    (a_Row_init : PySem.W.findIn K (.ref c_Row) "__init__" = some (some (.ref f_Row_init)))
    (l_Row_init : K.lookup f_Row_init = some ⟨oc_Row_init, od_Row_init, .func (PySem.W.fnOf "__init__" "Row.__init__" (defArgs s_Row_init) (defBody s_Row_init) (defScope s_Row_init) .none kV_Row_init dc_Row_init pm_Row_init an_Row_init cd_Row_init ct_Row_init), sl_Row_init⟩)
    (c_Row_init : PySem.W.codeIn K cd_Row_init "Row.__init__" = true)
    (k_Row_init : PySem.W.keepIn K (.ref f_Row_init) = true)
    (i_Row_init : PySem.W.isFn K (.ref f_Row_init) = true)
    (a_row_by_rule : PySem.W.nsIn K mainGlobals "row_by_rule" = some (some (.ref f_row_by_rule)))
    (l_row_by_rule : K.lookup f_row_by_rule = some ⟨oc_row_by_rule, od_row_by_rule, .func (PySem.W.fnOf "row_by_rule" "row_by_rule" (defArgs s_row_by_rule) (defBody s_row_by_rule) (defScope s_row_by_rule) .none kV_row_by_rule dc_row_by_rule pm_row_by_rule an_row_by_rule cd_row_by_rule ct_row_by_rule), sl_row_by_rule⟩)
    (c_row_by_rule : PySem.W.codeIn K cd_row_by_rule "row_by_rule" = true)
    (k_row_by_rule : PySem.W.keepIn K (.ref f_row_by_rule) = true)
    (st_Row_by_rule : PySem.W.typeIn K (.ref c_Row) = some smc_Row_by_rule)
    (sf_Row_by_rule : PySem.W.findCls K (.ref c_Row) smc_Row_by_rule "by_rule" = some (.get (.builtin "staticmethod.__get__") (.ref sp_Row_by_rule) .none (.ref c_Row)))
    (sr_Row_by_rule : PySem.W.recIn K sp_Row_by_rule "staticmethod" = some (.ref f_Row_by_rule :: srs_Row_by_rule))
    (sq_Row_by_rule : PySem.W.readsIn K c_Row smc_Row_by_rule = true)
    (sg_Row_by_rule : PySem.W.specialIn K (.ref c_Row) "__getattribute__" = some (some (.builtin "type.__getattribute__")))
    (l_Row_by_rule : K.lookup f_Row_by_rule = some ⟨oc_Row_by_rule, od_Row_by_rule, .func (PySem.W.fnOf "by_rule" "Row.by_rule" (defArgs s_Row_by_rule) (defBody s_Row_by_rule) (defScope s_Row_by_rule) (.ref dt_Row_by_rule) kV_Row_by_rule dc_Row_by_rule pm_Row_by_rule an_Row_by_rule cd_Row_by_rule ct_Row_by_rule), sl_Row_by_rule⟩)
    (d_Row_by_rule : K.lookup dt_Row_by_rule = some ⟨doc_Row_by_rule, dod_Row_by_rule, .seq #[.none] dn_Row_by_rule, dsl_Row_by_rule⟩)
    (c_Row_by_rule : PySem.W.codeIn K cd_Row_by_rule "Row.by_rule" = true)
    (k_Row_by_rule : PySem.W.keepIn K (.ref f_Row_by_rule) = true)
    (a_System_init : PySem.W.findIn K (.ref c_System) "__init__" = some (some (.ref f_System_init)))
    (l_System_init : K.lookup f_System_init = some ⟨oc_System_init, od_System_init, .func (PySem.W.fnOf "__init__" "System.__init__" (defArgs s_System_init) (defBody s_System_init) (defScope s_System_init) .none kV_System_init dc_System_init pm_System_init an_System_init cd_System_init ct_System_init), sl_System_init⟩)
    (c_System_init : PySem.W.codeIn K cd_System_init "System.__init__" = true)
    (k_System_init : PySem.W.keepIn K (.ref f_System_init) = true)
    (i_System_init : PySem.W.isFn K (.ref f_System_init) = true)
    (a_golden_row : PySem.W.nsIn K mainGlobals "golden_row" = some (some (.ref f_golden_row)))
    (l_golden_row : K.lookup f_golden_row = some ⟨oc_golden_row, od_golden_row, .func (PySem.W.fnOf "golden_row" "golden_row" (defArgs s_golden_row) (defBody s_golden_row) (defScope s_golden_row) .none kV_golden_row dc_golden_row pm_golden_row an_golden_row cd_golden_row ct_golden_row), sl_golden_row⟩)
    (c_golden_row : PySem.W.codeIn K cd_golden_row "golden_row" = true)
    (k_golden_row : PySem.W.keepIn K (.ref f_golden_row) = true)
    (a_silver_row : PySem.W.nsIn K mainGlobals "silver_row" = some (some (.ref f_silver_row)))
    (l_silver_row : K.lookup f_silver_row = some ⟨oc_silver_row, od_silver_row, .func (PySem.W.fnOf "silver_row" "silver_row" (defArgs s_silver_row) (defBody s_silver_row) (defScope s_silver_row) .none kV_silver_row dc_silver_row pm_silver_row an_silver_row cd_silver_row ct_silver_row), sl_silver_row⟩)
    (c_silver_row : PySem.W.codeIn K cd_silver_row "silver_row" = true)
    (k_silver_row : PySem.W.keepIn K (.ref f_silver_row) = true)
    (a_bronze_row : PySem.W.nsIn K mainGlobals "bronze_row" = some (some (.ref f_bronze_row)))
    (l_bronze_row : K.lookup f_bronze_row = some ⟨oc_bronze_row, od_bronze_row, .func (PySem.W.fnOf "bronze_row" "bronze_row" (defArgs s_bronze_row) (defBody s_bronze_row) (defScope s_bronze_row) .none kV_bronze_row dc_bronze_row pm_bronze_row an_bronze_row cd_bronze_row ct_bronze_row), sl_bronze_row⟩)
    (c_bronze_row : PySem.W.codeIn K cd_bronze_row "bronze_row" = true)
    (k_bronze_row : PySem.W.keepIn K (.ref f_bronze_row) = true)
    (a_odd_row : PySem.W.nsIn K mainGlobals "odd_row" = some (some (.ref f_odd_row)))
    (l_odd_row : K.lookup f_odd_row = some ⟨oc_odd_row, od_odd_row, .func (PySem.W.fnOf "odd_row" "odd_row" (defArgs s_odd_row) (defBody s_odd_row) (defScope s_odd_row) .none kV_odd_row dc_odd_row pm_odd_row an_odd_row cd_odd_row ct_odd_row), sl_odd_row⟩)
    (c_odd_row : PySem.W.codeIn K cd_odd_row "odd_row" = true)
    (k_odd_row : PySem.W.keepIn K (.ref f_odd_row) = true)
    (a_units_up_to : PySem.W.nsIn K mainGlobals "units_up_to" = some (some (.ref f_units_up_to)))
    (l_units_up_to : K.lookup f_units_up_to = some ⟨oc_units_up_to, od_units_up_to, .func (PySem.W.fnOf "units_up_to" "units_up_to" (defArgs s_units_up_to) (defBody s_units_up_to) (defScope s_units_up_to) .none kV_units_up_to dc_units_up_to pm_units_up_to an_units_up_to cd_units_up_to ct_units_up_to), sl_units_up_to⟩)
    (c_units_up_to : PySem.W.codeIn K cd_units_up_to "units_up_to" = true)
    (k_units_up_to : PySem.W.keepIn K (.ref f_units_up_to) = true)
    (a_digits_of : PySem.W.nsIn K mainGlobals "digits_of" = some (some (.ref f_digits_of)))
    (l_digits_of : K.lookup f_digits_of = some ⟨oc_digits_of, od_digits_of, .func (PySem.W.fnOf "digits_of" "digits_of" (defArgs s_digits_of) (defBody s_digits_of) (defScope s_digits_of) .none kV_digits_of dc_digits_of pm_digits_of an_digits_of cd_digits_of ct_digits_of), sl_digits_of⟩)
    (c_digits_of : PySem.W.codeIn K cd_digits_of "digits_of" = true)
    (k_digits_of : PySem.W.keepIn K (.ref f_digits_of) = true)
    (a_sign_at : PySem.W.nsIn K mainGlobals "sign_at" = some (some (.ref f_sign_at)))
    (l_sign_at : K.lookup f_sign_at = some ⟨oc_sign_at, od_sign_at, .func (PySem.W.fnOf "sign_at" "sign_at" (defArgs s_sign_at) (defBody s_sign_at) (defScope s_sign_at) .none kV_sign_at dc_sign_at pm_sign_at an_sign_at cd_sign_at ct_sign_at), sl_sign_at⟩)
    (c_sign_at : PySem.W.codeIn K cd_sign_at "sign_at" = true)
    (k_sign_at : PySem.W.keepIn K (.ref f_sign_at) = true)
    (a_Row_stretch : PySem.W.findIn K (.ref c_Row) "stretch" = some (some (.ref f_Row_stretch)))
    (l_Row_stretch : K.lookup f_Row_stretch = some ⟨oc_Row_stretch, od_Row_stretch, .func (PySem.W.fnOf "stretch" "Row.stretch" (defArgs s_Row_stretch) (defBody s_Row_stretch) (defScope s_Row_stretch) .none kV_Row_stretch dc_Row_stretch pm_Row_stretch an_Row_stretch cd_Row_stretch ct_Row_stretch), sl_Row_stretch⟩)
    (c_Row_stretch : PySem.W.codeIn K cd_Row_stretch "Row.stretch" = true)
    (k_Row_stretch : PySem.W.keepIn K (.ref f_Row_stretch) = true)
    (i_Row_stretch : PySem.W.isFn K (.ref f_Row_stretch) = true)
    (a_law_draw : PySem.W.nsIn K mainGlobals "_law_draw" = some (some (.ref f_law_draw)))
    (l_law_draw : K.lookup f_law_draw = some ⟨oc_law_draw, od_law_draw, .func (PySem.W.fnOf "_law_draw" "_law_draw" (defArgs s_law_draw) (defBody s_law_draw) (defScope s_law_draw) .none kV_law_draw dc_law_draw pm_law_draw an_law_draw cd_law_draw ct_law_draw), sl_law_draw⟩)
    (c_law_draw : PySem.W.codeIn K cd_law_draw "_law_draw" = true)
    (k_law_draw : PySem.W.keepIn K (.ref f_law_draw) = true)
    (a_law_units : PySem.W.nsIn K mainGlobals "_law_units" = some (some (.ref f_law_units)))
    (l_law_units : K.lookup f_law_units = some ⟨oc_law_units, od_law_units, .func (PySem.W.fnOf "_law_units" "_law_units" (defArgs s_law_units) (defBody s_law_units) (defScope s_law_units) .none kV_law_units dc_law_units pm_law_units an_law_units cd_law_units ct_law_units), sl_law_units⟩)
    (c_law_units : PySem.W.codeIn K cd_law_units "_law_units" = true)
    (k_law_units : PySem.W.keepIn K (.ref f_law_units) = true)
    (a_law_great : PySem.W.nsIn K mainGlobals "_law_great" = some (some (.ref f_law_great)))
    (l_law_great : K.lookup f_law_great = some ⟨oc_law_great, od_law_great, .func (PySem.W.fnOf "_law_great" "_law_great" (defArgs s_law_great) (defBody s_law_great) (defScope s_law_great) .none kV_law_great dc_law_great pm_law_great an_law_great cd_law_great ct_law_great), sl_law_great⟩)
    (c_law_great : PySem.W.codeIn K cd_law_great "_law_great" = true)
    (k_law_great : PySem.W.keepIn K (.ref f_law_great) = true)
    (a_law_root : PySem.W.nsIn K mainGlobals "_law_root" = some (some (.ref f_law_root)))
    (l_law_root : K.lookup f_law_root = some ⟨oc_law_root, od_law_root, .func (PySem.W.fnOf "_law_root" "_law_root" (defArgs s_law_root) (defBody s_law_root) (defScope s_law_root) .none kV_law_root dc_law_root pm_law_root an_law_root cd_law_root ct_law_root), sl_law_root⟩)
    (c_law_root : PySem.W.codeIn K cd_law_root "_law_root" = true)
    (k_law_root : PySem.W.keepIn K (.ref f_law_root) = true)
    (a_Row_call : PySem.W.findIn K (.ref c_Row) "__call__" = some (some (.ref f_Row_call)))
    (l_Row_call : K.lookup f_Row_call = some ⟨oc_Row_call, od_Row_call, .func (PySem.W.fnOf "__call__" "Row.__call__" (defArgs s_Row_call) (defBody s_Row_call) (defScope s_Row_call) .none kV_Row_call dc_Row_call pm_Row_call an_Row_call cd_Row_call ct_Row_call), sl_Row_call⟩)
    (c_Row_call : PySem.W.codeIn K cd_Row_call "Row.__call__" = true)
    (k_Row_call : PySem.W.keepIn K (.ref f_Row_call) = true)
    (i_Row_call : PySem.W.isFn K (.ref f_Row_call) = true)
    (fi_Row_call : PySem.W.fnIn K f_Row_call = true)
    (a_law_digits : PySem.W.nsIn K mainGlobals "_law_digits" = some (some (.ref f_law_digits)))
    (l_law_digits : K.lookup f_law_digits = some ⟨oc_law_digits, od_law_digits, .func (PySem.W.fnOf "_law_digits" "_law_digits" (defArgs s_law_digits) (defBody s_law_digits) (defScope s_law_digits) .none kV_law_digits dc_law_digits pm_law_digits an_law_digits cd_law_digits ct_law_digits), sl_law_digits⟩)
    (c_law_digits : PySem.W.codeIn K cd_law_digits "_law_digits" = true)
    (k_law_digits : PySem.W.keepIn K (.ref f_law_digits) = true)
    (a_law_right : PySem.W.nsIn K mainGlobals "_law_right" = some (some (.ref f_law_right)))
    (l_law_right : K.lookup f_law_right = some ⟨oc_law_right, od_law_right, .func (PySem.W.fnOf "_law_right" "_law_right" (defArgs s_law_right) (defBody s_law_right) (defScope s_law_right) .none kV_law_right dc_law_right pm_law_right an_law_right cd_law_right ct_law_right), sl_law_right⟩)
    (c_law_right : PySem.W.codeIn K cd_law_right "_law_right" = true)
    (k_law_right : PySem.W.keepIn K (.ref f_law_right) = true)
    (a_law_bag : PySem.W.nsIn K mainGlobals "_law_bag" = some (some (.ref f_law_bag)))
    (l_law_bag : K.lookup f_law_bag = some ⟨oc_law_bag, od_law_bag, .func (PySem.W.fnOf "_law_bag" "_law_bag" (defArgs s_law_bag) (defBody s_law_bag) (defScope s_law_bag) .none kV_law_bag dc_law_bag pm_law_bag an_law_bag cd_law_bag ct_law_bag), sl_law_bag⟩)
    (c_law_bag : PySem.W.codeIn K cd_law_bag "_law_bag" = true)
    (k_law_bag : PySem.W.keepIn K (.ref f_law_bag) = true)
    (a_law : PySem.W.nsIn K mainGlobals "law" = some (some (.ref f_law)))
    (l_law : K.lookup f_law = some ⟨oc_law, od_law, .func (PySem.W.fnOf "law" "law" (defArgs s_law) (defBody s_law) (defScope s_law) .none kV_law dc_law pm_law an_law cd_law ct_law), sl_law⟩)
    (c_law : PySem.W.codeIn K cd_law "law" = true)
    (k_law : PySem.W.keepIn K (.ref f_law) = true)
    (pg_System : PySem.W.plainGet K c_System Str.empty = true)
    (hd_System : PySem.W.hasDictIn K c_System = true)
    (po_System : PySem.W.plainOver K c_System = true)
    (sa_System : PySem.W.findIn K (.ref c_System) "__setattr__" = some (some (.builtin "object.__setattr__")))
    (mk_System : PySem.W.makesIn K c_System = true)
    (kc_System : PySem.W.keepIn K (.ref c_System) = true)
    (ha_System : PySem.W.findIn K (.ref c_System) "__class__" = some (some (.builtin "object.__class__")))
    (ci_System : PySem.W.clsIn K c_System = some ccd_System)
    (cm_System : ccd_System.mro = mroL [c_System] ["object"])
    (tp_System : PySem.W.typeIn K (.ref c_System) = some (.type "type"))
    (pg_Row : PySem.W.plainGet K c_Row Str.empty = true)
    (hd_Row : PySem.W.hasDictIn K c_Row = true)
    (po_Row : PySem.W.plainOver K c_Row = true)
    (sa_Row : PySem.W.findIn K (.ref c_Row) "__setattr__" = some (some (.builtin "object.__setattr__")))
    (mk_Row : PySem.W.makesIn K c_Row = true)
    (kc_Row : PySem.W.keepIn K (.ref c_Row) = true)
    (ha_Row : PySem.W.findIn K (.ref c_Row) "__class__" = some (some (.builtin "object.__class__")))
    (ci_Row : PySem.W.clsIn K c_Row = some ccd_Row)
    (cm_Row : ccd_Row.mro = mroL [c_Row] ["object"])
    (tp_Row : PySem.W.typeIn K (.ref c_Row) = some (.type "type"))
    (dc_System_Row : c_System ≠ c_Row)
    (oc_hn : PySem.W.specialIn K (.builtin "object.__class__") "__get__" = some (some (.builtin "getset_descriptor.__get__")))
    (oc_tk : PySem.W.takesIn K (.builtin "object.__class__") = some true)
    (na_Row_moves : PySem.W.findIn K (.ref c_Row) "moves" = some none)
    (na_Row_signs : PySem.W.findIn K (.ref c_Row) "signs" = some none)
    (na_Row_system : PySem.W.findIn K (.ref c_Row) "system" = some none)
    (na_System_step : PySem.W.findIn K (.ref c_System) "step" = some none)
    (z_abs : PySem.W.nsIn K mainGlobals "abs" = some none)
    (z_all : PySem.W.nsIn K mainGlobals "all" = some none)
    (z_bool : PySem.W.nsIn K mainGlobals "bool" = some none)
    (z_enumerate : PySem.W.nsIn K mainGlobals "enumerate" = some none)
    (z_int : PySem.W.nsIn K mainGlobals "int" = some none)
    (z_isinstance : PySem.W.nsIn K mainGlobals "isinstance" = some none)
    (z_len : PySem.W.nsIn K mainGlobals "len" = some none)
    (z_max : PySem.W.nsIn K mainGlobals "max" = some none)
    (z_min : PySem.W.nsIn K mainGlobals "min" = some none)
    (z_range : PySem.W.nsIn K mainGlobals "range" = some none)
    (z_str : PySem.W.nsIn K mainGlobals "str" = some none)
    (z_tuple : PySem.W.nsIn K mainGlobals "tuple" = some none)
    (v_MOST_LENGTH : PySem.W.nsIn K mainGlobals "MOST_LENGTH" = some (some (.int 2000 t_MOST_LENGTH)))
    (v_MOST_NUMBER : PySem.W.nsIn K mainGlobals "MOST_NUMBER" = some (some (.int 10000000000000000000000000000000000000000 t_MOST_NUMBER)))
    (v_MOST_STANDS : PySem.W.nsIn K mainGlobals "MOST_STANDS" = some (some (.int 8 t_MOST_STANDS)))
    (v_MOST_STEP : PySem.W.nsIn K mainGlobals "MOST_STEP" = some (some (.int 3 t_MOST_STEP))) :
    ∃ fd : FuncData, (∀ (s : Shared) (v : Value), BindsTo s fd ⟨[v], []⟩ [("_law_cells", v)]) ∧ ∀ base : Heap, K.In base → base.Ns mainGlobals mg → FnOk l.prog w K mg base (L2.CX l.prog w) 10 fa fd ["_law_cells"] (@spOf noTbl K 1 sLawD) := by
  have e := hfa.symm.trans (PySem.W.mg_of X G a_law)
  cases e
  letI : Tbl := ⟨[]⟩
  have hne : [c_System, c_Row].Nodup := by
    simp only [List.nodup_cons, List.mem_cons, List.not_mem_nil, or_false, not_or, List.nodup_nil, and_true, not_false_eq_true, true_and]
    exact dc_System_Row
  have F_System_eq := fun_mk (st := s_System_eq) l_System_eq c_System_eq k_System_eq
  have b_System_eq := F_System_eq.binds (ps := ["self", "other"]) fun _ _ _ _ _ _ us hl => match us, hl with | [_, _], _ => rfl
  have F_Row_eq := fun_mk (st := s_Row_eq) l_Row_eq c_Row_eq k_Row_eq
  have b_Row_eq := F_Row_eq.binds (ps := ["self", "other"]) fun _ _ _ _ _ _ us hl => match us, hl with | [_, _], _ => rfl
  have F_check_system := fun_mk (st := s_check_system) l_check_system c_check_system k_check_system
  have b_check_system := F_check_system.binds (ps := ["system"]) fun _ _ _ _ _ _ us hl => match us, hl with | [_], _ => rfl
  have F_is_well_worded := fun_mk (st := s_is_well_worded) l_is_well_worded c_is_well_worded k_is_well_worded
  have b_is_well_worded := F_is_well_worded.binds (ps := ["words", "word"]) fun _ _ _ _ _ _ us hl => match us, hl with | [_, _], _ => rfl
  have F_are_small := fun_mk (st := s_are_small) l_are_small c_are_small k_are_small
  have b_are_small := F_are_small.binds (ps := ["value", "least", "most"]) fun _ _ _ _ _ _ us hl => match us, hl with | [_, _, _], _ => rfl
  have F_is_pair := fun_mk (st := s_is_pair) l_is_pair c_is_pair k_is_pair
  have b_is_pair := F_is_pair.binds (ps := ["step", "value"]) fun _ _ _ _ _ _ us hl => match us, hl with | [_, _], _ => rfl
  have F_words_of := fun_mk (st := s_words_of) l_words_of c_words_of k_words_of
  have b_words_of := F_words_of.binds (ps := ["step", "rule"]) fun _ _ _ _ _ _ us hl => match us, hl with | [_, _], _ => rfl
  have F_is_integer := fun_mk (st := s_is_integer) l_is_integer c_is_integer k_is_integer
  have b_is_integer := F_is_integer.binds (ps := ["value"]) fun _ _ _ _ _ _ us hl => match us, hl with | [_], _ => rfl
  have F_is_number : FunD K "is_number" "is_number" (defArgs s_is_number) (defBody s_is_number) (defScope s_is_number) [.non] [] f_is_number (PySem.W.fnOf "is_number" "is_number" (defArgs s_is_number) (defBody s_is_number) (defScope s_is_number) (.ref dt_is_number) kV_is_number dc_is_number pm_is_number an_is_number cd_is_number ct_is_number) := ⟨⟨_, _, _, _, _, _, _, _, _, _, rfl, l_is_number, c_is_number, .inr ⟨by simp, _, _, [.none], _, rfl, d_is_number, rfl, (.cons rfl .nil)⟩, .inl rfl⟩, k_is_number⟩
  have b_is_number : Binds K (PySem.W.fnOf "is_number" "is_number" (defArgs s_is_number) (defBody s_is_number) (defScope s_is_number) (.ref dt_is_number) kV_is_number dc_is_number pm_is_number an_is_number cd_is_number ct_is_number) ["value", "most"] [] := by
    obtain ⟨ds, hv, b⟩ := F_is_number.binds1 (ps := ["value", "most"]) 2 1 (by simp) rfl (fun T kV doc pm an cdv ct us its hu hi => match us, its, hu, hi with | [_, _], [_], _, _ => ⟨_, rfl, rfl⟩)
    cases hv
    exact b
  have F_are_moves := fun_mk (st := s_are_moves) l_are_moves c_are_moves k_are_moves
  have b_are_moves := F_are_moves.binds (ps := ["step", "value"]) fun _ _ _ _ _ _ us hl => match us, hl with | [_, _], _ => rfl
  have F_Row_init := fun_mk (st := s_Row_init) l_Row_init c_Row_init k_Row_init
  have b_Row_init := F_Row_init.binds (ps := ["self", "system", "moves", "signs"]) fun _ _ _ _ _ _ us hl => match us, hl with | [_, _, _, _], _ => rfl
  have F_row_by_rule := fun_mk (st := s_row_by_rule) l_row_by_rule c_row_by_rule k_row_by_rule
  have b_row_by_rule := F_row_by_rule.binds (ps := ["system", "rule", "shown"]) fun _ _ _ _ _ _ us hl => match us, hl with | [_, _, _], _ => rfl
  have F_Row_by_rule : FunD K "by_rule" "Row.by_rule" (defArgs s_Row_by_rule) (defBody s_Row_by_rule) (defScope s_Row_by_rule) [.non] [] f_Row_by_rule (PySem.W.fnOf "by_rule" "Row.by_rule" (defArgs s_Row_by_rule) (defBody s_Row_by_rule) (defScope s_Row_by_rule) (.ref dt_Row_by_rule) kV_Row_by_rule dc_Row_by_rule pm_Row_by_rule an_Row_by_rule cd_Row_by_rule ct_Row_by_rule) := ⟨⟨_, _, _, _, _, _, _, _, _, _, rfl, l_Row_by_rule, c_Row_by_rule, .inr ⟨by simp, _, _, [.none], _, rfl, d_Row_by_rule, rfl, (.cons rfl .nil)⟩, .inl rfl⟩, k_Row_by_rule⟩
  have b_Row_by_rule : Binds K (PySem.W.fnOf "by_rule" "Row.by_rule" (defArgs s_Row_by_rule) (defBody s_Row_by_rule) (defScope s_Row_by_rule) (.ref dt_Row_by_rule) kV_Row_by_rule dc_Row_by_rule pm_Row_by_rule an_Row_by_rule cd_Row_by_rule ct_Row_by_rule) ["system", "rule", "shown"] [] := by
    obtain ⟨ds, hv, b⟩ := F_Row_by_rule.binds1 (ps := ["system", "rule", "shown"]) 3 1 (by simp) rfl (fun T kV doc pm an cdv ct us its hu hi => match us, its, hu, hi with | [_, _, _], [_], _, _ => ⟨_, rfl, rfl⟩)
    cases hv
    exact b
  have bd1_Row_by_rule : Binds K (PySem.W.fnOf "by_rule" "Row.by_rule" (defArgs s_Row_by_rule) (defBody s_Row_by_rule) (defScope s_Row_by_rule) (.ref dt_Row_by_rule) kV_Row_by_rule dc_Row_by_rule pm_Row_by_rule an_Row_by_rule cd_Row_by_rule ct_Row_by_rule) ["system", "rule", "shown"] [.none] := by
    obtain ⟨ds, hv, b⟩ := F_Row_by_rule.binds1 (ps := ["system", "rule", "shown"]) 2 0 (by simp) rfl (fun T kV doc pm an cdv ct us its hu hi => match us, its, hu, hi with | [_, _], [_], _, _ => ⟨_, rfl, rfl⟩)
    obtain rfl : ds = [.none] := by
      cases hv with
      | cons h t =>
        cases t
        rw [show _ = Value.none from h]
    exact b
  have F_System_init := fun_mk (st := s_System_init) l_System_init c_System_init k_System_init
  have b_System_init := F_System_init.binds (ps := ["self", "step"]) fun _ _ _ _ _ _ us hl => match us, hl with | [_, _], _ => rfl
  have F_golden_row := fun_mk (st := s_golden_row) l_golden_row c_golden_row k_golden_row
  have b_golden_row := F_golden_row.binds (ps := []) fun _ _ _ _ _ _ us hl => match us, hl with | [], _ => rfl
  have F_silver_row := fun_mk (st := s_silver_row) l_silver_row c_silver_row k_silver_row
  have b_silver_row := F_silver_row.binds (ps := []) fun _ _ _ _ _ _ us hl => match us, hl with | [], _ => rfl
  have F_bronze_row := fun_mk (st := s_bronze_row) l_bronze_row c_bronze_row k_bronze_row
  have b_bronze_row := F_bronze_row.binds (ps := []) fun _ _ _ _ _ _ us hl => match us, hl with | [], _ => rfl
  have F_odd_row := fun_mk (st := s_odd_row) l_odd_row c_odd_row k_odd_row
  have b_odd_row := F_odd_row.binds (ps := []) fun _ _ _ _ _ _ us hl => match us, hl with | [], _ => rfl
  have F_units_up_to := fun_mk (st := s_units_up_to) l_units_up_to c_units_up_to k_units_up_to
  have b_units_up_to := F_units_up_to.binds (ps := ["step", "number"]) fun _ _ _ _ _ _ us hl => match us, hl with | [_, _], _ => rfl
  have F_digits_of := fun_mk (st := s_digits_of) l_digits_of c_digits_of k_digits_of
  have b_digits_of := F_digits_of.binds (ps := ["step", "number"]) fun _ _ _ _ _ _ us hl => match us, hl with | [_, _], _ => rfl
  have F_sign_at := fun_mk (st := s_sign_at) l_sign_at c_sign_at k_sign_at
  have b_sign_at := F_sign_at.binds (ps := ["row", "number"]) fun _ _ _ _ _ _ us hl => match us, hl with | [_, _], _ => rfl
  have F_Row_stretch := fun_mk (st := s_Row_stretch) l_Row_stretch c_Row_stretch k_Row_stretch
  have b_Row_stretch := F_Row_stretch.binds (ps := ["self", "number", "length"]) fun _ _ _ _ _ _ us hl => match us, hl with | [_, _, _], _ => rfl
  have F_law_draw := fun_mk (st := s_law_draw) l_law_draw c_law_draw k_law_draw
  have b_law_draw := F_law_draw.binds (ps := ["_law_bag_here", "_law_wide"]) fun _ _ _ _ _ _ us hl => match us, hl with | [_, _], _ => rfl
  have F_law_units := fun_mk (st := s_law_units) l_law_units c_law_units k_law_units
  have b_law_units := F_law_units.binds (ps := ["_law_level", "_law_many"]) fun _ _ _ _ _ _ us hl => match us, hl with | [_, _], _ => rfl
  have F_law_great := fun_mk (st := s_law_great) l_law_great c_law_great k_law_great
  have b_law_great := F_law_great.binds (ps := ["_law_bag_here", "_law_level"]) fun _ _ _ _ _ _ us hl => match us, hl with | [_, _], _ => rfl
  have F_law_root := fun_mk (st := s_law_root) l_law_root c_law_root k_law_root
  have b_law_root := F_law_root.binds (ps := ["_law_square"]) fun _ _ _ _ _ _ us hl => match us, hl with | [_], _ => rfl
  have F_Row_call := fun_mk (st := s_Row_call) l_Row_call c_Row_call k_Row_call
  have b_Row_call := F_Row_call.binds (ps := ["self", "number"]) fun _ _ _ _ _ _ us hl => match us, hl with | [_, _], _ => rfl
  have F_law_digits := fun_mk (st := s_law_digits) l_law_digits c_law_digits k_law_digits
  have b_law_digits := F_law_digits.binds (ps := ["_law_level", "_law_amount"]) fun _ _ _ _ _ _ us hl => match us, hl with | [_, _], _ => rfl
  have F_law_right := fun_mk (st := s_law_right) l_law_right c_law_right k_law_right
  have b_law_right := F_law_right.binds (ps := ["_law_bag_here"]) fun _ _ _ _ _ _ us hl => match us, hl with | [_], _ => rfl
  have F_law_bag := fun_mk (st := s_law_bag) l_law_bag c_law_bag k_law_bag
  have b_law_bag := F_law_bag.binds (ps := ["_law_cells", "_law_k"]) fun _ _ _ _ _ _ us hl => match us, hl with | [_, _], _ => rfl
  have F_law := fun_mk (st := s_law) l_law c_law k_law
  have b_law := F_law.binds (ps := ["_law_cells"]) fun _ _ _ _ _ _ us hl => match us, hl with | [_], _ => rfl
  have cl_System : Cls K c_System := ⟨pg_System, hd_System, po_System, sa_System⟩
  have cl_Row : Cls K c_Row := ⟨pg_Row, hd_Row, po_Row, sa_Row⟩
  have om_System : OwnM K c_System [c_System] ["object"] := ⟨⟨_, ci_System, cm_System⟩, rfl, by decide, by decide, tp_System⟩
  have om_Row : OwnM K c_Row [c_Row] ["object"] := ⟨⟨_, ci_Row, cm_Row⟩, rfl, by decide, by decide, tp_Row⟩
  have ty : TyOk K (cdOf [(c_System, [c_System]), (c_Row, [c_Row])]) := tyOk_of fun p hp => by
    simp only [List.mem_cons, List.not_mem_nil, or_false] at hp
    rcases hp with rfl | rfl
    · exact ⟨⟨cl_System, ha_System, oc_hn, oc_tk, om_System.object⟩, _, om_System⟩
    · exact ⟨⟨cl_Row, ha_Row, oc_hn, oc_tk, om_Row.object⟩, _, om_Row⟩
  have T : Txt K mg ⟨0, 0, 0, 0, 0, 0, 0, 0, c_System, c_Row, hne⟩ ⟨f_System_eq, _, f_Row_eq, _, f_check_system, _, f_is_well_worded, _, f_are_small, _, f_is_pair, _, f_words_of, _, f_is_integer, _, f_is_number, _, f_are_moves, _, f_Row_init, _, f_row_by_rule, _, f_Row_by_rule, _, f_System_init, _, f_golden_row, _, f_silver_row, _, f_bronze_row, _, f_odd_row, _, f_units_up_to, _, f_digits_of, _, f_sign_at, _, f_Row_stretch, _, f_law_draw, _, f_law_units, _, f_law_great, _, f_law_root, _, f_Row_call, _, f_law_digits, _, f_law_right, _, f_law_bag, _, fa, _⟩ := {
    F_System_eq := F_System_eq,
    b_System_eq := b_System_eq,
    me_System_eq := ⟨a_System_eq, i_System_eq, k_System_eq⟩,
    F_Row_eq := F_Row_eq,
    b_Row_eq := b_Row_eq,
    me_Row_eq := ⟨a_Row_eq, i_Row_eq, k_Row_eq⟩,
    F_check_system := F_check_system,
    b_check_system := b_check_system,
    g_check_system := PySem.W.mg_of X G a_check_system,
    F_is_well_worded := F_is_well_worded,
    b_is_well_worded := b_is_well_worded,
    g_is_well_worded := PySem.W.mg_of X G a_is_well_worded,
    F_are_small := F_are_small,
    b_are_small := b_are_small,
    g_are_small := PySem.W.mg_of X G a_are_small,
    F_is_pair := F_is_pair,
    b_is_pair := b_is_pair,
    g_is_pair := PySem.W.mg_of X G a_is_pair,
    F_words_of := F_words_of,
    b_words_of := b_words_of,
    g_words_of := PySem.W.mg_of X G a_words_of,
    F_is_integer := F_is_integer,
    b_is_integer := b_is_integer,
    g_is_integer := PySem.W.mg_of X G a_is_integer,
    F_is_number := F_is_number,
    b_is_number := b_is_number,
    g_is_number := PySem.W.mg_of X G a_is_number,
    F_are_moves := F_are_moves,
    b_are_moves := b_are_moves,
    g_are_moves := PySem.W.mg_of X G a_are_moves,
    F_Row_init := F_Row_init,
    b_Row_init := b_Row_init,
    mk_Row := ⟨mk_Row, a_Row_init, i_Row_init, kc_Row⟩,
    F_row_by_rule := F_row_by_rule,
    b_row_by_rule := b_row_by_rule,
    g_row_by_rule := PySem.W.mg_of X G a_row_by_rule,
    F_Row_by_rule := F_Row_by_rule,
    b_Row_by_rule := b_Row_by_rule,
    bd1_Row_by_rule := bd1_Row_by_rule,
    sm_Row_by_rule := ⟨⟨_, _, sq_Row_by_rule, sf_Row_by_rule, _, sr_Row_by_rule⟩, sg_Row_by_rule, k_Row_by_rule⟩,
    F_System_init := F_System_init,
    b_System_init := b_System_init,
    mk_System := ⟨mk_System, a_System_init, i_System_init, kc_System⟩,
    F_golden_row := F_golden_row,
    b_golden_row := b_golden_row,
    g_golden_row := PySem.W.mg_of X G a_golden_row,
    F_silver_row := F_silver_row,
    b_silver_row := b_silver_row,
    g_silver_row := PySem.W.mg_of X G a_silver_row,
    F_bronze_row := F_bronze_row,
    b_bronze_row := b_bronze_row,
    g_bronze_row := PySem.W.mg_of X G a_bronze_row,
    F_odd_row := F_odd_row,
    b_odd_row := b_odd_row,
    g_odd_row := PySem.W.mg_of X G a_odd_row,
    F_units_up_to := F_units_up_to,
    b_units_up_to := b_units_up_to,
    g_units_up_to := PySem.W.mg_of X G a_units_up_to,
    F_digits_of := F_digits_of,
    b_digits_of := b_digits_of,
    g_digits_of := PySem.W.mg_of X G a_digits_of,
    F_sign_at := F_sign_at,
    b_sign_at := b_sign_at,
    g_sign_at := PySem.W.mg_of X G a_sign_at,
    F_Row_stretch := F_Row_stretch,
    b_Row_stretch := b_Row_stretch,
    me_Row_stretch := ⟨a_Row_stretch, i_Row_stretch, k_Row_stretch⟩,
    F_law_draw := F_law_draw,
    b_law_draw := b_law_draw,
    g_law_draw := PySem.W.mg_of X G a_law_draw,
    F_law_units := F_law_units,
    b_law_units := b_law_units,
    g_law_units := PySem.W.mg_of X G a_law_units,
    F_law_great := F_law_great,
    b_law_great := b_law_great,
    g_law_great := PySem.W.mg_of X G a_law_great,
    F_law_root := F_law_root,
    b_law_root := b_law_root,
    g_law_root := PySem.W.mg_of X G a_law_root,
    F_Row_call := F_Row_call,
    b_Row_call := b_Row_call,
    co_Row := ⟨a_Row_call, i_Row_call, fi_Row_call⟩,
    me_Row_call := ⟨a_Row_call, i_Row_call, k_Row_call⟩,
    F_law_digits := F_law_digits,
    b_law_digits := b_law_digits,
    g_law_digits := PySem.W.mg_of X G a_law_digits,
    F_law_right := F_law_right,
    b_law_right := b_law_right,
    g_law_right := PySem.W.mg_of X G a_law_right,
    F_law_bag := F_law_bag,
    b_law_bag := b_law_bag,
    g_law_bag := PySem.W.mg_of X G a_law_bag,
    F_law := F_law,
    b_law := b_law,
    g_law := PySem.W.mg_of X G a_law,
    cl_System := cl_System,
    m_System := PySem.W.mg_of X G g_System,
    cl_Row := cl_Row,
    m_Row := PySem.W.mg_of X G g_Row,
    na_Row_moves := na_Row_moves,
    na_Row_signs := na_Row_signs,
    na_Row_system := na_Row_system,
    na_System_step := na_System_step,
    z_abs := PySem.W.mg_none_of X G z_abs,
    z_all := PySem.W.mg_none_of X G z_all,
    z_bool := PySem.W.mg_none_of X G z_bool,
    z_enumerate := PySem.W.mg_none_of X G z_enumerate,
    z_int := PySem.W.mg_none_of X G z_int,
    z_isinstance := PySem.W.mg_none_of X G z_isinstance,
    z_len := PySem.W.mg_none_of X G z_len,
    z_max := PySem.W.mg_none_of X G z_max,
    z_min := PySem.W.mg_none_of X G z_min,
    z_range := PySem.W.mg_none_of X G z_range,
    z_str := PySem.W.mg_none_of X G z_str,
    z_tuple := PySem.W.mg_none_of X G z_tuple,
    v_MOST_LENGTH := ⟨_, PySem.W.mg_of X G v_MOST_LENGTH, ⟨_, rfl⟩⟩,
    v_MOST_NUMBER := ⟨_, PySem.W.mg_of X G v_MOST_NUMBER, ⟨_, rfl⟩⟩,
    v_MOST_STANDS := ⟨_, PySem.W.mg_of X G v_MOST_STANDS, ⟨_, rfl⟩⟩,
    v_MOST_STEP := ⟨_, PySem.W.mg_of X G v_MOST_STEP, ⟨_, rfl⟩⟩,
    ty := ty }
  exact ⟨_, fun s v => .of_eq rfl, fun base _ _ => ok_law T⟩
end Lw
open PySem PySem.W PyProof.Rows
set_option maxRecDepth 100000 in
set_option maxHeartbeats 0 in
theorem PySem.Challenge.cw_goldenrows_k11_whole_sample_rows_holds : PySem.Challenge.rw_goldenrows_k11_whole_sample_rows.Holds := by
  w_on; o_law; k_head; (case hw => w_witness2)
  k_fill
  refine DL.walkD (l := PySem.Challenge.rw_goldenrows_k11_whole_sample_rows) (k := 10) (x := "_law_cells") rfl rfl ⟨rfl, by decide, by decide⟩ (fun w h Y => PySem.W.kIn_of Y) ?F
  case F =>
    intro w mg fa h KX G hmg
    refine' Lw.all_mk KX G hmg ?g_System ?g_Row ?a_System_eq ?l_System_eq ?c_System_eq ?k_System_eq ?i_System_eq ?a_Row_eq ?l_Row_eq ?c_Row_eq ?k_Row_eq ?i_Row_eq ?a_check_system ?l_check_system ?c_check_system ?k_check_system ?a_is_well_worded ?l_is_well_worded ?c_is_well_worded ?k_is_well_worded ?a_are_small ?l_are_small ?c_are_small ?k_are_small ?a_is_pair ?l_is_pair ?c_is_pair ?k_is_pair ?a_words_of ?l_words_of ?c_words_of ?k_words_of ?a_is_integer ?l_is_integer ?c_is_integer ?k_is_integer ?a_is_number ?l_is_number ?d_is_number ?c_is_number ?k_is_number ?a_are_moves ?l_are_moves ?c_are_moves ?k_are_moves ?a_Row_init ?l_Row_init ?c_Row_init ?k_Row_init ?i_Row_init ?a_row_by_rule ?l_row_by_rule ?c_row_by_rule ?k_row_by_rule ?st_Row_by_rule ?sf_Row_by_rule ?sr_Row_by_rule ?sq_Row_by_rule ?sg_Row_by_rule ?l_Row_by_rule ?d_Row_by_rule ?c_Row_by_rule ?k_Row_by_rule ?a_System_init ?l_System_init ?c_System_init ?k_System_init ?i_System_init ?a_golden_row ?l_golden_row ?c_golden_row ?k_golden_row ?a_silver_row ?l_silver_row ?c_silver_row ?k_silver_row ?a_bronze_row ?l_bronze_row ?c_bronze_row ?k_bronze_row ?a_odd_row ?l_odd_row ?c_odd_row ?k_odd_row ?a_units_up_to ?l_units_up_to ?c_units_up_to ?k_units_up_to ?a_digits_of ?l_digits_of ?c_digits_of ?k_digits_of ?a_sign_at ?l_sign_at ?c_sign_at ?k_sign_at ?a_Row_stretch ?l_Row_stretch ?c_Row_stretch ?k_Row_stretch ?i_Row_stretch ?a_law_draw ?l_law_draw ?c_law_draw ?k_law_draw ?a_law_units ?l_law_units ?c_law_units ?k_law_units ?a_law_great ?l_law_great ?c_law_great ?k_law_great ?a_law_root ?l_law_root ?c_law_root ?k_law_root ?a_Row_call ?l_Row_call ?c_Row_call ?k_Row_call ?i_Row_call ?fi_Row_call ?a_law_digits ?l_law_digits ?c_law_digits ?k_law_digits ?a_law_right ?l_law_right ?c_law_right ?k_law_right ?a_law_bag ?l_law_bag ?c_law_bag ?k_law_bag ?a_law ?l_law ?c_law ?k_law ?pg_System ?hd_System ?po_System ?sa_System ?mk_System ?kc_System ?ha_System ?ci_System ?cm_System ?tp_System ?pg_Row ?hd_Row ?po_Row ?sa_Row ?mk_Row ?kc_Row ?ha_Row ?ci_Row ?cm_Row ?tp_Row ?dc_System_Row ?oc_hn ?oc_tk ?na_Row_moves ?na_Row_signs ?na_Row_system ?na_System_step ?z_abs ?z_all ?z_bool ?z_enumerate ?z_int ?z_isinstance ?z_len ?z_max ?z_min ?z_range ?z_str ?z_tuple ?v_MOST_LENGTH ?v_MOST_NUMBER ?v_MOST_STANDS ?v_MOST_STEP
    (case g_System => k_is)
    (case g_Row => k_is)
    (case a_System_eq => k_is)
    (case l_System_eq => k_is)
    (case c_System_eq => k_is)
    (case k_System_eq => k_is)
    (case i_System_eq => k_is)
    (case a_Row_eq => k_is)
    (case l_Row_eq => k_is)
    (case c_Row_eq => k_is)
    (case k_Row_eq => k_is)
    (case i_Row_eq => k_is)
    (case a_check_system => k_is)
    (case l_check_system => k_is)
    (case c_check_system => k_is)
    (case k_check_system => k_is)
    (case a_is_well_worded => k_is)
    (case l_is_well_worded => k_is)
    (case c_is_well_worded => k_is)
    (case k_is_well_worded => k_is)
    (case a_are_small => k_is)
    (case l_are_small => k_is)
    (case c_are_small => k_is)
    (case k_are_small => k_is)
    (case a_is_pair => k_is)
    (case l_is_pair => k_is)
    (case c_is_pair => k_is)
    (case k_is_pair => k_is)
    (case a_words_of => k_is)
    (case l_words_of => k_is)
    (case c_words_of => k_is)
    (case k_words_of => k_is)
    (case a_is_integer => k_is)
    (case l_is_integer => k_is)
    (case c_is_integer => k_is)
    (case k_is_integer => k_is)
    (case a_is_number => k_is)
    (case l_is_number => k_is)
    (case d_is_number => k_is)
    (case c_is_number => k_is)
    (case k_is_number => k_is)
    (case a_are_moves => k_is)
    (case l_are_moves => k_is)
    (case c_are_moves => k_is)
    (case k_are_moves => k_is)
    (case a_Row_init => k_is)
    (case l_Row_init => k_is)
    (case c_Row_init => k_is)
    (case k_Row_init => k_is)
    (case i_Row_init => k_is)
    (case a_row_by_rule => k_is)
    (case l_row_by_rule => k_is)
    (case c_row_by_rule => k_is)
    (case k_row_by_rule => k_is)
    (case st_Row_by_rule => k_is)
    (case sf_Row_by_rule => k_is)
    (case sr_Row_by_rule => k_is)
    (case sq_Row_by_rule => k_is)
    (case sg_Row_by_rule => k_is)
    (case l_Row_by_rule => k_is)
    (case d_Row_by_rule => k_is)
    (case c_Row_by_rule => k_is)
    (case k_Row_by_rule => k_is)
    (case a_System_init => k_is)
    (case l_System_init => k_is)
    (case c_System_init => k_is)
    (case k_System_init => k_is)
    (case i_System_init => k_is)
    (case a_golden_row => k_is)
    (case l_golden_row => k_is)
    (case c_golden_row => k_is)
    (case k_golden_row => k_is)
    (case a_silver_row => k_is)
    (case l_silver_row => k_is)
    (case c_silver_row => k_is)
    (case k_silver_row => k_is)
    (case a_bronze_row => k_is)
    (case l_bronze_row => k_is)
    (case c_bronze_row => k_is)
    (case k_bronze_row => k_is)
    (case a_odd_row => k_is)
    (case l_odd_row => k_is)
    (case c_odd_row => k_is)
    (case k_odd_row => k_is)
    (case a_units_up_to => k_is)
    (case l_units_up_to => k_is)
    (case c_units_up_to => k_is)
    (case k_units_up_to => k_is)
    (case a_digits_of => k_is)
    (case l_digits_of => k_is)
    (case c_digits_of => k_is)
    (case k_digits_of => k_is)
    (case a_sign_at => k_is)
    (case l_sign_at => k_is)
    (case c_sign_at => k_is)
    (case k_sign_at => k_is)
    (case a_Row_stretch => k_is)
    (case l_Row_stretch => k_is)
    (case c_Row_stretch => k_is)
    (case k_Row_stretch => k_is)
    (case i_Row_stretch => k_is)
    (case a_law_draw => k_is)
    (case l_law_draw => k_is)
    (case c_law_draw => k_is)
    (case k_law_draw => k_is)
    (case a_law_units => k_is)
    (case l_law_units => k_is)
    (case c_law_units => k_is)
    (case k_law_units => k_is)
    (case a_law_great => k_is)
    (case l_law_great => k_is)
    (case c_law_great => k_is)
    (case k_law_great => k_is)
    (case a_law_root => k_is)
    (case l_law_root => k_is)
    (case c_law_root => k_is)
    (case k_law_root => k_is)
    (case a_Row_call => k_is)
    (case l_Row_call => k_is)
    (case c_Row_call => k_is)
    (case k_Row_call => k_is)
    (case i_Row_call => k_is)
    (case fi_Row_call => k_is)
    (case a_law_digits => k_is)
    (case l_law_digits => k_is)
    (case c_law_digits => k_is)
    (case k_law_digits => k_is)
    (case a_law_right => k_is)
    (case l_law_right => k_is)
    (case c_law_right => k_is)
    (case k_law_right => k_is)
    (case a_law_bag => k_is)
    (case l_law_bag => k_is)
    (case c_law_bag => k_is)
    (case k_law_bag => k_is)
    (case a_law => k_is)
    (case l_law => k_is)
    (case c_law => k_is)
    (case k_law => k_is)
    (case pg_System => k_is)
    (case hd_System => k_is)
    (case po_System => k_is)
    (case sa_System => k_is)
    (case mk_System => k_is)
    (case kc_System => k_is)
    (case ha_System => k_is)
    (case ci_System => k_is)
    (case cm_System => rfl)
    (case tp_System => k_is)
    (case pg_Row => k_is)
    (case hd_Row => k_is)
    (case po_Row => k_is)
    (case sa_Row => k_is)
    (case mk_Row => k_is)
    (case kc_Row => k_is)
    (case ha_Row => k_is)
    (case ci_Row => k_is)
    (case cm_Row => rfl)
    (case tp_Row => k_is)
    (case dc_System_Row => decide)
    (case oc_hn => k_is)
    (case oc_tk => k_is)
    (case na_Row_moves => k_is)
    (case na_Row_signs => k_is)
    (case na_Row_system => k_is)
    (case na_System_step => k_is)
    (case z_abs => k_is)
    (case z_all => k_is)
    (case z_bool => k_is)
    (case z_enumerate => k_is)
    (case z_int => k_is)
    (case z_isinstance => k_is)
    (case z_len => k_is)
    (case z_max => k_is)
    (case z_min => k_is)
    (case z_range => k_is)
    (case z_str => k_is)
    (case z_tuple => k_is)
    (case v_MOST_LENGTH => k_is)
    (case v_MOST_NUMBER => k_is)
    (case v_MOST_STANDS => k_is)
    (case v_MOST_STEP => k_is)